import PyProof.Rows.All
import Wide.All
import OpenK.AllK
import Wide.FinOn
import HandS.ForMost
import HandS.Deep
import HandS.Zip
import KE.SortData
import HandS.More
import HandS.IsInst
import KE.DataEq
import HandS.Wide
import HandS.Strs
import HandS.SetKeys
import PyProof.TupleOfSeq
import HandS.TupAny
import PyProof.ReprRoads
import HandS.MakeKw
import HandS.Property
import HandS.OwnEq
import HandS.NamedTupSort
import PyProof.InstNe
import HandS.Star
import HandS.TryOnly
import PySem.Challenge.RW_amidupgrades_k01_editions_as_made
import PyProof.ReprLen
import HandS.Head0
import HandS.Head1
import HandS.Head2
import HandS.HeadHook1
import HandS.HeadHook2
set_option Elab.async false
set_option linter.all false
set_option maxRecDepth 100000
set_option maxHeartbeats 4000000
/-! EL: a logic over plain data (no addresses) above the hand layer. -/
namespace EL
open PySem L2

/-- plain data -/
inductive D where
  | non | bl (b : Bool) | int (i : Int) | str (x : Str)
  | lst (xs : List D) | tup (xs : List D)
  | dct (kvs : List (Key × D)) | dcT (kvs : List (List Key × D))
  | obj (C : Addr) (fs : List (Str × D))
  | raw (v : V)
def kD : Key → D
  | .inl i => .int i
  | .inr x => .str x

/-- what stands at an address, whether a walk has locked it or not -/
def core : HO → HO
  | .frz _ (.lst xs) => .lst xs
  | .frz _ (.dK kvs) => .dK kvs
  | .frz _ (.dT kvs) => .dT kvs
  | o => o
/-- all that stood stands, but for locks -/
def Sm (H H' : Hp) : Prop := ∀ a o, H a = some o → ∃ o', H' a = some o' ∧ core o' = core o
theorem Sm.refl (H : Hp) : Sm H H := fun _ o h => ⟨o, h, rfl⟩
theorem Sm.trans {H H1 H2 : Hp} (a : Sm H H1) (b : Sm H1 H2) : Sm H H2 := fun c o h => by
  obtain ⟨o1, h1, e1⟩ := a c o h
  obtain ⟨o2, h2, e2⟩ := b c o1 h1
  exact ⟨o2, h2, e2.trans e1⟩
theorem Same.sm {H H' : Hp} (e : Same H H') : Sm H H' := fun a o h => ⟨o, e a o h, rfl⟩
theorem core_lst {o : HO} {xs : List V} (h : core o = .lst xs) : o = .lst xs ∨ ∃ b, o = .frz b (.lst xs) := by
  unfold core at h
  split at h <;> first | (cases h; exact .inr ⟨_, rfl⟩) | (exact .inl h) | cases h
theorem core_dK {o : HO} {xs : List (Key × V)} (h : core o = .dK xs) : o = .dK xs ∨ ∃ b, o = .frz b (.dK xs) := by
  unfold core at h
  split at h <;> first | (cases h; exact .inr ⟨_, rfl⟩) | (exact .inl h) | cases h
theorem core_dT {o : HO} {xs : List (List Key × V)} (h : core o = .dT xs) : o = .dT xs ∨ ∃ b, o = .frz b (.dT xs) := by
  unfold core at h
  split at h <;> first | (cases h; exact .inr ⟨_, rfl⟩) | (exact .inl h) | cases h
theorem core_tup {o : HO} {xs : List V} (h : core o = .tup xs) : o = .tup xs := by
  unfold core at h
  split at h <;> first | exact h | cases h
theorem core_ins {o : HO} {C dx : Addr} {fs : List (Str × V)} (h : core o = .ins C dx fs) : o = .ins C dx fs := by
  unfold core at h
  split at h <;> first | exact h | cases h
theorem core_ftup {o : HO} {b : Obj} {xs : List V} (h : core o = .frz b (.tup xs)) : o = .frz b (.tup xs) := by
  unfold core at h
  split at h <;> first | exact h | cases h
theorem rd_lst {H : Hp} {a : Addr} {o : HO} {xs : List V} (h : H a = some o) (c : core o = .lst xs) : Rd H a (.lst xs) := by
  rcases core_lst c with rfl | ⟨b, rfl⟩
  · exact .inl h
  · exact .inr ⟨b, h⟩
theorem rd_dK {H : Hp} {a : Addr} {o : HO} {xs : List (Key × V)} (h : H a = some o) (c : core o = .dK xs) : Rd H a (.dK xs) := by
  rcases core_dK c with rfl | ⟨b, rfl⟩
  · exact .inl h
  · exact .inr ⟨b, h⟩
theorem rd_dT {H : Hp} {a : Addr} {o : HO} {xs : List (List Key × V)} (h : H a = some o) (c : core o = .dT xs) : Rd H a (.dT xs) := by
  rcases core_dT c with rfl | ⟨b, rfl⟩
  · exact .inl h
  · exact .inr ⟨b, h⟩
theorem ex_l {K : PySem.W.Frag} {H H' : Hp} {a : Addr} {xs : List V} (e : Sm H H') (h : SqL K H a xs) : SqL K H' a xs := by
  rcases h with (h | ⟨o, h⟩) | h
  · obtain ⟨o', h', c⟩ := e a _ h
    exact .inl (rd_lst h' c)
  · obtain ⟨o', h', c⟩ := e a _ h
    exact .inl (rd_lst h' c)
  · exact Or.inr h
theorem ex_t {K : PySem.W.Frag} {H H' : Hp} {a : Addr} {xs : List V} (e : Sm H H') (h : SqT K H a xs) : SqT K H' a xs := by
  rcases h with (h | ⟨o, h⟩) | h
  · obtain ⟨o', h', c⟩ := e a _ h
    rw [core_tup c] at h'
    exact .inl (.inl h')
  · obtain ⟨o', h', c⟩ := e a _ h
    rw [core_ftup c] at h'
    exact .inl (.inr ⟨o, h'⟩)
  · exact Or.inr h
theorem ex_rl {H H' : Hp} {a : Addr} {xs : List V} (e : Sm H H') (h : Rd H a (.lst xs)) : Rd H' a (.lst xs) := by
  rcases h with h | ⟨o, h⟩
  · obtain ⟨o', h', c⟩ := e a _ h
    exact rd_lst h' c
  · obtain ⟨o', h', c⟩ := e a _ h
    exact rd_lst h' c
theorem ex_dK {H H' : Hp} {a : Addr} {xs : List (Key × V)} (e : Sm H H') (h : Rd H a (.dK xs)) : Rd H' a (.dK xs) := by
  rcases h with h | ⟨o, h⟩
  · obtain ⟨o', h', c⟩ := e a _ h
    exact rd_dK h' c
  · obtain ⟨o', h', c⟩ := e a _ h
    exact rd_dK h' c
theorem ex_dT {H H' : Hp} {a : Addr} {xs : List (List Key × V)} (e : Sm H H') (h : Rd H a (.dT xs)) : Rd H' a (.dT xs) := by
  rcases h with h | ⟨o, h⟩
  · obtain ⟨o', h', c⟩ := e a _ h
    exact rd_dT h' c
  · obtain ⟨o', h', c⟩ := e a _ h
    exact rd_dT h' c
theorem ex_ins {H H' : Hp} {a C dx : Addr} {fs : List (Str × V)} (e : Sm H H') (h : H a = some (.ins C dx fs)) : H' a = some (.ins C dx fs) := by
  obtain ⟨o', h', c⟩ := e a _ h
  rw [core_ins c] at h'
  exact h'

mutual
/-- in the heap G the value v stands for the data d -/
inductive Rep (K : PySem.W.Frag) (G : Hp) : V → D → Prop
  | non : Rep K G .non .non
  | bl (b : Bool) : Rep K G (.bl b) (.bl b)
  | int (i : Int) : Rep K G (.int i) (.int i)
  | str (x : Str) : Rep K G (.str x) (.str x)
  | lst {a : Addr} {vs : List V} {ds : List D} : Rd G a (.lst vs) → Reps K G vs ds → Rep K G (.ref a) (.lst ds)
  | tup {a : Addr} {vs : List V} {ds : List D} : SqT K G a vs → Reps K G vs ds → Rep K G (.ref a) (.tup ds)
  | dK {a : Addr} {kvs : List (Key × V)} {ds : List (Key × D)} : Rd G a (.dK kvs) → ds.map (·.1) = kvs.map (·.1) → Reps K G (kvs.map (·.2)) (ds.map (·.2)) → Rep K G (.ref a) (.dct ds)
  | dT {a : Addr} {kvs : List (List Key × V)} {ds : List (List Key × D)} : Rd G a (.dT kvs) → ds.map (·.1) = kvs.map (·.1) → Reps K G (kvs.map (·.2)) (ds.map (·.2)) → Rep K G (.ref a) (.dcT ds)
  | obj {a C dx : Addr} {fs : List (Str × V)} {ds : List (Str × D)} : G a = some (.ins C dx fs) → ds.map (·.1) = fs.map (·.1) → Reps K G (fs.map (·.2)) (ds.map (·.2)) → Rep K G (.ref a) (.obj C ds)
  | raw (v : V) : Rep K G v (.raw v)
inductive Reps (K : PySem.W.Frag) (G : Hp) : List V → List D → Prop
  | nil : Reps K G [] []
  | cons {v : V} {d : D} {vs : List V} {ds : List D} : Rep K G v d → Reps K G vs ds → Reps K G (v :: vs) (d :: ds)
end
mutual
theorem Rep.mono {K : PySem.W.Frag} {G G' : Hp} (e : Sm G G') : ∀ {v : V} {d : D}, Rep K G v d → Rep K G' v d
  | _, _, .non => .non
  | _, _, .bl b => .bl b
  | _, _, .int i => .int i
  | _, _, .str x => .str x
  | _, _, .lst h r => .lst (ex_rl e h) (Reps.mono e r)
  | _, _, .tup h r => .tup (ex_t e h) (Reps.mono e r)
  | _, _, .dK h k r => .dK (ex_dK e h) k (Reps.mono e r)
  | _, _, .dT h k r => .dT (ex_dT e h) k (Reps.mono e r)
  | _, _, .obj h k r => .obj (ex_ins e h) k (Reps.mono e r)
  | _, _, .raw v => .raw v
theorem Reps.mono {K : PySem.W.Frag} {G G' : Hp} (e : Sm G G') : ∀ {vs : List V} {ds : List D}, Reps K G vs ds → Reps K G' vs ds
  | _, _, .nil => .nil
  | _, _, .cons h r => .cons (Rep.mono e h) (Reps.mono e r)
end
section
variable {K : PySem.W.Frag} {G : Hp}
theorem Reps.length : ∀ {vs : List V} {ds : List D}, Reps K G vs ds → vs.length = ds.length
  | _, _, .nil => rfl
  | _, _, .cons _ r => by simp [Reps.length r]
theorem Reps.get : ∀ {vs : List V} {ds : List D} {i : Nat} {d : D}, Reps K G vs ds → ds[i]? = some d → ∃ v, vs[i]? = some v ∧ Rep K G v d
  | _, _, _, _, .nil, e => by simp at e
  | _, _, 0, _, .cons r _, e => by simp at e; subst e; exact ⟨_, rfl, r⟩
  | _, _, i + 1, d, .cons _ t, e => by
    obtain ⟨u, h1, h2⟩ := Reps.get (i := i) (d := d) t (by simpa using e)
    exact ⟨u, by simpa using h1, h2⟩
theorem Reps.getV : ∀ {vs : List V} {ds : List D} {i : Nat} {v : V}, Reps K G vs ds → vs[i]? = some v → ∃ d, ds[i]? = some d ∧ Rep K G v d
  | _, _, _, _, .nil, e => by simp at e
  | _, _, 0, _, .cons r _, e => by simp at e; subst e; exact ⟨_, rfl, r⟩
  | _, _, i + 1, d, .cons _ t, e => by
    obtain ⟨u, h1, h2⟩ := Reps.getV (i := i) (v := d) t (by simpa using e)
    exact ⟨u, by simpa using h1, h2⟩
theorem Reps.append : ∀ {vs ws : List V} {ds es : List D}, Reps K G vs ds → Reps K G ws es → Reps K G (vs ++ ws) (ds ++ es)
  | _, _, _, _, .nil, s => s
  | _, _, _, _, .cons r t, s => .cons r (Reps.append t s)
theorem Reps.set {x : V} {u : D} (r : Rep K G x u) : ∀ {vs : List V} {ds : List D} (i : Nat), Reps K G vs ds → Reps K G (vs.set i x) (ds.set i u)
  | _, _, _, .nil => .nil
  | _, _, 0, .cons _ t => .cons r t
  | _, _, i + 1, .cons q t => .cons q (Reps.set r i t)
theorem Reps.eraseIdx : ∀ {vs : List V} {ds : List D} (i : Nat), Reps K G vs ds → Reps K G (vs.eraseIdx i) (ds.eraseIdx i)
  | _, _, _, .nil => .nil
  | _, _, 0, .cons _ t => t
  | _, _, i + 1, .cons q t => .cons q (Reps.eraseIdx i t)
theorem Reps.take : ∀ {xs : List V} {us : List D} (n : Nat), Reps K G xs us → Reps K G (xs.take n) (us.take n)
  | _, _, 0, _ => .nil
  | _, _, _ + 1, .nil => .nil
  | _, _, n + 1, .cons r t => .cons r (Reps.take n t)
theorem Reps.drop : ∀ {xs : List V} {us : List D} (n : Nat), Reps K G xs us → Reps K G (xs.drop n) (us.drop n)
  | _, _, 0, r => r
  | _, _, _ + 1, .nil => .nil
  | _, _, n + 1, .cons _ t => Reps.drop n t
theorem Reps.split : ∀ {ds es : List D} {us : List V}, Reps K G us (ds ++ es) → ∃ vs ws, us = vs ++ ws ∧ Reps K G vs ds ∧ Reps K G ws es
  | [], es, us, h => ⟨[], us, rfl, .nil, h⟩
  | d :: ds, es, _, .cons r t => by
    obtain ⟨vs, ws, rfl, h1, h2⟩ := Reps.split (ds := ds) (es := es) t
    exact ⟨_ :: vs, ws, rfl, .cons r h1, h2⟩
end

/-! ### worlds -/
/-- every object of G stands in H, but for locks -/
theorem same_new {H : Hp} {p : Addr} {o : HO} (h : H p = none) : Sm H (upd H p o) := fun a u e => by
  rw [upd_ne (ne_of_none e h)]
  exact ⟨u, e, rfl⟩
theorem sm_free {G H : Hp} {p : Addr} (e : Sm G H) (h : H p = none) : G p = none := by
  cases q : G p with
  | none => rfl
  | some o =>
    obtain ⟨o', h', _⟩ := e p o q
    rw [h] at h'; cases h'
/-- what may change: the addresses M; I: what is known of them, and of the still part G -/
structure Wd where
  M : List Addr
  I : Hp → Hp → Prop
  mok : ∀ G H a, I G H → a ∈ M → H a ≠ none
  mono : ∀ G G' H, I G H → Sm G G' → I G' H
  loc : ∀ G H H', I G H → (∀ a ∈ M, H' a = H a) → I G H'
abbrev Env := List (Option D)
structure Sl (K : PySem.W.Frag) (σ : L2.St) (G : Hp) (env : Env) : Prop where
  len : σ.length = env.length
  get : ∀ (i : Nat) (d : D), env[i]? = some (some d) → ∃ v, σ[i]? = some (some v) ∧ Rep K G v d
theorem Sl.mono {K : PySem.W.Frag} {σ : L2.St} {G G' : Hp} {env : Env} (e : Sm G G') (h : Sl K σ G env) : Sl K σ G' env :=
  ⟨h.len, fun i d q => let ⟨v, a, b⟩ := h.get i d q; ⟨v, a, b.mono e⟩⟩
theorem Sl.set {K : PySem.W.Frag} {σ : L2.St} {G : Hp} {env : Env} {v : V} {d : D} (h : Sl K σ G env) (r : Rep K G v d) (i : Nat) : Sl K (σ.set i (some v)) G (env.set i (some d)) := by
  refine ⟨by simp [h.len], fun j e q => ?_⟩
  rw [List.getElem?_set] at q ⊢
  by_cases c : i = j
  · rw [if_pos c] at q ⊢
    subst c
    by_cases hl : i < env.length
    · rw [if_pos hl] at q
      rw [if_pos (by rw [h.len]; exact hl)]
      cases q
      exact ⟨v, rfl, r⟩
    · rw [if_neg hl] at q; cases q
  · rw [if_neg c] at q ⊢
    exact h.get j e q
/-- forgetting slots -/
theorem Sl.weak {K : PySem.W.Frag} {σ : L2.St} {G : Hp} {env env' : Env} (h : Sl K σ G env) (hl : env'.length = env.length) (w : ∀ (i : Nat) (d : D), env'[i]? = some (some d) → env[i]? = some (some d)) : Sl K σ G env' :=
  ⟨h.len.trans hl.symm, fun i d q => h.get i d (w i d q)⟩
/-- a frame: what is known of the still part, and stays as it grows -/
def Stab (F : Hp → Prop) : Prop := ∀ G G', Sm G G' → F G → F G'
structure Ok (K : PySem.W.Frag) (w : Wd) (G : Hp) (σ : L2.St) (H : Hp) (env : Env) (F : Hp → Prop) : Prop where
  sl : Sl K σ G env
  nm : ∀ a, G a ≠ none → a ∉ w.M
  sub : Sm G H
  i : w.I G H
  st : Stab F
  f : F G
section
variable {K : PySem.W.Frag} {w : Wd} {G : Hp} {σ : L2.St} {H : Hp} {env : Env} {F : Hp → Prop}
theorem Ok.free (k : Ok K w G σ H env F) {p : Addr} (h : H p = none) : p ∉ w.M := fun z => w.mok G H p k.i z h
/-- a new object, still from now on -/
theorem Ok.new {p : Addr} {o : HO} (k : Ok K w G σ H env F) (h : H p = none) : Ok K w (upd G p o) σ (upd H p o) env F := by
  have hp := k.free h
  have e : Sm G (upd G p o) := same_new (sm_free k.sub h)
  refine ⟨k.sl.mono e, fun a ha => ?_, fun a u q => ?_, w.loc _ _ _ (w.mono _ _ _ k.i e) (fun a ha => upd_ne (fun z => hp (z ▸ ha))), k.st, k.st _ _ e k.f⟩
  · by_cases c : a = p
    · rw [c]; exact hp
    · rw [upd_ne c] at ha; exact k.nm a ha
  · by_cases c : a = p
    · subst c
      rw [upd_same] at q ⊢
      exact ⟨u, q, rfl⟩
    · rw [upd_ne c] at q ⊢
      exact k.sub a u q
/-- a new object that is not looked at -/
theorem Ok.junk {p : Addr} {o : HO} (k : Ok K w G σ H env F) (h : H p = none) : Ok K w G σ (upd H p o) env F :=
  ⟨k.sl, k.nm, k.sub.trans (same_new h), w.loc _ _ _ k.i (fun a ha => upd_ne (fun z => k.free h (z ▸ ha))), k.st, k.f⟩
theorem Ok.push {P : Hp → Prop} (k : Ok K w G σ H env F) (s : Stab P) (h : P G) : Ok K w G σ H env (fun G => F G ∧ P G) :=
  ⟨k.sl, k.nm, k.sub, k.i, fun G G' e q => ⟨k.st _ _ e q.1, s _ _ e q.2⟩, ⟨k.f, h⟩⟩
theorem Ok.as {F' : Hp → Prop} (k : Ok K w G σ H env F) (s : Stab F') (h : F' G) : Ok K w G σ H env F' := ⟨k.sl, k.nm, k.sub, k.i, s, h⟩
theorem Ok.se {σ' : L2.St} {env' : Env} (k : Ok K w G σ H env F) (s : Sl K σ' G env') : Ok K w G σ' H env' F := ⟨s, k.nm, k.sub, k.i, k.st, k.f⟩
theorem stab_rep (v : V) (d : D) : Stab (fun G => Rep K G v d) := fun _ _ e h => h.mono e
theorem stab_reps (v : List V) (d : List D) : Stab (fun G => Reps K G v d) := fun _ _ e h => h.mono e
theorem stab_and {F P : Hp → Prop} (a : Stab F) (b : Stab P) : Stab (fun G => F G ∧ P G) := fun G G' e q => ⟨a _ _ e q.1, b _ _ e q.2⟩
theorem stab_true : Stab (fun _ => True) := fun _ _ _ _ => trivial
theorem ok_drop {P : Hp → Prop} (o : Ok K w G σ H env (fun G => F G ∧ P G)) (s : Stab F) : Ok K w G σ H env F := o.as s o.f.1
end
/-! ### what expressions, tests, arguments come to -/
def Wp (K : PySem.W.Frag) (te : TE) (w : Wd) (env : Env) (Q : Wd → D → Prop) : Prop :=
  ∀ G σ H (R : VK) (F : Hp → Prop), Ok K w G σ H env F → (∀ w' v G' H' d, Q w' d → Ok K w' G' σ H' env (fun G => F G ∧ Rep K G v d) → R v H') → te σ H R
def Wt (K : PySem.W.Frag) (tt : TT) (w : Wd) (env : Env) (Q : Wd → Bool → Prop) : Prop :=
  ∀ G σ H (R : Bool → Hp → Prop) (F : Hp → Prop), Ok K w G σ H env F → (∀ w' b G' H', Q w' b → Ok K w' G' σ H' env F → R b H') → tt σ H R
def Wa (K : PySem.W.Frag) (ta : TA) (w : Wd) (env : Env) (Q : Wd → List D → Prop) : Prop :=
  ∀ G σ H (R : List V → Hp → Prop) (F : Hp → Prop), Ok K w G σ H env F → (∀ w' vs G' H' ds, Q w' ds → Ok K w' G' σ H' env (fun G => F G ∧ Reps K G vs ds) → R vs H') → ta σ H R
/-- an operation on two values, on one; a built-in's call; a built-in's method -/
def W2 (K : PySem.W.Frag) (r : R2) (w : Wd) (a b : D) (Q : Wd → D → Prop) : Prop :=
  ∀ G σ H env (R : VK) (F : Hp → Prop) x y, Ok K w G σ H env F → Rep K G x a → Rep K G y b → (∀ w' v G' H' d, Q w' d → Ok K w' G' σ H' env (fun G => F G ∧ Rep K G v d) → R v H') → r x y H R
def W1 (K : PySem.W.Frag) (r : V → Hp → VK → Prop) (w : Wd) (a : D) (Q : Wd → D → Prop) : Prop :=
  ∀ G σ H env (R : VK) (F : Hp → Prop) x, Ok K w G σ H env F → Rep K G x a → (∀ w' v G' H' d, Q w' d → Ok K w' G' σ H' env (fun G => F G ∧ Rep K G v d) → R v H') → r x H R
def Wb (K : PySem.W.Frag) (r : List V → Hp → VK → Prop) (w : Wd) (ds : List D) (Q : Wd → D → Prop) : Prop :=
  ∀ G σ H env (R : VK) (F : Hp → Prop) xs, Ok K w G σ H env F → Reps K G xs ds → (∀ w' v G' H' d, Q w' d → Ok K w' G' σ H' env (fun G => F G ∧ Rep K G v d) → R v H') → r xs H R
def Wm (K : PySem.W.Frag) (r : V → List V → Hp → VK → Prop) (w : Wd) (a : D) (ds : List D) (Q : Wd → D → Prop) : Prop :=
  ∀ G σ H env (R : VK) (F : Hp → Prop) x xs, Ok K w G σ H env F → Rep K G x a → Reps K G xs ds → (∀ w' v G' H' d, Q w' d → Ok K w' G' σ H' env (fun G => F G ∧ Rep K G v d) → R v H') → r x xs H R
structure DEnds where
  nx : Wd → Env → Prop
  rt : Wd → D → Prop
  bk : Wd → Env → Prop := fun _ _ => False
  ct : Wd → Env → Prop := fun _ _ => False
def Es (K : PySem.W.Frag) (ts : TS) (w : Wd) (env : Env) (Z : DEnds) : Prop :=
  ∀ G σ H (De : Ends) (F : Hp → Prop), Ok K w G σ H env F → (∀ w' G' σ' H' env', Z.nx w' env' → Ok K w' G' σ' H' env' F → De.nx σ' H') →
    (∀ w' v G' σ' H' env' d, Z.rt w' d → Ok K w' G' σ' H' env' (fun G => F G ∧ Rep K G v d) → De.rt v H') →
    (∀ w' G' σ' H' env', Z.bk w' env' → Ok K w' G' σ' H' env' F → De.bk σ' H') → (∀ w' G' σ' H' env', Z.ct w' env' → Ok K w' G' σ' H' env' F → De.ct σ' H') → ts De σ H
section
variable {K : PySem.W.Frag} {w : Wd} {env : Env} {Q Q' : Wd → D → Prop} {ta tb te : TE} {tt t u : TT} {as : TA} {T : Wd → Bool → Prop}
theorem Wp.imp (h : Wp K te w env Q) (k : ∀ w' d, Q w' d → Q' w' d) : Wp K te w env Q' := fun G σ H R F o c => h G σ H R F o fun w' v G' H' d q => c w' v G' H' d (k _ _ q)
theorem wp_var {i : Nat} {d : D} (h : env[i]? = some (some d)) (q : Q w d) : Wp K (tVar i) w env Q := fun G σ H R F o c => by
  obtain ⟨v, e, r⟩ := o.sl.get i d h
  exact ⟨v, e, c w v G H d q (o.push (stab_rep v d) r)⟩
/-- a constant, also of the written part -/
theorem wp_cst {v : V} {d : D} (hr : ∀ G, Rep K G v d) (q : Q w d) : Wp K (tC v) w env Q := fun G σ H R F o c => c w _ G H _ q (o.push (stab_rep _ _) (hr _))
theorem wp_int {i : Int} (q : Q w (.int i)) : Wp K (tC (.int i)) w env Q := wp_cst (fun _ => .int i) q
theorem wp_bl {b : Bool} (q : Q w (.bl b)) : Wp K (tC (.bl b)) w env Q := wp_cst (fun _ => .bl b) q
theorem wp_str {x : Str} (q : Q w (.str x)) : Wp K (tC (.str x)) w env Q := wp_cst (fun _ => .str x) q
theorem wp_non (q : Q w .non) : Wp K (tC .non) w env Q := wp_cst (fun _ => .non) q
theorem wp_op {r : R2} (h : Wp K ta w env fun w1 a => Wp K tb w1 env fun w2 b => W2 K r w2 a b Q) : Wp K (tOp r ta tb) w env Q := fun G σ H R F o c =>
  h G σ H _ F o fun w1 x G1 H1 a q1 o1 => q1 G1 σ H1 _ _ o1 fun w2 y G2 H2 b q2 o2 =>
    q2 G2 σ H2 env R F x y (o2.as o.st o2.f.1.1) o2.f.1.2 o2.f.2 c
theorem wp_un {r : V → Hp → VK → Prop} (h : Wp K ta w env fun w1 a => W1 K r w1 a Q) : Wp K (tUn r ta) w env Q := fun G σ H R F o c =>
  h G σ H _ F o fun w1 x G1 H1 a q1 o1 => q1 G1 σ H1 env R F x (ok_drop o1 o.st) o1.f.2 c
theorem wa_nil {P : Wd → List D → Prop} (q : P w []) : Wa K tNil w env P := fun G σ H R F o c => c w [] G H [] q (o.push (stab_reps _ _) .nil)
theorem wa_cons {P : Wd → List D → Prop} (h : Wp K ta w env fun w1 a => Wa K as w1 env fun w2 ds => P w2 (a :: ds)) : Wa K (tCons ta as) w env P := fun G σ H R F o c =>
  h G σ H _ F o fun w1 x G1 H1 a q1 o1 => q1 G1 σ H1 _ _ o1 fun w2 xs G2 H2 ds q2 o2 =>
    c w2 (x :: xs) G2 H2 (a :: ds) q2 (o2.as (stab_and o.st (stab_reps _ _)) ⟨o2.f.1.1, .cons o2.f.1.2 o2.f.2⟩)
theorem Ok.newTup {G : Hp} {σ : L2.St} {H : Hp} {F : Hp → Prop} {p : Addr} {xs : List V} {ds : List D} (k : Ok K w G σ H env F) (h : H p = none) (r : Reps K G xs ds) : Ok K w (upd G p (.tup xs)) σ (upd H p (.tup xs)) env (fun G => F G ∧ Rep K G (.ref p) (.tup ds)) :=
  (k.new h).push (stab_rep _ _) (.tup (SqT.of upd_same) (r.mono (same_new (sm_free k.sub h))))
theorem Ok.newLst {G : Hp} {σ : L2.St} {H : Hp} {F : Hp → Prop} {p : Addr} {xs : List V} {ds : List D} (k : Ok K w G σ H env F) (h : H p = none) (r : Reps K G xs ds) : Ok K w (upd G p (.lst xs)) σ (upd H p (.lst xs)) env (fun G => F G ∧ Rep K G (.ref p) (.lst ds)) :=
  (k.new h).push (stab_rep _ _) (.lst (.inl upd_same) (r.mono (same_new (sm_free k.sub h))))
theorem wp_tup (h : Wa K as w env fun w1 ds => ds.length ≤ 100000 ∧ Q w1 (.tup ds)) : Wp K (tTup as) w env Q := fun G σ H R F o c =>
  h G σ H _ F o fun w1 xs G1 H1 ds q1 o1 => ⟨by rw [o1.f.2.length]; exact Nat.le_trans q1.1 (by decide), fun p hp => c w1 (.ref p) _ _ (.tup ds) q1.2 ((ok_drop o1 o.st).newTup hp o1.f.2)⟩
theorem wp_lst (h : Wa K as w env fun w1 ds => ds.length ≤ 100000 ∧ Q w1 (.lst ds)) : Wp K (tLst as) w env Q := fun G σ H R F o c =>
  h G σ H _ F o fun w1 xs G1 H1 ds q1 o1 => ⟨by rw [o1.f.2.length]; exact Nat.le_trans q1.1 (by decide), fun p hp => c w1 (.ref p) _ _ (.lst ds) q1.2 ((ok_drop o1 o.st).newLst hp o1.f.2)⟩
theorem wp_cb {r : List V → Hp → VK → Prop} (h : Wa K as w env fun w1 ds => Wb K r w1 ds Q) : Wp K (tCB r as) w env Q := fun G σ H R F o c =>
  h G σ H _ F o fun w1 xs G1 H1 ds q1 o1 => q1 G1 σ H1 env R F xs (ok_drop o1 o.st) o1.f.2 c
theorem wt_test (h : Wp K te w env fun w1 d => ∃ b, d = .bl b ∧ T w1 b) : Wt K (tTest te) w env T := fun G σ H R F o c =>
  h G σ H _ F o fun w1 v G1 H1 d q1 o1 => by
    obtain ⟨b, rfl, q⟩ := q1
    have r := o1.f.2
    cases r
    exact ⟨b, rfl, c w1 b G1 H1 q (ok_drop o1 o.st)⟩
end
end EL

set_option Elab.async false
set_option linter.all false
set_option maxRecDepth 100000
set_option maxHeartbeats 4000000
namespace EL
open PySem L2
section
variable {K : PySem.W.Frag} {w : Wd} {env : Env} {Q Q' : Wd → D → Prop} {ta tb te : TE} {tt t u : TT} {as : TA} {T : Wd → Bool → Prop}
theorem wt_B (h : Wp K te w env fun w1 d => ∃ b, d = .bl b ∧ T w1 b) : Wt K (tB te) w env T := wt_test h
theorem wt_and (h : Wt K t w env fun w1 b => if b = true then Wt K u w1 env T else T w1 false) : Wt K (tAnd t u) w env T := fun G σ H R F o c =>
  h G σ H _ F o fun w1 b G1 H1 q o1 => by
    cases b with
    | true => exact q G1 σ H1 R F o1 c
    | false => exact c w1 false G1 H1 q o1
theorem wt_or (h : Wt K t w env fun w1 b => if b = true then T w1 true else Wt K u w1 env T) : Wt K (tOr t u) w env T := fun G σ H R F o c =>
  h G σ H _ F o fun w1 b G1 H1 q o1 => by
    cases b with
    | true => exact c w1 true G1 H1 q o1
    | false => exact q G1 σ H1 R F o1 c
theorem wt_not (h : Wt K t w env fun w1 b => T w1 (!b)) : Wt K (tNot t) w env T := fun G σ H R F o c =>
  h G σ H _ F o fun w1 b G1 H1 q o1 => c w1 (!b) G1 H1 q o1
theorem wp_andV (h : Wp K ta w env fun w1 d => ∃ b, d = .bl b ∧ if b = true then Wp K tb w1 env Q else Q w1 (.bl false)) : Wp K (tAndV ta tb) w env Q := fun G σ H R F o c =>
  h G σ H _ F o fun w1 v G1 H1 d q o1 => by
    obtain ⟨b, rfl, q⟩ := q
    have r := o1.f.2
    cases r
    refine ⟨b, rfl, ?_⟩
    cases b with
    | true => exact q G1 σ H1 R F (ok_drop o1 o.st) c
    | false => exact c w1 _ G1 H1 _ q o1
theorem wp_orV (h : Wp K ta w env fun w1 d => ∃ b, d = .bl b ∧ if b = true then Q w1 (.bl true) else Wp K tb w1 env Q) : Wp K (tOrV ta tb) w env Q := fun G σ H R F o c =>
  h G σ H _ F o fun w1 v G1 H1 d q o1 => by
    obtain ⟨b, rfl, q⟩ := q
    have r := o1.f.2
    cases r
    refine ⟨b, rfl, ?_⟩
    cases b with
    | true => exact c w1 _ G1 H1 _ q o1
    | false => exact q G1 σ H1 R F (ok_drop o1 o.st) c
theorem wp_notV (h : Wp K ta w env fun w1 d => ∃ b, d = .bl b ∧ Q w1 (.bl (!b))) : Wp K (tNotV ta) w env Q := fun G σ H R F o c =>
  h G σ H _ F o fun w1 v G1 H1 d q o1 => by
    obtain ⟨b, rfl, q⟩ := q
    have r := o1.f.2
    cases r
    exact ⟨b, rfl, c w1 _ G1 H1 _ q ((ok_drop o1 o.st).push (stab_rep _ _) (.bl _))⟩
theorem wp_if (h : Wt K t w env fun w1 b => if b = true then Wp K ta w1 env Q else Wp K tb w1 env Q) : Wp K (tIf t ta tb) w env Q := fun G σ H R F o c =>
  h G σ H _ F o fun w1 b G1 H1 q o1 => by
    cases b with
    | true => exact q G1 σ H1 R F o1 c
    | false => exact q G1 σ H1 R F o1 c
/-- None is told from all else -/
def isNon : D → Bool
  | .non => true
  | .raw .non => true
  | _ => false
theorem rep_non {G : Hp} {v : V} {d : D} (r : Rep K G v d) : decide (v = .non) = isNon d := by
  cases r <;> first | rfl | skip
  all_goals first | (exact decide_eq_false (by intro z; cases z)) | skip
  cases v <;> first | rfl | (exact decide_eq_false (by intro z; cases z))
theorem wp_isN (h : Wp K ta w env fun w1 d => Q w1 (.bl (isNon d))) : Wp K (tIsN ta) w env Q := fun G σ H R F o c =>
  h G σ H _ F o fun w1 v G1 H1 d q o1 => c w1 _ G1 H1 _ (by have e := rep_non o1.f.2; show Q w1 (.bl (decide (v = V.non))); rw [e]; exact q) ((ok_drop o1 o.st).push (stab_rep _ _) (.bl _))
theorem wp_notN (h : Wp K ta w env fun w1 d => Q w1 (.bl (!isNon d))) : Wp K (tNotN ta) w env Q := fun G σ H R F o c =>
  h G σ H _ F o fun w1 v G1 H1 d q o1 => c w1 _ G1 H1 _ (by have e := rep_non o1.f.2; show Q w1 (.bl (!decide (v = V.non))); rw [e]; exact q) ((ok_drop o1 o.st).push (stab_rep _ _) (.bl _))

/-! ### operations on values -/
theorem w2_I0 {g : Int → Int → V} {i j : Int} {d : D} (hg : ∀ G, Rep K G (g i j) d) (q : Q w d) : W2 K (rI0 g) w (.int i) (.int j) Q := fun G σ H env R F x y o rx ry c => by
  cases rx; cases ry
  exact ⟨i, j, rfl, rfl, c w _ G H d q (o.push (stab_rep _ _) (hg _))⟩
theorem w2_I {C : Int → Int → Prop} {g : Int → Int → V} {i j : Int} {d : D} (hg : ∀ G, Rep K G (g i j) d) (hc : C i j) (q : Q w d) : W2 K (rI C g) w (.int i) (.int j) Q := fun G σ H env R F x y o rx ry c => by
  cases rx; cases ry
  exact ⟨i, j, rfl, rfl, hc, c w _ G H d q (o.push (stab_rep _ _) (hg _))⟩
theorem w2_eqI {i j : Int} (q : Q w (.bl (decide (i = j)))) : W2 K rEq w (.int i) (.int j) Q := fun G σ H env R F x y o rx ry c => by
  cases rx; cases ry
  refine ⟨rfl, c w _ G H (.bl (decide (i = j))) q (o.push (stab_rep _ _) ?_)⟩
  have e : decide (V.int i = V.int j) = decide (i = j) := by simp
  rw [e]; exact .bl _
theorem w2_neI {i j : Int} (q : Q w (.bl (!decide (i = j)))) : W2 K rNe w (.int i) (.int j) Q := fun G σ H env R F x y o rx ry c => by
  cases rx; cases ry
  refine ⟨rfl, c w _ G H (.bl (!decide (i = j))) q (o.push (stab_rep _ _) ?_)⟩
  have e : decide (V.int i = V.int j) = decide (i = j) := by simp
  rw [e]; exact .bl _
theorem w2_eqS {i j : Str} (q : Q w (.bl (decide (i = j)))) : W2 K rEq w (.str i) (.str j) Q := fun G σ H env R F x y o rx ry c => by
  cases rx; cases ry
  refine ⟨rfl, c w _ G H (.bl (decide (i = j))) q (o.push (stab_rep _ _) ?_)⟩
  have e : decide (V.str i = V.str j) = decide (i = j) := by simp
  rw [e]; exact .bl _
theorem w2_neS {i j : Str} (q : Q w (.bl (!decide (i = j)))) : W2 K rNe w (.str i) (.str j) Q := fun G σ H env R F x y o rx ry c => by
  cases rx; cases ry
  refine ⟨rfl, c w _ G H (.bl (!decide (i = j))) q (o.push (stab_rep _ _) ?_)⟩
  have e : decide (V.str i = V.str j) = decide (i = j) := by simp
  rw [e]; exact .bl _
theorem rep_lst {G : Hp} {v : V} {ds : List D} (r : Rep K G v (.lst ds)) : ∃ a vs, v = .ref a ∧ SqL K G a vs ∧ Reps K G vs ds := by
  cases r with
  | lst h r => exact ⟨_, _, rfl, .inl h, r⟩
theorem rep_lstR {G : Hp} {v : V} {ds : List D} (r : Rep K G v (.lst ds)) : ∃ a vs, v = .ref a ∧ Rd G a (.lst vs) ∧ Reps K G vs ds := by
  cases r with
  | lst h r => exact ⟨_, _, rfl, h, r⟩
theorem rep_tup {G : Hp} {v : V} {ds : List D} (r : Rep K G v (.tup ds)) : ∃ a vs, v = .ref a ∧ SqT K G a vs ∧ Reps K G vs ds := by
  cases r with
  | tup h r => exact ⟨_, _, rfl, h, r⟩
theorem atI_reps {G : Hp} {vs : List V} {ds : List D} {i : Int} {d : D} (r : Reps K G vs ds) (h : atI ds i = some d) : ∃ v, atI vs i = some v ∧ Rep K G v d := by
  unfold atI at h ⊢
  rw [r.length]
  cases e : ixN ds.length i with
  | none => rw [e] at h; cases h
  | some j => rw [e] at h; exact r.get h
theorem w2_ixL {ds : List D} {i : Int} {d : D} (h : atI ds i = some d) (q : Q w d) : W2 K (rIxL K) w (.lst ds) (.int i) Q := fun G σ H env R F x y o rx ry c => by
  cases ry
  obtain ⟨a, vs, rfl, hs, hr⟩ := rep_lst rx
  obtain ⟨v, e, r⟩ := atI_reps hr h
  exact ⟨a, vs, i, v, rfl, rfl, ex_l o.sub hs, e, c w v G H d q (o.push (stab_rep _ _) r)⟩
theorem w2_ixT {ds : List D} {i : Int} {d : D} (h : atI ds i = some d) (q : Q w d) : W2 K (rIxT K) w (.tup ds) (.int i) Q := fun G σ H env R F x y o rx ry c => by
  cases ry
  obtain ⟨a, vs, rfl, hs, hr⟩ := rep_tup rx
  obtain ⟨v, e, r⟩ := atI_reps hr h
  exact ⟨a, vs, i, v, rfl, rfl, ex_t o.sub hs, e, c w v G H d q (o.push (stab_rep _ _) r)⟩
/-! ### flat data -/
def flatD : D → Bool
  | .non => true
  | .bl _ => true
  | .int _ => true
  | .str _ => true
  | _ => false
def toV : D → V
  | .bl b => .bl b
  | .int i => .int i
  | .str x => .str x
  | .raw v => v
  | _ => .non
theorem rep_flat {G : Hp} {v : V} {d : D} (r : Rep K G v d) (h : flatD d = true) : v = toV d ∧ flatV v = true := by
  cases r <;> first | exact ⟨rfl, rfl⟩ | (cases h)
theorem reps_flat {G : Hp} : ∀ {vs : List V} {ds : List D}, Reps K G vs ds → ds.all flatD = true → vs = ds.map toV ∧ vs.all flatV = true
  | _, _, .nil, _ => ⟨rfl, rfl⟩
  | _, _, .cons r t, h => by
    rw [List.all_cons, Bool.and_eq_true] at h
    obtain ⟨e, f⟩ := rep_flat r h.1
    obtain ⟨e', f'⟩ := reps_flat t h.2
    exact ⟨by rw [List.map_cons, ← e, ← e'], by rw [List.all_cons, f, f']; rfl⟩
def inD (x : D) (xs : List D) : Bool := inV (toV x) (xs.map toV)
theorem w2_inT {a : D} {ds : List D} (ha : flatD a = true) (hs : ds.all flatD = true) (q : Q w (.bl (inD a ds))) : W2 K (rIn K false) w a (.tup ds) Q := fun G σ H env R F x y o rx ry c => by
  obtain ⟨p, vs, rfl, h1, h2⟩ := rep_tup ry
  obtain ⟨rfl, f⟩ := rep_flat rx ha
  obtain ⟨rfl, f'⟩ := reps_flat h2 hs
  exact ⟨p, _, rfl, .inr (ex_t o.sub h1), f, f', c w _ G H _ q (o.push (stab_rep _ _) (.bl _))⟩
theorem w2_inL {a : D} {ds : List D} (ha : flatD a = true) (hs : ds.all flatD = true) (q : Q w (.bl (inD a ds))) : W2 K (rIn K false) w a (.lst ds) Q := fun G σ H env R F x y o rx ry c => by
  obtain ⟨p, vs, rfl, h1, h2⟩ := rep_lst ry
  obtain ⟨rfl, f⟩ := rep_flat rx ha
  obtain ⟨rfl, f'⟩ := reps_flat h2 hs
  exact ⟨p, _, rfl, .inl (ex_l o.sub h1), f, f', c w _ G H _ q (o.push (stab_rep _ _) (.bl _))⟩
theorem w2_niT {a : D} {ds : List D} (ha : flatD a = true) (hs : ds.all flatD = true) (q : Q w (.bl (!inD a ds))) : W2 K (rIn K true) w a (.tup ds) Q := fun G σ H env R F x y o rx ry c => by
  obtain ⟨p, vs, rfl, h1, h2⟩ := rep_tup ry
  obtain ⟨rfl, f⟩ := rep_flat rx ha
  obtain ⟨rfl, f'⟩ := reps_flat h2 hs
  exact ⟨p, _, rfl, .inr (ex_t o.sub h1), f, f', c w _ G H _ q (o.push (stab_rep _ _) (.bl _))⟩
theorem w2_niL {a : D} {ds : List D} (ha : flatD a = true) (hs : ds.all flatD = true) (q : Q w (.bl (!inD a ds))) : W2 K (rIn K true) w a (.lst ds) Q := fun G σ H env R F x y o rx ry c => by
  obtain ⟨p, vs, rfl, h1, h2⟩ := rep_lst ry
  obtain ⟨rfl, f⟩ := rep_flat rx ha
  obtain ⟨rfl, f'⟩ := reps_flat h2 hs
  exact ⟨p, _, rfl, .inl (ex_l o.sub h1), f, f', c w _ G H _ q (o.push (stab_rep _ _) (.bl _))⟩
/-! ### fields of objects -/
theorem lookup_rep {G : Hp} {f : Str} {d : D} : ∀ {fs : List (Str × V)} {ds : List (Str × D)}, ds.map (·.1) = fs.map (·.1) → Reps K G (fs.map (·.2)) (ds.map (·.2)) → ds.lookup f = some d → ∃ v, fs.lookup f = some v ∧ Rep K G v d
  | [], [], _, _, h => by cases h
  | [], _ :: _, e, _, _ => by cases e
  | _ :: _, [], e, _, _ => by cases e
  | (a, v) :: fs, (b, x) :: ds, e, r, h => by
    simp only [List.map_cons, List.cons.injEq] at e
    obtain ⟨e1, e2⟩ := e
    simp only [List.map_cons] at r
    cases r with
    | cons r1 r2 =>
      subst e1
      simp only [List.lookup] at h ⊢
      by_cases c : f == b
      · rw [c] at h ⊢
        cases h
        exact ⟨v, rfl, r1⟩
      · have c' : (f == b) = false := by simpa using c
        rw [c'] at h ⊢
        exact lookup_rep e2 r2 h
theorem lookup_none {f : Str} : ∀ {fs : List (Str × V)} {ds : List (Str × D)}, ds.map (·.1) = fs.map (·.1) → ds.lookup f = none → fs.lookup f = none
  | [], [], _, _ => rfl
  | [], _ :: _, e, _ => by cases e
  | _ :: _, [], e, _ => by cases e
  | (a, v) :: fs, (b, x) :: ds, e, h => by
    simp only [List.map_cons, List.cons.injEq] at e
    obtain ⟨e1, e2⟩ := e
    subst e1
    simp only [List.lookup] at h ⊢
    by_cases c : f == b
    · rw [c] at h; cases h
    · have c' : (f == b) = false := by simpa using c
      rw [c'] at h ⊢
      exact lookup_none e2 h
theorem wp_fld {f : Str} (h : Wp K ta w env fun w1 d => ∃ C fs v, d = .obj C fs ∧ Cls K C ∧ NoAttr K C f ∧ fs.lookup f = some v ∧ Q w1 v) : Wp K (tFld K ta f) w env Q := fun G σ H R F o c =>
  h G σ H _ F o fun w1 x G1 H1 d q o1 => by
    obtain ⟨C, fs, v, rfl, hc, hn, hl, q⟩ := q
    have r := o1.f.2
    cases r with
    | obj g k r =>
      obtain ⟨u, e, r'⟩ := lookup_rep k r hl
      exact ⟨_, C, _, _, u, rfl, ex_ins o1.sub g, hc, hn, e, c w1 u G1 H1 v q ((ok_drop o1 o.st).push (stab_rep _ _) r')⟩

/-! ### statements -/
variable {Z : DEnds} {ts tu tw : TS}
theorem es_next (h : Z.nx w env) : Es K tNext w env Z := fun G σ H De F o c1 _ _ _ => c1 w G σ H env h o
theorem es_seq (h : Es K ts w env { Z with nx := fun w1 e1 => Es K tu w1 e1 Z }) : Es K (tSeq ts tu) w env Z := fun G σ H De F o c1 c2 c3 c4 =>
  h G σ H { De with nx := tu De } F o (fun w1 G1 σ1 H1 e1 q o1 => q G1 σ1 H1 De F o1 c1 c2 c3 c4) c2 c3 c4
theorem es_asg {i : Nat} (h : Wp K te w env fun w1 d => Z.nx w1 (env.set i (some d))) : Es K (tAsg te (gName i)) w env Z := fun G σ H De F o c1 c2 c3 c4 =>
  h G σ H _ F o fun w1 v G1 H1 d q o1 => c1 w1 G1 _ H1 _ q ((ok_drop o1 o.st).se (o1.sl.set o1.f.2 i))
theorem es_drop (h : Wp K te w env fun w1 _ => Z.nx w1 env) : Es K (tDrop te) w env Z := fun G σ H De F o c1 c2 c3 c4 =>
  h G σ H _ F o fun w1 v G1 H1 d q o1 => c1 w1 G1 σ H1 env q (ok_drop o1 o.st)
theorem es_ret (h : Wp K te w env Z.rt) : Es K (tRet te) w env Z := fun G σ H De F o c1 c2 c3 c4 =>
  h G σ H _ F o fun w1 v G1 H1 d q o1 => c2 w1 v G1 σ H1 env d q o1
theorem es_retN (h : Z.rt w .non) : Es K tRetN w env Z := fun G σ H De F o c1 c2 c3 c4 => c2 w .non G σ H env .non h (o.push (stab_rep _ _) .non)
theorem es_if (h : Wt K tt w env fun w1 b => if b = true then Es K ts w1 env Z else Es K tu w1 env Z) : Es K (tIfS tt ts tu) w env Z := fun G σ H De F o c1 c2 c3 c4 =>
  h G σ H _ F o fun w1 b G1 H1 q o1 => by
    cases b with
    | true => exact q G1 σ H1 De F o1 c1 c2 c3 c4
    | false => exact q G1 σ H1 De F o1 c1 c2 c3 c4
theorem es_cont (h : Z.ct w env) : Es K tCont w env Z := fun G σ H De F o c1 _ _ c4 => c4 w G σ H env h o
theorem es_break (h : Z.bk w env) : Es K tBreak w env Z := fun G σ H De F o c1 _ c3 _ => c3 w G σ H env h o
theorem es_par {i j : Nat} (h : Wa K as w env fun w1 ds => ∃ a b, ds = [a, b] ∧ Z.nx w1 ((env.set i (some a)).set j (some b))) : Es K (tPar i j as) w env Z := fun G σ H De F o c1 c2 c3 c4 =>
  h G σ H _ F o fun w1 vs G1 H1 ds q o1 => by
    obtain ⟨a, b, rfl, q⟩ := q
    have r := o1.f.2
    match vs, r with
    | [x, y], .cons r1 (.cons r2 .nil) => exact ⟨x, y, rfl, c1 w1 G1 _ H1 _ q ((ok_drop o1 o.st).se ((o1.sl.set r1 i).set r2 j))⟩
/-- the world, the store as they may be seen otherwise -/
theorem es_as {w' : Wd} {env' : Env} (h : Es K ts w' env' Z) (k : ∀ G σ H F, Ok K w G σ H env F → ∃ G', Ok K w' G' σ H env' F) : Es K ts w env Z := fun G σ H De F o c1 c2 c3 c4 =>
  let ⟨G', o'⟩ := k G σ H F o; h G' σ H De F o' c1 c2 c3 c4
theorem es_fget {env' : Env} (h : Es K ts w env' Z) (hl : env'.length = env.length) (k : ∀ (i : Nat) (d : D), env'[i]? = some (some d) → env[i]? = some (some d)) : Es K ts w env Z :=
  es_as h fun G σ H F o => ⟨G, o.se (o.sl.weak hl k)⟩
theorem es_while {tc : TT} (Iv : Nat → Wd → Env → Prop) (m : Nat) (h0 : Iv m w env)
    (hs : ∀ m w1 e1, Iv m w1 e1 → Wt K tc w1 e1 fun w2 b => if b = true then Es K tu w2 e1 { nx := fun w3 e3 => ∃ m', m' < m ∧ Iv m' w3 e3, rt := Z.rt, bk := Z.nx, ct := fun w3 e3 => ∃ m', m' < m ∧ Iv m' w3 e3 } else Z.nx w2 e1) :
    Es K (tWhile tc tu) w env Z := fun G σ H De F o c1 c2 c3 c4 => by
  refine ⟨fun m σ' H' => ∃ w2 G2 e2, Iv m w2 e2 ∧ Ok K w2 G2 σ' H' e2 F, ⟨m, w, G, env, h0, o⟩, ?_⟩
  rintro m σ' H' ⟨w2, G2, e2, iv, o2⟩
  refine hs m w2 e2 iv G2 σ' H' _ F o2 fun w3 b G3 H3 q o3 => ?_
  cases b with
  | true =>
    refine ⟨fun σ4 H4 => ∃ m', m' < m ∧ ∃ w2 G2 e2, Iv m' w2 e2 ∧ Ok K w2 G2 σ4 H4 e2 F, fun σ4 H4 z => z, ?_⟩
    exact q G3 σ' H3 { De with nx := _, ct := _, bk := De.nx } F o3 (fun w4 G4 σ4 H4 e4 q4 o4 => let ⟨m', hm, iv'⟩ := q4; ⟨m', hm, w4, G4, e4, iv', o4⟩) c2 c1 (fun w4 G4 σ4 H4 e4 q4 o4 => let ⟨m', hm, iv'⟩ := q4; ⟨m', hm, w4, G4, e4, iv', o4⟩)
  | false => exact c1 w3 G3 σ' H3 e2 q o3
end
end EL

set_option Elab.async false
set_option linter.all false
set_option maxRecDepth 100000
set_option maxHeartbeats 4000000
namespace EL
open PySem L2
/-! ### what is walked -/
structure ItOk (K : PySem.W.Frag) (J : It) (xs : List D) (Fi : Hp → Prop) : Prop where
  st : Stab Fi
  go : ∀ G H i, Fi G → Sm G H → i < xs.length → J.go i H
  yld : ∀ G H i x H', Fi G → Sm G H → i < xs.length → J.yld i H x H' → ∃ d, xs[i]? = some d ∧ ((H' = H ∧ Rep K G x d) ∨ ∃ T vs ds, H T = none ∧ H' = upd H T (.tup vs) ∧ x = .ref T ∧ d = .tup ds ∧ Reps K G vs ds)
  stop : ∀ G H, Fi G → Sm G H → J.stop xs.length H
def Wi (K : PySem.W.Frag) (wi : TI) (w : Wd) (env : Env) (Q : Wd → List D → Prop) : Prop :=
  ∀ G σ H (R : It → Hp → Prop) (F : Hp → Prop), Ok K w G σ H env F → (∀ w1 G1 H1 xs J Fi, Q w1 xs → Ok K w1 G1 σ H1 env (fun G => F G ∧ Fi G) → ItOk K J xs Fi → R J H1) → wi σ H R
/-- a target -/
def Wg (K : PySem.W.Frag) (g : TG) (d : D) (env env' : Env) : Prop :=
  ∀ w G σ H (F : Hp → Prop) x (R : L2.St → Hp → Prop), Ok K w G σ H env F → Rep K G x d → (∀ σ', Ok K w G σ' H env' F → R σ' H) → g x σ H R
def Wgs (K : PySem.W.Frag) (g : TGs) (ds : List D) (env env' : Env) : Prop :=
  ∀ w G σ H (F : Hp → Prop) xs (R : L2.St → Hp → Prop), Ok K w G σ H env F → Reps K G xs ds → (∀ σ', Ok K w G σ' H env' F → R σ' H) → g xs σ H R
section
variable {K : PySem.W.Frag} {w : Wd} {env : Env} {Q : Wd → D → Prop} {ta tb te tl : TE} {tt t u : TT} {as : TA} {Z : DEnds} {ts tu tw : TS}
theorem wg_name {i : Nat} {d : D} : Wg K (gName i) d env (env.set i (some d)) := fun w G σ H F x R o r c => c _ (o.se (o.sl.set r i))
theorem wgs_nil : Wgs K gNil [] env env := fun w G σ H F xs R o r c => by
  cases r
  exact ⟨rfl, c σ o⟩
theorem wgs_cons {g : TG} {gs : TGs} {d : D} {ds : List D} {e1 e2 : Env} (h : Wg K g d env e1) (hs : Wgs K gs ds e1 e2) : Wgs K (gCons g gs) (d :: ds) env e2 := fun w G σ H F xs R o r c => by
  cases r with
  | cons r1 r2 =>
    rename_i v vs
    refine ⟨v, vs, rfl, h w G σ H (fun G => F G ∧ Reps K G vs ds) v _ (o.push (stab_reps _ _) r2) r1 fun σ1 o1 => ?_⟩
    exact hs w G σ1 H F vs _ (o1.as o.st o1.f.1) o1.f.2 c
theorem wg_tup {n : Nat} {gs : TGs} {ds : List D} {e2 : Env} (hn : ds.length = n) (hs : Wgs K gs ds env e2) : Wg K (gTup K n gs) (.tup ds) env e2 := fun w G σ H F x R o r c => by
  obtain ⟨a, vs, rfl, h1, h2⟩ := rep_tup r
  exact ⟨a, vs, rfl, ex_t o.sub h1, h2.length.trans hn, hs w G σ H F vs R o h2 c⟩
theorem es_asgT {g : TG} (h : Wp K te w env fun w1 d => ∃ e2, Wg K g d env e2 ∧ Z.nx w1 e2) : Es K (tAsg te g) w env Z := fun G σ H De F o c1 c2 c3 c4 =>
  h G σ H _ F o fun w1 v G1 H1 d q o1 => by
    obtain ⟨e2, g2, q⟩ := q
    exact g2 w1 G1 σ H1 F v _ (ok_drop o1 o.st) o1.f.2 fun σ' o' => c1 w1 G1 σ' H1 e2 q o'
theorem itok_list {a : Addr} {vs : List V} {ds : List D} : ItOk K (Itl K a) ds (fun G => SqL K G a vs ∧ Reps K G vs ds) := by
  refine ⟨fun G G' e z => ⟨ex_l e z.1, z.2.mono e⟩, ?_, ?_, ?_⟩
  · intro G H i f s hi
    rw [← f.2.length] at hi
    exact ⟨vs, vs[i], ex_l s f.1, List.getElem?_eq_getElem hi⟩
  · rintro G H i x H' f s hi ⟨rfl, hy⟩
    obtain ⟨d, hd, r⟩ := f.2.getV (hy vs (ex_l s f.1))
    exact ⟨d, hd, .inl ⟨rfl, r⟩⟩
  · intro G H f s
    exact ⟨vs, ex_l s f.1, by rw [f.2.length]; exact Nat.le_refl _⟩
theorem itok_tup {a : Addr} {vs : List V} {ds : List D} : ItOk K (Itt K a) ds (fun G => SqT K G a vs ∧ Reps K G vs ds) := by
  refine ⟨fun G G' e z => ⟨ex_t e z.1, z.2.mono e⟩, ?_, ?_, ?_⟩
  · intro G H i f s hi
    rw [← f.2.length] at hi
    exact ⟨vs, vs[i], ex_t s f.1, List.getElem?_eq_getElem hi⟩
  · rintro G H i x H' f s hi ⟨rfl, hy⟩
    obtain ⟨d, hd, r⟩ := f.2.getV (hy vs (ex_t s f.1))
    exact ⟨d, hd, .inl ⟨rfl, r⟩⟩
  · intro G H f s
    exact ⟨vs, ex_t s f.1, by rw [f.2.length]; exact Nat.le_refl _⟩
theorem wi_list {P : Wd → List D → Prop} (h : Wp K tl w env fun w1 d => ∃ ds, d = .lst ds ∧ P w1 ds) : Wi K (iList K tl) w env P := fun G σ H R F o c =>
  h G σ H _ F o fun w1 v G1 H1 d q o1 => by
    obtain ⟨ds, rfl, q⟩ := q
    obtain ⟨a, vs, rfl, hs, hr⟩ := rep_lst o1.f.2
    exact ⟨a, rfl, ⟨vs, ex_l o1.sub hs⟩, c w1 G1 H1 ds _ _ q ((ok_drop o1 o.st).push itok_list.st ⟨hs, hr⟩) itok_list⟩
theorem wi_tup {P : Wd → List D → Prop} (h : Wp K tl w env fun w1 d => ∃ ds, d = .tup ds ∧ P w1 ds) : Wi K (iTup K tl) w env P := fun G σ H R F o c =>
  h G σ H _ F o fun w1 v G1 H1 d q o1 => by
    obtain ⟨ds, rfl, q⟩ := q
    obtain ⟨a, vs, rfl, hs, hr⟩ := rep_tup o1.f.2
    exact ⟨a, rfl, ⟨vs, ex_t o1.sub hs⟩, c w1 G1 H1 ds _ _ q ((ok_drop o1 o.st).push itok_tup.st ⟨hs, hr⟩) itok_tup⟩
def rangeD (lo : Int) (n : Nat) : List D := (List.range n).map fun (i : Nat) => D.int (lo + (i : Int))
theorem rangeD_length (lo : Int) (n : Nat) : (rangeD lo n).length = n := by simp [rangeD]
theorem rangeD_get {lo : Int} {n i : Nat} (h : i < n) : (rangeD lo n)[i]? = some (.int (lo + (i : Int))) := by simp [rangeD, h]
theorem itok_range (lo : Int) (n : Nat) : ItOk K (Itr lo n) (rangeD lo n) (fun _ => True) := by
  refine ⟨fun _ _ _ _ => trivial, fun G H i _ _ hi => ?_, ?_, fun G H _ _ => ?_⟩
  · rw [rangeD_length] at hi; exact hi
  · rintro G H i x H' _ _ hi ⟨rfl, rfl⟩
    rw [rangeD_length] at hi
    exact ⟨_, rangeD_get hi, .inl ⟨rfl, .int _⟩⟩
  · show n ≤ _
    rw [rangeD_length]; exact Nat.le_refl _
theorem wi_rng1 {P : Wd → List D → Prop} (h : Wa K as w env fun w1 ds => ∃ n : Int, ds = [.int n] ∧ (-(2 ^ 62) ≤ n ∧ n < 2 ^ 62) ∧ P w1 (rangeD 0 n.toNat)) : Wi K (iRng1 as) w env P := fun G σ H R F o c =>
  h G σ H _ F o fun w1 vs G1 H1 ds q o1 => by
    obtain ⟨n, rfl, hn, q⟩ := q
    have r := o1.f.2
    match vs, r with
    | [_], .cons (.int _) .nil => exact ⟨n, rfl, hn.1, hn.2, c w1 G1 H1 _ _ (fun _ => True) q ((ok_drop o1 o.st).push stab_true trivial) (itok_range 0 n.toNat)⟩
theorem wi_rng2 {P : Wd → List D → Prop} (h : Wa K as w env fun w1 ds => ∃ l n : Int, ds = [.int l, .int n] ∧ (-(2 ^ 62) ≤ l ∧ l < 2 ^ 62 ∧ -(2 ^ 62) ≤ n ∧ n < 2 ^ 62) ∧ P w1 (rangeD l (n - l).toNat)) : Wi K (iRng2 as) w env P := fun G σ H R F o c =>
  h G σ H _ F o fun w1 vs G1 H1 ds q o1 => by
    obtain ⟨l, n, rfl, hn, q⟩ := q
    have r := o1.f.2
    match vs, r with
    | [_, _], .cons (.int _) (.cons (.int _) .nil) => exact ⟨l, n, rfl, hn, c w1 G1 H1 _ _ (fun _ => True) q ((ok_drop o1 o.st).push stab_true trivial) (itok_range l _)⟩
def enumD (xs : List D) : List D := xs.zipIdx.map fun p => D.tup [.int ((p.2 : Nat) : Int), p.1]
theorem enumD_length (xs : List D) : (enumD xs).length = xs.length := by simp [enumD]
theorem enumD_get {xs : List D} {i : Nat} {d : D} (h : xs[i]? = some d) : (enumD xs)[i]? = some (.tup [.int ((i : Nat) : Int), d]) := by simp [enumD, h]
theorem itok_enum {a : Addr} {vs : List V} {ds : List D} : ItOk K (Ite K a) (enumD ds) (fun G => SqL K G a vs ∧ Reps K G vs ds) := by
  refine ⟨fun G G' e z => ⟨ex_l e z.1, z.2.mono e⟩, ?_, ?_, ?_⟩
  · intro G H i f s hi
    rw [enumD_length, ← f.2.length] at hi
    exact ⟨vs, vs[i], ex_l s f.1, List.getElem?_eq_getElem hi⟩
  · rintro G H i x H' f s hi ⟨T, y, rfl, hT, rfl, hy⟩
    obtain ⟨d, hd, r⟩ := f.2.getV (hy vs (ex_l s f.1))
    exact ⟨_, enumD_get hd, .inr ⟨T, _, _, hT, rfl, rfl, rfl, .cons (.int _) (.cons r .nil)⟩⟩
  · intro G H f s
    exact ⟨vs, ex_l s f.1, by rw [enumD_length, f.2.length]; exact Nat.le_refl _⟩
theorem wi_enum {P : Wd → List D → Prop} (h : Wa K as w env fun w1 ds => ∃ xs, ds = [.lst xs] ∧ P w1 (enumD xs)) : Wi K (iEnum K as) w env P := fun G σ H R F o c =>
  h G σ H _ F o fun w1 vs G1 H1 ds q o1 => by
    obtain ⟨xs, rfl, q⟩ := q
    have r := o1.f.2
    match vs, r with
    | [v], .cons r1 .nil =>
      obtain ⟨a, vs, rfl, hs, hr⟩ := rep_lst r1
      exact ⟨a, vs, rfl, ex_l o1.sub hs, c w1 G1 H1 _ _ _ q ((ok_drop o1 o.st).push itok_enum.st ⟨hs, hr⟩) itok_enum⟩
def zipD (xs ys : List D) : List D := (xs.zip ys).map fun p => D.tup [p.1, p.2]
theorem zipD_length (xs ys : List D) : (zipD xs ys).length = min xs.length ys.length := by simp [zipD]
theorem zipD_get {xs ys : List D} {i : Nat} {x y : D} (h : xs[i]? = some x) (h' : ys[i]? = some y) : (zipD xs ys)[i]? = some (.tup [x, y]) := by
  simp [zipD, List.getElem?_zip_eq_some, h, h']
theorem itok_zip {a b : Addr} {us vs : List V} {xs ys : List D} : ItOk K (Itz K a b) (zipD xs ys) (fun G => (SqL K G a us ∧ Reps K G us xs) ∧ SqL K G b vs ∧ Reps K G vs ys) := by
  refine ⟨fun G G' e z => ⟨⟨ex_l e z.1.1, z.1.2.mono e⟩, ex_l e z.2.1, z.2.2.mono e⟩, ?_, ?_, ?_⟩
  · intro G H i f s hi
    rw [zipD_length, ← f.1.2.length, ← f.2.2.length] at hi
    exact ⟨us, vs, us[i], vs[i], ex_l s f.1.1, ex_l s f.2.1, List.getElem?_eq_getElem (by omega), List.getElem?_eq_getElem (by omega)⟩
  · rintro G H i x H' f s hi ⟨T, y, z, rfl, hT, rfl, hy, hz⟩
    obtain ⟨d, hd, r⟩ := f.1.2.getV (hy us (ex_l s f.1.1))
    obtain ⟨d', hd', r'⟩ := f.2.2.getV (hz vs (ex_l s f.2.1))
    exact ⟨_, zipD_get hd hd', .inr ⟨T, _, _, hT, rfl, rfl, rfl, .cons r (.cons r' .nil)⟩⟩
  · intro G H f s
    refine ⟨us, vs, ex_l s f.1.1, ex_l s f.2.1, ?_⟩
    rw [zipD_length, f.1.2.length, f.2.2.length]
    omega
theorem itok_zipT {a b : Addr} {us vs : List V} {xs ys : List D} : ItOk K (RZ.ItzT K a b) (zipD xs ys) (fun G => (SqT K G a us ∧ Reps K G us xs) ∧ SqT K G b vs ∧ Reps K G vs ys) := by
  refine ⟨fun G G' e z => ⟨⟨ex_t e z.1.1, z.1.2.mono e⟩, ex_t e z.2.1, z.2.2.mono e⟩, ?_, ?_, ?_⟩
  · intro G H i f s hi
    rw [zipD_length, ← f.1.2.length, ← f.2.2.length] at hi
    exact ⟨us, vs, us[i], vs[i], ex_t s f.1.1, ex_t s f.2.1, List.getElem?_eq_getElem (by omega), List.getElem?_eq_getElem (by omega)⟩
  · rintro G H i x H' f s hi ⟨T, y, z, rfl, hT, rfl, hy, hz⟩
    obtain ⟨d, hd, r⟩ := f.1.2.getV (hy us (ex_t s f.1.1))
    obtain ⟨d', hd', r'⟩ := f.2.2.getV (hz vs (ex_t s f.2.1))
    exact ⟨_, zipD_get hd hd', .inr ⟨T, _, _, hT, rfl, rfl, rfl, .cons r (.cons r' .nil)⟩⟩
  · intro G H f s
    refine ⟨us, vs, ex_t s f.1.1, ex_t s f.2.1, ?_⟩
    rw [zipD_length, f.1.2.length, f.2.2.length]
    omega
/-- zip of two lists, or of two tuples -/
theorem wi_zip {P : Wd → List D → Prop} (h : Wa K as w env fun w1 ds => ∃ xs ys, (ds = [.lst xs, .lst ys] ∨ ds = [.tup xs, .tup ys]) ∧ P w1 (zipD xs ys)) : Wi K (RZ.iZipA K as) w env P := fun G σ H R F o c =>
  h G σ H _ F o fun w1 vs G1 H1 ds q o1 => by
    obtain ⟨xs, ys, e, q⟩ := q
    have r := o1.f.2
    rcases e with rfl | rfl
    · match vs, r with
      | [_, _], .cons r1 (.cons r2 .nil) =>
        obtain ⟨a, us, rfl, hs, hr⟩ := rep_lst r1
        obtain ⟨b, vs, rfl, ht, hu⟩ := rep_lst r2
        exact ⟨a, b, us, vs, rfl, .inl ⟨ex_l o1.sub hs, ex_l o1.sub ht, c w1 G1 H1 _ _ _ q ((ok_drop o1 o.st).push itok_zip.st ⟨⟨hs, hr⟩, ht, hu⟩) itok_zip⟩⟩
    · match vs, r with
      | [_, _], .cons r1 (.cons r2 .nil) =>
        obtain ⟨a, us, rfl, hs, hr⟩ := rep_tup r1
        obtain ⟨b, vs, rfl, ht, hu⟩ := rep_tup r2
        exact ⟨a, b, us, vs, rfl, .inr ⟨ex_t o1.sub hs, ex_t o1.sub ht, c w1 G1 H1 _ _ _ q ((ok_drop o1 o.st).push itok_zipT.st ⟨⟨hs, hr⟩, ht, hu⟩) itok_zipT⟩⟩
theorem Ok.yld {J : It} {xs : List D} {Fi F : Hp → Prop} {G : Hp} {σ : L2.St} {H H' : Hp} {i : Nat} {x : V} (jo : ItOk K J xs Fi) (o : Ok K w G σ H env (fun G => F G ∧ Fi G)) (hi : i < xs.length) (y : J.yld i H x H') :
    ∃ d G', xs[i]? = some d ∧ Sm G G' ∧ Ok K w G' σ H' env (fun G => F G ∧ Fi G) ∧ Rep K G' x d := by
  obtain ⟨d, hd, z⟩ := jo.yld G H i x H' o.f.2 o.sub hi y
  rcases z with ⟨rfl, r⟩ | ⟨T, vs, ds, hT, rfl, rfl, rfl, r⟩
  · exact ⟨d, G, hd, Sm.refl _, o, r⟩
  · have o2 := o.newTup hT r
    exact ⟨_, _, hd, same_new (sm_free o.sub hT), o2.as o.st o2.f.1, o2.f.2⟩
/-! ### for -/
theorem es_forG {wi : TI} {g : TG} (h : Wi K wi w env fun w1 ds => ∃ Iv : Nat → Wd → Env → Prop, Iv 0 w1 env ∧
      (∀ i w2 e2 x, ds[i]? = some x → Iv i w2 e2 → ∃ e3, Wg K g x e2 e3 ∧ Es K tu w2 e3 { nx := Iv (i + 1), rt := Z.rt, bk := Z.nx, ct := Iv (i + 1) }) ∧ ∀ w2 e2, Iv ds.length w2 e2 → Z.nx w2 e2) :
    Es K (tFor wi g tu) w env Z := fun G σ H De F o c1 c2 c3 c4 =>
  h G σ H _ F o fun w1 G1 H1 ds J Fi q o1 jo => by
    obtain ⟨Iv, i0, it, iz⟩ := q
    refine ⟨fun i m σ' H' => m = ds.length - i ∧ i ≤ ds.length ∧ ∃ w2 G2 e2, Iv i w2 e2 ∧ Ok K w2 G2 σ' H' e2 (fun G => F G ∧ Fi G), ⟨ds.length, by simp, Nat.zero_le _, w1, G1, env, i0, o1⟩, ?_⟩
    rintro i m σ' H' ⟨rfl, hi, w2, G2, e2, iv, o2⟩
    by_cases hlt : i < ds.length
    · refine .inr ⟨jo.go G2 H' i o2.f.2 o2.sub hlt, fun σ3 H3 => ∃ w3 G3 e3, Iv (i + 1) w3 e3 ∧ Ok K w3 G3 σ3 H3 e3 (fun G => F G ∧ Fi G), fun σ3 H3 z => ⟨ds.length - (i + 1), by omega, rfl, hlt, z⟩, fun x H3 y => ?_⟩
      obtain ⟨d, G3, hd, sm, o3, r⟩ := o2.yld jo hlt y
      obtain ⟨e3, g3, b3⟩ := it i w2 e2 d hd iv
      refine g3 w2 G3 σ' H3 _ x _ o3 r fun σ4 o4 => ?_
      exact b3 G3 σ4 H3 { De with nx := _, ct := _, bk := De.nx } _ o4 (fun w5 G5 σ5 H5 e5 q5 o5 => ⟨w5, G5, e5, q5, o5⟩)
        (fun w5 v5 G5 σ5 H5 e5 d5 q5 o5 => c2 w5 v5 G5 σ5 H5 e5 d5 q5 (o5.as (stab_and o.st (stab_rep _ _)) ⟨o5.f.1.1, o5.f.2⟩))
        (fun w5 G5 σ5 H5 e5 q5 o5 => c1 w5 G5 σ5 H5 e5 q5 (ok_drop o5 o.st)) (fun w5 G5 σ5 H5 e5 q5 o5 => ⟨w5, G5, e5, q5, o5⟩)
    · have e : i = ds.length := by omega
      subst e
      exact .inl ⟨jo.stop G2 H' o2.f.2 o2.sub, c1 w2 G2 σ' H' e2 (iz w2 e2 iv) (ok_drop o2 o.st)⟩
end
end EL

set_option Elab.async false
set_option linter.all false
set_option maxRecDepth 100000
set_option maxHeartbeats 4000000
namespace EL
open PySem PySem.Spec PyProof.Rows L2
/-! ### worlds with objects of one's own -/
/-- at p stands, in H, an object of the shape d, its parts by the still heap G -/
def At (K : PySem.W.Frag) (G H : Hp) (p : Addr) : D → Prop
  | .lst ds => ∃ vs, H p = some (.lst vs) ∧ Reps K G vs ds
  | .dct ds => ∃ kvs : List (Key × V), H p = some (.dK kvs) ∧ ds.map (·.1) = kvs.map (·.1) ∧ Reps K G (kvs.map (·.2)) (ds.map (·.2))
  | .dcT ds => ∃ kvs : List (List Key × V), H p = some (.dT kvs) ∧ ds.map (·.1) = kvs.map (·.1) ∧ Reps K G (kvs.map (·.2)) (ds.map (·.2))
  | .obj C ds => ∃ (dx : Addr) (fs : List (Str × V)), H p = some (.ins C dx fs) ∧ ds.map (·.1) = fs.map (·.1) ∧ Reps K G (fs.map (·.2)) (ds.map (·.2))
  | _ => False
theorem At.some {K : PySem.W.Frag} {G H : Hp} {p : Addr} {d : D} (h : At K G H p d) : H p ≠ none := by
  cases d with
  | lst => obtain ⟨vs, e, _⟩ := h; rw [e]; exact fun z => nomatch z
  | dct => obtain ⟨vs, e, _⟩ := h; rw [e]; exact fun z => nomatch z
  | dcT => obtain ⟨vs, e, _⟩ := h; rw [e]; exact fun z => nomatch z
  | obj => obtain ⟨_, vs, e, _⟩ := h; rw [e]; exact fun z => nomatch z
  | _ => exact h.elim
theorem At.mono {K : PySem.W.Frag} {G G' H H' : Hp} {p : Addr} {d : D} (h : At K G H p d) (e : Sm G G') (hp : H' p = H p) : At K G' H' p d := by
  cases d with
  | lst => obtain ⟨vs, e1, r⟩ := h; exact ⟨vs, hp.trans e1, r.mono e⟩
  | dct => obtain ⟨vs, e1, k, r⟩ := h; exact ⟨vs, hp.trans e1, k, r.mono e⟩
  | dcT => obtain ⟨vs, e1, k, r⟩ := h; exact ⟨vs, hp.trans e1, k, r.mono e⟩
  | obj => obtain ⟨dx, vs, e1, k, r⟩ := h; exact ⟨dx, vs, hp.trans e1, k, r.mono e⟩
  | _ => exact h.elim
/-- it is still from now on -/
theorem At.rep {K : PySem.W.Frag} {G G' H : Hp} {p : Addr} {d : D} (h : At K G H p d) (e : Sm G G') (hp : G' p = H p) : Rep K G' (.ref p) d := by
  cases d with
  | lst => obtain ⟨vs, e1, r⟩ := h; exact .lst (.inl (hp.trans e1)) (r.mono e)
  | dct => obtain ⟨vs, e1, k, r⟩ := h; exact .dK (.inl (hp.trans e1)) k (r.mono e)
  | dcT => obtain ⟨vs, e1, k, r⟩ := h; exact .dT (.inl (hp.trans e1)) k (r.mono e)
  | obj => obtain ⟨dx, vs, e1, k, r⟩ := h; exact .obj (hp.trans e1) k (r.mono e)
  | _ => exact h.elim
abbrev Own := List (Addr × D)
def Own.as (L : Own) : List Addr := L.map (·.1)
/-- w and the objects L, which nobody else knows -/
def Wd.own (K : PySem.W.Frag) (w : Wd) (L : Own) : Wd where
  M := L.as ++ w.M
  I := fun G H => w.I G H ∧ (L.as.Nodup ∧ ∀ a ∈ L.as, a ∉ w.M) ∧ ∀ x ∈ L, At K G H x.1 x.2
  mok := fun G H a i h => by
    rcases List.mem_append.mp h with h | h
    · obtain ⟨x, hx, rfl⟩ := List.mem_map.mp h
      exact (i.2.2 x hx).some
    · exact w.mok G H a i.1 h
  mono := fun G G' H i e => ⟨w.mono _ _ _ i.1 e, i.2.1, fun x hx => (i.2.2 x hx).mono e rfl⟩
  loc := fun G H H' i h => ⟨w.loc _ _ _ i.1 (fun a ha => h a (List.mem_append_right _ ha)), i.2.1, fun x hx => (i.2.2 x hx).mono (Sm.refl _) (h _ (List.mem_append_left _ (List.mem_map.mpr ⟨x, hx, rfl⟩)))⟩
/-- what follows w: more is one's own, what is known of w is known still -/
structure Wd.le (w w' : Wd) : Prop where
  m : ∀ a ∈ w.M, a ∈ w'.M
  i : ∀ G H, w'.I G H → w.I G H
theorem Wd.le.refl (w : Wd) : w.le w := ⟨fun _ h => h, fun _ _ h => h⟩
theorem Wd.le.trans {a b c : Wd} (h : a.le b) (k : b.le c) : a.le c := ⟨fun x z => k.m x (h.m x z), fun G H z => h.i G H (k.i G H z)⟩
theorem Wd.le_own {K : PySem.W.Frag} (w : Wd) (L : Own) : w.le (w.own K L) := ⟨fun _ h => List.mem_append_right _ h, fun _ _ h => h.1⟩
theorem Ok.le {K : PySem.W.Frag} {w w' : Wd} {G : Hp} {σ : L2.St} {H : Hp} {env : Env} {F : Hp → Prop} (l : w.le w') (o : Ok K w' G σ H env F) : Ok K w G σ H env F := ⟨o.sl, fun a h z => o.nm a h (l.m a z), o.sub, l.i G H o.i, o.st, o.f⟩
/-- w, since the still part G0: nothing of it has changed -/
def Wd.since (w : Wd) (G0 : Hp) : Wd where
  M := w.M
  I := fun G H => w.I G H ∧ Sm G0 G
  mok := fun G H a i h => w.mok G H a i.1 h
  mono := fun G G' H i e => ⟨w.mono _ _ _ i.1 e, i.2.trans e⟩
  loc := fun G H H' i h => ⟨w.loc _ _ _ i.1 h, i.2⟩
/-! ### a def's promise over data -/
abbrev OkF := Wd → List D → (D → Prop) → Prop
def SpF (K : PySem.W.Frag) (ok : OkF) : Sp := fun vs H Q _ =>
  ∃ (w : Wd) (G : Hp) (ds : List D) (R : D → Prop), Ok K w G [] H [] (fun G => Reps K G vs ds) ∧ ok w ds R ∧ ∀ v G' H' d, R d → Sm G G' → Ok K w G' [] H' [] (fun G => Rep K G v d) → Q v H'
def startD (N : List Str) (ds : List D) : Env := ds.map some ++ List.replicate (N.length - ds.length) none
theorem sl_start {K : PySem.W.Frag} {G : Hp} {N : List Str} : ∀ {vs : List V} {ds : List D}, Reps K G vs ds → Sl K (L2.start N vs) G (startD N ds) := by
  intro vs ds r
  refine ⟨by simp [L2.start, startD, r.length], fun i d h => ?_⟩
  unfold startD at h
  unfold L2.start
  by_cases hi : i < ds.length
  · rw [List.getElem?_append_left (by simpa using hi), List.getElem?_map] at h
    cases e : ds[i]? with
    | none => rw [e] at h; cases h
    | some x =>
      rw [e] at h
      cases h
      obtain ⟨v, hv, rv⟩ := r.get e
      refine ⟨v, ?_, rv⟩
      rw [List.getElem?_append_left (by rw [List.length_map, r.length]; exact hi), List.getElem?_map, hv]
      rfl
  · rw [List.getElem?_append_right (by simpa using Nat.le_of_not_lt hi)] at h
    rw [List.getElem?_replicate] at h
    split at h <;> cases h
theorem sl_nil {K : PySem.W.Frag} {G : Hp} : Sl K [] G [] := ⟨rfl, fun i d h => by simp at h⟩
section
variable {P : Program} {W : World} {K : PySem.W.Frag} {mg : Str → Option Value} {base : Heap}
theorem fn_ok {x qual : Str} {st : Stmt} {f : Addr} {fd : FuncData} {N ps : List Str} {k : Nat} {ok : OkF} (F : Fun K x qual st f fd) (S : FnScope N ps (defScope st)) (hl : ∀ w ds R, ok w ds R → ds.length = ps.length)
    (hs : ∀ w G ds R, ok w ds R → ok (w.since G) ds R)
    (hb : ∀ (cdv : Value) (A : Around) (outer : List PySem.Env) (s : Shared) (H : Hp) (E : XK), Room k (A.deeper (envOfC qual (defScope st) s.heap.objs.size f cdv)) →
      ∃ t, PSs (cxOf CX0 P W K mg base N qual (defScope st) f cdv A outer s H E).nox (defBody st) t ∧
        ∀ wd ds R, ok wd ds R → Es K t wd (startD N ds) { nx := fun w' _ => wd.le w' ∧ R .non, rt := fun w' d => wd.le w' ∧ R d }) :
    FnOk P W K mg base CX0 (k + 1) f fd ps (SpF K ok) := by
  refine F.ok S (fun vs H Q E h => ?_) (fun cdv A outer s H vs Q E hr h => ?_)
  · obtain ⟨w, G, ds, R, i, o, _⟩ := h
    rw [i.f.length]; exact hl w ds R o
  · obtain ⟨t, ht, he⟩ := hb cdv A outer s H E hr
    refine ⟨t, ht, ?_⟩
    obtain ⟨w, G, ds, R, i, o, q⟩ := h
    refine he (w.since G) ds R (hs w G ds R o) G (L2.start N vs) H _ (fun _ => True) ⟨sl_start i.f, i.nm, i.sub, ⟨i.i, Sm.refl _⟩, stab_true, trivial⟩ ?_ ?_ (fun _ _ _ _ _ z => z.elim) (fun _ _ _ _ _ z => z.elim)
    · rintro w' G' σ' H' env' ⟨l, z⟩ o'
      have o2 := o'.le l
      exact q .non G' H' .non z o2.i.2 ⟨sl_nil, o2.nm, o2.sub, o2.i.1, stab_rep _ _, .non⟩
    · rintro w' v G' σ' H' env' d ⟨l, z⟩ o'
      have o2 := o'.le l
      exact q v G' H' d z o2.i.2 ⟨sl_nil, o2.nm, o2.sub, o2.i.1, stab_rep _ _, o2.f.2⟩
end
section
variable {K : PySem.W.Frag} {w : Wd} {env : Env} {Q : Wd → D → Prop} {ta tb te tl : TE} {tt t u : TT} {as : TA} {Z : DEnds} {ts tu tw : TS}
theorem Ok.ret {G G' : Hp} {σ : L2.St} {H H' : Hp} {F : Hp → Prop} {v : V} {d : D} (o : Ok K w G σ H env F) (sm : Sm G G') (o' : Ok K w G' [] H' [] (fun G => Rep K G v d)) : Ok K w G' σ H' env (fun G => F G ∧ Rep K G v d) :=
  ⟨o.sl.mono sm, o'.nm, o'.sub, o'.i, stab_and o.st (stab_rep _ _), ⟨o.st _ _ sm o.f, o'.f⟩⟩
theorem wp_call {ok : OkF} {dvs : List V} {dds : List D} {E : XK} (hd : ∀ G, Reps K G dvs dds) (h : Wa K as w env fun w1 ds => ok w1 (ds ++ dds) (fun d => Q w1 d)) : Wp K (tCall (SpF K ok) dvs E as) w env Q := fun G σ H R F o c =>
  h G σ H _ F o fun w1 vs G1 H1 ds q o1 => ⟨w1, G1, ds ++ dds, fun d => Q w1 d, ⟨sl_nil, o1.nm, o1.sub, o1.i, stab_reps _ _, o1.f.2.append (hd _)⟩, q, fun v G' H' d qd sm o' => c w1 v G' H' d qd ((ok_drop o1 o.st).ret sm o')⟩
theorem wp_call0 {ok : OkF} {E : XK} (h : Wa K as w env fun w1 ds => ok w1 ds (fun d => Q w1 d)) : Wp K (tCall (SpF K ok) [] E as) w env Q :=
  wp_call (dds := []) (fun _ => .nil) fun G σ H R F o c => h G σ H R F o fun w' vs G' H' ds q => c w' vs G' H' ds (by show ok w' (ds ++ []) _; rw [List.append_nil]; exact q)
theorem wp_meth {ok : OkF} {C : Addr} {m : Str} {E : XK} (h : Wp K ta w env fun w1 x => ∃ fs, x = .obj C fs ∧ fs.lookup m = none ∧ Wa K as w1 env fun w2 ds => ok w2 (x :: ds) (fun d => Q w2 d)) :
    Wp K (tMeth C m (SpF K ok) [] E ta as) w env Q := fun G σ H R F o c =>
  h G σ H _ F o fun w1 v G1 H1 d q o1 => by
    obtain ⟨fs, rfl, hm, q⟩ := q
    have r := o1.f.2
    cases r with
    | obj g k r =>
      refine ⟨_, _, _, rfl, ex_ins o1.sub g, lookup_none k hm, ?_⟩
      refine q G1 σ H1 _ _ o1 fun w2 vs G2 H2 ds q2 o2 => ?_
      refine ⟨w2, G2, .obj C fs :: ds, fun d => Q w2 d, ⟨sl_nil, o2.nm, o2.sub, o2.i, stab_reps _ _, ?_⟩, q2, fun v G' H' d qd sm o' => c w2 v G' H' d qd ((o2.as o.st o2.f.1.1).ret sm o')⟩
      rw [List.append_nil]
      exact .cons o2.f.1.2 o2.f.2
/-! ### one's own objects -/
theorem Ok.own {G : Hp} {σ : L2.St} {H : Hp} {F : Hp → Prop} {p : Addr} {o : HO} {d : D} (k : Ok K w G σ H env F) (h : H p = none) (a : At K G (upd H p o) p d) : Ok K (w.own K [(p, d)]) G σ (upd H p o) env F := by
  have j := k.junk (o := o) h
  have hG := sm_free k.sub h
  refine ⟨k.sl, fun b hb z => ?_, j.sub, ⟨j.i, ⟨by simp [Own.as], fun b hb => ?_⟩, fun x hx => ?_⟩, k.st, k.f⟩
  · rcases List.mem_append.mp z with z | z
    · rcases List.mem_singleton.mp z with rfl
      exact hb hG
    · exact k.nm b hb z
  · rcases List.mem_singleton.mp hb with rfl
    exact k.free h
  · rcases List.mem_singleton.mp hx with rfl
    exact a
/-- one's own object becomes still -/
theorem Ok.still {G : Hp} {σ : L2.St} {H : Hp} {F : Hp → Prop} {p : Addr} {d : D} (k : Ok K (w.own K [(p, d)]) G σ H env F) : ∃ G', Sm G G' ∧ Ok K w G' σ H env (fun G => F G ∧ Rep K G (.ref p) d) := by
  have a : At K G H p d := k.i.2.2 (p, d) (List.mem_singleton.mpr rfl)
  have hp : G p = none := by
    cases e : G p with
    | none => rfl
    | some o => exact absurd (List.mem_append_left _ (List.mem_singleton.mpr rfl)) (k.nm p (by rw [e]; exact fun z => nomatch z))
  cases eo : H p with
  | none => exact absurd eo a.some
  | some o =>
    have e : Sm G (upd G p o) := same_new hp
    refine ⟨upd G p o, e, k.sl.mono e, fun b hb z => ?_, fun b u q => ?_, w.mono _ _ _ k.i.1 e, stab_and k.st (stab_rep _ _), ⟨k.st _ _ e k.f, a.rep e (by rw [upd_same, eo])⟩⟩
    · by_cases c : b = p
      · subst c
        exact k.i.2.1.2 b (List.mem_singleton.mpr rfl) z
      · rw [upd_ne c] at hb
        exact k.nm b hb (List.mem_append_right _ z)
    · by_cases c : b = p
      · subst c
        rw [upd_same] at q
        exact ⟨u, by rw [eo]; exact q, rfl⟩
      · rw [upd_ne c] at q
        exact k.sub b u q
theorem Own.as_set {L : Own} {k : Nat} {p : Addr} {d d' : D} (h : L[k]? = some (p, d)) : Own.as (L.set k (p, d')) = L.as := by
  unfold Own.as
  rw [List.map_set]
  apply List.ext_getElem?
  intro i
  rw [List.getElem?_set]
  by_cases c : k = i
  · subst c
    rw [if_pos rfl, List.getElem?_map, h]
    have := (List.getElem?_eq_some_iff.mp h).1
    simp [this]
  · rw [if_neg c]
/-- one's own object is changed -/
theorem Ok.mod {G : Hp} {σ : L2.St} {H : Hp} {F : Hp → Prop} {L : Own} {k : Nat} {p : Addr} {o : HO} {d d' : D} (x : Ok K (w.own K L) G σ H env F) (h : L[k]? = some (p, d)) (a : At K G (upd H p o) p d') : Ok K (w.own K (L.set k (p, d'))) G σ (upd H p o) env F := by
  have e := Own.as_set (d' := d') h
  have hpL : p ∈ L.as := List.mem_map.mpr ⟨(p, d), List.mem_of_getElem? h, rfl⟩
  have hpG : ∀ b, G b ≠ none → b ≠ p := fun b hb z => x.nm b hb (List.mem_append_left _ (z ▸ hpL))
  refine ⟨x.sl, fun b hb => ?_, fun b u q => ?_, ⟨w.loc _ _ _ x.i.1 (fun b hb => upd_ne (fun z => x.i.2.1.2 p hpL (z ▸ hb))), by rw [e]; exact x.i.2.1, fun y hy => ?_⟩, x.st, x.f⟩
  · show b ∉ Own.as (L.set k (p, d')) ++ w.M
    rw [e]; exact x.nm b hb
  · rw [upd_ne (hpG b (by rw [q]; exact fun z => nomatch z))]
    exact x.sub b u q
  · obtain ⟨j, hj⟩ := List.mem_iff_getElem?.mp hy
    rw [List.getElem?_set] at hj
    by_cases c : k = j
    · rw [if_pos c] at hj
      split at hj
      · cases hj
        exact a
      · cases hj
    · rw [if_neg c] at hj
      have nd := x.i.2.1.1
      have hne : y.1 ≠ p := fun z => by
        have h1 : L.as[j]? = some p := by unfold Own.as; rw [List.getElem?_map, hj]; exact congrArg some z
        have h2 : L.as[k]? = some p := by unfold Own.as; rw [List.getElem?_map, h]; rfl
        obtain ⟨l1, e1⟩ := List.getElem?_eq_some_iff.mp h2
        obtain ⟨l2, e2⟩ := List.getElem?_eq_some_iff.mp h1
        exact c ((List.getElem_inj nd).mp (e1.trans e2.symm))
      exact (x.i.2.2 y (List.mem_of_getElem? hj)).mono (Sm.refl _) (upd_ne hne)
/-- x = [a, ..] that will change -/
theorem es_newL {i : Nat} (h : Wa K as w env fun w1 ds => ds.length ≤ 100000 ∧ ∀ p, p ∉ w1.M → Z.nx (w1.own K [(p, .lst ds)]) (env.set i (some (.raw (.ref p))))) : Es K (tAsg (tLst as) (gName i)) w env Z := fun G σ H De F o c1 c2 c3 c4 =>
  h G σ H _ F o fun w1 xs G1 H1 ds q o1 => ⟨by rw [o1.f.2.length]; exact Nat.le_trans q.1 (by decide), fun p hp => by
    have o2 := Ok.own (o := .lst xs) (d := .lst ds) (ok_drop o1 o.st) hp ⟨xs, upd_same, o1.f.2⟩
    exact c1 _ _ _ _ _ (q.2 p ((ok_drop o1 o.st).free hp)) (o2.se (o2.sl.set (.raw _) i))⟩
end
end EL

set_option Elab.async false
set_option linter.all false
set_option maxRecDepth 100000
set_option maxHeartbeats 4000000
namespace EL
open PySem PySem.Spec PyProof.Rows L2
/-! ### comprehensions -/
def wipeE (e : Env) : List Nat → Env
  | [] => e
  | v :: vs => (wipeE e vs).set v none
theorem wipe_len (σ : L2.St) : ∀ vs, (wipe σ vs).length = σ.length
  | [] => rfl
  | v :: vs => by show ((wipe σ vs).set v none).length = _; rw [List.length_set, wipe_len σ vs]
theorem wipe_get (σ : L2.St) (i : Nat) : ∀ vs, (wipe σ vs)[i]? = if i ∈ vs ∧ i < σ.length then some none else σ[i]?
  | [] => by simp [wipe]
  | v :: vs => by
    show ((wipe σ vs).set v none)[i]? = _
    rw [List.getElem?_set, wipe_get σ i vs, wipe_len]
    by_cases c : v = i
    · subst c
      by_cases l : v < σ.length
      · simp [l]
      · simp [l]
    · have c' : i ≠ v := fun z => c z.symm
      simp [c, c']
theorem wipeE_len (σ : Env) : ∀ vs, (wipeE σ vs).length = σ.length
  | [] => rfl
  | v :: vs => by show ((wipeE σ vs).set v none).length = _; rw [List.length_set, wipeE_len σ vs]
theorem wipeE_get (σ : Env) (i : Nat) : ∀ vs, (wipeE σ vs)[i]? = if i ∈ vs ∧ i < σ.length then some none else σ[i]?
  | [] => by simp [wipeE]
  | v :: vs => by
    show ((wipeE σ vs).set v none)[i]? = _
    rw [List.getElem?_set, wipeE_get σ i vs, wipeE_len]
    by_cases c : v = i
    · subst c
      by_cases l : v < σ.length
      · simp [l]
      · simp [l]
    · have c' : i ≠ v := fun z => c z.symm
      simp [c, c']
theorem wipe_set {σ : L2.St} {j : Nat} {x : Option V} {vs : List Nat} (h : j ∈ vs) : wipe (σ.set j x) vs = wipe σ vs := by
  apply List.ext_getElem?
  intro i
  rw [wipe_get, wipe_get, List.length_set, List.getElem?_set]
  by_cases c : i ∈ vs ∧ i < σ.length
  · rw [if_pos c, if_pos c]
  · rw [if_neg c, if_neg c]
    by_cases e : j = i
    · subst e
      rw [if_pos rfl]
      have : ¬ j < σ.length := fun z => c ⟨h, z⟩
      rw [if_neg this]
      simp at this
      exact (List.getElem?_eq_none this).symm
    · rw [if_neg e]
theorem wipe_wipe (σ : L2.St) (vs : List Nat) : wipe (wipe σ vs) vs = wipe σ vs := by
  apply List.ext_getElem?
  intro i
  rw [wipe_get, wipe_get, wipe_len]
  by_cases c : i ∈ vs ∧ i < σ.length
  · rw [if_pos c, if_pos c]
  · rw [if_neg c]
theorem Sl.wipe {K : PySem.W.Frag} {σ : L2.St} {G : Hp} {env : Env} (h : Sl K σ G env) (vs : List Nat) : Sl K (L2.wipe σ vs) G (wipeE env vs) := by
  refine ⟨by rw [wipe_len, wipeE_len, h.len], fun i d q => ?_⟩
  rw [wipeE_get] at q
  rw [wipe_get]
  by_cases c : i ∈ vs ∧ i < env.length
  · rw [if_pos c] at q; cases q
  · rw [if_neg c] at q
    rw [if_neg (by rw [h.len]; exact c)]
    exact h.get i d q
/-- a comprehension's target: its own names alone -/
def Wgv (K : PySem.W.Frag) (g : TG) (vs : List Nat) (d : D) (env env' : Env) : Prop :=
  ∀ w G σ H (F : Hp → Prop) x (R : L2.St → Hp → Prop), Ok K w G σ H env F → Rep K G x d → (∀ σ', wipe σ' vs = wipe σ vs → Ok K w G σ' H env' F → R σ' H) → g x σ H R
def Wgvs (K : PySem.W.Frag) (g : TGs) (vs : List Nat) (ds : List D) (env env' : Env) : Prop :=
  ∀ w G σ H (F : Hp → Prop) xs (R : L2.St → Hp → Prop), Ok K w G σ H env F → Reps K G xs ds → (∀ σ', wipe σ' vs = wipe σ vs → Ok K w G σ' H env' F → R σ' H) → g xs σ H R
section
variable {K : PySem.W.Frag} {w : Wd} {env : Env} {Q : Wd → D → Prop} {ta tb te tl : TE} {tt t u : TT} {as : TA} {Z : DEnds} {ts tu tw : TS} {vs : List Nat}
theorem wgv_name {i : Nat} {d : D} (h : i ∈ vs) : Wgv K (gName i) vs d env (env.set i (some d)) := fun w G σ H F x R o r c => c _ (wipe_set h) (o.se (o.sl.set r i))
theorem wgvs_nil : Wgvs K gNil vs [] env env := fun w G σ H F xs R o r c => by
  cases r
  exact ⟨rfl, c σ rfl o⟩
theorem wgvs_cons {g : TG} {gs : TGs} {d : D} {ds : List D} {e1 e2 : Env} (h : Wgv K g vs d env e1) (hs : Wgvs K gs vs ds e1 e2) : Wgvs K (gCons g gs) vs (d :: ds) env e2 := fun w G σ H F xs R o r c => by
  cases r with
  | cons r1 r2 =>
    rename_i v ws
    refine ⟨v, ws, rfl, h w G σ H (fun G => F G ∧ Reps K G ws ds) v _ (o.push (stab_reps _ _) r2) r1 fun σ1 e1 o1 => ?_⟩
    exact hs w G σ1 H F ws _ (o1.as o.st o1.f.1) o1.f.2 fun σ2 e2 o2 => c σ2 (e2.trans e1) o2
theorem wgv_tup {n : Nat} {gs : TGs} {ds : List D} {e2 : Env} (hn : ds.length = n) (hs : Wgvs K gs vs ds env e2) : Wgv K (gTup K n gs) vs (.tup ds) env e2 := fun w G σ H F x R o r c => by
  obtain ⟨a, ws, rfl, h1, h2⟩ := rep_tup r
  exact ⟨a, ws, rfl, ex_t o.sub h1, h2.length.trans hn, hs w G σ H F ws R o h2 c⟩
theorem wt_yes {T : Wd → Bool → Prop} (h : T w true) : Wt K tYes w env T := fun G σ H R F o c => c w true G H h o
theorem stab_sl (σ : L2.St) (env : Env) : Stab (fun G => Sl K σ G env) := fun _ _ e h => h.mono e
theorem wp_lc {wi : TI} {g : TG} (h : Wi K wi w env fun w1 ds => ds.length < 100000 ∧ ∃ Iv : Nat → Wd → List D → Prop, Iv 0 w1 [] ∧
      (∀ i w2 acc x p, ds[i]? = some x → Iv i w2 acc → p ∉ w2.M → ∃ e3, Wgv K g vs x (wipeE env vs) e3 ∧
        Wt K tt (w2.own K [(p, .lst acc)]) e3 fun w3 b => ∃ w4, w3 = w4.own K [(p, .lst acc)] ∧ if b = true then Wp K te (w4.own K [(p, .lst acc)]) e3 (fun w5 d => ∃ w6, w5 = w6.own K [(p, .lst acc)] ∧ Iv (i + 1) w6 (acc ++ [d])) else Iv (i + 1) w4 acc) ∧
      ∀ w2 acc, Iv ds.length w2 acc → Q w2 (.lst acc)) : Wp K (tLc wi g tt te vs) w env Q := fun G σ H R F o c =>
  h G σ H _ F o fun w1 G1 H1 ds J Fi q o1 jo p hp => by
    obtain ⟨hn, Iv, i0, it, iz⟩ := q
    have sF : Stab (fun G => (F G ∧ Sl K σ G env) ∧ Fi G) := stab_and (stab_and o.st (stab_sl _ _)) jo.st
    have o0 : Ok K (w1.own K [(p, .lst [])]) G1 σ (upd H1 p (.lst [])) env (fun G => F G ∧ Fi G) := Ok.own o1 hp ⟨[], upd_same, .nil⟩
    refine ⟨fun i m H' => m = ds.length - i ∧ i ≤ ds.length ∧ ∃ w2 acc G2, Iv i w2 acc ∧ acc.length ≤ i ∧ Ok K (w2.own K [(p, .lst acc)]) G2 (wipe σ vs) H' (wipeE env vs) (fun G => (F G ∧ Sl K σ G env) ∧ Fi G),
      ⟨ds.length, by simp, Nat.zero_le _, w1, [], G1, i0, Nat.le_refl _, (o0.as sF ⟨⟨o0.f.1, o0.sl⟩, o0.f.2⟩).se (o0.sl.wipe vs)⟩, ?_⟩
    rintro i m H' ⟨rfl, hi, w2, acc, G2, iv, hacc, o2⟩
    by_cases hlt : i < ds.length
    · refine .inr ⟨jo.go G2 H' i o2.f.2 o2.sub hlt, fun H3 => ∃ w2 acc G2, Iv (i + 1) w2 acc ∧ acc.length ≤ i + 1 ∧ Ok K (w2.own K [(p, .lst acc)]) G2 (wipe σ vs) H3 (wipeE env vs) (fun G => (F G ∧ Sl K σ G env) ∧ Fi G), fun H3 z => ⟨ds.length - (i + 1), by omega, rfl, hlt, z⟩, fun x H3 y => ?_⟩
      obtain ⟨d, G3, hd, sm, o3, r⟩ := o2.yld jo hlt y
      obtain ⟨e3, g3, b3⟩ := it i w2 acc d p hd iv (o2.i.2.1.2 p (List.mem_singleton.mpr rfl))
      refine g3 _ G3 _ H3 _ x _ o3 r fun σ4 ew o4 => ⟨ew.trans (wipe_wipe σ vs), ?_⟩
      refine b3 G3 σ4 H3 _ _ o4 fun w5 b G5 H5 q5 o5 => ?_
      obtain ⟨w4, rfl, q5⟩ := q5
      cases b with
      | false => exact ⟨w4, acc, G5, q5, by omega, o5.se (o5.f.1.2.wipe vs)⟩
      | true =>
        refine q5 G5 σ4 H5 _ _ o5 fun w6 v G6 H6 d6 q6 o6 => ?_
        obtain ⟨w7, rfl, q6⟩ := q6
        obtain ⟨us, hu, ru⟩ := o6.i.2.2 (p, .lst acc) (List.mem_singleton.mpr rfl)
        refine ⟨us, hu, by rw [ru.length]; exact Nat.lt_of_lt_of_le (by omega : acc.length < 100000) (by decide), w7, acc ++ [d6], G6, q6, by simp; exact hacc, ?_⟩
        have o7 := Ok.mod (k := 0) (o := .lst (us ++ [v])) (d' := .lst (acc ++ [d6])) o6 rfl ⟨us ++ [v], upd_same, ru.append (.cons o6.f.2 .nil)⟩
        exact (o7.as sF o7.f.1).se (o7.f.1.1.2.wipe vs)
    · have e : i = ds.length := by omega
      subst e
      obtain ⟨G3, sm, o3⟩ := o2.still
      exact .inl ⟨jo.stop G2 H' o2.f.2 o2.sub, c w2 (.ref p) G3 H' (.lst acc) (iz w2 acc iv) ((o3.se o3.f.1.1.2).as (stab_and o.st (stab_rep _ _)) ⟨o3.f.1.1.1, o3.f.2⟩)⟩
/-- a comprehension whose parts are functions of the item -/
theorem wp_lcM {wi : TI} {g : TG} {f : D → D} {cc : D → Bool} (h : Wi K wi w env fun w1 ds => ds.length < 100000 ∧
      (∀ x ∈ ds, ∃ e3, Wgv K g vs x (wipeE env vs) e3 ∧ ∀ w2, w1.le w2 → Wt K tt w2 e3 fun w3 b => w3 = w2 ∧ b = cc x ∧ (b = true → Wp K te w2 e3 fun w4 d => w4 = w2 ∧ d = f x)) ∧
      Q w1 (.lst ((ds.filter cc).map f))) : Wp K (tLc wi g tt te vs) w env Q :=
  wp_lc fun G σ H R F o c => h G σ H R F o fun w1 G1 H1 ds J Fi q o1 jo => c w1 G1 H1 ds J Fi (by
    refine ⟨q.1, fun i w2 acc => w2 = w1 ∧ acc = ((ds.take i).filter cc).map f, by simp, fun i w2 acc x p hx iv hp => ?_, fun w2 acc iv => ?_⟩
    · obtain ⟨e3, g3, b3⟩ := q.2.1 x (List.mem_of_getElem? hx)
      obtain ⟨rfl, iv⟩ := iv
      refine ⟨e3, g3, fun G σ H R F o c => b3 _ (w2.le_own _) G σ H R F o fun w3 b G3 H3 q3 o3 => c w3 b G3 H3 ?_ o3⟩
      obtain ⟨rfl, rfl, q3⟩ := q3
      refine ⟨w2, rfl, ?_⟩
      have et : ds.take (i + 1) = ds.take i ++ [x] := by
        rw [List.take_succ, hx]; rfl
      by_cases cx : cc x = true
      · rw [if_pos cx]
        refine (q3 cx).imp fun w4 d q4 => ⟨w2, q4.1, rfl, ?_⟩
        rw [et, List.filter_append, List.map_append, iv, q4.2]
        simp [cx]
      · rw [if_neg cx]
        have cx' : cc x = false := by simpa using cx
        refine ⟨rfl, ?_⟩
        rw [et, List.filter_append, List.map_append, iv]
        simp [cx']
    · obtain ⟨rfl, iv⟩ := iv
      rw [iv, List.take_length]
      exact q.2.2) o1 jo
/-! ### lists of one's own -/
theorem own_at {G H : Hp} {L : Own} {k : Nat} {p : Addr} {d : D} (i : (w.own K L).I G H) (h : L[k]? = some (p, d)) : At K G H p d := i.2.2 (p, d) (List.mem_of_getElem? h)
theorem rep_raw {G : Hp} {x v : V} (r : Rep K G x (.raw v)) : x = v := by
  cases r; rfl
/-- xs.append(e) -/
theorem es_append {L : Own} {i k : Nat} {p : Addr} {ds : List D} (hi : env[i]? = some (some (.raw (.ref p)))) (hL : L[k]? = some (p, .lst ds))
    (h : Wp K te (w.own K L) env fun w1 d => ∃ w' L' ds', w1 = Wd.own K w' L' ∧ L'[k]? = some (p, .lst ds') ∧ ds'.length < 100000 ∧ Z.nx (w'.own K (L'.set k (p, .lst (ds' ++ [d])))) env) :
    Es K (tDrop (tBM K "list" rAppend (tVar i) (tCons te tNil))) (w.own K L) env Z := fun G σ H De F o c1 c2 c3 c4 => by
  obtain ⟨v, e, r⟩ := o.sl.get i _ hi
  cases rep_raw r
  obtain ⟨us, hu, _⟩ := own_at o.i hL
  refine ⟨.ref p, e, .inl ⟨rfl, us, SqL.of hu⟩, h G σ H _ F o fun w1 v G1 H1 d q o1 => ?_⟩
  obtain ⟨w', L', ds', rfl, hL', hn, q⟩ := q
  obtain ⟨us, hu, ru⟩ := own_at o1.i hL'
  refine ⟨p, us, v, rfl, rfl, hu, by rw [ru.length]; exact Nat.lt_of_lt_of_le hn (by decide), ?_⟩
  have o2 := Ok.mod (o := .lst (us ++ [v])) (d' := .lst (ds' ++ [d])) o1 hL' ⟨us ++ [v], upd_same, ru.append (.cons o1.f.2 .nil)⟩
  exact c1 _ G1 σ _ env q (ok_drop o2 o.st)
/-- xs.pop(e) -/
theorem wp_popAt {L : Own} {i k : Nat} {p : Addr} {ds : List D} (hi : env[i]? = some (some (.raw (.ref p)))) (hL : L[k]? = some (p, .lst ds))
    (h : Wp K te (w.own K L) env fun w1 d => ∃ (w' : Wd) (L' : Own) (ds' : List D) (n : Nat) (x : D), w1 = w'.own K L' ∧ d = .int (n : Int) ∧ L'[k]? = some (p, .lst ds') ∧ ds'[n]? = some x ∧ n < 100000 ∧ Q (w'.own K (L'.set k (p, .lst (ds'.eraseIdx n)))) x) :
    Wp K (tBM K "list" rPopAt (tVar i) (tCons te tNil)) (w.own K L) env Q := fun G σ H R F o c => by
  obtain ⟨v, e, r⟩ := o.sl.get i _ hi
  cases rep_raw r
  obtain ⟨us, hu, _⟩ := own_at o.i hL
  refine ⟨.ref p, e, .inl ⟨rfl, us, SqL.of hu⟩, h G σ H _ F o fun w1 v G1 H1 d q o1 => ?_⟩
  obtain ⟨w', L', ds', n, x, rfl, rfl, hL', hx, hn, q⟩ := q
  obtain ⟨us, hu, ru⟩ := own_at o1.i hL'
  obtain ⟨y, hy, ry⟩ := ru.get hx
  have rn := o1.f.2
  cases rn
  have hlt : n < us.length := (List.getElem?_eq_some_iff.mp hy).1
  refine ⟨p, us, n, n, y, rfl, rfl, hu, by omega, by omega, ?_, hy, ?_⟩
  · unfold seqIndex?
    simp only []
    rw [if_neg (by omega : ¬ (n : Int) < 0)]
    have : (decide (0 ≤ (n : Int)) && decide ((n : Int) < us.length)) = true := by simp; exact hlt
    rw [if_pos this]
    simp
  · have o2 := Ok.mod (o := .lst (us.eraseIdx n)) (d' := .lst (ds'.eraseIdx n)) o1 hL' ⟨us.eraseIdx n, upd_same, ru.eraseIdx n⟩
    exact c _ y G1 _ x q ((ok_drop o2 o.st).push (stab_rep _ _) ry)
/-- one's own objects become still, all at once -/
theorem Ok.stills {G : Hp} {σ : L2.St} {H : Hp} {F : Hp → Prop} {L : Own} (k : Ok K (w.own K L) G σ H env F) : ∃ G', Sm G G' ∧ Ok K w G' σ H env (fun G => F G ∧ ∀ x ∈ L, Rep K G (.ref x.1) x.2) := by
  let G' : Hp := fun a => if a ∈ L.as then H a else G a
  have hG : ∀ a, a ∈ L.as → G a = none := fun a ha => by
    cases e : G a with
    | none => rfl
    | some o => exact absurd (List.mem_append_left _ ha) (k.nm a (by rw [e]; exact fun z => nomatch z))
  have e : Sm G G' := fun a o q => by
    have : a ∉ L.as := fun z => by rw [hG a z] at q; cases q
    exact ⟨o, by show (if a ∈ L.as then H a else G a) = _; rw [if_neg this]; exact q, rfl⟩
  refine ⟨G', e, k.sl.mono e, fun b hb z => ?_, fun b u q => ?_, w.mono _ _ _ k.i.1 e, stab_and k.st (fun _ _ e h x hx => (h x hx).mono e), ⟨k.st _ _ e k.f, fun x hx => ?_⟩⟩
  · by_cases c : b ∈ L.as
    · exact k.i.2.1.2 b c z
    · have hb' : (if b ∈ L.as then H b else G b) ≠ none := hb
      rw [if_neg c] at hb'
      exact k.nm b hb' (List.mem_append_right _ z)
  · have q' : (if b ∈ L.as then H b else G b) = some u := q
    by_cases c : b ∈ L.as
    · rw [if_pos c] at q'
      exact ⟨u, q', rfl⟩
    · rw [if_neg c] at q'
      exact k.sub b u q'
  · have hx' : x.1 ∈ L.as := List.mem_map.mpr ⟨x, hx, rfl⟩
    exact (k.i.2.2 x hx).rep e (by show (if x.1 ∈ L.as then H x.1 else G x.1) = _; rw [if_pos hx'])
/-- the own object that a name holds, still from now on (as all of them) -/
theorem wp_stillV {L : Own} {i k : Nat} {p : Addr} {d : D} (hi : env[i]? = some (some (.raw (.ref p)))) (hL : L[k]? = some (p, d)) (q : Q w d) : Wp K (tVar i) (w.own K L) env Q := fun G σ H R F o c => by
  obtain ⟨v, e, r⟩ := o.sl.get i _ hi
  cases rep_raw r
  obtain ⟨G', sm, o'⟩ := o.stills
  exact ⟨.ref p, e, c w (.ref p) G' H d q ((ok_drop o' o.st).push (stab_rep _ _) (o'.f.2 (p, d) (List.mem_of_getElem? hL)))⟩
end
end EL

set_option Elab.async false
set_option linter.all false
set_option maxRecDepth 100000
set_option maxHeartbeats 4000000
namespace EL
open PySem PySem.Spec PyProof.Rows L2
mutual
/-- as plain data of the library -/
def py : D → PyData
  | .bl b => .bool b
  | .int i => .int i
  | .str x => .str x
  | .lst xs => .list (pys xs)
  | .tup xs => .tuple (pys xs)
  | _ => .none
def pys : List D → List PyData
  | [] => []
  | x :: xs => py x :: pys xs
end
mutual
/-- no dict, no object lies within -/
def pl : D → Bool
  | .non => true
  | .bl _ => true
  | .int _ => true
  | .str _ => true
  | .lst xs => pls xs
  | .tup xs => pls xs
  | _ => false
def pls : List D → Bool
  | [] => true
  | x :: xs => pl x && pls xs
end
theorem pys_map : ∀ xs : List D, pys xs = xs.map py
  | [] => by simp [pys]
  | x :: xs => by simp [pys, pys_map xs]
theorem pls_all : ∀ xs : List D, pls xs = xs.all pl
  | [] => by simp [pls]
  | x :: xs => by simp [pls, pls_all xs]
mutual
theorem Rep.dp {K : PySem.W.Frag} {G : Hp} : ∀ {v : V} {d : D}, Rep K G v d → pl d = true → Dp K G v (py d)
  | _, _, .non, _ => by unfold py; exact .non
  | _, _, .bl b, _ => by unfold py; exact .bl b
  | _, _, .int i, _ => by unfold py; exact .int i
  | _, _, .str x, _ => by unfold py; exact .str x
  | _, _, .lst h r, p => by unfold py; unfold pl at p; exact .lst (.inl h) (Reps.dp r p)
  | _, _, .tup h r, p => by unfold py; unfold pl at p; exact .tup h (Reps.dp r p)
  | _, _, .dK _ _ _, p => by unfold pl at p; cases p
  | _, _, .dT _ _ _, p => by unfold pl at p; cases p
  | _, _, .obj _ _ _, p => by unfold pl at p; cases p
  | _, _, .raw _, p => by unfold pl at p; cases p
theorem Reps.dp {K : PySem.W.Frag} {G : Hp} : ∀ {vs : List V} {ds : List D}, Reps K G vs ds → pls ds = true → DpAll K G vs (pys ds)
  | _, _, .nil, _ => by unfold pys; exact .nil
  | _, _, .cons r t, p => by
    unfold pls at p
    rw [Bool.and_eq_true] at p
    unfold pys
    exact .cons (Rep.dp r p.1) (Reps.dp t p.2)
end
mutual
theorem dp_mono {K : PySem.W.Frag} {G G' : Hp} (e : Sm G G') : ∀ {v : V} {d : PyData}, Dp K G v d → Dp K G' v d
  | _, _, .non => .non
  | _, _, .bl b => .bl b
  | _, _, .int i => .int i
  | _, _, .str x => .str x
  | _, _, .lst h r => .lst (ex_l e h) (dps_mono e r)
  | _, _, .tup h r => .tup (ex_t e h) (dps_mono e r)
theorem dps_mono {K : PySem.W.Frag} {G G' : Hp} (e : Sm G G') : ∀ {v : List V} {d : List PyData}, DpAll K G v d → DpAll K G' v d
  | _, _, .nil => .nil
  | _, _, .cons h r => .cons (dp_mono e h) (dps_mono e r)
end
mutual
theorem dp_plain {K : PySem.W.Frag} {H : Hp} : ∀ {v : V} {d : PyData}, Dp K H v d → d.plain = true
  | _, _, .non => rfl
  | _, _, .bl _ => rfl
  | _, _, .int _ => rfl
  | _, _, .str _ => rfl
  | _, _, .lst _ r => by simp only [PyData.plain]; exact dps_plain r
  | _, _, .tup _ r => by simp only [PyData.plain]; exact dps_plain r
theorem dps_plain {K : PySem.W.Frag} {H : Hp} : ∀ {v : List V} {d : List PyData}, DpAll K H v d → PyData.plainAll d = true
  | _, _, .nil => rfl
  | _, _, .cons h r => by simp only [PyData.plainAll, dp_plain h, dps_plain r, Bool.and_self]
end
/-- ==, !=, in, not in over data of any texts -/
def rEqP (K : PySem.W.Frag) (neg : Bool) : R2 := fun x y H Q => ∃ d e, Dp K H x d ∧ Dp K H y e ∧ d.depth ≤ 50 ∧ Q (.bl (if neg then !PyData.eqv d e else PyData.eqv d e)) H
def rInP (K : PySem.W.Frag) (neg : Bool) : R2 := fun x y H Q => ∃ d ds, Dp K H x d ∧ (Dp K H y (.list ds) ∨ Dp K H y (.tuple ds)) ∧ d.depth ≤ 50 ∧ Q (.bl (if neg then !(ds.any fun z => PyData.eqv z d) else ds.any fun z => PyData.eqv z d)) H
section
variable {X : Cx}
theorem op_eqP (hu : X.A.units + 64 < cLine) : OpR X (compareOp .Eq) (rEqP X.K false) := by
  intro pins s σ H x y v u Q I rx ry ⟨d, e, hd, he, dd, q⟩
  obtain ⟨as, r1⟩ := Dp.reads I d x v hd rx
  obtain ⟨bs, r2⟩ := Dp.reads I e y u he ry
  exact SeqAt.eq_plain r1 r2 (dp_plain hd) (dp_plain he) (by omega) ⟨.bl _, H, I, rfl, q⟩
theorem op_neP (hu : X.A.units + 64 < cLine) : OpR X (compareOp .NotEq) (rEqP X.K true) := by
  intro pins s σ H x y v u Q I rx ry ⟨d, e, hd, he, dd, q⟩
  obtain ⟨as, r1⟩ := Dp.reads I d x v hd rx
  obtain ⟨bs, r2⟩ := Dp.reads I e y u he ry
  exact SeqAt.ne_plain r1 r2 (dp_plain hd) (dp_plain he) (by omega) ⟨.bl _, H, I, rfl, q⟩
theorem op_inP (hu : X.A.units + 64 < cLine) : OpR X (compareOp .In) (rInP X.K false) := by
  intro pins s σ H x y v u Q I rx ry ⟨d, ds, hd, he, dd, q⟩
  obtain ⟨as, r1⟩ := Dp.reads I d x v hd rx
  rcases he with he | he
  · obtain ⟨bs, r2⟩ := Dp.reads I _ y u he ry
    have hp : PyData.plainAll ds = true := by have := dp_plain he; simpa only [PyData.plain] using this
    exact SeqAt.in_list_data r2 r1 hp (dp_plain hd) (by omega) ⟨.bl _, H, I, rfl, q⟩
  · obtain ⟨bs, r2⟩ := Dp.reads I _ y u he ry
    have hp : PyData.plainAll ds = true := by have := dp_plain he; simpa only [PyData.plain] using this
    exact SeqAt.in_tuple_data r2 r1 hp (dp_plain hd) (by omega) ⟨.bl _, H, I, rfl, q⟩
theorem op_niP (hu : X.A.units + 64 < cLine) : OpR X (compareOp .NotIn) (rInP X.K true) := by
  intro pins s σ H x y v u Q I rx ry ⟨d, ds, hd, he, dd, q⟩
  obtain ⟨as, r1⟩ := Dp.reads I d x v hd rx
  rcases he with he | he
  · obtain ⟨bs, r2⟩ := Dp.reads I _ y u he ry
    have hp : PyData.plainAll ds = true := by have := dp_plain he; simpa only [PyData.plain] using this
    exact SeqAt.notIn_list_data r2 r1 hp (dp_plain hd) (by omega) ⟨.bl _, H, I, rfl, q⟩
  · obtain ⟨bs, r2⟩ := Dp.reads I _ y u he ry
    have hp : PyData.plainAll ds = true := by have := dp_plain he; simpa only [PyData.plain] using this
    exact SeqAt.notIn_tuple_data r2 r1 hp (dp_plain hd) (by omega) ⟨.bl _, H, I, rfl, q⟩
end
section
variable {K : PySem.W.Frag} {w : Wd} {env : Env} {Q : Wd → D → Prop} {ta tb te tl : TE} {tt t u : TT} {as : TA} {Z : DEnds} {ts tu tw : TS}
def eqD (a b : D) : Bool := PyData.eqv (py a) (py b)
theorem w2_eqP {a b : D} (ha : pl a = true) (hb : pl b = true) (hd : (py a).depth ≤ 50) (q : Q w (.bl (eqD a b))) : W2 K (rEqP K false) w a b Q := fun G σ H env R F x y o rx ry c =>
  ⟨_, _, dp_mono o.sub (rx.dp ha), dp_mono o.sub (ry.dp hb), hd, c w _ G H _ q (o.push (stab_rep _ _) (.bl _))⟩
theorem w2_neP {a b : D} (ha : pl a = true) (hb : pl b = true) (hd : (py a).depth ≤ 50) (q : Q w (.bl (!eqD a b))) : W2 K (rEqP K true) w a b Q := fun G σ H env R F x y o rx ry c =>
  ⟨_, _, dp_mono o.sub (rx.dp ha), dp_mono o.sub (ry.dp hb), hd, c w _ G H _ q (o.push (stab_rep _ _) (.bl _))⟩
theorem any_pys (a : D) (ds : List D) : (pys ds).any (fun z => PyData.eqv z (py a)) = ds.any fun z => eqD z a := by rw [pys_map, List.any_map]; rfl
theorem dp_seq {H : Hp} {v : V} {d : D} {ds : List D} (h : d = .lst ds ∨ d = .tup ds) (r : Dp K H v (py d)) : Dp K H v (.list (pys ds)) ∨ Dp K H v (.tuple (pys ds)) := by
  rcases h with rfl | rfl
  · unfold py at r; exact .inl r
  · unfold py at r; exact .inr r
theorem w2_inP {a b : D} {ds : List D} (h : b = .lst ds ∨ b = .tup ds) (ha : pl a = true) (hb : pl b = true) (hd : (py a).depth ≤ 50) (q : Q w (.bl (ds.any fun z => eqD z a))) : W2 K (rInP K false) w a b Q := fun G σ H env R F x y o rx ry c =>
  ⟨_, pys ds, dp_mono o.sub (rx.dp ha), dp_seq h (dp_mono o.sub (ry.dp hb)), hd, c w _ G H _ q (o.push (stab_rep _ _) (by rw [any_pys]; exact .bl _))⟩
theorem w2_niP {a b : D} {ds : List D} (h : b = .lst ds ∨ b = .tup ds) (ha : pl a = true) (hb : pl b = true) (hd : (py a).depth ≤ 50) (q : Q w (.bl (!ds.any fun z => eqD z a))) : W2 K (rInP K true) w a b Q := fun G σ H env R F x y o rx ry c =>
  ⟨_, pys ds, dp_mono o.sub (rx.dp ha), dp_seq h (dp_mono o.sub (ry.dp hb)), hd, c w _ G H _ q (o.push (stab_rep _ _) (by rw [any_pys]; exact .bl _))⟩
/-! ### built-ins on lists and tuples -/
theorem wb_len {d : D} {ds : List D} (h : d = .lst ds ∨ d = .tup ds) (q : Q w (.int ds.length)) : Wb K (fun xs H Q => ∃ p ys, xs = [.ref p] ∧ (SqL K H p ys ∨ SqT K H p ys) ∧ Q (.int ys.length) H) w [d] Q := fun G σ H env R F xs o r c => by
  match xs, r with
  | [x], .cons rx .nil =>
    rcases h with rfl | rfl
    · obtain ⟨a, vs, rfl, h1, h2⟩ := rep_lst rx
      refine ⟨a, vs, rfl, .inl (ex_l o.sub h1), c w _ G H _ q (o.push (stab_rep _ _) ?_)⟩
      rw [h2.length]; exact .int _
    · obtain ⟨a, vs, rfl, h1, h2⟩ := rep_tup rx
      refine ⟨a, vs, rfl, .inr (ex_t o.sub h1), c w _ G H _ q (o.push (stab_rep _ _) ?_)⟩
      rw [h2.length]; exact .int _
def bools : List D → List Bool
  | [] => []
  | .bl b :: r => b :: bools r
  | _ :: r => bools r
theorem reps_bls {G : Hp} : ∀ {bs : List Bool} {vs : List V}, Reps K G vs (bs.map D.bl) → vs = bs.map V.bl
  | [], _, .nil => rfl
  | b :: bs, _, .cons r t => by
    cases r
    rw [reps_bls t]; rfl
theorem reps_ints {G : Hp} : ∀ {bs : List Int} {vs : List V}, Reps K G vs (bs.map D.int) → vs = bs.map V.int
  | [], _, .nil => rfl
  | b :: bs, _, .cons r t => by
    cases r
    rw [reps_ints t]; rfl
theorem reps_strs {G : Hp} : ∀ {bs : List Str} {vs : List V}, Reps K G vs (bs.map D.str) → vs = bs.map V.str
  | [], _, .nil => rfl
  | b :: bs, _, .cons r t => by
    cases r
    rw [reps_strs t]; rfl
theorem strs_reps {G : Hp} : ∀ (bs : List Str), Reps K G (bs.map V.str) (bs.map D.str)
  | [] => .nil
  | b :: bs => .cons (.str b) (strs_reps bs)
theorem ints_reps {G : Hp} : ∀ (bs : List Int), Reps K G (bs.map V.int) (bs.map D.int)
  | [] => .nil
  | b :: bs => .cons (.int b) (ints_reps bs)
theorem wb_all {bs : List Bool} (q : Q w (.bl (bs.all id))) : Wb K (rAll K) w [.lst (bs.map D.bl)] Q := fun G σ H env R F xs o r c => by
  match xs, r with
  | [x], .cons rx .nil =>
    obtain ⟨a, vs, rfl, h1, h2⟩ := rep_lst rx
    rw [reps_bls h2] at h1
    exact ⟨a, bs, rfl, ex_l o.sub h1, c w _ G H _ q (o.push (stab_rep _ _) (.bl _))⟩
theorem wb_any {bs : List Bool} (q : Q w (.bl (bs.any id))) : Wb K (rAny K) w [.lst (bs.map D.bl)] Q := fun G σ H env R F xs o r c => by
  match xs, r with
  | [x], .cons rx .nil =>
    obtain ⟨a, vs, rfl, h1, h2⟩ := rep_lst rx
    rw [reps_bls h2] at h1
    exact ⟨a, bs, rfl, ex_l o.sub h1, c w _ G H _ q (o.push (stab_rep _ _) (.bl _))⟩
end
end EL

set_option Elab.async false
set_option linter.all false
set_option maxRecDepth 100000
set_option maxHeartbeats 4000000
namespace EL
open PySem PySem.Spec PyProof.Rows L2
/-! ### defs by their names -/
def Def (P : Program) (W : World) (K : PySem.W.Frag) (mg : Str → Option Value) (base : Heap) (nm : Str) (k : Nat) (ps : List Str) (sp : Sp) : Prop :=
  ∃ (f : Addr) (fd : FuncData), mg nm = some (.ref f) ∧ PySem.W.keepIn K (.ref f) = true ∧ Binds K fd ps [] ∧ FnOk P W K mg base CX0 k f fd ps sp
/-- where a def stands -/
def DefAt (K : PySem.W.Frag) (mg : Str → Option Value) (nm : Str) (st : Stmt) (ps : List Str) : Prop :=
  ∃ (f : Addr) (fd : FuncData), mg nm = some (.ref f) ∧ Fun K nm nm st f fd ∧ Binds K fd ps []
theorem pe_callD {X : Cx} {k k' : Nat} {nm : Str} {ps : List Str} {sp : Sp} {p pos : Pos} {e : Expr} {es : List Expr} {t : TA} (d : Def X.prog X.w X.K X.mg X.base nm k ps sp) (hr : Room k' X.A) (hk : k ≤ k') (hg : Gl X nm) (ha : PA X (e :: es) t)
    (hdb : (nm == ("__debug__" : Str)) = false := by decide) (he : starEach (e :: es) X.env = (false, eval e X.env) :: starEach es X.env := by rfl) (hpl : (backTo pos (starEach es X.env)).any (·.1) = false := by rfl) :
    PE X (.Call (.Name nm p) (e :: es) [] pos) (tCall sp [] E0 t) := by
  obtain ⟨f, fd, hm, kp, b, F⟩ := d
  exact pe_call F (hr.mono hk) hg hm kp b .nil pass0 ha hdb he hpl
theorem pe_callD0 {X : Cx} {k k' : Nat} {nm : Str} {ps : List Str} {sp : Sp} {p pos : Pos} (d : Def X.prog X.w X.K X.mg X.base nm k ps sp) (hr : Room k' X.A) (hk : k ≤ k') (hg : Gl X nm)
    (hdb : (nm == ("__debug__" : Str)) = false := by decide) : PE X (.Call (.Name nm p) [] [] pos) (tCall sp [] E0 tNil) := by
  obtain ⟨f, fd, hm, kp, b, F⟩ := d
  exact pe_call0 F (hr.mono hk) hg hm kp b .nil pass0 hdb
section
variable {P : Program} {W : World} {K : PySem.W.Frag} {mg : Str → Option Value} {base : Heap}
theorem def_ok {nm : Str} {st : Stmt} {N ps : List Str} {k : Nat} {ok : OkF} (F : DefAt K mg nm st ps) (S : FnScope N ps (defScope st)) (hl : ∀ w ds R, ok w ds R → ds.length = ps.length)
    (hs : ∀ w G ds R, ok w ds R → ok (w.since G) ds R)
    (hb : ∀ (f : Addr) (cdv : Value) (A : Around) (outer : List PySem.Env) (s : Shared) (H : Hp) (E : XK), Room k (A.deeper (envOfC nm (defScope st) s.heap.objs.size f cdv)) →
      ∃ t, PSs (cxOf CX0 P W K mg base N nm (defScope st) f cdv A outer s H E).nox (defBody st) t ∧
        ∀ wd ds R, ok wd ds R → Es K t wd (startD N ds) { nx := fun w' _ => wd.le w' ∧ R .non, rt := fun w' d => wd.le w' ∧ R d }) :
    Def P W K mg base nm (k + 1) ps (SpF K ok) := by
  obtain ⟨f, fd, hm, F, b⟩ := F
  exact ⟨f, fd, hm, F.kp, b, fn_ok F S hl hs (fun cdv A outer s H E hr => hb f cdv A outer s H E hr)⟩
end
/-! ### isinstance -/
def tyD : D → Value
  | .non => .type "NoneType"
  | .bl _ => .type "bool"
  | .int _ => .type "int"
  | .str _ => .type "str"
  | .lst _ => .type "list"
  | .tup _ => .type "tuple"
  | .dct _ => .type "dict"
  | .dcT _ => .type "dict"
  | .obj C _ => .ref C
  | .raw _ => .none
def isDct : D → Bool
  | .dct _ => true
  | .dcT _ => true
  | _ => false
def isRaw : D → Bool
  | .raw _ => true
  | _ => false
/-- what isinstance asks of a class of the program -/
structure IsC (K : PySem.W.Frag) (C : Addr) : Prop where
  cl : Cls K C
  ha : PySem.W.findIn K (.ref C) "__class__" = some (some (.builtin "object.__class__"))
  hn : PySem.W.specialIn K (.builtin "object.__class__") "__get__" = some (some (.builtin "getset_descriptor.__get__"))
  htk : PySem.W.takesIn K (.builtin "object.__class__") = some true
  hm : PySem.W.mroIn K C (.type "object") = some true
theorem rep_ty {K : PySem.W.Frag} {G H : Hp} {x : V} {d : D} (r : Rep K G x d) (s : Sm G H) (hw : isRaw d = false) (hc : ∀ C fs, d = .obj C fs → IsC K C) (hd : isDct d = false) : TyX K H x (tyD d) := by
  cases r with
  | non => exact .base .non
  | bl b => exact .base (.bl b)
  | int i => exact .base (.int i)
  | str x => exact .base (.str x)
  | lst h r =>
    rcases ex_rl s h with h | ⟨o, h⟩
    · exact .base (.lst h)
    · exact .base (.frz h)
  | tup h r =>
    rcases ex_t s h with (h | ⟨o, h⟩) | ⟨o, its, n, h1, h2, _⟩
    · exact .base (.tup h)
    · exact .fTuple h
    · exact .kTuple h1 h2
  | dK h k r => cases hd
  | dT h k r => cases hd
  | obj g k r =>
    have z := hc _ _ rfl
    exact .base (.ins (ex_ins s g) z.cl z.ha z.hn z.htk z.hm)
  | raw v => cases hw
/-- isinstance(x, (c1, c2, ..)), the tuple as it may be read -/
def rIsiS (K : PySem.W.Frag) : List V → Hp → VK → Prop := fun xs H Q => ∃ (x : V) (tp : Addr) (cs : List V) (t : Value) (us : List Value) (b : Bool), xs = [x, .ref tp] ∧ SqT K H tp cs ∧ Paired ClsV cs us ∧ TyX K H x t ∧ PySem.W.kitAny K t us = some b ∧ Q (.bl b) H
theorem call_isiS {X : Cx} : CallR X (.builtin "isinstance") (rIsiS X.K) := by
  intro pins s σ H xs us Q I r h
  obtain ⟨x, tp, cs, t, ws, b, rfl, hT, k, ty, e, q⟩ := h
  obtain ⟨u1, u2, rfl, r1, r2⟩ := vals2 r
  cases (show u2 = Value.ref tp from r2)
  obtain ⟨P, Z, p, hx⟩ := kit_of I r1 ty
  obtain ⟨its, rv, ⟨o, h1, h2, n, h3⟩, _⟩ := I.tuple hT
  obtain rfl := ClsV.all k rv
  obtain ⟨oc, od, dt, sl⟩ := o
  simp only at h2 h3
  subst h2 h3
  exact PySem.W.kia_tup Z I.kIn p h1 e hx fun tk => ⟨.bl b, H, I.tok tk, rfl, q⟩
section
variable {K : PySem.W.Frag} {w : Wd} {env : Env} {Q : Wd → D → Prop} {ta tb te tl : TE} {tt t u : TT} {as : TA} {Z : DEnds} {ts tu tw : TS}
theorem wb_isi {d : D} {c : V} {u : Value} {b : Bool} (hc : ClsV c u) (hw : isRaw d = false) (ho : ∀ C fs, d = .obj C fs → IsC K C) (hd : isDct d = false) (hk : PySem.W.kitOne K (tyD d) u = some b) (q : Q w (.bl b)) : Wb K (rIsi K) w [d, .raw c] Q := fun G σ H env R F xs o r k => by
  match xs, r with
  | [x, y], .cons rx (.cons ry .nil) =>
    cases rep_raw ry
    exact ⟨x, c, _, u, b, rfl, hc, rep_ty rx o.sub hw ho hd, hk, k w _ G H _ q (o.push (stab_rep _ _) (.bl _))⟩
theorem reps_raws {G : Hp} : ∀ {cs : List V} {vs : List V}, Reps K G vs (cs.map D.raw) → vs = cs
  | [], _, .nil => rfl
  | b :: bs, _, .cons r t => by
    cases r
    rw [reps_raws t]
theorem wb_isiS {d : D} {cs : List V} {us : List Value} {b : Bool} (hc : Paired ClsV cs us) (hw : isRaw d = false) (ho : ∀ C fs, d = .obj C fs → IsC K C) (hd : isDct d = false) (hk : PySem.W.kitAny K (tyD d) us = some b) (q : Q w (.bl b)) : Wb K (rIsiS K) w [d, .tup (cs.map D.raw)] Q := fun G σ H env R F xs o r k => by
  match xs, r with
  | [x, y], .cons rx (.cons ry .nil) =>
    obtain ⟨a, vs, rfl, h1, h2⟩ := rep_tup ry
    rw [reps_raws h2] at h1
    exact ⟨x, a, cs, _, us, b, rfl, ex_t o.sub h1, hc, rep_ty rx o.sub hw ho hd, hk, k w _ G H _ q (o.push (stab_rep _ _) (.bl _))⟩
end
/-- list, tuple, or another built-in -/
def isSeq : D → Bool
  | .lst _ => true
  | .tup _ => true
  | _ => false
def isStr : D → Bool
  | .str _ => true
  | _ => false
def isInt : D → Bool
  | .int _ => true
  | .bl _ => true
  | _ => false
def isBl : D → Bool
  | .bl _ => true
  | _ => false
def isTup : D → Bool
  | .tup _ => true
  | _ => false
/-- data of built-in types but dicts -/
def isB : D → Bool
  | .obj _ _ => false
  | .raw _ => false
  | .dct _ => false
  | .dcT _ => false
  | _ => true
theorem isB_raw {d : D} (h : isB d = true) : isRaw d = false := by cases d <;> first | rfl | cases h
theorem isB_obj {K : PySem.W.Frag} {d : D} (h : isB d = true) : ∀ C fs, d = .obj C fs → IsC K C := by rintro C fs rfl; cases h
theorem isB_dct {d : D} (h : isB d = true) : isDct d = false := by cases d <;> first | rfl | cases h
theorem kit_str {K : PySem.W.Frag} {d : D} (h : isB d = true) : PySem.W.kitOne K (tyD d) (.type "str") = some (isStr d) := by
  cases d <;> first | (cases h; done) | exact kit_ty (r := true) (by decide +kernel) | exact kit_ty (r := false) (by decide +kernel)
theorem kit_int {K : PySem.W.Frag} {d : D} (h : isB d = true) : PySem.W.kitOne K (tyD d) (.type "int") = some (isInt d) := by
  cases d <;> first | (cases h; done) | exact kit_ty (r := true) (by decide +kernel) | exact kit_ty (r := false) (by decide +kernel)
theorem kit_bool {K : PySem.W.Frag} {d : D} (h : isB d = true) : PySem.W.kitOne K (tyD d) (.type "bool") = some (isBl d) := by
  cases d <;> first | (cases h; done) | exact kit_ty (r := true) (by decide +kernel) | exact kit_ty (r := false) (by decide +kernel)
theorem kit_tuple {K : PySem.W.Frag} {d : D} (h : isB d = true) : PySem.W.kitOne K (tyD d) (.type "tuple") = some (isTup d) := by
  cases d <;> first | (cases h; done) | exact kit_ty (r := true) (by decide +kernel) | exact kit_ty (r := false) (by decide +kernel)
theorem kit_lt {K : PySem.W.Frag} {a : String} {b c : Bool} (h : kitB a "list" = some b) (h' : kitB a "tuple" = some c) : PySem.W.kitAny K (.type a) [.type "list", .type "tuple"] = some (b || c) := by
  refine kitAny_cons (kit_ty h) (fun hb => kitAny_cons (kit_ty h') (fun hc => ?_) (fun hc => ?_)) (fun hb => ?_)
  · rw [hb, hc]; rfl
  · rw [hb, hc]; rfl
  · rw [hb]; rfl
theorem kit_seq {K : PySem.W.Frag} {d : D} (h : isB d = true) : PySem.W.kitAny K (tyD d) [.type "list", .type "tuple"] = some (isSeq d) := by
  cases d <;> first | (cases h; done) | exact kit_lt (b := false) (c := false) (by decide +kernel) (by decide +kernel) | exact kit_lt (b := true) (c := false) (by decide +kernel) (by decide +kernel) | exact kit_lt (b := false) (c := true) (by decide +kernel) (by decide +kernel)
end EL

set_option Elab.async false
set_option linter.all false
set_option maxRecDepth 100000
set_option maxHeartbeats 4000000
namespace EL
open PySem PySem.Spec PyProof.Rows L2
/-! ### set(xs) of numbers and texts -/
def hasK (k : Key) (l : List Key) : Bool := l.any fun j => decide (j = k)
theorem hasK_iff {k : Key} {l : List Key} : hasK k l = true ↔ k ∈ l := by
  unfold hasK
  rw [List.any_eq_true]
  exact ⟨fun ⟨x, h, e⟩ => (of_decide_eq_true e) ▸ h, fun h => ⟨k, h, decide_eq_true rfl⟩⟩
/-- how many different ones the first i are -/
def dn (ks : List Key) : Nat → Nat
  | 0 => 0
  | i + 1 => match ks[i]? with
    | some k => if hasK k (ks.take i) = true then dn ks i else dn ks i + 1
    | none => dn ks i
theorem dn_le (ks : List Key) : ∀ i, dn ks i ≤ i
  | 0 => Nat.le_refl _
  | i + 1 => by
    have h := dn_le ks i
    unfold dn
    split
    · split <;> omega
    · omega
theorem dn_nodup {ks : List Key} (h : ks.Nodup) : ∀ i, i ≤ ks.length → dn ks i = i
  | 0, _ => rfl
  | i + 1, hi => by
    have e := dn_nodup h i (Nat.le_of_succ_le hi)
    have hk : ks[i]? = some ks[i] := List.getElem?_eq_getElem hi
    have hn : ¬ ks[i] ∈ ks.take i := by
      intro z'
      obtain ⟨j, hj, ej⟩ := List.mem_iff_getElem.mp z'
      rw [List.length_take] at hj
      rw [List.getElem_take] at ej
      have := (List.getElem_inj h).mp ej
      omega
    unfold dn
    rw [hk]
    simp only [e]
    rw [if_neg (fun z => hn (hasK_iff.mp z))]
theorem dn_lt {ks : List Key} (h : ¬ ks.Nodup) : dn ks ks.length < ks.length := by
  have key : ∀ i, i ≤ ks.length → (dn ks i = i → (ks.take i).Nodup) := by
    intro i
    induction i with
    | zero => intro _ _; simp
    | succ i ih =>
      intro hi e
      have hk : ks[i]? = some ks[i] := List.getElem?_eq_getElem hi
      have l := dn_le ks i
      unfold dn at e
      rw [hk] at e
      simp only at e
      by_cases c : hasK ks[i] (ks.take i) = true
      · rw [if_pos c] at e; omega
      · rw [if_neg c] at e
        have e' : dn ks i = i := by omega
        have q := ih (Nat.le_of_succ_le hi) e'
        rw [List.take_succ, hk]
        rw [List.nodup_append]
        refine ⟨q, by simp, ?_⟩
        intro a ha b hb z
        simp at hb
        subst z
        subst hb
        exact c (hasK_iff.mpr ha)
  have l := dn_le ks ks.length
  rcases Nat.lt_or_ge (dn ks ks.length) ks.length with z | z
  · exact z
  · have q := key ks.length (Nat.le_refl _) (by omega)
    rw [List.take_length] at q
    exact absurd q h
section
variable {prog : Program} {w : World} {A : Around} {R : Result → Shared → Prop} {I : Addr} {fp wr : List Addr} {G : Array GenState → Array GenState → Prop} {n : Nat} {P : Nat → Value → Prop} {St : Nat → Shared → Prop}
/-- the keys taken so far -/
def tk (ks : List Key) (i : Nat) : Key → Bool := fun k => hasK k (ks.take i)
theorem setLoop (W : WalksS prog w A.in1 I fp wr G n P St) (S : Addr) (hS : S ∉ fp) (ks : List Key) (hn : ks.length = n) (hb : n + 1 < scanBound) (hv : ∀ i v, P i v → ∃ k, ks[i]? = some k ∧ RelV (kV k) v) :
    ∀ (m i : Nat) (s : Shared), n - i = m → i ≤ n → St i s → s.heap.SetOf (mixKind prog w) S (tk ks i) (dn ks i) →
      (∀ s', Moved (S :: wr) G s s' → s'.heap.SetOf (mixKind prog w) S (tk ks n) (dn ks n) → R (.ok (.ret .none)) s') → codeAny (model prog w) A (.builtin "set.update.loop" ⟨[.ref S, .ref I], []⟩) R s := by
  have nw : S ∉ wr := fun h => hS (W.sub _ h)
  have up : ∀ b ∈ wr, b ∈ S :: wr := fun b z => List.mem_cons_of_mem _ z
  have keep : ∀ {h h' : Heap} {T : Key → Bool} {c : Nat}, h.SetOf (mixKind prog w) S T c → (∀ o, h.get? S = some o → h'.get? S = some o) → h'.SetOf (mixKind prog w) S T c := fun ⟨o, es, ep, t, ho, r⟩ k => ⟨o, es, ep, t, k o ho, r⟩
  intro m
  induction m with
  | zero =>
    intro i s em hi st hs fin
    obtain rfl : i = n := by omega
    refine codeAny_builtin PyProof.Rows.F.entry_set_update_loop (by
      rw [Around.under_plainId F.plain_set_update_loop _]
      show wpAny _ A.in1 (pyNext (.ref I) >>= _) _ _ s
      exact wpAny_bind (W.done s _ _ st fun s' hm => wpAny_pure (fin s' (hm.mono up) (keep hs fun o e => hm.heap S o nw e))))
  | succ m ih =>
    intro i s em hi st hs fin
    have lt : i < n := by omega
    refine codeAny_builtin PyProof.Rows.F.entry_set_update_loop ?_
    rw [Around.under_plainId F.plain_set_update_loop _]; show wpAny _ A.in1 (pyNext (.ref I) >>= _) _ _ s
    refine wpAny_bind (W.item i s _ _ lt st fun v s' hP st' hm => ?_)
    obtain ⟨k, ek, rk⟩ := hv i v hP
    have hs' := keep (h' := s'.heap) hs fun o e => hm.heap S o nw e
    have is : keyIs k v = true := by
      cases k with
      | inl j => obtain ⟨t, rfl⟩ := rk; exact keyIs_int j t
      | inr x => obtain ⟨t, rfl⟩ := rk; exact keyIs_str x t
    show wpAny _ A.in1 (holding [v] (setAdd S v) >>= _) _ _ s'
    refine wpAny_bind (wpAny_holding ?_); unfold setAdd; refine wpAny_holding ?_
    refine wpAny_bind ((mixKind prog w).pyHash (k := k) is ?_)
    refine wpAny_setAddHashed_of (knd := mixKind prog w) (s := { s' with toks := s'.toks + 1 }) is (key_scan rk) hs' (by have := dn_le ks i; omega) fun h' sb hs2 => ?_
    have nx : h'.SetOf (mixKind prog w) S (tk ks (i + 1)) (dn ks (i + 1)) := by
      have e1 : (fun j => tk ks i j || decide (j = k)) = tk ks (i + 1) := by
        funext j
        unfold tk hasK
        rw [List.take_succ, ek]
        simp only [Option.toList_some, List.any_append, List.any_cons, List.any_nil, Bool.or_false]
        congr 1
        by_cases c : j = k
        · subst c; simp
        · have c' : ¬ k = j := fun z => c z.symm
          simp [c, c']
      have e2 : (if tk ks i k = true then dn ks i else dn ks i + 1) = dn ks (i + 1) := by
        conv => rhs; unfold dn
        rw [ek]
        rfl
      rw [← e1, ← e2]
      exact hs2
    refine wpAny_pure ⟨plainId_quiet F.plain_set_update_loop _, ih (i + 1) _ (by omega) lt (W.frame _ s' _ _ st' (Nat.le_succ _) fun b hb' o e => (sb.2 b (fun z => hS (z ▸ hb'))).trans e) nx fun s'' hm'' hs'' => ?_⟩
    exact fin s'' (Moved.trans W.gtrans ((hm.mono up).then_heap (Nat.le_succ _) fun b o hb' e => (sb.2 b (fun z => hb' (z ▸ List.mem_cons_self))).trans e) hm'') hs''
end
section
variable {prog : Program} {w : World} {A : Around} {E : Value → Shared → Prop} {s : Shared}
abbrev sO (led : Bool) : Obj := { cls := .type "set", dict := none, data := .set #[] 0 (.fresh 0 0 led) }
set_option maxHeartbeats 3200000 in
/-- set(xs), xs a list of numbers and texts -/
theorem call_setK_list {l : Addr} {its : Array Value} {ks : List Key} {Q : Value → Shared → Prop} (hh : A.handled = none) (hl : s.heap.IsList l its) (hk : Vals (ks.map kV) its.toList) (hb : ks.length + 1 < scanBound)
    (h : ∀ (h' : Heap) (tk' : Nat), h'.SetOf (mixKind prog w) s.heap.objs.size (tk ks ks.length) (dn ks ks.length) → (∀ b o, b < s.heap.objs.size → s.heap.get? b = some o → h'.get? b = some o) → Q (.ref s.heap.objs.size) { s with heap := h', toks := tk' }) :
    wpAny (model prog w) A (call (.type "set") [.ref l]) Q E s := by
  obtain ⟨c, tl, hmro⟩ := PySem.F.called_set.mro; have hmade := PySem.F.called_set.made; have hsub := PySem.F.called_set.sub
  refine wpAny_call (codeAny_of_tree ?_); show wpAny _ _ (callAny (.type "set") _) _ _ _
  refine wpAny_pure ⟨Code.quiet_builtin _ (by decide +kernel), codeAny_builtin PySem.F.entry_type_call ?_⟩; rw [Around.under_plain (weight_type_call_type "set" [.ref l] []) rfl]
  have h1 := PySem.F.called_set.notType; have h2 := PySem.F.called_set.canCreate; have hct := PySem.F.typeCall_set_1 (.ref l)
  repeat (any_goals (first | assumption | wp_step))
  refine codeAny_mono (code_set_new_1 (.ref l) (E := E) (Q₁ := fun obj s₁ => ∃ led : Bool, obj = .ref s.heap.objs.size ∧ s₁ = { s with heap := s.heap.push (sO led) }) fun led => ⟨led, rfl, rfl⟩) fun r s₁ hr => ?_
  match r, hr with
  | .error e, hr => exact hr
  | .ok .next, hr => exact hr.elim
  | .ok .brk, hr => exact hr.elim
  | .ok .cont, hr => exact hr.elim
  | .ok (.ret obj), hr =>
    obtain ⟨led, rfl, rfl⟩ := hr
    have gS : (s.heap.push (sO led)).get? s.heap.objs.size = some (sO led) := Heap.get?_push_size _ rfl
    have hT : Shared.TypeIs { s with heap := s.heap.push (sO led) } (.ref s.heap.objs.size) "set" := ⟨_, gS, rfl⟩
    have hli := PySem.F.called_set.init.lookup; have hbi := PySem.F.called_set.init.bind (.ref s.heap.objs.size)
    repeat (any_goals (first | assumption | wp_step))
    refine codeAny_mono (codeAny_call_builtin (R := wants (fun r s₂ => r = .none ∧ ∃ h' tk', s₂ = { s with heap := h', toks := tk' } ∧ h'.SetOf (mixKind prog w) s.heap.objs.size (tk ks ks.length) (dn ks ks.length) ∧ ∀ b o, b < s.heap.objs.size → s.heap.get? b = some o → h'.get? b = some o) E) PySem.F.called_set.init.plain PySem.F.entry_set_init (check_set_init_1 hT ?_)) fun r₂ s₂ hr₂ => ?_
    · obtain ⟨⟨ocls, odict, odata, oslots⟩, hol, hcl, nl, hdl⟩ := hl
      simp only at hcl hdl; subst hcl; subst hdl
      have hol' : (s.heap.push (sO led)).get? l = some { cls := .type "list", dict := odict, data := .seq its nl, slots := oslots } := Heap.get?_push_of_some _ hol
      have hsls := PySem.F.sub_list_set; have hslf := PySem.F.sub_list_frozenset; have hne : (Value.type "list" == Value.type "dict") = false := by decide
      have hl1 : (s.heap.push (sO led)).IsList l its := ⟨_, hol', rfl, nl, rfl⟩
      unfold sO at *
      unfold Builtin.«set.__init__» noKeywords Builtin.Frozenset.updateFrom; generalize hPI : pyIter = PI; wp_walk; subst hPI
      refine wpAny_pyIter_list hl1 (wpAny_bind (wpAny_runValue ?_))
      have ls : l < s.heap.objs.size := Heap.lt_size hol
      have hsz : ks.length = its.size := by have z := hk.length; rw [List.length_map, Array.length_toList] at z; exact z
      refine setLoop ((Walks.list (A := A.in1.in1.in1) (by simp [hh]) _ l (by rw [Heap.size_push]; exact Nat.ne_of_lt (Nat.lt_succ_of_lt ls)) its).toS) s.heap.objs.size (by rw [Heap.size_push]; simp only [List.mem_cons, List.not_mem_nil, or_false, not_or]; exact ⟨Nat.ne_of_lt (Nat.lt_succ_self _), Nat.ne_of_gt ls⟩) ks hsz (by rw [← hsz]; exact hb) (fun i v hv => ?_) (its.size - 0) 0 _ (by omega) (Nat.zero_le _) ⟨⟨_, Heap.get?_push_size _ rfl, rfl, rfl⟩, hl1.push _⟩ ?_ ?_
      · have hv' : its.toList[i]? = some v := by rw [Array.getElem?_toList]; exact hv
        have hi : i < ks.length := by rw [hsz, ← Array.length_toList]; exact (List.getElem?_eq_some_iff.mp hv').1
        obtain ⟨u, hu, ru⟩ := hk.get (i := i) (x := kV ks[i]) (by rw [List.getElem?_map, List.getElem?_eq_getElem hi]; rfl)
        rw [hv'] at hu; cases hu
        exact ⟨ks[i], List.getElem?_eq_getElem hi, ru⟩
      · have e0 : tk ks 0 = fun _ => false := by funext k; simp [tk, hasK]
        show Heap.SetOf (mixKind prog w) _ _ (tk ks 0) 0
        rw [e0]
        letI : BEq Key := instBEqOfDecidableEq
        exact (setObjOf_fresh (knd := mixKind prog w) led).setOf (Heap.get?_push_of_some _ gS) (by unfold scanBound; omega)
      · rintro ⟨h', g', d', tk', os'⟩ hm hS'
        obtain rfl : g' = s.gens := hm.gens
        obtain rfl : d' = s.drawn := hm.drawn
        obtain rfl : os' = s.os := hm.os
        refine wpAny_pure (wpAny_pure ⟨rfl, h', tk', rfl, by rw [hsz]; exact hS', fun b o lt e => hm.heap b o ?_ (Heap.get?_push_of_some _ (Heap.get?_push_of_some _ e))⟩)
        simp only [List.mem_cons, List.not_mem_nil, or_false, not_or, Heap.size_push]; exact ⟨Nat.ne_of_lt lt, Nat.ne_of_lt (Nat.lt_succ_of_lt lt)⟩
    · match r₂, hr₂ with
      | .error e, hr₂ => exact hr₂
      | .ok .next, hr₂ => exact hr₂.elim
      | .ok .brk, hr₂ => exact hr₂.elim
      | .ok .cont, hr₂ => exact hr₂.elim
      | .ok (.ret r), hr₂ =>
        obtain ⟨rfl, h', tk', rfl, hS', hk'⟩ := hr₂
        repeat (any_goals (first | assumption | wp_step))
        exact h _ _ hS' hk'
set_option maxHeartbeats 3200000 in
/-- set(xs), xs a tuple of numbers and texts -/
theorem call_setK_tuple {l : Addr} {its : Array Value} {ks : List Key} {Q : Value → Shared → Prop} (hh : A.handled = none) (hl : s.heap.IsTuple l its) (hk : Vals (ks.map kV) its.toList) (hb : ks.length + 1 < scanBound)
    (h : ∀ (h' : Heap) (tk' : Nat), h'.SetOf (mixKind prog w) s.heap.objs.size (tk ks ks.length) (dn ks ks.length) → (∀ b o, b < s.heap.objs.size → s.heap.get? b = some o → h'.get? b = some o) → Q (.ref s.heap.objs.size) { s with heap := h', toks := tk' }) :
    wpAny (model prog w) A (call (.type "set") [.ref l]) Q E s := by
  obtain ⟨c, tl, hmro⟩ := PySem.F.called_set.mro; have hmade := PySem.F.called_set.made; have hsub := PySem.F.called_set.sub
  refine wpAny_call (codeAny_of_tree ?_); show wpAny _ _ (callAny (.type "set") _) _ _ _
  refine wpAny_pure ⟨Code.quiet_builtin _ (by decide +kernel), codeAny_builtin PySem.F.entry_type_call ?_⟩; rw [Around.under_plain (weight_type_call_type "set" [.ref l] []) rfl]
  have h1 := PySem.F.called_set.notType; have h2 := PySem.F.called_set.canCreate; have hct := PySem.F.typeCall_set_1 (.ref l)
  repeat (any_goals (first | assumption | wp_step))
  refine codeAny_mono (code_set_new_1 (.ref l) (E := E) (Q₁ := fun obj s₁ => ∃ led : Bool, obj = .ref s.heap.objs.size ∧ s₁ = { s with heap := s.heap.push (sO led) }) fun led => ⟨led, rfl, rfl⟩) fun r s₁ hr => ?_
  match r, hr with
  | .error e, hr => exact hr
  | .ok .next, hr => exact hr.elim
  | .ok .brk, hr => exact hr.elim
  | .ok .cont, hr => exact hr.elim
  | .ok (.ret obj), hr =>
    obtain ⟨led, rfl, rfl⟩ := hr
    have gS : (s.heap.push (sO led)).get? s.heap.objs.size = some (sO led) := Heap.get?_push_size _ rfl
    have hT : Shared.TypeIs { s with heap := s.heap.push (sO led) } (.ref s.heap.objs.size) "set" := ⟨_, gS, rfl⟩
    have hli := PySem.F.called_set.init.lookup; have hbi := PySem.F.called_set.init.bind (.ref s.heap.objs.size)
    repeat (any_goals (first | assumption | wp_step))
    refine codeAny_mono (codeAny_call_builtin (R := wants (fun r s₂ => r = .none ∧ ∃ h' tk', s₂ = { s with heap := h', toks := tk' } ∧ h'.SetOf (mixKind prog w) s.heap.objs.size (tk ks ks.length) (dn ks ks.length) ∧ ∀ b o, b < s.heap.objs.size → s.heap.get? b = some o → h'.get? b = some o) E) PySem.F.called_set.init.plain PySem.F.entry_set_init (check_set_init_1 hT ?_)) fun r₂ s₂ hr₂ => ?_
    · obtain ⟨⟨ocls, odict, odata, oslots⟩, hol, hcl, nl, hdl⟩ := hl
      simp only at hcl hdl; subst hcl; subst hdl
      have hol' : (s.heap.push (sO led)).get? l = some { cls := .type "tuple", dict := odict, data := .seq its nl, slots := oslots } := Heap.get?_push_of_some _ hol
      have hsls := PySem.F.sub_tuple_set; have hslf := PySem.F.sub_tuple_frozenset; have hne : (Value.type "tuple" == Value.type "dict") = false := by decide
      have hl1 : (s.heap.push (sO led)).IsTuple l its := ⟨_, hol', rfl, nl, rfl⟩
      unfold sO at *
      unfold Builtin.«set.__init__» noKeywords Builtin.Frozenset.updateFrom; generalize hPI : pyIter = PI; wp_walk; subst hPI
      refine wpAny_pyIter_tuple hl1 (wpAny_bind (wpAny_runValue ?_))
      have ls : l < s.heap.objs.size := Heap.lt_size hol
      have hsz : ks.length = its.size := by have z := hk.length; rw [List.length_map, Array.length_toList] at z; exact z
      refine setLoop ((Walks.tuple (A := A.in1.in1.in1) (by simp [hh]) _ l (by rw [Heap.size_push]; exact Nat.ne_of_lt (Nat.lt_succ_of_lt ls)) its).toS) s.heap.objs.size (by rw [Heap.size_push]; simp only [List.mem_cons, List.not_mem_nil, or_false, not_or]; exact ⟨Nat.ne_of_lt (Nat.lt_succ_self _), Nat.ne_of_gt ls⟩) ks hsz (by rw [← hsz]; exact hb) (fun i v hv => ?_) (its.size - 0) 0 _ (by omega) (Nat.zero_le _) ⟨⟨_, Heap.get?_push_size _ rfl, rfl, rfl⟩, hl1.push _⟩ ?_ ?_
      · have hv' : its.toList[i]? = some v := by rw [Array.getElem?_toList]; exact hv
        have hi : i < ks.length := by rw [hsz, ← Array.length_toList]; exact (List.getElem?_eq_some_iff.mp hv').1
        obtain ⟨u, hu, ru⟩ := hk.get (i := i) (x := kV ks[i]) (by rw [List.getElem?_map, List.getElem?_eq_getElem hi]; rfl)
        rw [hv'] at hu; cases hu
        exact ⟨ks[i], List.getElem?_eq_getElem hi, ru⟩
      · have e0 : tk ks 0 = fun _ => false := by funext k; simp [tk, hasK]
        show Heap.SetOf (mixKind prog w) _ _ (tk ks 0) 0
        rw [e0]
        letI : BEq Key := instBEqOfDecidableEq
        exact (setObjOf_fresh (knd := mixKind prog w) led).setOf (Heap.get?_push_of_some _ gS) (by unfold scanBound; omega)
      · rintro ⟨h', g', d', tk', os'⟩ hm hS'
        obtain rfl : g' = s.gens := hm.gens
        obtain rfl : d' = s.drawn := hm.drawn
        obtain rfl : os' = s.os := hm.os
        refine wpAny_pure (wpAny_pure ⟨rfl, h', tk', rfl, by rw [hsz]; exact hS', fun b o lt e => hm.heap b o ?_ (Heap.get?_push_of_some _ (Heap.get?_push_of_some _ e))⟩)
        simp only [List.mem_cons, List.not_mem_nil, or_false, not_or, Heap.size_push]; exact ⟨Nat.ne_of_lt lt, Nat.ne_of_lt (Nat.lt_succ_of_lt lt)⟩
    · match r₂, hr₂ with
      | .error e, hr₂ => exact hr₂
      | .ok .next, hr₂ => exact hr₂.elim
      | .ok .brk, hr₂ => exact hr₂.elim
      | .ok .cont, hr₂ => exact hr₂.elim
      | .ok (.ret r), hr₂ =>
        obtain ⟨rfl, h', tk', rfl, hS', hk'⟩ := hr₂
        repeat (any_goals (first | assumption | wp_step))
        exact h _ _ hS' hk'
end
end EL

set_option Elab.async false
set_option linter.all false
set_option maxRecDepth 100000
set_option maxHeartbeats 4000000
namespace EL
open PySem PySem.Spec PyProof.Rows L2
/-! ### len(set(xs)) -/
/-- numbers and texts -/
def keysD (ks : List Key) : List D := ks.map kD
theorem reps_keys {K : PySem.W.Frag} {G : Hp} : ∀ {ks : List Key} {vs : List V}, Reps K G vs (ks.map kD) → vs = ks.map kV
  | [], _, .nil => rfl
  | .inl i :: ks, _, .cons r t => by cases r; rw [reps_keys t]; rfl
  | .inr i :: ks, _, .cons r t => by cases r; rw [reps_keys t]; rfl
def tLenSetK (K : PySem.W.Frag) (ta : TE) : TE := fun σ H Q => ta σ H fun x H1 => ∃ (l : Addr) (ks : List Key), x = .ref l ∧ (SqL K H1 l (ks.map kV) ∨ SqT K H1 l (ks.map kV)) ∧ ks.length ≤ 1000 ∧ Q (.int (dn ks ks.length : Nat)) H1
theorem pe_lenSetK {X : Cx} {a : Expr} {ta : TE} {p p2 q pos : Pos} (hc : X.calm = true) (hg : Gl X "len") (hm : X.mg "len" = none) (hg2 : Gl X "set") (hm2 : X.mg "set" = none) (ha : PE X a ta)
    (na : starEach [a] X.env = (false, eval a X.env) :: starEach [] X.env := by rfl) : PE X (.Call (.Name "len" p) [.Call (.Name "set" p2) [a] [] q] [] pos) (tLenSetK X.K ta) := by
  refine ⟨fun pins s σ H Q I h => Call_ (ld_blt I hg hm boot_len (PyProof.Rows.callWith_builtin1 (PyProof.Rows.args_cons (Call_ (ld_blt I hg2 hm2 boot_set ?_)) rfl) rfl rfl))⟩
  refine PyProof.Rows.callWith_type1 (PyProof.Rows.args_cons (thn (ha.run pins s σ H _ I h) fun v s1 ⟨x, H1, I1, r1, q1⟩ => PyProof.Rows.args_nil ?_) na) na rfl
  obtain ⟨l, ks, rfl, hq, hb, q1⟩ := q1
  cases r1
  have fin : ∀ (h' : Heap) (tk' : Nat), h'.SetOf (mixKind X.prog X.w) s1.heap.objs.size (tk ks ks.length) (dn ks ks.length) → (∀ b o, b < s1.heap.objs.size → s1.heap.get? b = some o → h'.get? b = some o) →
      wpAny (model X.prog X.w) X.A (spliced (backTo pos (starEach [] X.env))) (fun vs s₂ => wpAny (model X.prog X.w) X.A (call (.builtin "len") (Value.ref s1.heap.objs.size :: vs)) (EP X pins σ Q) X.xe s₂) X.xe { s1 with heap := h', toks := tk' } := fun h' tk' hS hk => by
    obtain ⟨o, es, ep, t, ho, hex, hd, _, _, _, hf, hn⟩ := hS
    have I2 : Inv X pins σ H1 { s1 with heap := h', toks := tk' } := I1.kept fun b o e => hk b o (Heap.lt_size e) e
    have := dn_le ks ks.length
    exact PyProof.Rows.args_nil (call_len_set ho hex hd hf (by rw [hn]; omega) ⟨.int (dn ks ks.length : Nat), H1, I2.tok _, ⟨_, by rw [hn]⟩, q1⟩)
  have hb' : ks.length + 1 < scanBound := by unfold scanBound; omega
  rcases hq with hq | hq
  · obtain ⟨its, r, pl, hz⟩ := I1.list hq
    exact call_setK_list (I1.ok.hd hc) pl.isList (by simpa using r) hb' fin
  · obtain ⟨its, r, pl, hz⟩ := I1.tuple hq
    exact call_setK_tuple (I1.ok.hd hc) pl (by simpa using r) hb' fin
theorem wp_lenSet {K : PySem.W.Frag} {w : Wd} {env : Env} {Q : Wd → D → Prop} {ta : TE} (h : Wp K ta w env fun w1 d => ∃ ks : List Key, (d = .lst (ks.map kD) ∨ d = .tup (ks.map kD)) ∧ ks.length ≤ 1000 ∧ Q w1 (.int (dn ks ks.length : Nat))) : Wp K (tLenSetK K ta) w env Q := fun G σ H R F o c =>
  h G σ H _ F o fun w1 v G1 H1 d q o1 => by
    obtain ⟨ks, e, hn, q⟩ := q
    rcases e with rfl | rfl
    · obtain ⟨a, vs, rfl, h1, h2⟩ := rep_lst o1.f.2
      rw [reps_keys h2] at h1
      exact ⟨a, ks, rfl, .inl (ex_l o1.sub h1), hn, c w1 _ G1 H1 _ q ((ok_drop o1 o.st).push (stab_rep _ _) (.int _))⟩
    · obtain ⟨a, vs, rfl, h1, h2⟩ := rep_tup o1.f.2
      rw [reps_keys h2] at h1
      exact ⟨a, ks, rfl, .inr (ex_t o1.sub h1), hn, c w1 _ G1 H1 _ q ((ok_drop o1 o.st).push (stab_rep _ _) (.int _))⟩
end EL

set_option Elab.async false
set_option linter.all false
set_option maxRecDepth 100000
set_option maxHeartbeats 4000000
namespace EL
open PySem PySem.Spec PyProof.Rows L2
/-! ### sorted(xs) of data, xs a list or a tuple -/
theorem reads_there {h : Heap} : ∀ {v : Value} {d : PyData} {as : List Addr}, Reads h v d as → ∀ a ∈ as, ∃ o, h.get? a = some o := by
  intro v d as r
  exact (Reads.rec (motive_1 := fun v d as _ => ∀ a ∈ as, ∃ o, h.get? a = some o) (motive_2 := fun vs ds as _ => ∀ a ∈ as, ∃ o, h.get? a = some o)
    (by intro a h; cases h) (by intro b a h; cases h) (by intro i t a h; cases h) (by intro x t a h; cases h)
    (fun h1 _ _ _ ih a ha => by rcases List.mem_cons.mp ha with rfl | ha; exact ⟨_, h1⟩; exact ih a ha)
    (fun h1 _ _ _ ih a ha => ih a ha)
    (fun h1 _ _ _ _ ih1 ih2 a ha => by
      rcases List.mem_append.mp ha with ha | ha
      · rcases List.mem_cons.mp ha with rfl | ha
        · exact ⟨_, h1⟩
        · exact ih1 a ha
      · exact ih2 a ha)
    (by intro a h; cases h)
    (fun _ _ ih1 ih2 a ha => by rcases List.mem_append.mp ha with ha | ha; exact ih1 a ha; exact ih2 a ha) r)
/-- by the second part -/
def srtV (vs : List V) (ds : List PyData) : List V := ((vs.zip ds).mergeSort (PySem.W.dataLe false (fun b : V × PyData => b.2))).map (·.1)
def rSortX (K : PySem.W.Frag) : List V → Hp → VK → Prop := fun xs H Q => ∃ (a : Addr) (vs : List V) (ds : List PyData), xs = [.ref a] ∧ (SqL K H a vs ∨ SqT K H a vs) ∧ DpAll K H vs ds ∧ PySem.W.AllAlike ds ∧ PySem.W.Sortable ds ∧ (∀ d ∈ ds, d.depth ≤ 50) ∧
  ∀ p, H p = none → Q (.ref p) (upd H p (.lst (srtV vs ds)))
theorem dps_len {K : PySem.W.Frag} {H : Hp} : ∀ {vs : List V} {ds : List PyData}, DpAll K H vs ds → vs.length = ds.length
  | _, _, .nil => rfl
  | _, _, .cons _ r => by simp [dps_len r]
theorem each_zip {X : Cx} {pins : List (Addr × Obj)} {σ : L2.St} {H : Hp} {s : Shared} (I : Inv X pins σ H s) {h' : Heap} {L : Addr} (hk : ∀ b o, s.heap.get? b = some o → h'.get? b = some o) (hL : ∀ o, s.heap.get? L ≠ some o) :
    ∀ {vs : List V} {ds : List PyData} {its : List Value}, Vals vs its → DpAll X.K H vs ds → PySem.W.EachIs (fun v (b : V × PyData) => RelV b.1 v) its (vs.zip ds) ∧ PySem.W.EachIs (fun v (b : V × PyData) => ∃ as, Reads h' v b.2 as ∧ L ∉ as) its (vs.zip ds)
  | _, _, _, .nil, .nil => ⟨.nil, .nil⟩
  | _, _, _, .cons r t, .cons d e => by
    obtain ⟨h1, h2⟩ := each_zip I hk hL t e
    obtain ⟨as, q⟩ := Dp.reads I _ _ _ d r
    exact ⟨.cons r h1, .cons ⟨as, PyProof.Rows.Reads.keeps hk q, fun z => let ⟨o, e⟩ := reads_there q L z; hL o e⟩ h2⟩
theorem each_vals : ∀ {out : List Value} {bs : List (V × PyData)}, PySem.W.EachIs (fun v (b : V × PyData) => RelV b.1 v) out bs → Vals (bs.map (·.1)) out
  | _, _, .nil => .nil
  | _, _, .cons r t => .cons r (each_vals t)
theorem cr_sortedX {X : Cx} (hu : X.A.units + 64 < cLine) : CallR X (.builtin "sorted") (rSortX X.K) := by
  intro pins s σ H xs us Q I r h
  obtain ⟨a, vs, ds, rfl, hq, hd, hal, hk, hdep, q⟩ := h
  obtain ⟨u, rfl, rx⟩ := vals1 r
  cases rx
  obtain ⟨its, T, o, n, rv, hT, ho, hc, hdt, hz⟩ : ∃ (its : List Value) (T : String) (o : Obj) (n : Nat), Vals vs its ∧ (T = "list" ∨ T = "tuple") ∧ s.heap.get? a = some o ∧ o.cls = .type T ∧ o.data = .seq its.toArray n ∧ vs.length ≤ sizeLine := by
    rcases hq with hq | hq
    · obtain ⟨its, rv, ⟨o, n, ho, hc, _, hdt⟩, hz⟩ := I.list hq
      exact ⟨its, "list", o, n, rv, .inl rfl, ho, hc, hdt, hz⟩
    · obtain ⟨its, rv, ⟨o, ho, hc, n, hdt⟩, hz⟩ := I.tuple hq
      exact ⟨its, "tuple", o, n, rv, .inr rfl, ho, hc, hdt, hz⟩
  have li : its.length = vs.length := rv.length.symm
  refine Calls.call_function_entry PyProof.Rows.kind_sorted PyProof.Rows.plain_sorted PyProof.Rows.entry_sorted (PyProof.Rows.args_sorted1 _) ?_
  unfold Builtin.«sorted»
  refine wpAny_bind (m := checkCount "sorted" 1 1 _) (wpAny_pure ?_)
  refine wpAny_bind (wpAny_collect_seq a hT ho hc hdt (fun h' hk' => ?_) (by rw [List.size_toArray, li]; exact hz))
  have I1 : Inv X pins σ H { s with heap := h' } := I.kept hk'
  have ea : its.toArray.toList = its := by simp
  rw [ea]
  refine wpAny_bind (wpAny_newList ?_ (by rw [li]; exact hz))
  have hL : ∀ o, s.heap.get? h'.objs.size ≠ some o := fun o e => Nat.lt_irrefl _ (Heap.lt_size (hk' _ _ e))
  have kp : ∀ b o, s.heap.get? b = some o → (h'.push (seqObj "list" its.toArray 0)).get? b = some o := fun b o e => Heap.get?_push_of_some _ (hk' b o e)
  have hoL : (h'.push (seqObj "list" its.toArray 0)).get? h'.objs.size = some (seqObj "list" its.toArray 0) := Heap.get?_push_size _ rfl
  obtain ⟨e1, e2⟩ := each_zip (L := h'.objs.size) I kp hL rv hd
  have eb : (vs.zip ds).map (fun b : V × PyData => b.2) = ds := List.map_snd_zip (by rw [dps_len hd]; exact Nat.le_refl _)
  show wpAny _ _ _ _ _ { s with heap := h'.push (seqObj "list" its.toArray 0) }
  refine wpAny_bind (wpAny_holding (PySem.W.list_sort_data (s := { s with heap := h'.push (seqObj "list" its.toArray 0) }) (enc := fun b : V × PyData => b.2) hoL e1 e2 (by rw [eb]; exact hal) (by rw [eb]; exact hk) (by rw [List.length_zip, dps_len hd, Nat.min_self, ← dps_len hd]; exact hz) (fun b hb => ?_) (fun out ho' eo => ?_)))
  · have hb2 : b.2 ∈ ds := by rw [← eb]; exact List.mem_map.mpr ⟨b, hb, rfl⟩
    have := hdep _ hb2
    show X.A.units + 1 + 1 + b.2.depth < cLine
    omega
  · obtain ⟨e', he'⟩ := PyProof.Rows.sortedHeap_at (vs := its) (out := out.toArray) hoL
    have rs := each_vals eo
    have hlen : (srtV vs ds).length ≤ sizeLine := by
      unfold srtV
      rw [List.length_map, List.length_mergeSort, List.length_zip]
      exact Nat.le_trans (Nat.min_le_left _ _) hz
    refine wpAny_pure ⟨_, rfl, .ref h'.objs.size, upd H h'.objs.size (.lst (srtV vs ds)), I1.laid (t' := s.toks) (fun b u e => ?_) (Nat.le_refl _) ⟨hlen, out, e', rs, he'⟩, rfl, q _ (I1.hok.fresh (Nat.le_refl _))⟩
    have hb : b < h'.objs.size := Heap.lt_size e
    exact (PyProof.Rows.sortedHeap_old (Nat.ne_of_lt hb) (by rw [Heap.size_push]; exact Nat.lt_succ_of_lt hb)).trans (Heap.get?_push_of_some _ e)
def leD (a b : D) : Bool := PySem.W.dataLe false py a b
def srt (ds : List D) : List D := ds.mergeSort leD
section
variable {K : PySem.W.Frag} {w : Wd} {env : Env} {Q : Wd → D → Prop}
theorem reps_zip {G : Hp} : ∀ {vs : List V} {ds : List D}, Reps K G vs ds → ∀ z ∈ vs.zip ds, Rep K G z.1 z.2
  | _, _, .nil, z, h => by simp at h
  | _, _, .cons r t, z, h => by
    rcases List.mem_cons.mp h with rfl | h
    · exact r
    · exact reps_zip t z h
theorem reps_of {G : Hp} : ∀ {zs : List (V × D)}, (∀ z ∈ zs, Rep K G z.1 z.2) → Reps K G (zs.map (·.1)) (zs.map (·.2))
  | [], _ => .nil
  | z :: zs, h => .cons (h z List.mem_cons_self) (reps_of fun y hy => h y (List.mem_cons_of_mem _ hy))
theorem srt_reps {G : Hp} {vs : List V} {ds : List D} (r : Reps K G vs ds) : Reps K G (srtV vs (pys ds)) (srt ds) := by
  have hl : vs.length = ds.length := r.length
  have e1 : vs.zip (pys ds) = (vs.zip ds).map (fun z => (z.1, py z.2)) := by
    rw [pys_map, List.zip_map_right]; rfl
  have e2 : ds = (vs.zip ds).map (·.2) := (List.map_snd_zip (by omega)).symm
  have e3 : srtV vs (pys ds) = ((vs.zip ds).mergeSort (fun a b => leD a.2 b.2)).map (·.1) := by
    unfold srtV
    rw [e1, ← List.map_mergeSort (r := fun a b : V × D => leD a.2 b.2) (f := fun z : V × D => (z.1, py z.2)) (fun a _ b _ => rfl), List.map_map]
    rfl
  have e4 : srt ds = ((vs.zip ds).mergeSort (fun a b => leD a.2 b.2)).map (·.2) := by
    unfold srt
    conv => lhs; rw [e2]
    rw [← List.map_mergeSort (r := fun a b : V × D => leD a.2 b.2) (fun a _ b _ => rfl)]
  rw [e3, e4]
  exact reps_of fun z hz => reps_zip r z (List.mem_mergeSort.mp hz)
theorem wb_sorted {d : D} {ds : List D} (h : d = .lst ds ∨ d = .tup ds) (hp : pls ds = true) (hal : PySem.W.AllAlike (pys ds)) (hk : PySem.W.Sortable (pys ds)) (hd : ∀ x ∈ pys ds, x.depth ≤ 50) (q : Q w (.lst (srt ds))) : Wb K (rSortX K) w [d] Q := fun G σ H env R F xs o r c => by
  match xs, r with
  | [x], .cons rx .nil =>
    obtain ⟨a, vs, rfl, hq, h2⟩ : ∃ a vs, x = .ref a ∧ (SqL K H a vs ∨ SqT K H a vs) ∧ Reps K G vs ds := by
      rcases h with rfl | rfl
      · obtain ⟨a, vs, e, h1, h2⟩ := rep_lst rx
        exact ⟨a, vs, e, .inl (ex_l o.sub h1), h2⟩
      · obtain ⟨a, vs, e, h1, h2⟩ := rep_tup rx
        exact ⟨a, vs, e, .inr (ex_t o.sub h1), h2⟩
    exact ⟨a, vs, pys ds, rfl, hq, dps_mono o.sub (h2.dp hp), hal, hk, hd, fun p hp' => c w (.ref p) _ _ _ q (o.newLst hp' (srt_reps h2))⟩
end
/-! ### texts in a row -/
def leS (a b : Str) : Bool := decide (a.cps.toList ≤ b.cps.toList)
def sortS (ss : List Str) : List Str := ss.mergeSort leS
theorem srt_str (ss : List Str) : srt (ss.map D.str) = (sortS ss).map D.str := by
  unfold srt sortS
  rw [List.map_mergeSort (s := leD) (fun a _ b _ => ?_)]
  unfold leD leS
  have e := congrFun (congrFun (PySem.W.dataLe_str (fun s : Str => s)) a) b
  have e' : PySem.W.dataLe false py (.str a) (.str b) = PySem.W.dataLe false (fun b : Str => PyData.str b) a b := by
    show (!PySem.W.dataLt (py (.str b)) (py (.str a))) = (!PySem.W.dataLt (.str b) (.str a))
    unfold py; rfl
  rw [e', e]
theorem pls_str : ∀ ss : List Str, pls (ss.map D.str) = true
  | [] => by simp [pls]
  | s :: ss => by simp [pls, pl]; exact pls_str ss
theorem pys_str : ∀ ss : List Str, pys (ss.map D.str) = ss.map PyData.str
  | [] => by simp [pys]
  | s :: ss => by simp [pys, py]; exact pys_str ss
theorem wb_sortedS {K : PySem.W.Frag} {w : Wd} {Q : Wd → D → Prop} {d : D} {ss : List Str} (h : d = .lst (ss.map D.str) ∨ d = .tup (ss.map D.str)) (q : Q w (.lst ((sortS ss).map D.str))) : Wb K (rSortX K) w [d] Q := by
  refine wb_sorted h (pls_str ss) ?_ ?_ ?_ (by rw [srt_str]; exact q)
  · rw [pys_str]
    intro d hd d' hd'
    obtain ⟨x, _, rfl⟩ := List.mem_map.mp hd
    obtain ⟨y, _, rfl⟩ := List.mem_map.mp hd'
    simp [PySem.W.alike]
  · rw [pys_str]
    refine .inr fun d hd => ?_
    obtain ⟨x, _, rfl⟩ := List.mem_map.mp hd
    exact ⟨(fun z => nomatch z), (fun _ z => nomatch z)⟩
  · rw [pys_str]
    intro d hd
    obtain ⟨x, _, rfl⟩ := List.mem_map.mp hd
    simp [PyData.depth]
/-! ### tuple(xs), list(xs) -/
section
variable {K : PySem.W.Frag} {w : Wd} {env : Env} {Q : Wd → D → Prop}
theorem wb_tuple {d : D} {ds : List D} (h : d = .lst ds ∨ d = .tup ds) (q : Q w (.tup ds)) : Wb K (fun xs H Q => ∃ p ys, xs = [.ref p] ∧ ((SqL K H p ys ∧ ∀ l, H l = none → Q (.ref l) (upd H l (.tup ys))) ∨ (SqT K H p ys ∧ Q (.ref p) H))) w [d] Q := fun G σ H env R F xs o r c => by
  match xs, r with
  | [x], .cons rx .nil =>
    rcases h with rfl | rfl
    · obtain ⟨a, vs, rfl, h1, h2⟩ := rep_lst rx
      exact ⟨a, vs, rfl, .inl ⟨ex_l o.sub h1, fun p hp => c w (.ref p) _ _ _ q (o.newTup hp h2)⟩⟩
    · obtain ⟨a, vs, rfl, h1, h2⟩ := rep_tup rx
      exact ⟨a, vs, rfl, .inr ⟨ex_t o.sub h1, c w _ G H _ q (o.push (stab_rep _ _) (.tup h1 h2))⟩⟩
theorem wb_list {d : D} {ds : List D} (h : d = .lst ds ∨ d = .tup ds) (q : Q w (.lst ds)) : Wb K (fun xs H Q => ∃ p ys, xs = [.ref p] ∧ (SqL K H p ys ∨ SqT K H p ys) ∧ ∀ l, H l = none → Q (.ref l) (upd H l (.lst ys))) w [d] Q := fun G σ H env R F xs o r c => by
  match xs, r with
  | [x], .cons rx .nil =>
    rcases h with rfl | rfl
    · obtain ⟨a, vs, rfl, h1, h2⟩ := rep_lst rx
      exact ⟨a, vs, rfl, .inl (ex_l o.sub h1), fun p hp => c w (.ref p) _ _ _ q (o.newLst hp h2)⟩
    · obtain ⟨a, vs, rfl, h1, h2⟩ := rep_tup rx
      exact ⟨a, vs, rfl, .inr (ex_t o.sub h1), fun p hp => c w (.ref p) _ _ _ q (o.newLst hp h2)⟩
end
/-! ### xs + ys -/
def rCatX (K : PySem.W.Frag) : R2 := fun x y H Q => ∃ a b vs ws, x = .ref a ∧ y = .ref b ∧ Rd H a (.lst vs) ∧ Rd H b (.lst ws) ∧ vs.length + ws.length ≤ sizeLine ∧ ∀ p, H p = none → Q (.ref p) (upd H p (.lst (vs ++ ws)))
theorem op_catX {X : Cx} : OpR X (binaryOp .Add) (rCatX X.K) := by
  intro pins s σ H x y v u Q I rx ry h
  obtain ⟨a, b, vs, ws, rfl, rfl, ha, hb, hz, q⟩ := h
  cases rx; cases ry
  obtain ⟨z1, i1, n1, r1, e1⟩ := ha.ok I.hok
  obtain ⟨z2, i2, n2, r2, e2⟩ := hb.ok I.hok
  have l1 := r1.length
  have l2 := r2.length
  refine PySem.P.add_list e1 e2 ?_ (by rw [List.size_toArray, List.size_toArray]; omega)
  rw [show i1.toArray ++ i2.toArray = (i1 ++ i2).toArray by simp]
  exact ⟨.ref _, _, I.lnew (t' := s.toks) (r1.append r2) (by rw [List.length_append]; omega), rfl, q _ I.fresh⟩
theorem w2_cat {K : PySem.W.Frag} {w : Wd} {Q : Wd → D → Prop} {xs ys : List D} (hz : xs.length + ys.length ≤ 100000) (q : Q w (.lst (xs ++ ys))) : W2 K (rCatX K) w (.lst xs) (.lst ys) Q := fun G σ H env R F x y o rx ry c => by
  obtain ⟨a, vs, rfl, h1, r1⟩ := rep_lstR rx
  obtain ⟨b, us, rfl, h2, r2⟩ := rep_lstR ry
  exact ⟨a, b, vs, us, rfl, rfl, ex_rl o.sub h1, ex_rl o.sub h2, by rw [r1.length, r2.length]; exact Nat.le_trans hz (by decide), fun p hp => c w (.ref p) _ _ _ q (o.newLst hp (r1.append r2))⟩
end EL

set_option Elab.async false
set_option linter.all false
set_option maxRecDepth 100000
set_option maxHeartbeats 4000000
namespace EL
open PySem PySem.Spec PyProof.Rows L2
/-! ### dicts -/
section
variable {κ : Type} [DecidableEq κ]
def valK (kvs : List (κ × D)) (k : κ) : Option D := (kvs.find? fun kv => decide (kv.1 = k)).map (·.2)
def putD (kvs : List (κ × D)) (k : κ) (v : D) : List (κ × D) :=
  if (kvs.any fun kv => decide (kv.1 = k)) = true then kvs.map (fun kv => if kv.1 = k then (kv.1, v) else kv) else kvs ++ [(k, v)]
theorem valK_cons {a k : κ} {d : D} {r : List (κ × D)} : valK ((a, d) :: r) k = if a = k then some d else valK r k := by
  unfold valK
  by_cases c : a = k <;> simp [List.find?_cons, c]
variable {K : PySem.W.Frag} {G : Hp}
theorem val_rep {k : κ} : ∀ {kvs : List (κ × V)} {ds : List (κ × D)}, ds.map (·.1) = kvs.map (·.1) → Reps K G (kvs.map (·.2)) (ds.map (·.2)) →
    (∀ d, valK ds k = some d → ∃ v, valV kvs k = some v ∧ Rep K G v d) ∧ (valK ds k = none → valV kvs k = none)
  | [], [], _, _ => ⟨(fun d h => nomatch h), fun _ => rfl⟩
  | [], _ :: _, e, _ => by cases e
  | _ :: _, [], e, _ => by cases e
  | (a, v) :: kvs, (b, d) :: ds, e, r => by
    simp only [List.map_cons, List.cons.injEq] at e
    obtain ⟨rfl, e2⟩ := e
    simp only [List.map_cons] at r
    cases r with
    | cons r1 r2 =>
      rw [valK_cons]
      by_cases c : b = k
      · rw [if_pos c, valV_pos (p := (b, v)) c]
        exact ⟨(fun x h => ⟨v, rfl, Option.some.inj h ▸ r1⟩), (fun h => nomatch h)⟩
      · rw [if_neg c, valV_neg (p := (b, v)) c]
        exact val_rep e2 r2
theorem any_keys {k : κ} : ∀ {kvs : List (κ × V)} {ds : List (κ × D)}, ds.map (·.1) = kvs.map (·.1) → (kvs.any fun kv => decide (kv.1 = k)) = ds.any fun kv => decide (kv.1 = k)
  | [], [], _ => rfl
  | [], _ :: _, e => by cases e
  | _ :: _, [], e => by cases e
  | (a, v) :: kvs, (b, d) :: ds, e => by
    simp only [List.map_cons, List.cons.injEq] at e
    obtain ⟨rfl, e2⟩ := e
    simp only [List.any_cons, any_keys e2]
theorem put_map {k : κ} {x : V} {y : D} (rx : Rep K G x y) : ∀ {kvs : List (κ × V)} {ds : List (κ × D)}, ds.map (·.1) = kvs.map (·.1) → Reps K G (kvs.map (·.2)) (ds.map (·.2)) →
    (ds.map (fun kv => if kv.1 = k then (kv.1, y) else kv)).map (·.1) = (kvs.map (fun kv => if kv.1 = k then (kv.1, x) else kv)).map (·.1) ∧ Reps K G ((kvs.map (fun kv => if kv.1 = k then (kv.1, x) else kv)).map (·.2)) ((ds.map (fun kv => if kv.1 = k then (kv.1, y) else kv)).map (·.2))
  | [], [], _, _ => ⟨rfl, .nil⟩
  | [], _ :: _, e, _ => by cases e
  | _ :: _, [], e, _ => by cases e
  | (a, v) :: kvs, (b, d) :: ds, e, r => by
    simp only [List.map_cons, List.cons.injEq] at e
    obtain ⟨rfl, e2⟩ := e
    simp only [List.map_cons] at r
    cases r with
    | cons r1 r2 =>
      obtain ⟨h1, h2⟩ := put_map rx e2 r2
      by_cases c : b = k
      · simp only [List.map_cons, c, if_pos]
        exact ⟨by simp at h1 ⊢; exact h1, .cons rx h2⟩
      · simp only [List.map_cons, if_neg c]
        exact ⟨by simp at h1 ⊢; exact h1, .cons r1 h2⟩
theorem put_rep {k : κ} {x : V} {y : D} (rx : Rep K G x y) {kvs : List (κ × V)} {ds : List (κ × D)} (e : ds.map (·.1) = kvs.map (·.1)) (r : Reps K G (kvs.map (·.2)) (ds.map (·.2))) :
    (putD ds k y).map (·.1) = (putK kvs k x).map (·.1) ∧ Reps K G ((putK kvs k x).map (·.2)) ((putD ds k y).map (·.2)) := by
  unfold putD putK
  rw [any_keys e]
  by_cases c : (ds.any fun kv => decide (kv.1 = k)) = true
  · rw [if_pos c, if_pos c]
    exact put_map rx e r
  · rw [if_neg c, if_neg c]
    refine ⟨by simp [e], ?_⟩
    rw [List.map_append, List.map_append]
    exact r.append (.cons rx .nil)
end
theorem rep_dK {K : PySem.W.Frag} {G : Hp} {v : V} {ds : List (Key × D)} (r : Rep K G v (.dct ds)) : ∃ a kvs, v = .ref a ∧ Rd G a (.dK kvs) ∧ ds.map (·.1) = kvs.map (·.1) ∧ Reps K G (kvs.map (·.2)) (ds.map (·.2)) := by
  cases r with
  | dK h k r => exact ⟨_, _, rfl, h, k, r⟩
theorem rep_key {K : PySem.W.Frag} {G : Hp} {v : V} {k : Key} (r : Rep K G v (kD k)) : v = kV k := by
  cases k with
  | inl i => unfold kD at r; cases r; rfl
  | inr x => unfold kD at r; cases r; rfl
section
variable {K : PySem.W.Frag} {w : Wd} {env : Env} {Q : Wd → D → Prop} {ta tb te td ty tv : TE} {Z : DEnds}
/-- d[k] of a still dict -/
theorem wp_dget (h : Wp K td w env fun w1 d => ∃ ds, d = .dct ds ∧ Wp K ty w1 env fun w2 y => ∃ k v, y = kD k ∧ valK ds k = some v ∧ Q w2 v) : Wp K (tDGet td ty) w env Q := fun G σ H R F o c =>
  h G σ H _ F o fun w1 x G1 H1 d q o1 => by
    obtain ⟨ds, rfl, q⟩ := q
    refine q G1 σ H1 _ _ o1 fun w2 y G2 H2 e q2 o2 => ?_
    obtain ⟨k, v, rfl, hv, q2⟩ := q2
    obtain ⟨a, kvs, rfl, hd, hk, hr⟩ := rep_dK o2.f.1.2
    obtain ⟨u, hu, ru⟩ := (val_rep (k := k) hk hr).1 v hv
    exact ⟨a, u, rfl, .inl ⟨kvs, k, ex_dK o2.sub hd, rep_key o2.f.2, hu.symm⟩, c w2 u G2 H2 v q2 ((o2.as o.st o2.f.1.1).push (stab_rep _ _) ru)⟩
/-- d[k] of one's own dict -/
theorem wp_dgetO {L : Own} {j : Nat} {p : Addr} {ds : List (Key × D)} (h : Wp K td w env fun w1 d => d = .raw (.ref p) ∧ Wp K ty w1 env fun w2 y => ∃ w0 k v, w2 = Wd.own K w0 L ∧ L[j]? = some (p, .dct ds) ∧ y = kD k ∧ valK ds k = some v ∧ Q w2 v) : Wp K (tDGet td ty) w env Q := fun G σ H R F o c =>
  h G σ H _ F o fun w1 x G1 H1 d q o1 => by
    obtain ⟨rfl, q⟩ := q
    refine q G1 σ H1 _ _ o1 fun w2 y G2 H2 e q2 o2 => ?_
    obtain ⟨w0, k, v, rfl, hL, rfl, hv, q2⟩ := q2
    cases rep_raw o2.f.1.2
    obtain ⟨kvs, hd, hk, hr⟩ := own_at o2.i hL
    obtain ⟨u, hu, ru⟩ := (val_rep (k := k) hk hr).1 v hv
    exact ⟨p, u, rfl, .inl ⟨kvs, k, .inl hd, rep_key o2.f.2, hu.symm⟩, c _ u G2 H2 v q2 ((o2.as o.st o2.f.1.1).push (stab_rep _ _) ru)⟩
/-- d[k] = v of one's own dict -/
theorem es_dput (h : Wp K tv w env fun w1 v => Wp K td w1 env fun w2 x => Wp K ty w2 env fun w3 y => ∃ (w0 : Wd) (L : Own) (j : Nat) (p : Addr) (ds : List (Key × D)) (k : Key), x = .raw (.ref p) ∧ w3 = w0.own K L ∧ L[j]? = some (p, .dct ds) ∧ y = kD k ∧ ds.length < 100000 ∧ Z.nx (w0.own K (L.set j (p, .dct (putD ds k v)))) env) :
    Es K (sDPut td ty tv) w env Z := fun G σ H De F o c1 c2 c3 c4 =>
  h G σ H _ F o fun w1 v G1 H1 d q o1 => q G1 σ H1 _ _ o1 fun w2 x G2 H2 dx q2 o2 => q2 G2 σ H2 _ _ o2 fun w3 y G3 H3 dy q3 o3 => by
    obtain ⟨w0, L, j, p, ds, k, rfl, rfl, hL, rfl, hn, q3⟩ := q3
    cases rep_raw o3.f.1.2
    obtain ⟨kvs, hd, hk, hr⟩ := own_at o3.i hL
    have hl : kvs.length = ds.length := by have := congrArg List.length hk; simpa using this.symm
    obtain ⟨e, r⟩ := put_rep (k := k) o3.f.1.1.2 hk hr
    refine ⟨p, _, rfl, .inl ⟨kvs, k, hd, rep_key o3.f.2, by rw [hl]; exact Nat.lt_of_lt_of_le hn (by decide), rfl⟩, ?_⟩
    have o4 := Ok.mod (o := .dK (putK kvs k v)) (d' := .dct (putD ds k d)) o3 hL ⟨_, upd_same, e, r⟩
    exact c1 _ G3 σ _ env q3 (o4.as o.st o4.f.1.1.1)
end
end EL

set_option Elab.async false
set_option linter.all false
set_option maxRecDepth 100000
set_option maxHeartbeats 4000000
namespace EL
open PySem PySem.Spec PyProof.Rows L2
/-! ### the draw: a dict of the law, changed by each taking -/
structure Dr where
  d : Addr
  wl : Addr
  cl : Addr
def drKvs (wl cl : Addr) (rest turn : Int) : List (Key × V) := [(.inr "wide", .ref wl), (.inr "cells", .ref cl), (.inr "rest", .int rest), (.inr "turn", .int turn)]
/-- how often a law may mix -/
def tMax : Nat := 1000000000000
structure DrawAt (r : Dr) (t : Nat) (H : Hp) : Prop where
  ex : ∃ (wide cells : List Int) (rest turn : Int), H r.d = some (.dK (drKvs r.wl r.cl rest turn)) ∧ H r.wl = some (.lst (wide.map V.int)) ∧ H r.cl = some (.lst (cells.map V.int)) ∧ 0 ≤ turn ∧ turn ≤ t ∧ wide.length ≤ 63 ∧ cells.length ≤ 63
  n1 : r.d ≠ r.wl
  n2 : r.cl ≠ r.d
  n3 : r.cl ≠ r.wl
theorem DrawAt.mono {r : Dr} {t t' : Nat} {H : Hp} (h : DrawAt r t H) (l : t ≤ t') : DrawAt r t' H := by
  obtain ⟨⟨a, b, c, d, h1, h2, h3, h4, h5, h6, h7⟩, n1, n2, n3⟩ := h
  exact ⟨⟨a, b, c, d, h1, h2, h3, h4, by omega, h6, h7⟩, n1, n2, n3⟩
/-- worlds, one for each bound of turns, that hold a draw -/
structure DrawW (wf : Nat → Wd) (r : Dr) : Prop where
  m : ∀ t, r.d ∈ (wf t).M ∧ r.wl ∈ (wf t).M ∧ r.cl ∈ (wf t).M
  me : ∀ t t', (wf t).M = (wf t').M
  at_ : ∀ t G H, (wf t).I G H → DrawAt r t H
  put : ∀ t t' G H H', (wf t).I G H → DrawAt r t' H' → (∀ a ∈ (wf t).M, a ≠ r.d → a ≠ r.wl → H' a = H a) → (wf t').I G H'
theorem DrawW.up {wf : Nat → Wd} {r : Dr} (h : DrawW wf r) {t t' : Nat} (l : t ≤ t') {G H : Hp} (i : (wf t).I G H) : (wf t').I G H := h.put t t' G H H i ((h.at_ t G H i).mono l) (fun _ _ _ _ => rfl)
theorem DrawW.own {K : PySem.W.Frag} {wf : Nat → Wd} {r : Dr} (h : DrawW wf r) (L : Own) : DrawW (fun t => (wf t).own K L) r where
  m := fun t => ⟨List.mem_append_right _ (h.m t).1, List.mem_append_right _ (h.m t).2.1, List.mem_append_right _ (h.m t).2.2⟩
  me := fun t t' => by show L.as ++ (wf t).M = L.as ++ (wf t').M; rw [h.me t t']
  at_ := fun t G H i => h.at_ t G H i.1
  put := fun t t' G H H' i d k => by
    refine ⟨h.put t t' G H H' i.1 d (fun a ha => k a (List.mem_append_right _ ha)), ⟨i.2.1.1, fun a ha => by rw [h.me t' t]; exact i.2.1.2 a ha⟩, fun x hx => ?_⟩
    have hx' : x.1 ∈ L.as := List.mem_map.mpr ⟨x, hx, rfl⟩
    have nM := i.2.1.2 x.1 hx'
    exact (i.2.2 x hx).mono (Sm.refl _) (k x.1 (List.mem_append_left _ hx') (fun z => nM (z ▸ (h.m t).1)) (fun z => nM (z ▸ (h.m t).2.1)))
theorem DrawW.since {wf : Nat → Wd} {r : Dr} (h : DrawW wf r) (G0 : Hp) : DrawW (fun t => (wf t).since G0) r where
  m := h.m
  me := h.me
  at_ := fun t G H i => h.at_ t G H i.1
  put := fun t t' G H H' i d k => ⟨h.put t t' G H H' i.1 d k, i.2⟩
/-- w with a draw -/
def Wd.draw (w : Wd) (r : Dr) (t : Nat) : Wd where
  M := r.d :: r.wl :: r.cl :: w.M
  I := fun G H => w.I G H ∧ (r.d ∉ w.M ∧ r.wl ∉ w.M ∧ r.cl ∉ w.M) ∧ DrawAt r t H
  mok := fun G H a i h => by
    obtain ⟨⟨_, _, _, _, h1, h2, h3, _⟩, _⟩ := i.2.2
    simp only [List.mem_cons] at h
    rcases h with rfl | rfl | rfl | h
    · rw [h1]; exact fun z => nomatch z
    · rw [h2]; exact fun z => nomatch z
    · rw [h3]; exact fun z => nomatch z
    · exact w.mok G H a i.1 h
  mono := fun G G' H i e => ⟨w.mono _ _ _ i.1 e, i.2⟩
  loc := fun G H H' i h => by
    refine ⟨w.loc _ _ _ i.1 (fun a ha => h a (by simp [ha])), i.2.1, ?_⟩
    obtain ⟨⟨a, b, c, d, h1, h2, h3, h4⟩, n1, n2, n3⟩ := i.2.2
    exact ⟨⟨a, b, c, d, (h _ (by simp)).trans h1, (h _ (by simp)).trans h2, (h _ (by simp)).trans h3, h4⟩, n1, n2, n3⟩
theorem drawW_draw (w : Wd) (r : Dr) : DrawW (w.draw r) r where
  m := fun t => ⟨by simp [Wd.draw], by simp [Wd.draw], by simp [Wd.draw]⟩
  me := fun t t' => rfl
  at_ := fun t G H i => i.2.2
  put := fun t t' G H H' i d k => ⟨w.loc _ _ _ i.1 (fun a ha => k a (by simp [Wd.draw, ha]) (fun z => i.2.1.1 (z ▸ ha)) (fun z => i.2.1.2.1 (z ▸ ha))), i.2.1, d⟩
/-! ### promises of defs that draw -/
abbrev OkD := List D → (D → Prop) → Prop
/-- at most c mixings -/
def SpD (K : PySem.W.Frag) (c : Nat) (ok : OkD) : Sp := fun vs H Q _ =>
  ∃ (wf : Nat → Wd) (r : Dr) (t : Nat) (G : Hp) (ds : List D) (R : D → Prop), DrawW wf r ∧ t + c ≤ tMax ∧ Ok K (wf t) G [] H [] (fun G => Reps K G vs (.raw (.ref r.d) :: ds)) ∧ ok ds R ∧
    ∀ v G' H' d, R d → Sm G G' → Ok K (wf (t + c)) G' [] H' [] (fun G => Rep K G v d) → Q v H'
section
variable {K : PySem.W.Frag} {w : Wd} {env : Env} {Q : Wd → D → Prop} {ta tb te td ty tv : TE} {as : TA} {Z : DEnds}
theorem wp_callD {c : Nat} {ok : OkD} {E : XK} (h : Wa K as w env fun w1 ds => ∃ (wf : Nat → Wd) (r : Dr) (t : Nat) (es : List D), w1 = wf t ∧ ds = .raw (.ref r.d) :: es ∧ DrawW wf r ∧ t + c ≤ tMax ∧ ok es (fun d => Q (wf (t + c)) d)) :
    Wp K (tCall (SpD K c ok) [] E as) w env Q := fun G σ H R F o k =>
  h G σ H _ F o fun w1 vs G1 H1 ds q o1 => by
    obtain ⟨wf, r, t, es, rfl, rfl, hw, hc, q⟩ := q
    refine ⟨wf, r, t, G1, es, fun d => Q (wf (t + c)) d, hw, hc, ⟨sl_nil, o1.nm, o1.sub, o1.i, stab_reps _ _, ?_⟩, q, fun v G' H' d qd sm o' => k _ v G' H' d qd ?_⟩
    · rw [List.append_nil]; exact o1.f.2
    · exact ⟨o1.sl.mono sm, o'.nm, o'.sub, o'.i, stab_and o.st (stab_rep _ _), ⟨o.st _ _ sm o1.f.1, o'.f⟩⟩
end
section
variable {P : Program} {W : World} {K : PySem.W.Frag} {mg : Str → Option Value} {base : Heap}
theorem Ok.up {wf : Nat → Wd} {r : Dr} (h : DrawW wf r) {t t' : Nat} (l : t ≤ t') {G : Hp} {σ : L2.St} {H : Hp} {env : Env} {F : Hp → Prop} (o : Ok K (wf t) G σ H env F) : Ok K (wf t') G σ H env F :=
  ⟨o.sl, fun a ha => by rw [h.me t' t]; exact o.nm a ha, o.sub, h.up l o.i, o.st, o.f⟩
theorem def_okD {nm : Str} {st : Stmt} {N ps : List Str} {k c : Nat} {ok : OkD} (F : DefAt K mg nm st ps) (S : FnScope N ps (defScope st)) (hl : ∀ ds R, ok ds R → ds.length + 1 = ps.length)
    (hb : ∀ (f : Addr) (cdv : Value) (A : Around) (outer : List PySem.Env) (s : Shared) (H : Hp) (E : XK), Room k (A.deeper (envOfC nm (defScope st) s.heap.objs.size f cdv)) →
      ∃ t, PSs (cxOf CX0 P W K mg base N nm (defScope st) f cdv A outer s H E).nox (defBody st) t ∧
        ∀ wf r n ds R, DrawW wf r → n + c ≤ tMax → ok ds R → Es K t (wf n) (startD N (.raw (.ref r.d) :: ds)) { nx := fun w' _ => (∃ m, m ≤ n + c ∧ (wf m).le w') ∧ R .non, rt := fun w' d => (∃ m, m ≤ n + c ∧ (wf m).le w') ∧ R d }) :
    Def P W K mg base nm (k + 1) ps (SpD K c ok) := by
  obtain ⟨f, fd, hm, F, b⟩ := F
  refine ⟨f, fd, hm, F.kp, b, F.ok S (fun vs H Q E h => ?_) (fun cdv A outer s H vs Q E hr h => ?_)⟩
  · obtain ⟨wf, r, t, G, ds, R, _, _, i, o, _⟩ := h
    rw [i.f.length]; exact hl ds R o
  · obtain ⟨t, ht, he⟩ := hb f cdv A outer s H E hr
    refine ⟨t, ht, ?_⟩
    obtain ⟨wf, r, n, G, ds, R, hw, hc, i, o, q⟩ := h
    have fin : ∀ {w' : Wd} {G' : Hp} {σ' : L2.St} {H' : Hp} {env' : Env} {F' : Hp → Prop}, (∃ m, m ≤ n + c ∧ ((wf m).since G).le w') → Ok K w' G' σ' H' env' F' → Sm G G' ∧ Ok K (wf (n + c)) G' σ' H' env' F' := by
      rintro w' G' σ' H' env' F' ⟨m, hm, l⟩ o'
      have o2 := o'.le l
      have o3 : Ok K (wf m) G' σ' H' env' F' := ⟨o2.sl, o2.nm, o2.sub, o2.i.1, o2.st, o2.f⟩
      exact ⟨o2.i.2, o3.up hw hm⟩
    refine he (fun t => (wf t).since G) r n ds R (hw.since G) hc o G (L2.start N vs) H _ (fun _ => True) ⟨sl_start i.f, i.nm, i.sub, ⟨i.i, Sm.refl _⟩, stab_true, trivial⟩ ?_ ?_ (fun _ _ _ _ _ z => z.elim) (fun _ _ _ _ _ z => z.elim)
    · rintro w' G' σ' H' env' ⟨l, z⟩ o'
      obtain ⟨sm, o2⟩ := fin l o'
      exact q .non G' H' .non z sm ⟨sl_nil, o2.nm, o2.sub, o2.i, stab_rep _ _, .non⟩
    · rintro w' v G' σ' H' env' d ⟨l, z⟩ o'
      obtain ⟨sm, o2⟩ := fin l o'
      exact q v G' H' d z sm ⟨sl_nil, o2.nm, o2.sub, o2.i, stab_rep _ _, o2.f.2⟩
end
end EL

set_option Elab.async false
set_option linter.all false
set_option maxRecDepth 100000
set_option maxHeartbeats 4000000
namespace EL
open PySem PySem.Spec PyProof.Rows L2
section
variable {wl cl : Addr} {a b z : Int}
theorem n_wc : ¬ ("wide" : Str) = "cells" := by decide +kernel
theorem n_wr : ¬ ("wide" : Str) = "rest" := by decide +kernel
theorem n_wt : ¬ ("wide" : Str) = "turn" := by decide +kernel
theorem n_cr : ¬ ("cells" : Str) = "rest" := by decide +kernel
theorem n_ct : ¬ ("cells" : Str) = "turn" := by decide +kernel
theorem n_rt : ¬ ("rest" : Str) = "turn" := by decide +kernel
theorem n_tr : ¬ ("turn" : Str) = "rest" := by decide +kernel
theorem ki {x y : Str} (h : ¬ x = y) : ¬ (Sum.inr x : Key) = Sum.inr y := fun e => h (Sum.inr.inj e)
theorem v_wide : valV (drKvs wl cl a b) (.inr "wide") = some (.ref wl) := valV_pos rfl
theorem v_cells : valV (drKvs wl cl a b) (.inr "cells") = some (.ref cl) := (valV_neg (ki n_wc)).trans (valV_pos rfl)
theorem v_rest : valV (drKvs wl cl a b) (.inr "rest") = some (.int a) := (valV_neg (ki n_wr)).trans ((valV_neg (ki n_cr)).trans (valV_pos rfl))
theorem v_turn : valV (drKvs wl cl a b) (.inr "turn") = some (.int b) := (valV_neg (ki n_wt)).trans ((valV_neg (ki n_ct)).trans ((valV_neg (ki n_rt)).trans (valV_pos rfl)))
theorem p_rest : putK (drKvs wl cl a b) (.inr "rest") (.int z) = drKvs wl cl z b := by
  unfold putK drKvs
  simp [n_wr, n_cr, n_tr]
theorem p_turn : putK (drKvs wl cl a b) (.inr "turn") (.int z) = drKvs wl cl a z := by
  unfold putK drKvs
  simp [n_wt, n_ct, n_rt]
end
section
variable {wl cl d : Addr} {a b z : Int} {H : Hp}
theorem g_wide (h : H d = some (.dK (drKvs wl cl a b))) : DGet H d (.str "wide") (some (.ref wl)) := .inl ⟨_, .inr "wide", .inl h, rfl, v_wide.symm⟩
theorem g_cells (h : H d = some (.dK (drKvs wl cl a b))) : DGet H d (.str "cells") (some (.ref cl)) := .inl ⟨_, .inr "cells", .inl h, rfl, v_cells.symm⟩
theorem g_rest (h : H d = some (.dK (drKvs wl cl a b))) : DGet H d (.str "rest") (some (.int a)) := .inl ⟨_, .inr "rest", .inl h, rfl, v_rest.symm⟩
theorem g_turn (h : H d = some (.dK (drKvs wl cl a b))) : DGet H d (.str "turn") (some (.int b)) := .inl ⟨_, .inr "turn", .inl h, rfl, v_turn.symm⟩
theorem u_rest (h : H d = some (.dK (drKvs wl cl a b))) : DPut H d (.str "rest") (.int z) (upd H d (.dK (drKvs wl cl z b))) := .inl ⟨_, .inr "rest", h, rfl, (by show 4 < sizeLine; decide), by rw [p_rest]⟩
theorem u_turn (h : H d = some (.dK (drKvs wl cl a b))) : DPut H d (.str "turn") (.int z) (upd H d (.dK (drKvs wl cl a z))) := .inl ⟨_, .inr "turn", h, rfl, (by show 4 < sizeLine; decide), by rw [p_turn]⟩
end
/-- all but the draw's two objects is as it was -/
def KeepD (r : Dr) (H H' : Hp) : Prop := ∀ a, a ≠ r.d → a ≠ r.wl → ∀ o, H a = some o → H' a = some o
theorem KeepD.refl (r : Dr) (H : Hp) : KeepD r H H := fun _ _ _ _ h => h
theorem KeepD.trans {r : Dr} {H H1 H2 : Hp} (a : KeepD r H H1) (b : KeepD r H1 H2) : KeepD r H H2 := fun c h1 h2 o h => b c h1 h2 o (a c h1 h2 o h)
theorem KeepD.d {r : Dr} {H H1 : Hp} {o : HO} (a : KeepD r H H1) : KeepD r H (upd H1 r.d o) := fun c h1 h2 u h => by rw [upd_ne h1]; exact a c h1 h2 u h
theorem KeepD.wl {r : Dr} {H H1 : Hp} {o : HO} (a : KeepD r H H1) : KeepD r H (upd H1 r.wl o) := fun c h1 h2 u h => by rw [upd_ne h2]; exact a c h1 h2 u h
theorem KeepD.new {r : Dr} {H H1 : Hp} {p : Addr} {o : HO} (a : KeepD r H H1) (h : H1 p = none) : KeepD r H (upd H1 p o) := fun c h1 h2 u e => by
  have e1 := a c h1 h2 u e
  rw [upd_ne (ne_of_none e1 h)]; exact e1
def spMixed : Sp := fun vs H Q _ => ∃ (r : Dr) (t : Nat), vs = [.ref r.d] ∧ DrawAt r t H ∧ t + 1 ≤ tMax ∧ ∀ z H', DrawAt r (t + 1) H' → KeepD r H H' → Q (.int z) H'
def spTake : Sp := fun vs H Q _ => ∃ (r : Dr) (t : Nat) (n : Int), vs = [.ref r.d, .int n] ∧ DrawAt r t H ∧ t + 1 ≤ tMax ∧ 0 < n ∧ n < 1073741824 ∧ ∀ k H', 0 ≤ k → k < n → DrawAt r (t + 1) H' → KeepD r H H' → Q (.int k) H'
theorem tMax_lt {t : Nat} (h : t ≤ tMax) : (t : Int) ≤ 1000000000000 := by unfold tMax at h; omega
/-- what the second half of the mixing needs: 69621 turn + p // 23 is small -/
theorem blend0 {turn p : Int} (h0 : 0 ≤ turn) (h1 : turn ≤ 1000000000000) (p0 : 0 < p) (p1 : p ≤ 2147483647) : (69621 * turn + p.fdiv 23).natAbs < 18446744073709551616 := by
  rw [Int.fdiv_eq_ediv_of_nonneg _ (by omega)]
  omega
theorem modBound {x p : Int} (p0 : 0 < p) (p1 : p ≤ 2147483647) : (x.fmod p).natAbs < 18446744073709551616 := by
  have a := Int.fmod_nonneg_of_pos x p0
  have b := Int.fmod_lt_of_pos x p0
  omega
theorem primes4 : ∀ {i : Nat} {x : V}, ([V.int 2147483647, V.int 2147483629, V.int 2147483587, V.int 2147483579] : List V)[i]? = some x → ∃ p : Int, x = .int p ∧ 0 < p ∧ p ≤ 2147483647
  | 0, _, h => ⟨_, (Option.some.inj h).symm, by decide, by decide⟩
  | 1, _, h => ⟨_, (Option.some.inj h).symm, by decide, by decide⟩
  | 2, _, h => ⟨_, (Option.some.inj h).symm, by decide, by decide⟩
  | 3, _, h => ⟨_, (Option.some.inj h).symm, by decide, by decide⟩
  | _ + 4, _, h => nomatch h
theorem int_at {ns : List Int} {i : Nat} {y : V} (h : (ns.map V.int)[i]? = some y) : ∃ u, ns[i]? = some u ∧ y = .int u := by
  rw [List.getElem?_map] at h
  cases e : ns[i]? with
  | none => rw [e] at h; cases h
  | some u => rw [e] at h; exact ⟨u, rfl, (Option.some.inj h).symm⟩
end EL

set_option Elab.async false
set_option linter.all false
set_option maxRecDepth 100000
set_option maxHeartbeats 4000000
namespace EL
open PySem PySem.Spec PyProof.Rows L2
def ok_take : OkD := fun ds R => ∃ n : Int, ds = [.int n] ∧ 0 < n ∧ n < 1073741824 ∧ ∀ k, 0 ≤ k → k < n → R (.int k)
theorem Def.imp {P : Program} {W : World} {K : PySem.W.Frag} {mg : Str → Option Value} {base : Heap} {nm : Str} {k : Nat} {ps : List Str} {sp sp' : Sp} (d : Def P W K mg base nm k ps sp) (h : ∀ vs H Q E, sp' vs H Q E → sp vs H Q E) : Def P W K mg base nm k ps sp' := by
  obtain ⟨f, fd, hm, kp, b, F⟩ := d
  exact ⟨f, fd, hm, kp, b, F.imp h⟩
theorem keep_ok {K : PySem.W.Frag} {wf : Nat → Wd} {r : Dr} (hw : DrawW wf r) {t t' : Nat} {G : Hp} {σ : L2.St} {H H' : Hp} {env : Env} {F : Hp → Prop} (o : Ok K (wf t) G σ H env F) (d : DrawAt r t' H') (kp : KeepD r H H') : Ok K (wf t') G σ H' env F := by
  refine ⟨o.sl, fun a ha => by rw [hw.me t' t]; exact o.nm a ha, fun a u q => ?_, hw.put t t' G H H' o.i d (fun a ha n1 n2 => ?_), o.st, o.f⟩
  · have nM := o.nm a (by rw [q]; exact fun z => nomatch z)
    obtain ⟨o', h', c⟩ := o.sub a u q
    exact ⟨o', kp a (fun z => nM (z ▸ (hw.m t).1)) (fun z => nM (z ▸ (hw.m t).2.1)) o' h', c⟩
  · cases e : H a with
    | none => exact absurd e ((wf t).mok G H a o.i ha)
    | some u => exact kp a n1 n2 u e
theorem take_D {P : Program} {W : World} {K : PySem.W.Frag} {mg : Str → Option Value} {base : Heap} {nm : Str} {k : Nat} {ps : List Str} (d : Def P W K mg base nm k ps spTake) : Def P W K mg base nm k ps (SpD K 1 ok_take) := by
  refine d.imp fun vs H Q E h => ?_
  obtain ⟨wf, r, t, G, ds, R, hw, ht, o, ⟨n, rfl, n0, n1, hk⟩, q⟩ := h
  have rr := o.f
  match vs, rr with
  | [_, _], .cons (.raw _) (.cons (.int _) .nil) =>
    refine ⟨r, t, n, rfl, hw.at_ t G H o.i, ht, n0, n1, fun k H' k0 k1 d' kp => q (.int k) G H' (.int k) (hk k k0 k1) (Sm.refl _) ?_⟩
    have o' := keep_ok hw o d' kp
    exact ⟨sl_nil, o'.nm, o'.sub, o'.i, stab_rep _ _, .int k⟩
/-! ### one step of a drawing def: the world is wf n, or has own objects -/
section
variable {K : PySem.W.Frag} {env : Env} {Q : Wd → D → Prop} {as : TA}
theorem wa_one {P : Wd → List D → Prop} {w : Wd} {ta : TE} (h : Wp K ta w env fun w1 a => P w1 [a]) : Wa K (tCons ta tNil) w env P := wa_cons (h.imp fun w1 a q => wa_nil q)
end
theorem atI_of {α : Type} {xs : List α} {k : Int} (h0 : 0 ≤ k) (h1 : k < xs.length) : ∃ x, x ∈ xs ∧ atI xs k = some x := by
  have hl : k.toNat < xs.length := by omega
  refine ⟨xs[k.toNat], List.getElem_mem hl, ?_⟩
  unfold atI ixN
  rw [if_pos h0, if_pos h1]
  show xs[k.toNat]? = _
  exact List.getElem?_eq_getElem hl
/-! ### own objects, further -/
section
variable {K : PySem.W.Frag} {w : Wd} {env : Env} {Q : Wd → D → Prop} {as : TA} {Z : DEnds} {ts : TS}
theorem Ok.flat {L L' : Own} {G : Hp} {σ : L2.St} {H : Hp} {F : Hp → Prop} (o : Ok K ((w.own K L).own K L') G σ H env F) : Ok K (w.own K (L' ++ L)) G σ H env F := by
  have ea : Own.as (L' ++ L) = L'.as ++ L.as := by simp [Own.as]
  refine ⟨o.sl, fun a ha => ?_, o.sub, ⟨o.i.1.1, ⟨?_, fun a ha => ?_⟩, fun x hx => ?_⟩, o.st, o.f⟩
  · show a ∉ Own.as (L' ++ L) ++ w.M
    rw [ea, List.append_assoc]; exact o.nm a ha
  · rw [ea, List.nodup_append]
    exact ⟨o.i.2.1.1, o.i.1.2.1.1, fun a ha b hb e => o.i.2.1.2 a ha (List.mem_append_left _ (e ▸ hb))⟩
  · rw [ea] at ha
    rcases List.mem_append.mp ha with ha | ha
    · exact fun z => o.i.2.1.2 a ha (List.mem_append_right _ z)
    · exact o.i.1.2.1.2 a ha
  · rcases List.mem_append.mp hx with hx | hx
    · exact o.i.2.2 x hx
    · exact o.i.1.2.2 x hx
/-- len(xs) of one's own list -/
theorem wb_lenO {L : Own} {k : Nat} {p : Addr} {ds : List D} (hL : L[k]? = some (p, .lst ds)) (q : Q (w.own K L) (.int ds.length)) : Wb K (fun xs H Q => ∃ p ys, xs = [.ref p] ∧ (SqL K H p ys ∨ SqT K H p ys) ∧ Q (.int ys.length) H) (w.own K L) [.raw (.ref p)] Q := fun G σ H env R F xs o r c => by
  match xs, r with
  | [x], .cons rx .nil =>
    cases rep_raw rx
    obtain ⟨us, hu, ru⟩ := own_at o.i hL
    refine ⟨p, us, rfl, .inl (SqL.of hu), c _ _ G H _ q (o.push (stab_rep _ _) ?_)⟩
    rw [ru.length]; exact .int _
/-- xs != [] of one's own list -/
theorem wt_neO {T : Wd → Bool → Prop} {L : Own} {i k : Nat} {p : Addr} {ds : List D} (hi : env[i]? = some (some (.raw (.ref p)))) (hL : L[k]? = some (p, .lst ds)) (hs : pls ds = true) (hd : (py (.lst ds)).depth ≤ 50) (q : T (w.own K L) (!ds.isEmpty)) : Wt K (tTest (tOp (rEqP K true) (tVar i) (tLst tNil))) (w.own K L) env T := fun G σ H R F o c => by
  obtain ⟨v, e, r⟩ := o.sl.get i _ hi
  cases rep_raw r
  obtain ⟨us, hu, ru⟩ := own_at o.i hL
  refine ⟨.ref p, e, Nat.zero_le _, fun l hl => ?_⟩
  have nl : p ≠ l := ne_of_none hu hl
  have s2 : Sm H (upd H l (.lst [])) := same_new hl
  refine ⟨.list (pys ds), .list [], .lst (SqL.of (by rw [upd_ne nl]; exact hu)) (dps_mono s2 (dps_mono o.sub (ru.dp hs))), .lst (SqL.of upd_same) .nil, by unfold py at hd; exact hd, _, rfl, ?_⟩
  have eb : (if true = true then !PyData.eqv (.list (pys ds)) (.list []) else PyData.eqv (.list (pys ds)) (.list [])) = !ds.isEmpty := by
    cases ds with
    | nil => simp [pys, PyData.eqv, PyData.eqvAll]
    | cons d ds => simp [pys, PyData.eqv, PyData.eqvAll]
  rw [eb]
  exact c _ _ G _ q (o.junk hl)
end
section
variable {K : PySem.W.Frag} {w : Wd} {env : Env} {Q : Wd → D → Prop} {as : TA} {Z : DEnds} {ts : TS}
/-- a, b = list(xs), [] -/
theorem es_two {i j k : Nat} {d : D} {ds : List D} (hk : env[k]? = some (some d)) (hd : d = .lst ds ∨ d = .tup ds) (h : ∀ p q, Z.nx (w.own K [(q, .lst []), (p, .lst ds)]) ((env.set i (some (.raw (.ref p)))).set j (some (.raw (.ref q))))) :
    Es K (tPar i j (tCons (tCB (fun xs H Q => ∃ p ys, xs = [.ref p] ∧ (SqL K H p ys ∨ SqT K H p ys) ∧ ∀ l, H l = none → Q (.ref l) (upd H l (.lst ys))) (tCons (tVar k) tNil)) (tCons (tLst tNil) tNil))) w env Z := fun G σ H De F o c1 c2 c3 c4 => by
  obtain ⟨v, e, r⟩ := o.sl.get k _ hk
  obtain ⟨a, vs, rfl, hq, h2⟩ : ∃ a vs, v = .ref a ∧ (SqL K H a vs ∨ SqT K H a vs) ∧ Reps K G vs ds := by
    rcases hd with rfl | rfl
    · obtain ⟨a, vs, e, h1, h2⟩ := rep_lst r
      exact ⟨a, vs, e, .inl (ex_l o.sub h1), h2⟩
    · obtain ⟨a, vs, e, h1, h2⟩ := rep_tup r
      exact ⟨a, vs, e, .inr (ex_t o.sub h1), h2⟩
  refine ⟨.ref a, e, a, vs, rfl, hq, fun p hp => ⟨Nat.zero_le _, fun q hq' => ?_⟩⟩
  have o1 : Ok K (w.own K [(p, .lst ds)]) G σ (upd H p (.lst vs)) env F := Ok.own o hp ⟨vs, upd_same, h2⟩
  have o2 : Ok K ((w.own K [(p, .lst ds)]).own K [(q, .lst [])]) G σ (upd (upd H p (.lst vs)) q (.lst [])) env F := Ok.own o1 hq' ⟨[], upd_same, .nil⟩
  have o3 := o2.flat
  exact ⟨.ref p, .ref q, rfl, c1 _ G _ _ _ (h p q) (o3.se ((o3.sl.set (.raw _) i).set (.raw _) j))⟩
end
theorem dep_strs (ss : List Str) : (py (.lst (ss.map D.str))).depth ≤ 50 := by
  have h2 : ∀ ss : List Str, PyData.depthAll (ss.map PyData.str) = 0 := fun ss => by
    induction ss with
    | nil => simp [PyData.depthAll]
    | cons n ns ih => simp [PyData.depthAll, PyData.depth, ih]
  unfold py
  rw [pys_str]
  simp [PyData.depth, h2]
theorem strs_of {ys : List D} (h : ∀ y ∈ ys, ∃ s, y = D.str s) : ∃ ss : List Str, ys = ss.map D.str := by
  induction ys with
  | nil => exact ⟨[], rfl⟩
  | cons y ys ih =>
    obtain ⟨s, rfl⟩ := h y List.mem_cons_self
    obtain ⟨ss, e⟩ := ih fun z hz => h z (List.mem_cons_of_mem _ hz)
    exact ⟨s :: ss, by rw [e]; rfl⟩
theorem perm_erase {α : Type} : ∀ (l : List α) (k : Nat) (h : k < l.length), ([l[k]] ++ l.eraseIdx k).Perm l
  | a :: l, 0, _ => List.Perm.refl _
  | a :: l, k + 1, h => by
    have ih := perm_erase l k (by simpa using h)
    exact (List.Perm.swap a _ _).trans (ih.cons a)
end EL

set_option Elab.async false
set_option linter.all false
set_option maxRecDepth 100000
set_option maxHeartbeats 4000000
namespace EL
open PySem PySem.Spec PyProof.Rows L2
def mergeD (kvs more : List (Key × D)) : List (Key × D) := more.foldl (fun acc kv => putD acc kv.1 kv.2) kvs
section
variable {K : PySem.W.Frag} {G : Hp}
theorem merge_rep : ∀ {more : List (Key × V)} {dm : List (Key × D)} {kvs : List (Key × V)} {ds : List (Key × D)}, dm.map (·.1) = more.map (·.1) → Reps K G (more.map (·.2)) (dm.map (·.2)) → ds.map (·.1) = kvs.map (·.1) → Reps K G (kvs.map (·.2)) (ds.map (·.2)) →
    (mergeD ds dm).map (·.1) = (mergeK kvs more).map (·.1) ∧ Reps K G ((mergeK kvs more).map (·.2)) ((mergeD ds dm).map (·.2))
  | [], [], _, _, _, _, e, r => ⟨e, r⟩
  | [], _ :: _, _, _, e, _, _, _ => by cases e
  | _ :: _, [], _, _, e, _, _, _ => by cases e
  | (a, v) :: more, (b, d) :: dm, kvs, ds, e, r, e', r' => by
    simp only [List.map_cons, List.cons.injEq] at e
    obtain ⟨rfl, e2⟩ := e
    simp only [List.map_cons] at r
    cases r with
    | cons r1 r2 =>
      obtain ⟨h1, h2⟩ := put_rep (k := b) r1 e' r'
      exact merge_rep (more := more) (dm := dm) e2 r2 h1 h2
end
theorem reps2 {K : PySem.W.Frag} {G : Hp} {us : List V} {a b : D} (h : Reps K G us [a, b]) : ∃ x y, us = [x, y] ∧ Rep K G x a ∧ Rep K G y b := by
  cases h with
  | cons r t =>
    cases t with
    | cons r' t' =>
      cases t'
      exact ⟨_, _, rfl, r, r'⟩
/-- pairs of keys and values that differ -/
theorem merge_new : ∀ {more ds : List (Key × D)}, ((ds ++ more).map (·.1)).Nodup → mergeD ds more = ds ++ more
  | [], ds, _ => by simp [mergeD]
  | (k, d) :: more, ds, h => by
    have e : putD ds k d = ds ++ [(k, d)] := by
      unfold putD
      rw [if_neg]
      intro z
      obtain ⟨x, hx, ex⟩ := List.any_eq_true.mp z
      have ex' : x.1 = k := of_decide_eq_true ex
      rw [List.map_append, List.map_cons, List.nodup_append] at h
      exact h.2.2 x.1 (List.mem_map.mpr ⟨x, hx, rfl⟩) k List.mem_cons_self ex'
    show mergeD (putD ds k d) more = _
    rw [e, merge_new (by rw [List.append_assoc]; exact h), List.append_assoc]
    rfl
section
variable {K : PySem.W.Frag} {w : Wd} {env : Env} {Q : Wd → D → Prop} {ta tb te td ty tv : TE} {as : TA} {Z : DEnds} {ts : TS}
theorem Wp.flat (h : Wp K te w env fun w1 d => ∃ w0 L L', w1 = Wd.own K (Wd.own K w0 L) L' ∧ Q (Wd.own K w0 (L' ++ L)) d) : Wp K te w env Q := fun G σ H R F o c =>
  h G σ H R F o fun w1 v G1 H1 d q o1 => by
    obtain ⟨w0, L, L', rfl, q⟩ := q
    exact c _ v G1 H1 d q o1.flat
/-- dict(xs) of pairs, one's own -/
theorem wp_dictP (h : Wp K te w env fun w1 d => ∃ ps : List (Key × D), d = .lst (ps.map fun p => .tup [kD p.1, p.2]) ∧ ∀ p, Q (w1.own K [(p, .dct (mergeD [] ps))]) (.raw (.ref p))) :
    Wp K (tCB (fun xs H Q => ∃ (a : Addr) (ps : List Addr) (kvs : List (Key × V)), xs = [.ref a] ∧ SqL K H a (ps.map V.ref) ∧ Paired (fun p kv => SqT K H p [kV kv.1, kv.2]) ps kvs ∧ ∀ p, H p = none → Q (.ref p) (upd H p (.dK (mergeK [] kvs)))) (tCons te tNil)) w env Q := fun G σ H R F o c =>
  h G σ H _ F o fun w1 x G1 H1 d q o1 => by
    obtain ⟨ps, rfl, q⟩ := q
    obtain ⟨a, vs, rfl, hs, hr⟩ := rep_lst o1.f.2
    obtain ⟨as', kvs, e1, e2, e3, e4⟩ : ∃ (as' : List Addr) (kvs : List (Key × V)), vs = as'.map V.ref ∧ Paired (fun p kv => SqT K H1 p [kV kv.1, kv.2]) as' kvs ∧ ps.map (·.1) = kvs.map (·.1) ∧ Reps K G1 (kvs.map (·.2)) (ps.map (·.2)) := by
      clear q hs
      have sub := o1.sub
      clear o1
      induction ps generalizing vs with
      | nil => cases hr; exact ⟨[], [], rfl, .nil, rfl, .nil⟩
      | cons p ps ih =>
        cases hr with
        | cons r1 r2 =>
          obtain ⟨as', kvs, rfl, e2, e3, e4⟩ := ih _ r2
          obtain ⟨b, us, rfl, h1, h2⟩ := rep_tup r1
          obtain ⟨x, y, rfl, rk, ry⟩ := reps2 h2
          have ex : x = kV p.1 := rep_key rk
          subst ex
          exact ⟨b :: as', (p.1, y) :: kvs, rfl, .cons (ex_t sub h1) e2, by rw [List.map_cons, List.map_cons, e3], .cons ry e4⟩
    subst e1
    refine ⟨a, as', kvs, rfl, ex_l o1.sub hs, e2, fun p hp => ?_⟩
    have hm := merge_rep (K := K) (G := G1) (kvs := []) (ds := []) e3 e4 rfl .nil
    have o2 : Ok K (w1.own K [(p, .dct (mergeD [] ps))]) G1 σ (upd H1 p (.dK (mergeK [] kvs))) env F := Ok.own (ok_drop o1 o.st) hp ⟨_, upd_same, hm.1, hm.2⟩
    exact c _ (.ref p) G1 _ _ (q p) (o2.push (stab_rep _ _) (.raw _))
/-! ### {k: v, ..} -/
def Wpp (K : PySem.W.Frag) (trs : List (TE × TE)) (w : Wd) (env : Env) (Q : Wd → List (D × D) → Prop) : Prop :=
  ∀ G σ H (R : List (V × V) → Hp → Prop) (F : Hp → Prop), Ok K w G σ H env F → (∀ w' ps G' H' ds, Q w' ds → Ok K w' G' σ H' env (fun G => F G ∧ Reps K G (ps.map (·.1)) (ds.map (·.1)) ∧ Reps K G (ps.map (·.2)) (ds.map (·.2))) → R ps H') → tPairs trs σ H R
theorem wpp_nil {P : Wd → List (D × D) → Prop} (q : P w []) : Wpp K [] w env P := fun G σ H R F o c => c w [] G H [] q (o.push (fun _ _ e z => ⟨z.1.mono e, z.2.mono e⟩) ⟨.nil, .nil⟩)
theorem wpp_cons {P : Wd → List (D × D) → Prop} {trs : List (TE × TE)} (h : Wp K ta w env fun w1 a => Wp K tb w1 env fun w2 b => Wpp K trs w2 env fun w3 ds => P w3 ((a, b) :: ds)) : Wpp K ((ta, tb) :: trs) w env P := fun G σ H R F o c =>
  h G σ H _ F o fun w1 x G1 H1 a q1 o1 => q1 G1 σ H1 _ _ o1 fun w2 y G2 H2 b q2 o2 => q2 G2 σ H2 _ _ o2 fun w3 ps G3 H3 ds q3 o3 =>
    c w3 ((x, y) :: ps) G3 H3 ((a, b) :: ds) q3 (o3.as (stab_and o.st (fun _ _ e z => ⟨z.1.mono e, z.2.mono e⟩)) ⟨o3.f.1.1.1, .cons o3.f.1.1.2 o3.f.2.1, .cons o3.f.1.2 o3.f.2.2⟩)
theorem wp_disp {trs : List (TE × TE)} (h : ∀ p, Wpp K trs (w.own K [(p, .dct [])]) env fun w1 ps => ∃ (w2 : Wd) (kvs : List (Key × D)), w1 = w2.own K [(p, .dct [])] ∧ ps = kvs.map (fun kv => (kD kv.1, kv.2)) ∧ kvs.length ≤ 15 ∧ Q (w2.own K [(p, .dct (mergeD [] kvs))]) (.raw (.ref p))) :
    Wp K (tDisp trs) w env Q := fun G σ H R F o c p hp => by
  have o0 : Ok K (w.own K [(p, .dct [])]) G σ (upd H p (.dK [])) env F := Ok.own o hp ⟨[], upd_same, rfl, .nil⟩
  refine h p G σ _ _ F o0 fun w1 ps G1 H1 ds q o1 => ?_
  obtain ⟨w2, kvs, rfl, rfl, hn, q⟩ := q
  obtain ⟨kk, hk, hk1, hk2⟩ := own_at o1.i (k := 0) (L := [(p, .dct [])]) rfl
  have hk0 : kk = [] := by cases kk with
    | nil => rfl
    | cons => cases hk1
  subst hk0
  have ek : (kvs.map (fun kv => (kD kv.1, kv.2))).map (·.1) = kvs.map (fun kv => kD kv.1) := by simp
  have ev : (kvs.map (fun kv => (kD kv.1, kv.2))).map (·.2) = kvs.map (·.2) := by simp
  have r1 := o1.f.2.1
  have r2 := o1.f.2.2
  rw [ek] at r1
  rw [ev] at r2
  obtain ⟨vks, e1, e2⟩ : ∃ vks : List (Key × V), ps = vks.map (fun kv => (kV kv.1, kv.2)) ∧ kvs.map (·.1) = vks.map (·.1) := by
    clear q hn hk hk1 hk2 o1 r2 ek ev
    induction kvs generalizing ps with
    | nil =>
      cases ps with
      | nil => exact ⟨[], rfl, rfl⟩
      | cons => cases r1
    | cons kv kvs ih =>
      cases ps with
      | nil => cases r1
      | cons p ps =>
        cases r1 with
        | cons ra rb =>
          obtain ⟨vks, e1, e2⟩ := ih _ rb
          obtain ⟨x, y⟩ := p
          have ex : x = kV kv.1 := rep_key ra
          subst ex
          exact ⟨(kv.1, y) :: vks, by rw [e1]; rfl, by rw [List.map_cons, List.map_cons, e2]⟩
  subst e1
  have r3 : Reps K G1 (vks.map (·.2)) (kvs.map (·.2)) := by
    have e : (vks.map (fun kv => (kV kv.1, kv.2))).map (·.2) = vks.map (·.2) := by simp
    rw [e] at r2; exact r2
  have hl : vks.length = kvs.length := by have := congrArg List.length e2; simpa using this.symm
  have hm := merge_rep (K := K) (G := G1) (kvs := []) (ds := []) e2 r3 rfl .nil
  refine ⟨hk, vks, rfl, by rw [hl]; exact hn, ?_⟩
  have o2 := Ok.mod (k := 0) (o := .dK (mergeK [] vks)) (d' := .dct (mergeD [] kvs)) o1 rfl ⟨_, upd_same, hm.1, hm.2⟩
  exact c _ (.ref p) G1 _ _ q ((o2.as o.st o2.f.1).push (stab_rep _ _) (.raw _))
end
/-! ### promises of defs that draw and hand back something of one's own -/
abbrev OkDO := List D → (Own → D → Prop) → Prop
def SpDO (K : PySem.W.Frag) (c : Nat) (ok : OkDO) : Sp := fun vs H Q _ =>
  ∃ (wf : Nat → Wd) (r : Dr) (t : Nat) (G : Hp) (ds : List D) (R : Own → D → Prop), DrawW wf r ∧ t + c ≤ tMax ∧ Ok K (wf t) G [] H [] (fun G => Reps K G vs (.raw (.ref r.d) :: ds)) ∧ ok ds R ∧
    ∀ v G' H' L d, R L d → Sm G G' → Ok K ((wf (t + c)).own K L) G' [] H' [] (fun G => Rep K G v d) → Q v H'
section
variable {K : PySem.W.Frag} {w : Wd} {env : Env} {Q : Wd → D → Prop} {as : TA}
theorem wp_callDO {c : Nat} {ok : OkDO} {E : XK} (h : Wa K as w env fun w1 ds => ∃ (wf : Nat → Wd) (r : Dr) (t : Nat) (es : List D), w1 = wf t ∧ ds = .raw (.ref r.d) :: es ∧ DrawW wf r ∧ t + c ≤ tMax ∧ ok es (fun L d => Q ((wf (t + c)).own K L) d)) :
    Wp K (tCall (SpDO K c ok) [] E as) w env Q := fun G σ H R F o k =>
  h G σ H _ F o fun w1 vs G1 H1 ds q o1 => by
    obtain ⟨wf, r, t, es, rfl, rfl, hw, hc, q⟩ := q
    refine ⟨wf, r, t, G1, es, fun L d => Q ((wf (t + c)).own K L) d, hw, hc, ⟨sl_nil, o1.nm, o1.sub, o1.i, stab_reps _ _, ?_⟩, q, fun v G' H' L d qd sm o' => k _ v G' H' d qd ?_⟩
    · rw [List.append_nil]; exact o1.f.2
    · exact ⟨o1.sl.mono sm, o'.nm, o'.sub, o'.i, stab_and o.st (stab_rep _ _), ⟨o.st _ _ sm o1.f.1, o'.f⟩⟩
end
section
variable {P : Program} {W : World} {K : PySem.W.Frag} {mg : Str → Option Value} {base : Heap}
theorem def_okDO {nm : Str} {st : Stmt} {N ps : List Str} {k c : Nat} {ok : OkDO} (F : DefAt K mg nm st ps) (S : FnScope N ps (defScope st)) (hl : ∀ ds R, ok ds R → ds.length + 1 = ps.length)
    (hb : ∀ (f : Addr) (cdv : Value) (A : Around) (outer : List PySem.Env) (s : Shared) (H : Hp) (E : XK), Room k (A.deeper (envOfC nm (defScope st) s.heap.objs.size f cdv)) →
      ∃ t, PSs (cxOf CX0 P W K mg base N nm (defScope st) f cdv A outer s H E).nox (defBody st) t ∧
        ∀ wf r n ds R, DrawW wf r → n + c ≤ tMax → ok ds R → Es K t (wf n) (startD N (.raw (.ref r.d) :: ds)) { nx := fun _ _ => False, rt := fun w' d => ∃ m L, m ≤ n + c ∧ w' = Wd.own K (wf m) L ∧ R L d }) :
    Def P W K mg base nm (k + 1) ps (SpDO K c ok) := by
  obtain ⟨f, fd, hm, F, b⟩ := F
  refine ⟨f, fd, hm, F.kp, b, F.ok S (fun vs H Q E h => ?_) (fun cdv A outer s H vs Q E hr h => ?_)⟩
  · obtain ⟨wf, r, t, G, ds, R, _, _, i, o, _⟩ := h
    rw [i.f.length]; exact hl ds R o
  · obtain ⟨t, ht, he⟩ := hb f cdv A outer s H E hr
    refine ⟨t, ht, ?_⟩
    obtain ⟨wf, r, n, G, ds, R, hw, hc, i, o, q⟩ := h
    refine he (fun t => (wf t).since G) r n ds R (hw.since G) hc o G (L2.start N vs) H _ (fun _ => True) ⟨sl_start i.f, i.nm, i.sub, ⟨i.i, Sm.refl _⟩, stab_true, trivial⟩ (fun _ _ _ _ _ z => z.elim) ?_ (fun _ _ _ _ _ z => z.elim) (fun _ _ _ _ _ z => z.elim)
    rintro w' v G' σ' H' env' d ⟨m, L, hm, rfl, z⟩ o'
    have o2 : Ok K ((wf m).own K L) G' σ' H' env' _ := ⟨o'.sl, o'.nm, o'.sub, ⟨o'.i.1.1, o'.i.2⟩, o'.st, o'.f⟩
    have o3 := Ok.up (hw.own (K := K) L) hm o2
    exact q v G' H' L d z o'.i.1.2 ⟨sl_nil, o3.nm, o3.sub, o3.i, stab_rep _ _, o3.f.2⟩
end
end EL

set_option Elab.async false
set_option linter.all false
set_option maxRecDepth 100000
set_option maxHeartbeats 4000000
namespace EL
open PySem PySem.Spec PyProof.Rows L2
section
variable {X : Cx}
/-- one of two readings -/
theorem pi_alt {tg l : Expr} {w1 w2 : TI} (h1 : PI X tg l w1) (h2 : PI X tg l w2) : PI X tg l (fun σ H R => w1 σ H R ∨ w2 σ H R) := ⟨fun pins s σ H R I h => h.elim (h1.run pins s σ H R I) (h2.run pins s σ H R I)⟩
theorem pe_alt {e : Expr} {t1 t2 : TE} (h1 : PE X e t1) (h2 : PE X e t2) : PE X e (fun σ H R => t1 σ H R ∨ t2 σ H R) := ⟨fun pins s σ H R I h => h.elim (h1.run pins s σ H R I) (h2.run pins s σ H R I)⟩
end
section
variable {K : PySem.W.Frag} {w : Wd} {env : Env} {Q : Wd → D → Prop} {t1 t2 : TE} {w1 w2 : TI} {T : Wd → List D → Prop}
theorem wp_altL (h : Wp K t1 w env Q) : Wp K (fun σ H R => t1 σ H R ∨ t2 σ H R) w env Q := fun G σ H R F o c => .inl (h G σ H R F o c)
theorem wp_altR (h : Wp K t2 w env Q) : Wp K (fun σ H R => t1 σ H R ∨ t2 σ H R) w env Q := fun G σ H R F o c => .inr (h G σ H R F o c)
theorem wi_altL (h : Wi K w1 w env T) : Wi K (fun σ H R => w1 σ H R ∨ w2 σ H R) w env T := fun G σ H R F o c => .inl (h G σ H R F o c)
theorem wi_altR (h : Wi K w2 w env T) : Wi K (fun σ H R => w1 σ H R ∨ w2 σ H R) w env T := fun G σ H R F o c => .inr (h G σ H R F o c)
/-- for .. in a name that holds a list or a tuple -/
theorem wi_seqV {i : Nat} {d : D} {ds : List D} (hi : env[i]? = some (some d)) (hd : d = .lst ds ∨ d = .tup ds) (q : T w ds) : Wi K (fun σ H R => iList K (tVar i) σ H R ∨ iTup K (tVar i) σ H R) w env T := by
  rcases hd with rfl | rfl
  · exact wi_altL (wi_list (wp_var hi ⟨ds, rfl, q⟩))
  · exact wi_altR (wi_tup (wp_var hi ⟨ds, rfl, q⟩))
end
/-- texts -/
def strOf : D → Str
  | .str s => s
  | _ => Str.empty
/-! ### a list or a tuple, still or one's own (or a caller's own) -/
def Has (K : PySem.W.Frag) (w : Wd) (p : Addr) (d : D) : Prop := p ∈ w.M ∧ ∀ G H, w.I G H → At K G H p d
theorem Has.le {K : PySem.W.Frag} {w w' : Wd} {p : Addr} {d : D} (h : Has K w p d) (l : w.le w') : Has K w' p d := ⟨l.m p h.1, fun G H i => h.2 G H (l.i G H i)⟩
theorem has_own {K : PySem.W.Frag} {w : Wd} {L : Own} {k : Nat} {p : Addr} {d : D} (h : L[k]? = some (p, d)) : Has K (w.own K L) p d :=
  ⟨List.mem_append_left _ (List.mem_map.mpr ⟨(p, d), List.mem_of_getElem? h, rfl⟩), fun G H i => own_at i h⟩
theorem Wd.le_since (w : Wd) (G : Hp) : w.le (w.since G) := ⟨fun _ h => h, fun _ _ h => h.1⟩
def Seq (K : PySem.W.Frag) (w : Wd) (d : D) (ds : List D) : Prop := (d = .lst ds ∨ d = .tup ds) ∨ ∃ p, d = .raw (.ref p) ∧ Has K w p (.lst ds)
theorem Seq.le {K : PySem.W.Frag} {w w' : Wd} {d : D} {ds : List D} (h : Seq K w d ds) (l : w.le w') : Seq K w' d ds := h.imp id fun ⟨p, e, q⟩ => ⟨p, e, q.le l⟩
section
variable {K : PySem.W.Frag} {w : Wd} {env : Env} {Q : Wd → D → Prop} {d : D} {ds : List D}
theorem seq_at {G : Hp} {σ : L2.St} {H : Hp} {F : Hp → Prop} {x : V} (s : Seq K w d ds) (o : Ok K w G σ H env F) (r : Rep K G x d) : ∃ a vs, x = .ref a ∧ (SqL K H a vs ∨ SqT K H a vs) ∧ Reps K G vs ds := by
  rcases s with (rfl | rfl) | ⟨p, rfl, h⟩
  · obtain ⟨a, vs, e, h1, h2⟩ := rep_lst r
    exact ⟨a, vs, e, .inl (ex_l o.sub h1), h2⟩
  · obtain ⟨a, vs, e, h1, h2⟩ := rep_tup r
    exact ⟨a, vs, e, .inr (ex_t o.sub h1), h2⟩
  · cases rep_raw r
    obtain ⟨us, hu, ru⟩ := h.2 G H o.i
    exact ⟨p, us, rfl, .inl (SqL.of hu), ru⟩
theorem wb_lenS (s : Seq K w d ds) (q : Q w (.int ds.length)) : Wb K (fun xs H Q => ∃ p ys, xs = [.ref p] ∧ (SqL K H p ys ∨ SqT K H p ys) ∧ Q (.int ys.length) H) w [d] Q := fun G σ H env R F xs o r c => by
  match xs, r with
  | [x], .cons rx .nil =>
    obtain ⟨a, vs, rfl, h1, h2⟩ := seq_at s o rx
    refine ⟨a, vs, rfl, h1, c w _ G H _ q (o.push (stab_rep _ _) ?_)⟩
    rw [h2.length]; exact .int _
theorem wb_sortS {ss : List Str} (s : Seq K w d (ss.map D.str)) (q : Q w (.lst ((sortS ss).map D.str))) : Wb K (rSortX K) w [d] Q := fun G σ H env R F xs o r c => by
  match xs, r with
  | [x], .cons rx .nil =>
    obtain ⟨a, vs, rfl, h1, h2⟩ := seq_at s o rx
    refine ⟨a, vs, pys (ss.map D.str), rfl, h1, dps_mono o.sub (h2.dp (pls_str ss)), ?_, ?_, ?_, fun p hp' => c w (.ref p) _ _ _ q (o.newLst hp' (by rw [← srt_str]; exact srt_reps h2))⟩
    · rw [pys_str]
      intro d hd d' hd'
      obtain ⟨x, _, rfl⟩ := List.mem_map.mp hd
      obtain ⟨y, _, rfl⟩ := List.mem_map.mp hd'
      simp [PySem.W.alike]
    · rw [pys_str]
      refine .inr fun d hd => ?_
      obtain ⟨x, _, rfl⟩ := List.mem_map.mp hd
      exact ⟨(fun z => nomatch z), (fun _ z => nomatch z)⟩
    · rw [pys_str]
      intro d hd
      obtain ⟨x, _, rfl⟩ := List.mem_map.mp hd
      simp [PyData.depth]
theorem w2_inS {a : D} (s : Seq K w d ds) (ha : flatD a = true) (hs : ds.all flatD = true) (q : Q w (.bl (inD a ds))) : W2 K (rIn K false) w a d Q := fun G σ H env R F x y o rx ry c => by
  obtain ⟨p, vs, rfl, h1, h2⟩ := seq_at s o ry
  obtain ⟨rfl, f⟩ := rep_flat rx ha
  obtain ⟨rfl, f'⟩ := reps_flat h2 hs
  exact ⟨p, _, rfl, h1, f, f', c w _ G H _ q (o.push (stab_rep _ _) (.bl _))⟩
theorem wp_lenSetS {ta : TE} (h : Wp K ta w env fun w1 d => ∃ ks : List Key, Seq K w1 d (ks.map kD) ∧ ks.length ≤ 1000 ∧ Q w1 (.int (dn ks ks.length : Nat))) : Wp K (tLenSetK K ta) w env Q := fun G σ H R F o c =>
  h G σ H _ F o fun w1 v G1 H1 d q o1 => by
    obtain ⟨ks, s, hn, q⟩ := q
    obtain ⟨a, vs, rfl, h1, h2⟩ := seq_at s (ok_drop o1 o.st) o1.f.2
    rw [reps_keys h2] at h1
    exact ⟨a, ks, rfl, h1, hn, c w1 _ G1 H1 _ q ((ok_drop o1 o.st).push (stab_rep _ _) (.int _))⟩
/-- isinstance(x, (list, tuple)) -/
theorem wb_isSeq (s : Seq K w d ds) (q : Q w (.bl true)) : Wb K (rIsiS K) w [d, .tup [.raw (.ty "list"), .raw (.ty "tuple")]] Q := by
  rcases s with s | ⟨p, rfl, h⟩
  · have hb : isB d = true := by rcases s with rfl | rfl <;> rfl
    have e : isSeq d = true := by rcases s with rfl | rfl <;> rfl
    exact wb_isiS (cs := [.ty "list", .ty "tuple"]) (.cons (.ty _) (.cons (.ty _) .nil)) (isB_raw hb) (isB_obj hb) (isB_dct hb) (kit_seq hb) (by rw [e]; exact q)
  · intro G σ H env R F xs o r k
    match xs, r with
    | [x, y], .cons rx (.cons ry .nil) =>
      cases rep_raw rx
      obtain ⟨us, hu, _⟩ := h.2 G H o.i
      obtain ⟨a, vs, rfl, h1, h2⟩ := rep_tup ry
      have e := reps_raws (cs := [.ty "list", .ty "tuple"]) h2
      subst e
      exact ⟨_, a, _, _, [.type "list", .type "tuple"], true, rfl, ex_t o.sub h1, .cons (.ty _) (.cons (.ty _) .nil), .base (.lst hu), kit_lt (b := true) (c := false) (by decide +kernel) (by decide +kernel), k w _ G H _ q (o.push (stab_rep _ _) (.bl _))⟩
/-- a comprehension over such a one, its parts functions of the item -/
theorem wp_lcSeq {i : Nat} {g : TG} {tt : TT} {te : TE} {vs : List Nat} {f : D → D} {cc : D → Bool} (hi : env[i]? = some (some d)) (s : Seq K w d ds) (hn : ds.length < 100000)
    (hb : ∀ x ∈ ds, ∃ e3, Wgv K g vs x (wipeE env vs) e3 ∧ ∀ w2, w.le w2 → Wt K tt w2 e3 fun w3 b => w3 = w2 ∧ b = cc x ∧ (b = true → Wp K te w2 e3 fun w4 d => w4 = w2 ∧ d = f x)) (q : Q w (.lst ((ds.filter cc).map f))) :
    Wp K (tLc (fun σ H R => iList K (tVar i) σ H R ∨ iTup K (tVar i) σ H R) g tt te vs) w env Q := by
  rcases s with (rfl | rfl) | ⟨a, rfl, h⟩
  · exact wp_lcM (wi_altL (wi_list (wp_var hi ⟨ds, rfl, hn, hb, q⟩)))
  · exact wp_lcM (wi_altR (wi_tup (wp_var hi ⟨ds, rfl, hn, hb, q⟩)))
  · intro G σ H R F o c
    obtain ⟨v, ev, r⟩ := o.sl.get i _ hi
    cases rep_raw r
    obtain ⟨us, hu, ru⟩ := h.2 G H o.i
    refine .inl ⟨.ref a, ev, a, rfl, ⟨us, SqL.of hu⟩, fun p hp => ?_⟩
    have hla : us.length = ds.length := ru.length
    have sF : Stab (fun G => F G ∧ Sl K σ G env) := stab_and o.st (stab_sl _ _)
    have o0 : Ok K (w.own K [(p, .lst [])]) G σ (upd H p (.lst [])) env F := Ok.own o hp ⟨[], upd_same, .nil⟩
    have atA : ∀ {G' σ' H' env' F' acc}, Ok K (w.own K [(p, .lst acc)]) G' σ' H' env' F' → ∃ us', H' a = some (.lst us') ∧ Reps K G' us' ds := fun o' => h.2 _ _ o'.i.1
    refine ⟨fun i m H' => m = ds.length - i ∧ i ≤ ds.length ∧ ∃ G2, Ok K (w.own K [(p, .lst (((ds.take i).filter cc).map f))]) G2 (wipe σ vs) H' (wipeE env vs) (fun G => F G ∧ Sl K σ G env),
      ⟨ds.length, by simp, Nat.zero_le _, G, (o0.as sF ⟨o0.f, o0.sl⟩).se (o0.sl.wipe vs)⟩, ?_⟩
    rintro i m H' ⟨rfl, hi', G2, o2⟩
    obtain ⟨us2, hu2, ru2⟩ := atA o2
    have hl2 : us2.length = ds.length := ru2.length
    by_cases hlt : i < ds.length
    · refine .inr ⟨⟨us2, us2[i], SqL.of hu2, List.getElem?_eq_getElem (by omega)⟩, fun H3 => ∃ G2, Ok K (w.own K [(p, .lst (((ds.take (i + 1)).filter cc).map f))]) G2 (wipe σ vs) H3 (wipeE env vs) (fun G => F G ∧ Sl K σ G env), fun H3 z => ⟨ds.length - (i + 1), by omega, rfl, hlt, z⟩, fun x H3 y => ?_⟩
      obtain ⟨rfl, hy⟩ := y
      obtain ⟨dx, hd, rx⟩ := ru2.getV (hy us2 (SqL.of hu2))
      obtain ⟨e3, g3, b3⟩ := hb dx (List.mem_of_getElem? hd)
      have et : ds.take (i + 1) = ds.take i ++ [dx] := by rw [List.take_succ, hd]; rfl
      refine g3 _ G2 _ H3 _ x _ o2 rx fun σ4 ew o4 => ⟨ew.trans (wipe_wipe σ vs), ?_⟩
      refine b3 _ (w.le_own _) G2 σ4 H3 _ _ o4 fun w5 b G5 H5 q5 o5 => ?_
      obtain ⟨rfl, rfl, q5⟩ := q5
      by_cases cx : cc dx = true
      · rw [if_pos cx]
        refine (q5 cx) G5 σ4 H5 _ _ o5 fun w6 v G6 H6 d6 q6 o6 => ?_
        obtain ⟨rfl, rfl⟩ := q6
        obtain ⟨vs6, hv6, rv6⟩ := own_at o6.i (k := 0) rfl
        have hlen : vs6.length ≤ ds.length := by
          rw [rv6.length, List.length_map]
          exact Nat.le_trans (List.length_filter_le _ _) (by rw [List.length_take]; omega)
        refine ⟨vs6, hv6, Nat.lt_of_lt_of_le (by omega : vs6.length < 100000) (by decide), G6, ?_⟩
        have o7 := Ok.mod (k := 0) (o := .lst (vs6 ++ [v])) (d' := .lst (((ds.take i).filter cc).map f ++ [f dx])) o6 rfl ⟨vs6 ++ [v], upd_same, rv6.append (.cons o6.f.2 .nil)⟩
        have ee : ((ds.take (i + 1)).filter cc).map f = ((ds.take i).filter cc).map f ++ [f dx] := by rw [et, List.filter_append, List.map_append]; simp [cx]
        rw [ee]
        exact (o7.as sF o7.f.1).se (o7.f.1.2.wipe vs)
      · rw [if_neg cx]
        have cx' : cc dx = false := by simpa using cx
        have ee : ((ds.take (i + 1)).filter cc).map f = ((ds.take i).filter cc).map f := by rw [et, List.filter_append, List.map_append]; simp [cx']
        rw [ee]
        exact ⟨G5, o5.se (o5.f.2.wipe vs)⟩
    · have e : i = ds.length := by omega
      subst e
      rw [List.take_length] at o2
      obtain ⟨G3, sm, o3⟩ := o2.still
      exact .inl ⟨⟨us2, SqL.of hu2, by omega⟩, c w (.ref p) G3 H' _ q ((o3.se o3.f.1.2).as (stab_and o.st (stab_rep _ _)) ⟨o3.f.1.1, o3.f.2⟩)⟩
end
end EL

set_option Elab.async false
set_option linter.all false
set_option maxRecDepth 100000
set_option maxHeartbeats 4000000
namespace EL
open PySem PySem.Spec PyProof.Rows L2
/-! ### objects that are made -/
def putFD (f : Str) (v : D) : List (Str × D) → List (Str × D)
  | [] => [(f, v)]
  | (g, x) :: r => if g = f then (g, v) :: r else (g, x) :: putFD f v r
theorem putF_rep {K : PySem.W.Frag} {G : Hp} {f : Str} {v : V} {d : D} (rv : Rep K G v d) : ∀ {fs : List (Str × V)} {ds : List (Str × D)}, ds.map (·.1) = fs.map (·.1) → Reps K G (fs.map (·.2)) (ds.map (·.2)) →
    (putFD f d ds).map (·.1) = (putF f v fs).map (·.1) ∧ Reps K G ((putF f v fs).map (·.2)) ((putFD f d ds).map (·.2))
  | [], [], _, _ => ⟨rfl, .cons rv .nil⟩
  | [], _ :: _, e, _ => by cases e
  | _ :: _, [], e, _ => by cases e
  | (a, x) :: fs, (b, y) :: ds, e, r => by
    simp only [List.map_cons, List.cons.injEq] at e
    obtain ⟨rfl, e2⟩ := e
    simp only [List.map_cons] at r
    cases r with
    | cons r1 r2 =>
      unfold putF putFD
      by_cases c : b = f
      · rw [if_pos c, if_pos c]
        exact ⟨by simp [e2], .cons rv r2⟩
      · rw [if_neg c, if_neg c]
        obtain ⟨h1, h2⟩ := putF_rep rv e2 r2
        exact ⟨by simp [h1], .cons r1 h2⟩
section
variable {K : PySem.W.Frag} {w : Wd} {env : Env} {Q : Wd → D → Prop} {ta tb te td ty tv : TE} {as : TA} {Z : DEnds} {ts : TS}
/-- self.f = e -/
theorem es_fldO {f : Str} (h : Wp K tv w env fun w1 v => Wp K ta w1 env fun w2 x => ∃ (w0 : Wd) (L : Own) (k : Nat) (p C : Addr) (fs : List (Str × D)), x = .raw (.ref p) ∧ w2 = w0.own K L ∧ L[k]? = some (p, .obj C fs) ∧ Cls K C ∧ NoAttr K C f ∧ fs.length < 900 ∧ Z.nx (w0.own K (L.set k (p, .obj C (putFD f v fs)))) env) :
    Es K (sFld K ta tv f) w env Z := fun G σ H De F o c1 c2 c3 c4 =>
  h G σ H _ F o fun w1 v G1 H1 d q o1 => q G1 σ H1 _ _ o1 fun w2 x G2 H2 dx q2 o2 => by
    obtain ⟨w0, L, k, p, C, fs, rfl, rfl, hL, hc, hn, hl, q2⟩ := q2
    cases rep_raw o2.f.2
    obtain ⟨dd, fv, hp, hk, hr⟩ := own_at o2.i hL
    have hl' : fv.length = fs.length := by have := congrArg List.length hk; simpa using this.symm
    obtain ⟨e, r⟩ := putF_rep (f := f) o2.f.1.2 hk hr
    refine ⟨p, C, dd, fv, rfl, hp, hc, hn, by omega, ?_⟩
    have o3 := Ok.mod (o := .ins C dd (putF f v fv)) (d' := .obj C (putFD f d fs)) o2 hL ⟨dd, _, upd_same, e, r⟩
    exact c1 _ G2 σ _ env q2 (o3.as o.st o3.f.1.1)
end
/-- __init__: from an empty object to one with these fields -/
abbrev OkI := Wd → List D → List (Str × D) → Prop
def SpI (K : PySem.W.Frag) (C : Addr) (ok : OkI) : Sp := fun vs H Q _ =>
  ∃ (w : Wd) (G : Hp) (x : Addr) (us : List V) (ds : List D) (fs : List (Str × D)), vs = .ref x :: us ∧ Ok K (w.own K [(x, .obj C [])]) G [] H [] (fun G => Reps K G us ds) ∧ ok w ds fs ∧
    ∀ G' H', Sm G G' → Ok K (w.own K [(x, .obj C fs)]) G' [] H' [] (fun _ => True) → Q .non H'
section
variable {P : Program} {W : World} {K : PySem.W.Frag} {mg : Str → Option Value} {base : Heap}
theorem fnI_ok {x qual : Str} {st : Stmt} {f C : Addr} {fd : FuncData} {N ps : List Str} {k : Nat} {ok : OkI} (F : Fun K x qual st f fd) (S : FnScope N ps (defScope st)) (hl : ∀ w ds fs, ok w ds fs → ds.length + 1 = ps.length) (hs : ∀ w G ds fs, ok w ds fs → ok (w.since G) ds fs)
    (hb : ∀ (cdv : Value) (A : Around) (outer : List PySem.Env) (s : Shared) (H : Hp) (E : XK), Room k (A.deeper (envOfC qual (defScope st) s.heap.objs.size f cdv)) →
      ∃ t, PSs (cxOf CX0 P W K mg base N qual (defScope st) f cdv A outer s H E).nox (defBody st) t ∧
        ∀ wd p ds fs, ok wd ds fs → Es K t (Wd.own K wd [(p, .obj C [])]) (startD N (.raw (.ref p) :: ds)) { nx := fun w' _ => w' = Wd.own K wd [(p, .obj C fs)], rt := fun _ _ => False }) :
    FnOk P W K mg base CX0 (k + 1) f fd ps (SpI K C ok) := by
  refine F.ok S (fun vs H Q E h => ?_) (fun cdv A outer s H vs Q E hr h => ?_)
  · obtain ⟨w, G, y, us, ds, fs, rfl, i, o, _⟩ := h
    rw [List.length_cons, i.f.length]; exact hl w ds fs o
  · obtain ⟨t, ht, he⟩ := hb cdv A outer s H E hr
    refine ⟨t, ht, ?_⟩
    obtain ⟨w, G, y, us, ds, fs, rfl, i, o, q⟩ := h
    refine he (w.since G) y ds fs (hs w G ds fs o) G (L2.start N (.ref y :: us)) H _ (fun _ => True) ⟨sl_start (.cons (.raw _) i.f), i.nm, i.sub, ⟨⟨i.i.1, Sm.refl _⟩, i.i.2⟩, stab_true, trivial⟩ ?_ (fun _ _ _ _ _ _ _ z => z.elim) (fun _ _ _ _ _ z => z.elim) (fun _ _ _ _ _ z => z.elim)
    rintro w' G' σ' H' env' rfl o'
    exact q G' H' o'.i.1.2 ⟨sl_nil, o'.nm, o'.sub, ⟨o'.i.1.1, o'.i.2⟩, stab_true, trivial⟩
end
/-- a class of the text: where it stands, and its __init__ -/
structure ClsD (P : Program) (W : World) (K : PySem.W.Frag) (mg : Str → Option Value) (base : Heap) (nm : Str) (C : Addr) (k : Nat) (ps : List Str) (ok : OkI) : Prop where
  g : mg nm = some (.ref C)
  ini : ∃ (f : Addr) (fd : FuncData), Mk K C f ∧ Binds K fd ps [] ∧ FnOk P W K mg base CX0 k f fd ps (SpI K C ok)
theorem pe_makeD {X : Cx} {k k' : Nat} {nm : Str} {C : Addr} {ps : List Str} {ok : OkI} {p pos : Pos} {e : Expr} {es : List Expr} {t : TA} (d : ClsD X.prog X.w X.K X.mg X.base nm C k ps ok) (hr : Room k' X.A) (hk : k + 1 ≤ k') (hg : Gl X nm) (ha : PA X (e :: es) t)
    (hdb : (nm == ("__debug__" : Str)) = false := by decide) (he : starEach (e :: es) X.env = (false, eval e X.env) :: starEach es X.env := by rfl) (hpl : (backTo pos (starEach es X.env)).any (·.1) = false := by rfl) :
    PE X (.Call (.Name nm p) (e :: es) [] pos) (tMake C (SpI X.K C ok) [] E0 t) := by
  obtain ⟨hm, f, fd, M, b, F⟩ := d
  exact pe_make M F (hr.mono hk) hg hm b .nil pass0 ha hdb he hpl
section
variable {K : PySem.W.Frag} {w : Wd} {env : Env} {Q : Wd → D → Prop} {as : TA}
theorem wp_make {C : Addr} {ok : OkI} {E : XK} (h : Wa K as w env fun w1 ds => ∃ fs, ok w1 ds fs ∧ Q w1 (.obj C fs)) : Wp K (tMake C (SpI K C ok) [] E as) w env Q := fun G σ H R F o c =>
  h G σ H _ F o fun w1 vs G1 H1 ds q o1 x dx hx hdx hne => by
    obtain ⟨fs, hok, q⟩ := q
    have o2 := o1.junk (o := .own x) hdx
    have hx2 : (upd H1 dx (.own x)) x = none := by rw [upd_ne hne.symm]; exact hx
    have o3 : Ok K (w1.own K [(x, .obj C [])]) G1 σ (upd (upd H1 dx (.own x)) x (.ins C dx [])) env _ := Ok.own o2 hx2 ⟨dx, [], upd_same, rfl, .nil⟩
    refine ⟨w1, G1, x, vs ++ [], ds, fs, rfl, ⟨sl_nil, o3.nm, o3.sub, o3.i, stab_reps _ _, by rw [List.append_nil]; exact o3.f.2⟩, hok, fun G' H' sm o4 => ⟨rfl, ?_⟩⟩
    have o5 : Ok K (w1.own K [(x, .obj C fs)]) G' σ H' env F := ⟨o1.sl.mono sm, o4.nm, o4.sub, o4.i, o.st, o.st _ _ sm o1.f.1⟩
    obtain ⟨G6, sm6, o6⟩ := o5.still
    exact c w1 (.ref x) G6 H' _ q o6
end
theorem pe_globA {X : Cx} {nm : Str} {a : Addr} {p : Pos} (hg : Gl X nm) (hm : X.mg nm = some (.ref a)) (hd : (nm == ("__debug__" : Str)) = false := by decide) : PE X (.Name nm p) (tC (.ref a)) := pe_glob (v := .ref a) hg hm rfl hd
theorem op_inA {X : Cx} {K : PySem.W.Frag} (e : X.K = K) : OpR X (compareOp .In) (rIn K false) := e ▸ op_in_seq
theorem op_eqA {X : Cx} {K : PySem.W.Frag} (e : X.K = K) (hu : X.A.units + 64 < cLine) : OpR X (compareOp .Eq) (rEqP K false) := e ▸ op_eqP hu
theorem op_neA {X : Cx} {K : PySem.W.Frag} (e : X.K = K) (hu : X.A.units + 64 < cLine) : OpR X (compareOp .NotEq) (rEqP K true) := e ▸ op_neP hu
theorem op_niA {X : Cx} {K : PySem.W.Frag} (e : X.K = K) : OpR X (compareOp .NotIn) (rIn K true) := e ▸ op_notIn_seq
/-- a module's tuple of texts -/
def ConstT (K : PySem.W.Frag) (mg : Str → Option Value) (nm : Str) (ss : List Str) : Prop := ∃ a, mg nm = some (.ref a) ∧ ∀ G : Hp, Rep K G (.ref a) (.tup (ss.map D.str))
theorem flat_strD (ss : List Str) : (ss.map D.str).all flatD = true := by
  rw [List.all_map]
  exact List.all_eq_true.mpr fun _ _ => rfl
theorem inD_str {s : Str} {ss : List Str} : inD (.str s) (ss.map D.str) = true ↔ s ∈ ss := by
  unfold inD inV
  rw [List.map_map, List.any_map, List.any_eq_true]
  constructor
  · rintro ⟨x, hx, e⟩
    have e' : (x == s) = true := e
    exact (beq_iff_eq.mp e') ▸ hx
  · intro h
    exact ⟨s, h, by show (s == s) = true; simp⟩
end EL

set_option Elab.async false
set_option linter.all false
set_option maxRecDepth 100000
set_option maxHeartbeats 4000000
namespace EL
open PySem PySem.Spec PyProof.Rows L2
/-! ### slices -/
def cutD (xs : List D) (lo hi : Option Int) : List D := (xs.drop (HT.sIx xs.length 0 lo)).take (HT.sIx xs.length xs.length hi - HT.sIx xs.length 0 lo)
theorem Reps.cut {K : PySem.W.Frag} {G : Hp} {vs : List V} {ds : List D} (r : Reps K G vs ds) (lo hi : Option Int) : Reps K G (cutV vs lo hi) (cutD ds lo hi) := by
  unfold cutV cutD
  rw [r.length]
  exact (r.drop _).take _
theorem cutD_whole {ds : List D} {lo hi : Option Int} (h : HT.sIx ds.length 0 lo = 0 ∧ HT.sIx ds.length ds.length hi = ds.length) : cutD ds lo hi = ds := by
  unfold cutD
  rw [h.1, h.2]; simp
def Wo (K : PySem.W.Frag) (to : TO) (w : Wd) (env : Env) (Q : Wd → Option Int → Prop) : Prop :=
  ∀ G σ H (R : Option Int → Hp → Prop) (F : Hp → Prop), Ok K w G σ H env F → (∀ w' l G' H', Q w' l → Ok K w' G' σ H' env F → R l H') → to σ H R
section
variable {K : PySem.W.Frag} {w : Wd} {env : Env} {Q : Wd → D → Prop} {ta tb te td ty tv : TE} {as : TA} {Z : DEnds} {ts tu : TS} {tl th : TO}
theorem wo_none {T : Wd → Option Int → Prop} (h : T w none) : Wo K tNoPart w env T := fun G σ H R F o c => c w none G H h o
theorem wo_some {T : Wd → Option Int → Prop} (h : Wp K te w env fun w1 d => ∃ i, d = .int i ∧ T w1 (some i)) : Wo K (tPart te) w env T := fun G σ H R F o c =>
  h G σ H _ F o fun w1 v G1 H1 d q o1 => by
    obtain ⟨i, rfl, q⟩ := q
    have r := o1.f.2
    cases r
    exact ⟨i, rfl, c w1 (some i) G1 H1 q (ok_drop o1 o.st)⟩
theorem wp_slL (h : Wp K te w env fun w1 d => ∃ ds, d = .lst ds ∧ Wo K tl w1 env fun w2 l => Wo K th w2 env fun w3 u => Q w3 (.lst (cutD ds l u))) : Wp K (L2.tSl (rSlL K) te tl th) w env Q := fun G σ H R F o c =>
  h G σ H _ F o fun w1 v G1 H1 d q o1 => by
    obtain ⟨ds, rfl, q⟩ := q
    refine q G1 σ H1 _ _ o1 fun w2 l G2 H2 q2 o2 => q2 G2 σ H2 _ _ o2 fun w3 u G3 H3 q3 o3 => ?_
    obtain ⟨a, vs, rfl, hs, hr⟩ := rep_lst o3.f.2
    exact ⟨a, vs, rfl, ex_l o3.sub hs, fun p hp => c w3 (.ref p) _ _ _ q3 ((ok_drop o3 o.st).newLst hp (hr.cut l u))⟩
theorem wp_slT (h : Wp K te w env fun w1 d => ∃ ds, d = .tup ds ∧ Wo K tl w1 env fun w2 l => Wo K th w2 env fun w3 u => Q w3 (.tup (cutD ds l u))) : Wp K (L2.tSl (rSlA K) te tl th) w env Q := fun G σ H R F o c =>
  h G σ H _ F o fun w1 v G1 H1 d q o1 => by
    obtain ⟨ds, rfl, q⟩ := q
    refine q G1 σ H1 _ _ o1 fun w2 l G2 H2 q2 o2 => q2 G2 σ H2 _ _ o2 fun w3 u G3 H3 q3 o3 => ?_
    obtain ⟨a, vs, rfl, hs, hr⟩ := rep_tup o3.f.2
    refine ⟨a, vs, rfl, ex_t o3.sub hs, fun hw => c w3 (.ref a) G3 H3 _ q3 ((ok_drop o3 o.st).push (stab_rep _ _) ?_), fun _ p hp => c w3 (.ref p) _ _ _ q3 ((ok_drop o3 o.st).newTup hp (hr.cut l u))⟩
    rw [hr.length] at hw
    rw [cutD_whole hw]
    exact .tup hs hr
/-- a middle: what holds between two statements -/
theorem es_seqM (M : Wd → Env → Prop) (h : Es K ts w env { Z with nx := M }) (k : ∀ w1 e1, M w1 e1 → Es K tu w1 e1 Z) : Es K (tSeq ts tu) w env Z :=
  es_seq fun G σ H De F o c1 c2 c3 c4 => h G σ H De F o (fun w1 G1 σ1 H1 e1 m o1 => c1 w1 G1 σ1 H1 e1 (k w1 e1 m) o1) c2 c3 c4
/-- dict(d), one's own -/
theorem wb_dictD {ds : List (Key × D)} (q : ∀ p, Q (w.own K [(p, .dct ds)]) (.raw (.ref p))) : Wb K (fun xs H Q => ∃ (a : Addr) (kvs : List (Key × V)), xs = [.ref a] ∧ Rd H a (.dK kvs) ∧ ∀ p, H p = none → Q (.ref p) (upd H p (.dK kvs))) w [.dct ds] Q := fun G σ H env R F xs o r c => by
  cases r with
  | cons r1 r2 =>
    cases r2
    obtain ⟨a, kvs, rfl, hd, hk, hr⟩ := rep_dK r1
    refine ⟨a, kvs, rfl, ex_dK o.sub hd, fun p hp => ?_⟩
    have o2 : Ok K (w.own K [(p, .dct ds)]) G σ (upd H p (.dK kvs)) env F := Ok.own o hp ⟨kvs, upd_same, hk, hr⟩
    exact c _ (.ref p) G _ _ (q p) (o2.push (stab_rep _ _) (.raw _))
end
end EL

set_option Elab.async false
set_option linter.all false
set_option maxRecDepth 100000
set_option maxHeartbeats 4000000
namespace EL
open PySem PySem.Spec PyProof.Rows L2
/-! ### promises of defs that hand back something of one's own -/
abbrev OkO := Wd → List D → (Own → D → Prop) → Prop
def SpO (K : PySem.W.Frag) (ok : OkO) : Sp := fun vs H Q _ =>
  ∃ (w : Wd) (G : Hp) (ds : List D) (R : Own → D → Prop), Ok K w G [] H [] (fun G => Reps K G vs ds) ∧ ok w ds R ∧ ∀ v G' H' L d, R L d → Sm G G' → Ok K (w.own K L) G' [] H' [] (fun G => Rep K G v d) → Q v H'
section
variable {K : PySem.W.Frag} {w : Wd} {env : Env} {Q : Wd → D → Prop} {te : TE} {as : TA}
theorem wp_callO {ok : OkO} {E : XK} (h : Wa K as w env fun w1 ds => ok w1 ds (fun L d => Q (w1.own K L) d)) : Wp K (tCall (SpO K ok) [] E as) w env Q := fun G σ H R F o k =>
  h G σ H _ F o fun w1 vs G1 H1 ds q o1 => by
    refine ⟨w1, G1, ds, fun L d => Q (w1.own K L) d, ⟨sl_nil, o1.nm, o1.sub, o1.i, stab_reps _ _, ?_⟩, q, fun v G' H' L d qd sm o' => k _ v G' H' d qd ?_⟩
    · rw [List.append_nil]; exact o1.f.2
    · exact ⟨o1.sl.mono sm, o'.nm, o'.sub, o'.i, stab_and o.st (stab_rep _ _), ⟨o.st _ _ sm o1.f.1, o'.f⟩⟩
/-- another world that is as good -/
theorem Wp.like (h : Wp K te w env fun w1 d => ∃ w2, (∀ G σ H env F, Ok K w1 G σ H env F → ∃ G', Sm G G' ∧ Ok K w2 G' σ H env F) ∧ Q w2 d) : Wp K te w env Q := fun G σ H R F o c =>
  h G σ H R F o fun w1 v G1 H1 d q o1 => by
    obtain ⟨w2, k, q⟩ := q
    obtain ⟨G2, sm, o2⟩ := k _ _ _ _ _ o1
    exact c w2 v G2 H1 d q o2
theorem Ok.swap {G : Hp} {σ : L2.St} {H : Hp} {F : Hp → Prop} {a b : Addr × D} (o : Ok K (w.own K [a, b]) G σ H env F) : Ok K (w.own K [b, a]) G σ H env F := by
  have e : ∀ x, x ∈ Own.as [b, a] ++ w.M ↔ x ∈ Own.as [a, b] ++ w.M := fun x => by simp [Own.as]; rw [or_left_comm]
  refine ⟨o.sl, fun x hx z => o.nm x hx ((e x).mp z), o.sub, ⟨o.i.1, ⟨?_, fun x hx => ?_⟩, fun x hx => ?_⟩, o.st, o.f⟩
  · have := o.i.2.1.1
    simp [Own.as] at this ⊢
    exact fun z => this z.symm
  · exact o.i.2.1.2 x (by simp [Own.as] at hx ⊢; exact hx.symm)
  · exact o.i.2.2 x (by simp at hx ⊢; exact hx.symm)
end
section
variable {P : Program} {W : World} {K : PySem.W.Frag} {mg : Str → Option Value} {base : Heap}
theorem def_okO {nm : Str} {st : Stmt} {N ps : List Str} {k : Nat} {ok : OkO} (F : DefAt K mg nm st ps) (S : FnScope N ps (defScope st)) (hl : ∀ w ds R, ok w ds R → ds.length = ps.length) (hs : ∀ w G ds R, ok w ds R → ok (w.since G) ds R)
    (hb : ∀ (f : Addr) (cdv : Value) (A : Around) (outer : List PySem.Env) (s : Shared) (H : Hp) (E : XK), Room k (A.deeper (envOfC nm (defScope st) s.heap.objs.size f cdv)) →
      ∃ t, PSs (cxOf CX0 P W K mg base N nm (defScope st) f cdv A outer s H E).nox (defBody st) t ∧
        ∀ wd ds R, ok wd ds R → Es K t wd (startD N ds) { nx := fun _ _ => False, rt := fun w' d => ∃ L, w' = Wd.own K wd L ∧ R L d }) :
    Def P W K mg base nm (k + 1) ps (SpO K ok) := by
  obtain ⟨f, fd, hm, F, b⟩ := F
  refine ⟨f, fd, hm, F.kp, b, F.ok S (fun vs H Q E h => ?_) (fun cdv A outer s H vs Q E hr h => ?_)⟩
  · obtain ⟨w, G, ds, R, i, o, _⟩ := h
    rw [i.f.length]; exact hl w ds R o
  · obtain ⟨t, ht, he⟩ := hb f cdv A outer s H E hr
    refine ⟨t, ht, ?_⟩
    obtain ⟨w, G, ds, R, i, o, q⟩ := h
    refine he (w.since G) ds R (hs w G ds R o) G (L2.start N vs) H _ (fun _ => True) ⟨sl_start i.f, i.nm, i.sub, ⟨i.i, Sm.refl _⟩, stab_true, trivial⟩ (fun _ _ _ _ _ z => z.elim) ?_ (fun _ _ _ _ _ z => z.elim) (fun _ _ _ _ _ z => z.elim)
    rintro w' v G' σ' H' env' d ⟨L, rfl, z⟩ o'
    have o2 : Ok K (w.own K L) G' σ' H' env' _ := ⟨o'.sl, o'.nm, o'.sub, ⟨o'.i.1.1, o'.i.2⟩, o'.st, o'.f⟩
    exact q v G' H' L d z o'.i.1.2 ⟨sl_nil, o2.nm, o2.sub, o2.i, stab_rep _ _, o2.f.2⟩
end
end EL

set_option Elab.async false
set_option linter.all false
set_option maxRecDepth 100000
set_option maxHeartbeats 4000000
namespace EL
open PySem PySem.Spec PyProof.Rows L2
/-! ### promises under which no repr stands open: what repr of a list or a tuple asks for -/
structure FnG (P : Program) (W : World) (K : PySem.W.Frag) (mg : Str → Option Value) (base : Heap) (k : Nat) (f : Addr) (fd : FuncData) (ps : List Str) (sp : Sp) : Prop where
  len : ∀ xs H T E, sp xs H T E → xs.length = ps.length
  run : ∀ (B : Around) (ou : List PySem.Env) (c : Shared) (H : Hp) (ar : Args) (us : List Value) (xs : List V) (T : VK) (E : XK), B.guards = some [] → Room k B → Env0 P W K mg base B ou c H → BindsTo c fd ar (ps.zip us) → Vals xs us → sp xs H T E →
    codeAny (model P W) B (.call (.ref f) ar) (CR CX0 ou P W H c T E) c
section
variable {P : Program} {W : World} {K : PySem.W.Frag} {mg : Str → Option Value} {base : Heap}
theorem fnG_old {k : Nat} {f : Addr} {fd : FuncData} {ps : List Str} {sp : Sp} (h : FnOk P W K mg base CX0 k f fd ps sp) : FnG P W K mg base k f fd ps sp :=
  ⟨h.len, fun B ou c H ar us xs T E _ => h.run B ou c H ar us xs T E⟩
theorem fnG_of {x qual : Str} {st : Stmt} {f : Addr} {fd : FuncData} {N ps : List Str} {k : Nat} {sp : Sp} (F : Fun K x qual st f fd) (S : FnScope N ps (defScope st)) (hlen : ∀ xs H T E, sp xs H T E → xs.length = ps.length)
    (hb : ∀ (cdv : Value) (B : Around) (ou : List PySem.Env) (c : Shared) (H : Hp) (xs : List V) (T : VK) (E : XK), B.guards = some [] → Room k (B.deeper (envOfC qual (defScope st) c.heap.objs.size f cdv)) → sp xs H T E →
      ∃ t, PSs (cxOf CX0 P W K mg base N qual (defScope st) f cdv B ou c H E).nox (defBody st) t ∧ t { nx := fun _ H' => T .non H', rt := T } (start N xs) H) : FnG P W K mg base (k + 1) f fd ps sp := by
  obtain ⟨oc, od, kV, doc, pm, an, cdv, ct, osl, rfl, lk, hcd⟩ := F.ex
  refine ⟨hlen, fun B ou c H ar us xs T E hg hr e0 hbd r hsp => ?_⟩
  have keep := fun b o e => (e0.bs b o e).1
  have kin : K.In c.heap := e0.mod.kin.keeps keep
  refine codeAny_call_function hr.depth (kin _ _ lk) rfl S.co S.gen rfl (PySem.W.codeRec_of kin hcd) (hbd _ _ _ _ (wpAny_newFunctionEnv_cells S.kind (fun y hy => ?_) fun env he c1 ic => ?_))
  · obtain ⟨n, v⟩ := y
    exact (S.par n (List.of_mem_zip hy).1).elim .inl fun q => .inr ⟨q, PySem.W.cellsFrom_some _ _ _ (.inl q)⟩
  · subst he
    refine ⟨(e0.mod.nolimit.keeps keep).keeps ic.toInCall.keep, codeAny_func ?_⟩
    obtain ⟨t, ht, q⟩ := hb cdv B ou c H xs T E hg (hr.deeper _) hsp
    have I : Inv (cxOf CX0 P W K mg base N qual (defScope st) f cdv B ou c H E) [] (start N xs) H c1 := inv_start S hr.hd e0 (hlen _ _ _ _ hsp) r ic
    refine wpAny_mono (ht.nox.run [] c1 (start N xs) H _ I q) (fun fl c2 hs => ?_) fun _ _ z => z
    cases fl with
    | ret u => obtain ⟨v, σ', H', J, rv, q⟩ := hs; exact ⟨v, H', J.os, J.bare, J.base, J.hok, rv, q⟩
    | next => obtain ⟨σ', H', J, q⟩ := hs; exact ⟨.non, H', J.os, J.bare, J.base, J.hok, rfl, q⟩
    | brk => obtain ⟨_, _, _, q⟩ := hs; exact q.elim
    | cont => obtain ⟨_, _, _, q⟩ := hs; exact q.elim
def DefG (P : Program) (W : World) (K : PySem.W.Frag) (mg : Str → Option Value) (base : Heap) (nm : Str) (k : Nat) (ps : List Str) (sp : Sp) : Prop :=
  ∃ (f : Addr) (fd : FuncData), mg nm = some (.ref f) ∧ PySem.W.keepIn K (.ref f) = true ∧ Binds K fd ps [] ∧ FnG P W K mg base k f fd ps sp
theorem Def.g {nm : Str} {k : Nat} {ps : List Str} {sp : Sp} (d : Def P W K mg base nm k ps sp) : DefG P W K mg base nm k ps sp := by
  obtain ⟨f, fd, a, b, c, F⟩ := d
  exact ⟨f, fd, a, b, c, fnG_old F⟩
end
theorem runG {X : Cx} {k : Nat} {f : Addr} {fd : FuncData} {ps : List Str} {sp : Sp} {pins : List (Addr × Obj)} {σ : L2.St} {H : Hp} {s : Shared} {Q : VK} {us : List Value} {vs : List V} (F : FnG X.prog X.w X.K X.mg X.base k f fd ps sp) (hg : X.A.guards = some []) (hr : Room k X.A) (hb : Binds X.K fd ps [])
    (I : Inv X pins σ H s) (r : Vals vs us) (h : sp vs H Q E0) : wpAny (model X.prog X.w) X.A (call (.ref f) us) (EP X pins σ Q) X.xe s := by
  have hl : (us ++ []).length = ps.length := by rw [List.append_nil, ← r.length]; exact F.len _ _ _ _ h
  have bt := hb s us I.kIn hl
  rw [List.append_nil] at bt
  refine wpAny_call (codeAny_mono (F.run X.A X.stack s H ⟨us, []⟩ us vs Q E0 hg hr I.env0 bt r h) fun res s' hq => ?_)
  cases res with
  | error e => exact pass0 pins σ H s e s' I hq
  | ok fl => cases fl with
    | ret u => exact I.after hq
    | next => exact hq.elim
    | brk => exact hq.elim
    | cont => exact hq.elim
theorem pe_callG {X : Cx} {k k' : Nat} {nm : Str} {ps : List Str} {sp : Sp} {p pos : Pos} {e : Expr} {es : List Expr} {t : TA} (d : DefG X.prog X.w X.K X.mg X.base nm k ps sp) (hg : X.A.guards = some []) (hr : Room k' X.A) (hk : k ≤ k') (gl : Gl X nm) (ha : PA X (e :: es) t)
    (hdb : (nm == ("__debug__" : Str)) = false := by decide) (he : starEach (e :: es) X.env = (false, eval e X.env) :: starEach es X.env := by rfl) (hpl : (backTo pos (starEach es X.env)).any (·.1) = false := by rfl) :
    PE X (.Call (.Name nm p) (e :: es) [] pos) (tCall sp [] E0 t) := by
  obtain ⟨f, fd, hm, kp, b, F⟩ := d
  refine ⟨fun pins s σ H Q I h => wpAny_Call_Name_kw (ld_glob I gl hm ?_ hdb)⟩
  exact PySem.W.callWith_K (h₀ := X.base) I.ok.mod.kin kp (thn (ha.run pos pins s σ H _ I h) fun us s1 ⟨vs, H1, I1, r, q⟩ => ⟨I1.kIn, runG F hg (hr.mono hk) b I1 r (by have q' : sp (vs ++ []) H1 Q E0 := q; rw [List.append_nil] at q'; exact q')⟩) he hpl
/-! ### repr of a list or a tuple -/
def rRepr (K : PySem.W.Frag) : List V → Hp → VK → Prop := fun xs H Q => ∃ (a : Addr) (d : PyData), xs = [.ref a] ∧ Dp K H (.ref a) d ∧ d.showable = true ∧ d.hasDict = false ∧ d.depth ≤ 50 ∧ d.shown.length ≤ sizeLine ∧ Q (.str d.shown) H
theorem call_repr {X : Cx} {K : PySem.W.Frag} (e : X.K = K) (hg : X.A.guards = some []) (hu : X.A.units + 64 < cLine) : CallR X (.builtin "repr") (rRepr K) := by
  subst e
  intro pins s σ H xs us Q I r h
  obtain ⟨a, d, rfl, hd, h1, h2, h3, h4, q⟩ := h
  obtain ⟨u, rfl, rx⟩ := vals1 r
  obtain rfl : u = Value.ref a := rx
  obtain ⟨as, rd⟩ := Dp.reads I _ _ _ hd rfl
  refine repr_of_reads' rd h1 (fun z => by rw [h2] at z; cases z) hg (by omega) (fun _ _ z => z) (fun h' u tk hk => ?_) h4
  exact ⟨.str _, H, I.kept hk, ⟨_, rfl⟩, q⟩
section
variable {K : PySem.W.Frag} {w : Wd} {Q : Wd → D → Prop}
theorem wb_repr {d : D} {ds : List D} (h : d = .lst ds ∨ d = .tup ds) (hp : pl d = true) (h1 : (py d).showable = true) (h2 : (py d).hasDict = false) (h3 : (py d).depth ≤ 50) (h4 : (py d).shown.length ≤ sizeLine) (q : Q w (.str (py d).shown)) : Wb K (rRepr K) w [d] Q := fun G σ H env R F xs o r c => by
  cases r with
  | cons r1 r2 =>
    cases r2
    rename_i v
    obtain ⟨a, rfl⟩ : ∃ a, v = .ref a := by
      rcases h with rfl | rfl
      · obtain ⟨a, _, e, _⟩ := rep_lst r1; exact ⟨a, e⟩
      · obtain ⟨a, _, e, _⟩ := rep_tup r1; exact ⟨a, e⟩
    exact ⟨a, py d, rfl, dp_mono o.sub (r1.dp hp), h1, h2, h3, h4, c w _ G H _ q (o.push (stab_rep _ _) (.str _))⟩
end
/-! ### the law's call -/
section
variable {P : Program} {W : World} {K : PySem.W.Frag} {mg mb : Str → Option Value} {k : Nat} {fa a : Addr} {fd : FuncData} {x : Str} {sp : Sp} {c : Shared} {vs : List Value} {ns : List Int}
def LawEnd (c : Shared) : Result → Shared → Prop := fun r c' => r = .ok (.ret (.bool true)) ∧ OldK c.heap c'.heap ∧ c'.os = c.os ∧ AllBare c'.gens
theorem law_at (kin : K.In c.heap) (n1 : c.heap.Ns mainGlobals mg) (n2 : c.heap.Ns builtinsNs mb) (n3 : ∀ y : Str, y ≠ "__name__" → mb y = bootBuiltins y) (n4 : c.heap.NoLimit) (n5 : c.gens = #[])
    (ha : c.heap.get? a = some { cls := .type "list", data := .seq vs.toArray }) (hr : Room k callerA) (F : ∀ base : Heap, K.In base → base.Ns mainGlobals mg → FnG P W K mg base k fa fd [x] sp) (hbd : ∀ (s : Shared) (u : Value), BindsTo s fd ⟨[u], []⟩ [(x, u)])
    {H : Hp} (on : Only H) (q : sp [.ref a] H (fun v _ => v = .bl true) E0) (hok : HOk P W H c.heap) (own : ∀ b u, H b = some u → b = a ∧ K.lookup a = none) :
    codeAny (model P W) callerA (.call (.ref fa) ⟨[.ref a], []⟩) (LawEnd c) c := by
  have out : ∀ {b : Addr}, (b = a → K.lookup a = none → False) → H b = none := fun {b} h => by
    cases e : H b with
    | none => rfl
    | some u => exact (h (own b u e).1 (own b u e).2).elim
  have ns : ∀ {b : Addr} {m : Str → Option Value}, c.heap.Ns b m → (hidT c.heap H).Ns b m := by
    rintro b m ⟨o, es, ep, e, d, r⟩
    refine ⟨o, es, ep, hidT_get e (out fun z _ => ?_), d, r⟩
    rw [z, ha] at e
    cases e
    cases (show Data.seq vs.toArray _ = Data.dict es ep from d)
  have kb : K.In (hidT c.heap H) := fun b o e => hidT_get (kin b o e) (out fun z w => by rw [z, w] at e; cases e)
  have md : Mod K mg (hidT c.heap H) := ⟨kb, ns n1, ⟨mb, ns n2, n3⟩, n4.elim fun m h => ⟨m, ns h.1, h.2⟩⟩
  have e0 : Env0 P W K mg (hidT c.heap H) callerA [] c H := ⟨rfl, md, fun _ _ e => of_hidT e, Nat.le_of_eq (hidT_size _ _), trivial, fun b z => absurd (show b ∈ ([] : List Addr) from z) List.not_mem_nil, hok, .of_eq n5⟩
  refine codeAny_mono ((F _ kb (ns n1)).run callerA [] c H ⟨[.ref a], []⟩ [.ref a] [.ref a] _ _ rfl hr e0 (hbd c (.ref a)) (.cons rfl .nil) q) fun res c' h => ?_
  cases res with
  | error e => exact h.elim
  | ok fl => cases fl with
    | next => exact h.elim
    | brk => exact h.elim
    | cont => exact h.elim
    | ret u =>
      obtain ⟨v, H', os, bare, un, hok', rv, ev⟩ := h
      cases (show v = V.bl true from ev)
      cases (show u = Value.bool true from rv)
      refine ⟨rfl, OldK.of_keep fun b o e => ?_, os, bare⟩
      rcases on b with z | ⟨ob, xs, z⟩
      · exact un.keep b o e z (fun y => absurd (show b ∈ ([] : List Addr) from y) List.not_mem_nil) (by simp)
      · have h1 := (hok b _ z).1
        rw [e] at h1
        cases h1
        exact (hok' b _ (un.frzs b _ _ z)).1
theorem law_callG (kin : K.In c.heap) (n1 : c.heap.Ns mainGlobals mg) (n2 : c.heap.Ns builtinsNs mb) (n3 : ∀ y : Str, y ≠ "__name__" → mb y = bootBuiltins y) (n4 : c.heap.NoLimit) (n5 : c.gens = #[])
    (ha : c.heap.get? a = some { cls := .type "list", data := .seq vs.toArray }) (hi : IntsAre vs ns) (hl : ns.length ≤ sizeLine) (hr : Room k callerA) (F : ∀ base : Heap, K.In base → base.Ns mainGlobals mg → FnG P W K mg base k fa fd [x] sp)
    (hbd : ∀ (s : Shared) (u : Value), BindsTo s fd ⟨[u], []⟩ [(x, u)]) (hsp : ∀ H : Hp, Only H → SqL K H a (ns.map V.int) → sp [.ref a] H (fun v _ => v = .bl true) E0) :
    codeAny (model P W) callerA (.call (.ref fa) ⟨[.ref a], []⟩) (LawEnd c) c := by
  have go := fun {H : Hp} => law_at (H := H) kin n1 n2 n3 n4 n5 ha hr F hbd
  cases hk : K.lookup a with
  | some o =>
    obtain rfl := Option.some.inj ((kin a o hk).symm.trans ha)
    have on : Only (fun _ => none) := fun _ => .inl rfl
    exact go on (hsp _ on (.inr ⟨_, vs.toArray, _, hk, rfl, rfl, rfl, by simpa [hi.length] using hl, by simpa using vals_ints hi⟩)) (fun b u z => by cases (show (none : Option HO) = some u from z)) (fun b u z => by cases (show (none : Option HO) = some u from z))
  | none =>
    let H : Hp := fun b => if b = a then some (.frz { cls := .type "list", data := .seq vs.toArray } (.lst (ns.map V.int))) else none
    have at_ : ∀ {b u}, H b = some u → b = a ∧ u = .frz { cls := .type "list", data := .seq vs.toArray } (.lst (ns.map V.int)) := fun {b u} z => by
      by_cases e : b = a
      · exact ⟨e, (Option.some.inj ((if_pos e).symm.trans z)).symm⟩
      · cases (if_neg e).symm.trans z
    have on : Only H := fun b => by
      by_cases e : b = a
      · exact .inr ⟨_, _, if_pos e⟩
      · exact .inl (if_neg e)
    refine go (H := H) on (hsp H on (.inl (.inr ⟨_, if_pos rfl⟩))) (fun b u z => ?_) (fun b u z => ⟨(at_ z).1, hk⟩)
    obtain ⟨rfl, rfl⟩ := at_ z
    exact ⟨ha, by rw [List.length_map]; exact hl, vs, _, vals_ints hi, ha⟩
end
/-- the goal that the head leaves, from the law's promise under which no repr stands open -/
theorem walk_G {l : PySem.W.OpenLaw} {n k : Nat} {q : Program} {loose : List Str} {XP : (Str → Option Value) → Heap → Prop} {YP : World → Heap → Prop} {d : DefRec} {K : Params → PySem.W.Frag} {sp : PySem.W.Frag → Sp} {x : Str}
    (hn : l.most = some n) (hn2 : n ≤ sizeLine) (hdf : d.params.defaults = []) (hr : Room k callerA) (hY : ∀ (w : World) (h : Heap), YP w h → (K w.params).In h)
    (F : ∀ (w : World) (mg : Str → Option Value) (fa : Addr) (h : Heap), (K w.params).In h → h.Ns mainGlobals mg → mg d.name = some (.ref fa) →
      ∃ fd : FuncData, (∀ (s : Shared) (u : Value), BindsTo s fd ⟨[u], []⟩ [(x, u)]) ∧ ∀ base : Heap, (K w.params).In base → base.Ns mainGlobals mg → FnG l.prog w (K w.params) mg base k fa fd [x] (sp (K w.params)))
    (hsp : ∀ (K : PySem.W.Frag) (H : Hp) (a : Addr) (ns : List Int), ns.length ≤ n → Only H → SqL K H a (ns.map V.int) → sp K [.ref a] H (fun v _ => v = .bl true) E0) :
    PySem.W.WalkO q loose XP YP l.row.toRowW d [] (fun f vs => PySem.call f vs) := by
  refine Att.attach_call hn hdf fun w s₀ s₁ mg mb fa o pm cd doc a vs ns G Y ho hd hcd hmg hobj hints hlen hg => ?_
  obtain ⟨fd, hb, hF⟩ := F w mg fa _ (hY w _ Y) G.T.g hmg
  exact law_callG (hY w _ Y) G.T.g G.T.b G.T.builtins G.T.nolimit hg hobj hints (Nat.le_trans hlen hn2) hr hF hb fun H on sq => hsp _ H a ns hlen on sq
end EL

set_option Elab.async false
set_option linter.all false
set_option maxRecDepth 100000
set_option maxHeartbeats 4000000
namespace EL
open PySem PySem.Spec PyProof.Rows L2
/-! ### methods and properties by their names -/
def MethAt (K : PySem.W.Frag) (C : Addr) (m qual : Str) (st : Stmt) (ps : List Str) : Prop := ∃ (f : Addr) (fd : FuncData), Meth K C m f ∧ Fun K m qual st f fd ∧ Binds K fd ps []
def MethD (P : Program) (W : World) (K : PySem.W.Frag) (mg : Str → Option Value) (base : Heap) (C : Addr) (m : Str) (k : Nat) (ps : List Str) (sp : Sp) : Prop :=
  Cls K C ∧ ∃ (f : Addr) (fd : FuncData), Meth K C m f ∧ Binds K fd ps [] ∧ FnOk P W K mg base CX0 k f fd ps sp ∧ ∃ o : Obj, K.lookup f = some o ∧ o.data = .func fd
def PropAt (K : PySem.W.Frag) (C : Addr) (m qual : Str) (st : Stmt) : Prop := ∃ (p g : Addr) (fd : FuncData), PropOf K C m p g ∧ Fun K m qual st g fd ∧ Binds K fd ["self"] []
def PropD (P : Program) (W : World) (K : PySem.W.Frag) (mg : Str → Option Value) (base : Heap) (C : Addr) (m : Str) (k : Nat) (sp : Sp) : Prop :=
  Cls K C ∧ ∃ (p g : Addr) (fd : FuncData), PropOf K C m p g ∧ Binds K fd ["self"] [] ∧ FnOk P W K mg base CX0 k g fd ["self"] sp
section
variable {P : Program} {W : World} {K : PySem.W.Frag} {mg : Str → Option Value} {base : Heap}
theorem meth_ok {C : Addr} {m qual : Str} {st : Stmt} {N ps : List Str} {k : Nat} {ok : OkF} (c : Cls K C) (F : MethAt K C m qual st ps) (S : FnScope N ps (defScope st)) (hl : ∀ w ds R, ok w ds R → ds.length = ps.length) (hs : ∀ w G ds R, ok w ds R → ok (w.since G) ds R)
    (hb : ∀ (f : Addr) (cdv : Value) (A : Around) (outer : List PySem.Env) (s : Shared) (H : Hp) (E : XK), Room k (A.deeper (envOfC qual (defScope st) s.heap.objs.size f cdv)) →
      ∃ t, PSs (cxOf CX0 P W K mg base N qual (defScope st) f cdv A outer s H E).nox (defBody st) t ∧
        ∀ wd ds R, ok wd ds R → Es K t wd (startD N ds) { nx := fun w' _ => wd.le w' ∧ R .non, rt := fun w' d => wd.le w' ∧ R d }) : MethD P W K mg base C m (k + 1) ps (SpF K ok) := by
  obtain ⟨f, fd, M, F, b⟩ := F
  obtain ⟨_, _, _, _, _, _, _, _, _, _, lk, _⟩ := id F.ex
  exact ⟨c, f, fd, M, b, fn_ok F S hl hs (hb f), _, lk, rfl⟩
theorem prop_ok {C : Addr} {m qual : Str} {st : Stmt} {N : List Str} {k : Nat} {ok : OkF} (c : Cls K C) (F : PropAt K C m qual st) (S : FnScope N ["self"] (defScope st)) (hl : ∀ w ds R, ok w ds R → ds.length = 1) (hs : ∀ w G ds R, ok w ds R → ok (w.since G) ds R)
    (hb : ∀ (f : Addr) (cdv : Value) (A : Around) (outer : List PySem.Env) (s : Shared) (H : Hp) (E : XK), Room k (A.deeper (envOfC qual (defScope st) s.heap.objs.size f cdv)) →
      ∃ t, PSs (cxOf CX0 P W K mg base N qual (defScope st) f cdv A outer s H E).nox (defBody st) t ∧
        ∀ wd ds R, ok wd ds R → Es K t wd (startD N ds) { nx := fun w' _ => wd.le w' ∧ R .non, rt := fun w' d => wd.le w' ∧ R d }) : PropD P W K mg base C m (k + 1) (SpF K ok) := by
  obtain ⟨p, g, fd, M, F, b⟩ := F
  exact ⟨c, p, g, fd, M, b, fn_ok F S hl hs (hb g)⟩
end
section
variable {X : Cx} {k k' : Nat} {C : Addr} {m : Str} {ps : List Str} {sp : Sp} {o e : Expr} {es : List Expr} {ta : TE} {t : TA} {pos apos : Pos}
theorem pe_methD {pl : Sem Bool} (d : MethD X.prog X.w X.K X.mg X.base C m k ps sp) (hr : Room k' X.A) (hk : k ≤ k') (he : PE X o ta) (ha : PA X (e :: es) t)
    (hst : starEach (e :: es) X.env = (false, eval e X.env) :: starEach es X.env := by rfl) (hpl : (backTo pos (starEach es X.env)).any (·.1) = false := by rfl)
    (ht : eval (.Call (.Attribute o m apos) (e :: es) [] pos) X.env = (do
      let ov ← eval o X.env
      standAt apos.atName
      let (f, first) ← holding [ov] (getMethod ov m pl)
      callWith pos f first (backTo pos (starEach (e :: es) X.env)) (backToKw pos (keywordEach [] X.env))) := by rfl) : PE X (.Call (.Attribute o m apos) (e :: es) [] pos) (tMeth C m sp [] E0 ta t) := by
  obtain ⟨c, f, fd, M, b, F, _⟩ := d
  exact pe_meth (pl := pl) he c M F (hr.mono hk) b .nil pass0 ha hst hpl ht
theorem pe_propD (d : PropD X.prog X.w X.K X.mg X.base C m k sp) (hr : Room k' X.A) (hk : k + 1 ≤ k') (he : PE X o ta) (hab : attributeBase o m X.env (eval o X.env) = eval o X.env := by rfl) : PE X (.Attribute o m pos) (tProp C sp [] E0 ta) := by
  obtain ⟨c, p, g, fd, M, b, F⟩ := d
  exact pe_prop he c M F (hr.mono hk) b .nil pass0 hab
end
section
variable {K : PySem.W.Frag} {w : Wd} {env : Env} {Q : Wd → D → Prop} {ta : TE} {as : TA}
theorem wp_prop {ok : OkF} {C : Addr} {E : XK} (h : Wp K ta w env fun w1 x => ∃ fs, x = .obj C fs ∧ ok w1 [x] (fun d => Q w1 d)) : Wp K (tProp C (SpF K ok) [] E ta) w env Q := fun G σ H R F o c =>
  h G σ H _ F o fun w1 v G1 H1 d q o1 => by
    obtain ⟨fs, rfl, q⟩ := q
    have r := o1.f.2
    cases r with
    | obj g k r =>
      refine ⟨_, _, _, rfl, ex_ins o1.sub g, w1, G1, [.obj C fs], fun d => Q w1 d, ⟨sl_nil, o1.nm, o1.sub, o1.i, stab_reps _ _, ?_⟩, q, fun v G' H' d qd sm o' => c w1 v G' H' d qd ((ok_drop o1 o.st).ret sm o')⟩
      exact .cons o1.f.2 .nil
end
/-! ### calls with keywords alone: the values π puts in order -/
def MethK (P : Program) (W : World) (K : PySem.W.Frag) (mg : Str → Option Value) (base : Heap) (C : Addr) (m : Str) (k : Nat) (ks : List Str) (π : {α : Type} → List α → List α) (ps : List Str) (sp : Sp) : Prop :=
  Cls K C ∧ ∃ (f : Addr) (fd : FuncData), Meth K C m f ∧ KBn K fd ps 1 ks (fun us ws => us ++ π ws) (fun us ws => us ++ π ws) ∧ FnOk P W K mg base CX0 k f fd ps sp
def tMethN (C : Addr) (m : Str) (n : Nat) (sp : Sp) (π : {α : Type} → List α → List α) (E : XK) (ta : TE) (tk : TA) : TE := fun σ H Q => ta σ H fun x H1 => ∃ a dx fs, x = .ref a ∧ H1 a = some (.ins C dx fs) ∧ fs.lookup m = none ∧ tk σ H1 fun zs H2 => zs.length = n ∧ sp (.ref a :: π zs) H2 Q E
section
variable {X : Cx} {k k' : Nat} {C : Addr} {m : Str} {ps ks : List Str} {π : {α : Type} → List α → List α} {sp : Sp} {o : Expr} {kws : List Keyword} {ta : TE} {tk : TA} {pos apos : Pos}
theorem pe_methK {pl : Sem Bool} (d : MethK X.prog X.w X.K X.mg X.base C m k ks π ps sp) (hr : Room k' X.A) (hk : k ≤ k') (he : PE X o ta) (hkw : PK X kws tk) (hall : (backToKw pos (keywordEach kws X.env)).all (·.1.isSome) = true := by rfl) (hks : (backToKw pos (keywordEach kws X.env)).filterMap (·.1) = ks := by rfl)
    (hpl : ((backTo pos (starEach [] X.env)).any (·.1) || (backToKw pos (keywordEach kws X.env)).any (·.1.isNone)) = false := by rfl)
    (ht : eval (.Call (.Attribute o m apos) [] kws pos) X.env = (do
      let ov ← eval o X.env
      standAt apos.atName
      let (f, first) ← holding [ov] (getMethod ov m pl)
      callWith pos f first (backTo pos (starEach [] X.env)) (backToKw pos (keywordEach kws X.env))) := by rfl) : PE X (.Call (.Attribute o m apos) [] kws pos) (tMethN C m ks.length sp π E0 ta tk) := by
  obtain ⟨c, f, fd, M, b, F⟩ := d
  refine ⟨fun pins s σ H Q I h => PySem.W.methodCall_KW (pl := pl) (thn (he.run pins s σ H _ I h) fun u s1 ⟨x, H1, I1, rx, a, dx, fs, ex, ea, l, q⟩ => ?_) ht⟩
  subst ex
  obtain rfl : u = Value.ref a := rx
  refine getmeth_ok I1 ea c M l (PySem.W.callWith_KW0 (first := [.ref a]) (h₀ := X.base) I.ok.mod.kin M.kp hall (thn (hkw.run pos pins s1 σ H1 _ I1 q) fun ws s2 ⟨zs, H2, I2, rz, lz, q2⟩ => ⟨I2.kIn, ?_⟩) hpl)
  rw [hks]
  exact run_fnN (us := [.ref a]) (vs := [.ref a]) F (hr.mono hk) b pass0 I2 (.cons rfl .nil) rz rfl lz q2
end
theorem Reps.reverse {K : PySem.W.Frag} {G : Hp} : ∀ {vs : List V} {ds : List D}, Reps K G vs ds → Reps K G vs.reverse ds.reverse
  | _, _, .nil => .nil
  | _, _, .cons r t => by rw [List.reverse_cons, List.reverse_cons]; exact (Reps.reverse t).append (.cons r .nil)
/-- an order that takes values as it takes data -/
def Ord (π : {α : Type} → List α → List α) : Prop := ∀ (K : PySem.W.Frag) (G : Hp) (vs : List V) (ds : List D), Reps K G vs ds → Reps K G (π vs) (π ds)
theorem ord_id : Ord (fun xs => xs) := fun _ _ _ _ r => r
theorem ord_rev : Ord (fun xs => xs.reverse) := fun _ _ _ _ r => r.reverse
section
variable {K : PySem.W.Frag} {w : Wd} {env : Env} {Q : Wd → D → Prop} {ta : TE} {as : TA} {π : {α : Type} → List α → List α}
theorem wp_methN {ok : OkF} {C : Addr} {m : Str} {n : Nat} {E : XK} (hπ : Ord π) (h : Wp K ta w env fun w1 x => ∃ fs, x = .obj C fs ∧ fs.lookup m = none ∧ Wa K as w1 env fun w2 ds => ds.length = n ∧ ok w2 (x :: π ds) (fun d => Q w2 d)) :
    Wp K (tMethN C m n (SpF K ok) π E ta as) w env Q := fun G σ H R F o c =>
  h G σ H _ F o fun w1 v G1 H1 d q o1 => by
    obtain ⟨fs, rfl, hm, q⟩ := q
    have r := o1.f.2
    cases r with
    | obj g k r =>
      refine ⟨_, _, _, rfl, ex_ins o1.sub g, lookup_none k hm, q G1 σ H1 _ _ o1 fun w2 vs G2 H2 ds q2 o2 => ⟨o2.f.2.length.trans q2.1, ?_⟩⟩
      refine ⟨w2, G2, .obj C fs :: π ds, fun d => Q w2 d, ⟨sl_nil, o2.nm, o2.sub, o2.i, stab_reps _ _, .cons o2.f.1.2 (hπ _ _ _ _ o2.f.2)⟩, q2.2, fun v G' H' d qd sm o' => c w2 v G' H' d qd ((o2.as o.st o2.f.1.1).ret sm o')⟩
end
/-! ### objects made: with defaults, or by keywords alone -/
section
variable {P : Program} {W : World} {K : PySem.W.Frag} {mg : Str → Option Value} {base : Heap}
theorem fnI_okD {x qual : Str} {st : Stmt} {f C : Addr} {fd : FuncData} {N ps : List Str} {k : Nat} {ok : OkI} {dvs : List V} {kw : List (Str × V)} (F : FunD K x qual (defArgs st) (defBody st) (defScope st) dvs kw f fd) (S : FnScope N ps (defScope st)) (hl : ∀ w ds fs, ok w ds fs → ds.length + 1 = ps.length) (hs : ∀ w G ds fs, ok w ds fs → ok (w.since G) ds fs)
    (hb : ∀ (cdv : Value) (A : Around) (outer : List PySem.Env) (s : Shared) (H : Hp) (E : XK), Room k (A.deeper (envOfC qual (defScope st) s.heap.objs.size f cdv)) →
      ∃ t, PSs (cxOf CX0 P W K mg base N qual (defScope st) f cdv A outer s H E).nox (defBody st) t ∧
        ∀ wd p ds fs, ok wd ds fs → Es K t (Wd.own K wd [(p, .obj C [])]) (startD N (.raw (.ref p) :: ds)) { nx := fun w' _ => w' = Wd.own K wd [(p, .obj C fs)], rt := fun _ _ => False }) :
    FnOk P W K mg base CX0 (k + 1) f fd ps (SpI K C ok) := by
  refine F.ok S (fun vs H Q E h => ?_) (fun cdv A outer s H vs Q E hr h => ?_)
  · obtain ⟨w, G, y, us, ds, fs, rfl, i, o, _⟩ := h
    rw [List.length_cons, i.f.length]; exact hl w ds fs o
  · obtain ⟨t, ht, he⟩ := hb cdv A outer s H E hr
    refine ⟨t, ht.nox, ?_⟩
    obtain ⟨w, G, y, us, ds, fs, rfl, i, o, q⟩ := h
    refine he (w.since G) y ds fs (hs w G ds fs o) G (L2.start N (.ref y :: us)) H _ (fun _ => True) ⟨sl_start (.cons (.raw _) i.f), i.nm, i.sub, ⟨⟨i.i.1, Sm.refl _⟩, i.i.2⟩, stab_true, trivial⟩ ?_ (fun _ _ _ _ _ _ _ z => z.elim) (fun _ _ _ _ _ z => z.elim) (fun _ _ _ _ _ z => z.elim)
    rintro w' G' σ' H' env' rfl o'
    exact q G' H' o'.i.1.2 ⟨sl_nil, o'.nm, o'.sub, ⟨o'.i.1.1, o'.i.2⟩, stab_true, trivial⟩
end
/-- C(e, ..), the values dvs filled up -/
structure ClsP (P : Program) (W : World) (K : PySem.W.Frag) (mg : Str → Option Value) (base : Heap) (nm : Str) (C : Addr) (k : Nat) (ps : List Str) (dvs : List V) (ok : OkI) : Prop where
  g : mg nm = some (.ref C)
  ini : ∃ (f : Addr) (fd : FuncData) (us : List Value), Mk K C f ∧ Vals dvs us ∧ Binds K fd ps us ∧ FnOk P W K mg base CX0 k f fd ps (SpI K C ok)
theorem pe_makeP {X : Cx} {k k' : Nat} {nm : Str} {C : Addr} {ps : List Str} {dvs : List V} {ok : OkI} {p pos : Pos} {e : Expr} {es : List Expr} {t : TA} (d : ClsP X.prog X.w X.K X.mg X.base nm C k ps dvs ok) (hr : Room k' X.A) (hk : k + 1 ≤ k') (hg : Gl X nm) (ha : PA X (e :: es) t)
    (hdb : (nm == ("__debug__" : Str)) = false := by decide) (he : starEach (e :: es) X.env = (false, eval e X.env) :: starEach es X.env := by rfl) (hpl : (backTo pos (starEach es X.env)).any (·.1) = false := by rfl) :
    PE X (.Call (.Name nm p) (e :: es) [] pos) (tMake C (SpI X.K C ok) dvs E0 t) := by
  obtain ⟨hm, f, fd, us, M, v, b, F⟩ := d
  exact pe_make M F (hr.mono hk) hg hm b v pass0 ha hdb he hpl
/-- C(k = v, ..) -/
structure ClsK (P : Program) (W : World) (K : PySem.W.Frag) (mg : Str → Option Value) (base : Heap) (nm : Str) (C : Addr) (k : Nat) (ks : List Str) (π : {α : Type} → List α → List α) (ps : List Str) (ok : OkI) : Prop where
  g : mg nm = some (.ref C)
  ini : ∃ (f : Addr) (fd : FuncData), Mk K C f ∧ (∃ gg : List Value → List Value → List Value, KBn K fd ps 1 ks gg (fun us ws => us ++ π ws)) ∧ FnOk P W K mg base CX0 k f fd ps (SpI K C ok)
theorem pe_makeK {X : Cx} {k k' : Nat} {nm : Str} {C : Addr} {ps ks : List Str} {π : {α : Type} → List α → List α} {ok : OkI} {p pos : Pos} {kws : List Keyword} {tk : TA} (d : ClsK X.prog X.w X.K X.mg X.base nm C k ks π ps ok) (hr : Room k' X.A) (hk : k + 1 ≤ k') (hg : Gl X nm) (hkw : PK X kws tk)
    (hall : (backToKw pos (keywordEach kws X.env)).all (·.1.isSome) = true := by rfl) (hks : (backToKw pos (keywordEach kws X.env)).filterMap (·.1) = ks := by rfl) (hdb : (nm == ("__debug__" : Str)) = false := by decide)
    (hpl : ((backTo pos (starEach [] X.env)).any (·.1) || (backToKw pos (keywordEach kws X.env)).any (·.1.isNone)) = false := by rfl) :
    PE X (.Call (.Name nm p) [] kws pos) (tMakeN C 0 ks.length (SpI X.K C ok) (fun us ws => us ++ π ws) E0 tNil tk) := by
  obtain ⟨hm, f, fd, M, ⟨gg, b⟩, F⟩ := d
  refine ⟨fun pins s σ H Q I h => wpAny_Call_Name_kw (ld_glob I hg hm (PySem.W.callWith_KW0 (first := []) (h₀ := X.base) I.ok.mod.kin M.kp hall (thn (hkw.run pos pins s σ H _ I h) fun ws s2 ⟨zs, H2, I2, rz, l1, l2, q2⟩ => ⟨I2.kIn, ?_⟩) hpl) hdb)⟩
  rw [hks]
  exact run_makeN M F (hr.mono hk) b pass0 I2 .nil rz l1 l2 q2
section
variable {K : PySem.W.Frag} {w : Wd} {env : Env} {Q : Wd → D → Prop} {as : TA} {π : {α : Type} → List α → List α}
theorem made {C : Addr} {ok : OkI} {E : XK} {G G1 : Hp} {σ : L2.St} {H1 : Hp} {F : Hp → Prop} {R : VK} {w1 : Wd} {us : List V} {ds : List D} {fs : List (Str × D)} {x dx : Addr} (o1 : Ok K w1 G1 σ H1 env F) (r : Reps K G1 us ds) (hok : ok w1 ds fs) (q : Q w1 (.obj C fs)) (hx : H1 x = none) (hdx : H1 dx = none) (hne : dx ≠ x)
    (c : ∀ w' v G' H' d, Q w' d → Ok K w' G' σ H' env (fun G => F G ∧ Rep K G v d) → R v H') : SpI K C ok (.ref x :: us) (upd (upd H1 dx (.own x)) x (.ins C dx [])) (fun v H3 => v = .non ∧ R (.ref x) H3) E := by
  have o2 := o1.junk (o := .own x) hdx
  have hx2 : (upd H1 dx (.own x)) x = none := by rw [upd_ne hne.symm]; exact hx
  have o3 : Ok K (w1.own K [(x, .obj C [])]) G1 σ (upd (upd H1 dx (.own x)) x (.ins C dx [])) env _ := Ok.own o2 hx2 ⟨dx, [], upd_same, rfl, .nil⟩
  refine ⟨w1, G1, x, us, ds, fs, rfl, ⟨sl_nil, o3.nm, o3.sub, o3.i, stab_reps _ _, r⟩, hok, fun G' H' sm o4 => ⟨rfl, ?_⟩⟩
  have o5 : Ok K (w1.own K [(x, .obj C fs)]) G' σ H' env F := ⟨o1.sl.mono sm, o4.nm, o4.sub, o4.i, o1.st, o1.st _ _ sm o1.f⟩
  obtain ⟨G6, sm6, o6⟩ := o5.still
  exact c w1 (.ref x) G6 H' _ q o6
theorem wp_makeP {C : Addr} {ok : OkI} {E : XK} {dvs : List V} {dds : List D} (hd : ∀ G, Reps K G dvs dds) (h : Wa K as w env fun w1 ds => ∃ fs, ok w1 (ds ++ dds) fs ∧ Q w1 (.obj C fs)) : Wp K (tMake C (SpI K C ok) dvs E as) w env Q := fun G σ H R F o c =>
  h G σ H _ F o fun w1 vs G1 H1 ds q o1 x dx hx hdx hne => by
    obtain ⟨fs, hok, q⟩ := q
    exact made (G := G) (ok_drop o1 o.st) (o1.f.2.append (hd _)) hok q hx hdx hne c
theorem wp_makeK {C : Addr} {ok : OkI} {E : XK} {n : Nat} (hπ : Ord π) (h : Wa K as w env fun w1 ds => ds.length = n ∧ ∃ fs, ok w1 (π ds) fs ∧ Q w1 (.obj C fs)) : Wp K (tMakeN C 0 n (SpI K C ok) (fun us ws => us ++ π ws) E tNil as) w env Q := fun G σ H R F o c =>
  h G σ H _ F o fun w1 vs G1 H1 ds q o1 => by
    obtain ⟨hn, fs, hok, q⟩ := q
    exact ⟨rfl, o1.f.2.length.trans hn, fun x dx hx hdx hne => made (G := G) (ok_drop o1 o.st) (hπ _ _ _ _ o1.f.2) hok q hx hdx hne c⟩
end
end EL

set_option Elab.async false
set_option linter.all false
set_option maxRecDepth 100000
set_option maxHeartbeats 4000000
namespace EL
open PySem PySem.Spec PyProof.Rows L2
/-! ### == and != by an own __eq__ -/
theorem objNe_own {prog : Program} {W : World} {B : Around} {E : Value → Shared → Prop} {K : PySem.W.Frag} {s : Shared} {x y C f : Addr} {ox : Obj} {od : Option Obj} (kin : K.In s.heap) (J : PySem.W.InstAt s.heap x ox C od) (hs : PySem.W.findIn K (.ref C) "__eq__" = some (some (.ref f))) (hf : PySem.W.isFn K (.ref f) = true) (hu : B.units < cLine)
    {Q : Fin → Shared → Prop} (hc : wpAny (model prog W) B (call (.ref f) [.ref x, .ref y]) (fun v s' => ∃ b, v = .bool b ∧ Q (.done (.ret (.bool (!b)))) s') E s) : wpAny (model prog W) B (Builtin.«object.__ne__» ⟨[.ref x, .ref y], []⟩) Q E s := by
  obtain ⟨hp, g, d, tk, os⟩ := s
  unfold Builtin.«object.__ne__»
  repeat (first
    | with_reducible refine wpAny_cRoomFor hu ?_
    | (refine wpAny_bind (m := callSpecialIfBound? (.ref x) (Str.ofString "__eq__") [.ref y]) (PySem.W.ifBound_K kin J hs hf (wpAny_mono hc (fun r s' hr => ?_) fun _ _ e => e)); obtain ⟨b, rfl, hq⟩ := hr)
    | exact hq | exact wpAny_pure hq | exact wpAny_truthy_bool hq | (refine wpAny_bind (m := truthy (.bool _)) (wpAny_truthy_bool ?_))
    | wp_step)
section
variable {X : Cx} {n : Nat} {C f : Addr} {fd : FuncData} {ps : List Str} {sp : Sp}
/-- a def runs, in a room of one's own -/
theorem runA {B : Around} {pins : List (Addr × Obj)} {σ : L2.St} {H : Hp} {s : Shared} {Q : VK} {us : List Value} {vs : List V} {E' : Value → Shared → Prop} (F : FnOk X.prog X.w X.K X.mg X.base CX0 n f fd ps sp) (hr : Room n B) (hfr : B.frames = X.A.frames) (hb : Binds X.K fd ps [])
    (I : Inv X pins σ H s) (r : Vals vs us) (h : sp vs H Q E0) : wpAny (model X.prog X.w) B (call (.ref f) us) (EP X pins σ Q) E' s := by
  have hl : (us ++ []).length = ps.length := by rw [List.append_nil, ← r.length]; exact F.len _ _ _ _ h
  have bt := hb s us I.kIn hl
  rw [List.append_nil] at bt
  have e := I.env0
  have e0 : Env0 X.prog X.w X.K X.mg X.base B X.stack s H := ⟨hfr.trans e.frames, e.mod, e.bs, e.bsz, e.funs, e.frf, e.hok, e.bare⟩
  refine wpAny_call (codeAny_mono (F.run B X.stack s H ⟨us, []⟩ us vs Q E0 hr e0 bt r h) fun res s' hq => ?_)
  cases res with
  | error e => exact hq.elim
  | ok fl => cases fl with
    | ret u => exact I.after hq
    | next => exact hq.elim
    | brk => exact hq.elim
    | cont => exact hq.elim
/-- two instances of the class C; sp: what its __eq__ promises -/
def rOwn (C : Addr) (sp : Sp) (neg : Bool) : R2 := fun x y H Q => ∃ a b dx dy fs gs, x = .ref a ∧ y = .ref b ∧ H a = some (.ins C dx fs) ∧ H b = some (.ins C dy gs) ∧ sp [x, y] H (fun v H' => ∃ k, v = .bl k ∧ Q (.bl (if neg then !k else k)) H') E0
theorem op_eqO (F : FnOk X.prog X.w X.K X.mg X.base CX0 n f fd ps sp) (hr : Room n X.A) (hs : PySem.W.findIn X.K (.ref C) "__eq__" = some (some (.ref f))) (hf : PySem.W.isFn X.K (.ref f) = true) (hb : Binds X.K fd ps []) : OpR X (compareOp .Eq) (rOwn C sp false) := by
  intro pins s σ H x y v u Q I rx ry h
  obtain ⟨a, b, dx, dy, fs, gs, rfl, rfl, ha, hb', q⟩ := h
  cases rx; cases ry
  obtain ⟨mA, J, _⟩ := ins_get I.hok ha
  obtain ⟨mB, J', _⟩ := ins_get I.hok hb'
  obtain ⟨od, J, _⟩ := J.look
  obtain ⟨od', J', _⟩ := J'.look
  obtain ⟨m, hF⟩ := I.fr
  refine PySem.W.cmp_K (op := .Eq) (tb := .ref C) (by have := hr.un; omega) hF I.ok.mod.kin J J'.type (by simp [PySem.W.notFirst]) hs hf ?_
  refine wpAny_mono (runA (us := [.ref a, .ref b]) (vs := [.ref a, .ref b]) F hr rfl hb I (.cons rfl (.cons rfl .nil)) q) (fun w s' hq => ?_) fun _ _ z => z
  obtain ⟨z, H', I', rz, k, ez, q'⟩ := hq
  subst ez
  cases (show w = Value.bool k from rz)
  exact ⟨.bl k, H', I', rfl, q'⟩
theorem op_neO (F : FnOk X.prog X.w X.K X.mg X.base CX0 n f fd ps sp) (hr : Room (n + 1) X.A) (hs : PySem.W.findIn X.K (.ref C) "__eq__" = some (some (.ref f))) (hf : PySem.W.isFn X.K (.ref f) = true) (hb : Binds X.K fd ps [])
    (hs2 : PySem.W.findIn X.K (.ref C) "__ne__" = some (some (.builtin "object.__ne__"))) (hm : PySem.W.mroIn X.K C (.type "object") = some true) : OpR X (compareOp .NotEq) (rOwn C sp true) := by
  intro pins s σ H x y v u Q I rx ry h
  obtain ⟨a, b, dx, dy, fs, gs, rfl, rfl, ha, hb', q⟩ := h
  cases rx; cases ry
  obtain ⟨mA, J, _⟩ := ins_get I.hok ha
  obtain ⟨mB, J', _⟩ := ins_get I.hok hb'
  obtain ⟨od, J, _⟩ := J.look
  obtain ⟨od', J', _⟩ := J'.look
  have kin := I.kIn
  have hu : X.A.units + 1 < cLine := by have := hr.un; omega
  have run : ∀ E' : Value → Shared → Prop, wpAny (model X.prog X.w) X.A.in1 (call (.ref f) [.ref a, .ref b]) (fun w s' => ∃ k, w = .bool k ∧ EP X pins σ Q (.bool (!k)) s') E' s := fun E' =>
    wpAny_mono (runA (us := [.ref a, .ref b]) (vs := [.ref a, .ref b]) F hr.in1 rfl hb I (.cons rfl (.cons rfl .nil)) q) (fun w s' hq => by
      obtain ⟨z, H', I', rz, k, ez, q'⟩ := hq
      subst ez
      cases (show w = Value.bool k from rz)
      exact ⟨k, rfl, .bl (!k), H', I', rfl, q'⟩) fun _ _ z => z
  have one : wpAny (model X.prog X.w) X.A (tryCompare (.ref a) "__ne__" (.ref b)) (fun r s' => ∃ w, r = some w ∧ EP X pins σ Q w s') X.xe s := by
    unfold tryCompare
    refine wpAny_bind (NtL.csib (J.type.andThen (PySem.W.looks_findIn kin hs2)) (PySem.F.cmp_object.ne.bind _) (wpAny_call (codeAny_call_builtin PySem.F.cmp_object.ne.plain PySem.F.cmpEntry_ne (PySem.W.check_slot PySem.F.cmpKind_ne PySem.F.cmpSplit_ne (J.type.andThen (PySem.W.looks_mroIn kin hm)) (PySem.F.cmpArgs_ne _ _) (objNe_own kin J hs hf hu (wpAny_mono (run _) (fun w s' hw => ?_) fun _ _ z => z))))))
    obtain ⟨k, rfl, q'⟩ := hw
    exact ⟨k, rfl, wpAny_pure ⟨_, rfl, q'⟩⟩
  show wpAny (model X.prog X.w) X.A (richCompare .NotEq (.ref a) (.ref b)) _ _ s
  unfold richCompare
  simp only [oneThing_ref]
  refine wpAny_holding (wpAny_bind (wpAny_cRoomFor (by omega) ?_))
  rw [cmpInfo_NotEq]
  dsimp only
  refine wpAny_bind (J.type.here (wpAny_bind (J'.type.here ?_)))
  rw [show (Value.ref C != Value.ref C) = false from by simp]
  simp only [Bool.false_eq_true, if_false]
  refine wpAny_bind (wpAny_pure ?_)
  simp only [Bool.false_eq_true, if_false]
  refine wpAny_bind (wpAny_mono one (fun r s' hr => ?_) fun _ _ z => z)
  obtain ⟨w, rfl, q'⟩ := hr
  exact wpAny_pure q'
end
end EL

set_option Elab.async false
set_option linter.all false
set_option maxRecDepth 100000
set_option maxHeartbeats 4000000
namespace EL
open PySem PySem.Spec PyProof.Rows L2
/-- a class's own == -/
structure EqD (P : Program) (W : World) (K : PySem.W.Frag) (mg : Str → Option Value) (base : Heap) (C : Addr) (k : Nat) (ok : OkF) : Prop where
  ex : ∃ (f : Addr) (fd : FuncData), PySem.W.findIn K (.ref C) "__eq__" = some (some (.ref f)) ∧ PySem.W.isFn K (.ref f) = true ∧ Binds K fd ["self", "other"] [] ∧ FnOk P W K mg base CX0 k f fd ["self", "other"] (SpF K ok)
  ne : PySem.W.findIn K (.ref C) "__ne__" = some (some (.builtin "object.__ne__"))
  ob : PySem.W.mroIn K C (.type "object") = some true
section
variable {X : Cx} {K : PySem.W.Frag} {C : Addr} {k k' : Nat} {ok : OkF}
theorem op_eqI (e : X.K = K) (d : EqD X.prog X.w X.K X.mg X.base C k ok) (hr : Room k' X.A) (hk : k ≤ k') : OpR X (compareOp .Eq) (rOwn C (SpF K ok) false) := by
  subst e
  obtain ⟨⟨f, fd, h1, h2, h3, F⟩, _, _⟩ := d
  exact op_eqO F (hr.mono hk) h1 h2 h3
theorem op_neI (e : X.K = K) (d : EqD X.prog X.w X.K X.mg X.base C k ok) (hr : Room k' X.A) (hk : k + 1 ≤ k') : OpR X (compareOp .NotEq) (rOwn C (SpF K ok) true) := by
  subst e
  obtain ⟨⟨f, fd, h1, h2, h3, F⟩, h4, h5⟩ := d
  exact op_neO F (hr.mono hk) h1 h2 h3 h4 h5
/-- one of two readings of a statement -/
theorem ps_alt {s : Stmt} {t1 t2 : TS} (h1 : PS X s t1) (h2 : PS X s t2) : PS X s (fun De σ H => t1 De σ H ∨ t2 De σ H) := ⟨fun pins s σ H De I h => h.elim (h1.run pins s σ H De I) (h2.run pins s σ H De I)⟩
end
section
variable {K : PySem.W.Frag} {w : Wd} {env : Env} {Q : Wd → D → Prop} {te to : TE} {as : TA} {t1 t2 : TS} {Z : DEnds}
theorem es_altL (h : Es K t1 w env Z) : Es K (fun De σ H => t1 De σ H ∨ t2 De σ H) w env Z := fun G σ H De F o c1 c2 c3 c4 => .inl (h G σ H De F o c1 c2 c3 c4)
theorem es_altR (h : Es K t2 w env Z) : Es K (fun De σ H => t1 De σ H ∨ t2 De σ H) w env Z := fun G σ H De F o c1 c2 c3 c4 => .inr (h G σ H De F o c1 c2 c3 c4)
theorem w2_own {C : Addr} {fs gs : List (Str × D)} {ok : OkF} {neg : Bool} (h : ok w [.obj C fs, .obj C gs] fun d => ∃ b, d = .bl b ∧ Q w (.bl (if neg then !b else b))) : W2 K (rOwn C (SpF K ok) neg) w (.obj C fs) (.obj C gs) Q := fun G σ H env R F x y o rx ry c => by
  cases rx with
  | obj g1 k1 r1 => cases ry with
    | obj g2 k2 r2 =>
      refine ⟨_, _, _, _, _, _, rfl, rfl, ex_ins o.sub g1, ex_ins o.sub g2, w, G, [.obj C fs, .obj C gs], _, ⟨sl_nil, o.nm, o.sub, o.i, stab_reps _ _, .cons (.obj g1 k1 r1) (.cons (.obj g2 k2 r2) .nil)⟩, h, fun v G' H' d qd sm o' => ?_⟩
      obtain ⟨b, rfl, qd⟩ := qd
      have rv := o'.f
      cases rv
      have o2 : Ok K w G' σ H' env F := ⟨o.sl.mono sm, o'.nm, o'.sub, o'.i, o.st, o.st _ _ sm o.f⟩
      exact ⟨b, rfl, c w _ G' H' _ qd (o2.push (stab_rep _ _) (.bl _))⟩
/-- ( .., *e, .. ) -/
theorem wa_star {T : Wd → List D → Prop} (h : Wp K te w env fun w1 d => ∃ xs, (d = .tup xs ∨ d = .lst xs) ∧ Wa K as w1 env fun w2 ds => T w2 (xs ++ ds)) : Wa K (StX.tStar K te as) w env T := fun G σ H R F o c =>
  h G σ H _ F o fun w1 v G1 H1 d q o1 => by
    obtain ⟨xs, hd, q⟩ := q
    obtain ⟨a, vs, rfl, hs, hr⟩ : ∃ a vs, v = .ref a ∧ (SqT K H1 a vs ∨ SqL K H1 a vs) ∧ Reps K G1 vs xs := by
      rcases hd with rfl | rfl
      · obtain ⟨a, vs, e, h1, h2⟩ := rep_tup o1.f.2; exact ⟨a, vs, e, .inl (ex_t o1.sub h1), h2⟩
      · obtain ⟨a, vs, e, h1, h2⟩ := rep_lst o1.f.2; exact ⟨a, vs, e, .inr (ex_l o1.sub h1), h2⟩
    have o2 : Ok K w1 G1 σ H1 env (fun G => F G ∧ Reps K G vs xs) := o1.as (stab_and o.st (stab_reps _ _)) ⟨o1.f.1, hr⟩
    exact ⟨a, vs, rfl, hs, q G1 σ H1 _ _ o2 fun w2 us G2 H2 ds q2 o3 => c w2 (vs ++ us) G2 H2 (xs ++ ds) q2 (o3.as (stab_and o.st (stab_reps _ _)) ⟨o3.f.1.1, o3.f.1.2.append o3.f.2⟩)⟩
/-- a target list from a list -/
theorem wg_lst {n : Nat} {gs : TGs} {ds : List D} {e2 : Env} (hn : ds.length = n) (hs : Wgs K gs ds env e2) : Wg K (gLst K n gs) (.lst ds) env e2 := fun w G σ H F x R o r c => by
  obtain ⟨a, vs, rfl, h1, h2⟩ := rep_lst r
  exact ⟨a, vs, rfl, ex_l o.sub h1, h2.length.trans hn, hs w G σ H F vs R o h2 c⟩
/-- t.index(x) of texts, t a module's tuple -/
theorem wp_tupIndex {ss : List Str} {a : Addr} (hK : ∃ ob : Obj, K.lookup a = some ob ∧ ob.cls = .type "tuple" ∧ ob.dict = none) (hR : ∀ G, Rep K G (.ref a) (.tup (ss.map D.str))) (h : Wp K te w env fun w2 x => ∃ z j, x = .str z ∧ ss[j]? = some z ∧ (∀ m, m < j → ss[m]? ≠ some z) ∧ Q w2 (.int (j : Nat))) :
    Wp K (tBM K "tuple" (fun x xs H Q => ∃ p, ∃ ys : List Str, ∃ z j, x = .ref p ∧ xs = [.str z] ∧ SqT K H p (ys.map V.str) ∧ ys[j]? = some z ∧ (∀ m, m < j → ys[m]? ≠ some z) ∧ Q (.int (j : Nat)) H) (tC (.ref a)) (tCons te tNil)) w env Q := fun G σ H R F o c => by
  refine ⟨.inr (.inl ⟨rfl, hK⟩), h G σ H _ F o fun w2 x G2 H2 dx q2 o2 => ?_⟩
  obtain ⟨z, j, rfl, hz, hm, q2⟩ := q2
  have rx := o2.f.2
  cases rx
  obtain ⟨a', vs', e', h1', h2'⟩ := rep_tup (hR G2)
  cases e'
  have ev' := reps_strs h2'
  subst ev'
  exact ⟨_, ss, z, j, rfl, rfl, ex_t o2.sub h1', hz, hm, c w2 _ G2 H2 _ q2 ((ok_drop o2 o.st).push (stab_rep _ _) (.int _))⟩
end
end EL

set_option Elab.async false
set_option linter.all false
set_option maxRecDepth 100000
set_option maxHeartbeats 4000000
namespace EL
open PySem PySem.Spec PyProof.Rows L2
theorem call_reprB {X : Cx} : CallR X (.builtin "repr") (fun xs H Q => ∃ b, xs = [.bl b] ∧ Q (.str (if b then "True" else "False")) H) := by
  intro pins s σ H xs us Q I r h
  obtain ⟨b, rfl, q⟩ := h
  obtain ⟨u, rfl, rx⟩ := vals1 r
  obtain rfl : u = Value.bool b := rx
  exact PySem.P.repr_of_bool ⟨.str _, H, I.tok _, ⟨_, rfl⟩, q⟩
theorem wb_reprB {K : PySem.W.Frag} {w : Wd} {Q : Wd → D → Prop} {b : Bool} (q : Q w (.str (if b then "True" else "False"))) : Wb K (fun xs H Q => ∃ b, xs = [.bl b] ∧ Q (.str (if b then "True" else "False")) H) w [.bl b] Q := fun G σ H env R F xs o r c => by
  cases r with
  | cons r1 r2 =>
    cases r1; cases r2
    exact ⟨b, rfl, c w _ G H _ q (o.push (stab_rep _ _) (.str _))⟩
section
variable {P : Program} {W : World} {K : PySem.W.Frag} {mg : Str → Option Value} {base : Heap}
theorem def_okG {nm : Str} {st : Stmt} {N ps : List Str} {k : Nat} {ok : OkF} (F : DefAt K mg nm st ps) (S : FnScope N ps (defScope st)) (hl : ∀ w ds R, ok w ds R → ds.length = ps.length) (hs : ∀ w G ds R, ok w ds R → ok (w.since G) ds R)
    (hb : ∀ (f : Addr) (cdv : Value) (A : Around) (outer : List PySem.Env) (s : Shared) (H : Hp) (E : XK), A.guards = some [] → Room k (A.deeper (envOfC nm (defScope st) s.heap.objs.size f cdv)) →
      ∃ t, PSs (cxOf CX0 P W K mg base N nm (defScope st) f cdv A outer s H E).nox (defBody st) t ∧
        ∀ wd ds R, ok wd ds R → Es K t wd (startD N ds) { nx := fun w' _ => wd.le w' ∧ R .non, rt := fun w' d => wd.le w' ∧ R d }) : DefG P W K mg base nm (k + 1) ps (SpF K ok) := by
  obtain ⟨f, fd, hm, F, b⟩ := F
  refine ⟨f, fd, hm, F.kp, b, fnG_of F S (fun vs H Q E h => ?_) (fun cdv A outer s H vs Q E hg hr h => ?_)⟩
  · obtain ⟨w, G, ds, R, i, o, _⟩ := h
    rw [i.f.length]; exact hl w ds R o
  · obtain ⟨t, ht, he⟩ := hb f cdv A outer s H E hg hr
    refine ⟨t, ht, ?_⟩
    obtain ⟨w, G, ds, R, i, o, q⟩ := h
    refine he (w.since G) ds R (hs w G ds R o) G (L2.start N vs) H _ (fun _ => True) ⟨sl_start i.f, i.nm, i.sub, ⟨i.i, Sm.refl _⟩, stab_true, trivial⟩ ?_ ?_ (fun _ _ _ _ _ z => z.elim) (fun _ _ _ _ _ z => z.elim)
    · rintro w' G' σ' H' env' ⟨l, z⟩ o'
      have o2 := o'.le l
      exact q .non G' H' .non z o2.i.2 ⟨sl_nil, o2.nm, o2.sub, o2.i.1, stab_rep _ _, .non⟩
    · rintro w' v G' σ' H' env' d ⟨l, z⟩ o'
      have o2 := o'.le l
      exact q v G' H' d z o2.i.2 ⟨sl_nil, o2.nm, o2.sub, o2.i.1, stab_rep _ _, o2.f.2⟩
end
/-- fewer objects of one's own -/
theorem own_less {K : PySem.W.Frag} {w : Wd} {a b : Addr × D} : (w.own K [a]).le (w.own K [a, b]) := by
  refine ⟨fun x h => ?_, fun G H i => ⟨i.1, ⟨?_, fun x hx => ?_⟩, fun x hx => ?_⟩⟩
  · rcases List.mem_append.mp h with h | h
    · exact List.mem_append_left _ (by simp [Own.as] at h ⊢; exact .inl h)
    · exact List.mem_append_right _ h
  · simp [Own.as]
  · exact i.2.1.2 x (by simp [Own.as] at hx ⊢; exact .inl hx)
  · exact i.2.2 x (by simp at hx ⊢; exact .inl hx)
end EL

set_option Elab.async false
set_option linter.all false
set_option maxRecDepth 100000
set_option maxHeartbeats 4000000
namespace EL
open PySem PySem.Spec PyProof.Rows L2
section
variable {K : PySem.W.Frag} {w : Wd} {env : Env} {Q : Wd → D → Prop} {te : TE} {tt : TT} {vs : List Nat}
theorem Ok.unflat {L L' : Own} {G : Hp} {σ : L2.St} {H : Hp} {F : Hp → Prop} (o : Ok K (w.own K (L' ++ L)) G σ H env F) : Ok K ((w.own K L).own K L') G σ H env F := by
  have ea : Own.as (L' ++ L) = L'.as ++ L.as := by simp [Own.as]
  have nd := o.i.2.1.1
  rw [ea, List.nodup_append] at nd
  refine ⟨o.sl, fun a ha z => o.nm a ha ?_, o.sub, ⟨⟨o.i.1, ⟨nd.2.1, fun a ha => o.i.2.1.2 a (by rw [ea]; exact List.mem_append_right _ ha)⟩, fun x hx => o.i.2.2 x (List.mem_append_right _ hx)⟩, ⟨nd.1, fun a ha z => ?_⟩, fun x hx => o.i.2.2 x (List.mem_append_left _ hx)⟩, o.st, o.f⟩
  · show a ∈ Own.as (L' ++ L) ++ w.M
    rw [ea, List.append_assoc]; exact z
  · rcases List.mem_append.mp z with z | z
    · exact nd.2.2 a ha a z rfl
    · exact o.i.2.1.2 a (by rw [ea]; exact List.mem_append_left _ ha) z
/-- two objects of one's own, the other way round -/
theorem Ok.exch {a b : Addr × D} {G : Hp} {σ : L2.St} {H : Hp} {F : Hp → Prop} (o : Ok K ((w.own K [a]).own K [b]) G σ H env F) : Ok K ((w.own K [b]).own K [a]) G σ H env F :=
  Ok.unflat (L := [b]) (L' := [a]) (Ok.swap (Ok.flat (L := [a]) (L' := [b]) o))
/-- a comprehension whose list is one's own -/
theorem wp_lcO {wi : TI} {g : TG} {f : D → D} {cc : D → Bool} (h : Wi K wi w env fun w1 ds => ds.length < 100000 ∧
      (∀ x ∈ ds, ∃ e3, Wgv K g vs x (wipeE env vs) e3 ∧ ∀ w2, w1.le w2 → Wt K tt w2 e3 fun w3 b => w3 = w2 ∧ b = cc x ∧ (b = true → Wp K te w2 e3 fun w4 d => w4 = w2 ∧ d = f x)) ∧
      ∀ p, Q (w1.own K [(p, .lst ((ds.filter cc).map f))]) (.raw (.ref p))) : Wp K (tLc wi g tt te vs) w env Q := fun G σ H R F o c =>
  h G σ H _ F o fun w1 G1 H1 ds J Fi q o1 jo p hp => by
    obtain ⟨hn, hb, q⟩ := q
    have sF : Stab (fun G => (F G ∧ Sl K σ G env) ∧ Fi G) := stab_and (stab_and o.st (stab_sl _ _)) jo.st
    have o0 : Ok K (w1.own K [(p, .lst [])]) G1 σ (upd H1 p (.lst [])) env (fun G => F G ∧ Fi G) := Ok.own o1 hp ⟨[], upd_same, .nil⟩
    refine ⟨fun i m H' => m = ds.length - i ∧ i ≤ ds.length ∧ ∃ G2, Ok K (w1.own K [(p, .lst (((ds.take i).filter cc).map f))]) G2 (wipe σ vs) H' (wipeE env vs) (fun G => (F G ∧ Sl K σ G env) ∧ Fi G),
      ⟨ds.length, by simp, Nat.zero_le _, G1, (o0.as sF ⟨⟨o0.f.1, o0.sl⟩, o0.f.2⟩).se (o0.sl.wipe vs)⟩, ?_⟩
    rintro i m H' ⟨rfl, hi, G2, o2⟩
    by_cases hlt : i < ds.length
    · refine .inr ⟨jo.go G2 H' i o2.f.2 o2.sub hlt, fun H3 => ∃ G2, Ok K (w1.own K [(p, .lst (((ds.take (i + 1)).filter cc).map f))]) G2 (wipe σ vs) H3 (wipeE env vs) (fun G => (F G ∧ Sl K σ G env) ∧ Fi G), fun H3 z => ⟨ds.length - (i + 1), by omega, rfl, hlt, z⟩, fun x H3 y => ?_⟩
      obtain ⟨d, G3, hd, sm, o3, r⟩ := o2.yld jo hlt y
      obtain ⟨e3, g3, b3⟩ := hb d (List.mem_of_getElem? hd)
      have et : ds.take (i + 1) = ds.take i ++ [d] := by rw [List.take_succ, hd]; rfl
      refine g3 _ G3 _ H3 _ x _ o3 r fun σ4 ew o4 => ⟨ew.trans (wipe_wipe σ vs), ?_⟩
      refine b3 _ (w1.le_own _) G3 σ4 H3 _ _ o4 fun w5 b G5 H5 q5 o5 => ?_
      obtain ⟨rfl, rfl, q5⟩ := q5
      by_cases cx : cc d = true
      · rw [if_pos cx]
        refine (q5 cx) G5 σ4 H5 _ _ o5 fun w6 v G6 H6 d6 q6 o6 => ?_
        obtain ⟨rfl, rfl⟩ := q6
        obtain ⟨us, hu, ru⟩ := own_at o6.i (k := 0) rfl
        have hlen : us.length ≤ ds.length := by
          rw [ru.length, List.length_map]
          exact Nat.le_trans (List.length_filter_le _ _) (by rw [List.length_take]; omega)
        refine ⟨us, hu, Nat.lt_of_lt_of_le (by omega : us.length < 100000) (by decide), G6, ?_⟩
        have o7 := Ok.mod (k := 0) (o := .lst (us ++ [v])) (d' := .lst (((ds.take i).filter cc).map f ++ [f d])) o6 rfl ⟨us ++ [v], upd_same, ru.append (.cons o6.f.2 .nil)⟩
        have ee : ((ds.take (i + 1)).filter cc).map f = ((ds.take i).filter cc).map f ++ [f d] := by rw [et, List.filter_append, List.map_append]; simp [cx]
        rw [ee]
        exact (o7.as sF o7.f.1).se (o7.f.1.1.2.wipe vs)
      · rw [if_neg cx]
        have cx' : cc d = false := by simpa using cx
        have ee : ((ds.take (i + 1)).filter cc).map f = ((ds.take i).filter cc).map f := by rw [et, List.filter_append, List.map_append]; simp [cx']
        rw [ee]
        exact ⟨G5, o5.se (o5.f.1.2.wipe vs)⟩
    · have e : i = ds.length := by omega
      subst e
      rw [List.take_length] at o2
      exact .inl ⟨jo.stop G2 H' o2.f.2 o2.sub, c _ (.ref p) G2 H' _ (q p) ((o2.se o2.f.1.2).as (stab_and o.st (stab_rep _ _)) ⟨o2.f.1.1, .raw _⟩)⟩
end
/-! ### a draw that begins -/
def drD (wl cl : Addr) : List (Key × D) := [(.inr "wide", .raw (.ref wl)), (.inr "cells", .raw (.ref cl)), (.inr "rest", .int 0), (.inr "turn", .int 0)]
theorem draw_of {K : PySem.W.Frag} {w : Wd} {d wl cl : Addr} {wide cells : List Int} (hw : wide.length ≤ 63) (hc : cells.length ≤ 63) {G : Hp} {σ : L2.St} {H : Hp} {env : Env} {F : Hp → Prop}
    (o : Ok K (w.own K [(d, .dct (drD wl cl)), (cl, .lst (cells.map D.int)), (wl, .lst (wide.map D.int))]) G σ H env F) : Ok K (w.draw ⟨d, wl, cl⟩ 0) G σ H env F := by
  obtain ⟨kvs, h1, k1, r1⟩ := own_at o.i (k := 0) rfl
  obtain ⟨vc, h2, r2⟩ := own_at o.i (k := 1) rfl
  obtain ⟨vw, h3, r3⟩ := own_at o.i (k := 2) rfl
  have e2 := reps_ints r2
  have e3 := reps_ints r3
  subst e2; subst e3
  have nd := o.i.2.1.1
  simp [Own.as] at nd
  have ek : kvs = drKvs wl cl 0 0 := by
    have k1' : kvs.map (·.1) = [.inr "wide", .inr "cells", .inr "rest", .inr "turn"] := k1.symm
    match kvs, k1', r1 with
    | [(a, x), (b, y), (c, z), (e, u)], k1', r1 =>
      simp only [List.map_cons, List.map_nil, List.cons.injEq, and_true] at k1'
      obtain ⟨rfl, rfl, rfl, rfl⟩ := k1'
      have r1' : Reps K G [x, y, z, u] [.raw (.ref wl), .raw (.ref cl), .int 0, .int 0] := r1
      cases r1' with
      | cons a1 t => cases t with
        | cons a2 t => cases t with
          | cons a3 t => cases t with
            | cons a4 t =>
              cases rep_raw a1; cases rep_raw a2; cases a3; cases a4
              rfl
  subst ek
  have out : ∀ x, x ∈ [d, cl, wl] → x ∉ w.M := fun x hx => o.i.2.1.2 x hx
  refine ⟨o.sl, fun a ha z => o.nm a ha ?_, o.sub, ⟨o.i.1, ⟨out d (by simp), out wl (by simp), out cl (by simp)⟩, ⟨⟨wide, cells, 0, 0, h1, h3, h2, by decide, by decide, hw, hc⟩, ?_, ?_, ?_⟩⟩, o.st, o.f⟩
  · have z' : a ∈ d :: wl :: cl :: w.M := z
    show a ∈ [d, cl, wl] ++ w.M
    simp at z' ⊢
    rcases z' with h | h | h | h
    · exact .inl h
    · exact .inr (.inr (.inl h))
    · exact .inr (.inl h)
    · exact .inr (.inr (.inr h))
  · exact fun z => nd.1.2 z
  · exact fun z => nd.1.1 z.symm
  · exact fun z => nd.2 z
end EL

set_option Elab.async false
set_option linter.all false
set_option maxRecDepth 100000
set_option maxHeartbeats 4000000
namespace EL
open PySem PySem.Spec PyProof.Rows L2
/-! ### x in [..] by x's own __eq__: the items decline first -/
section
open PySem.SeqAt PySem.MeetsSeq
open PySem.AutoSeq1 (wpAny_loadPart')
theorem int_dec (b : Int) (u : Tok) (l dx C : Addr) : Meets (Builtin.«int.__eq__» ⟨[.int b u, .ref l], []⟩) (fun _ R s => s.heap.get? l = some (PySem.W.instObj C dx) ∧ R (.ok (.ret .notImplemented)) s) :=
  .of_wp fun prog w A R s h => by obtain ⟨hp, g, d, tk, os⟩ := s; obtain ⟨hl, h⟩ := h; unfold PySem.W.instObj at hl; wp_walk using wpAny_loadPart' hl, wpAny_load hl; exact ⟨_, rfl, h⟩
theorem str_dec (b : Str) (u : Tok) (l dx C : Addr) : Meets (Builtin.«str.__eq__» ⟨[.str b u, .ref l], []⟩) (fun _ R s => s.heap.get? l = some (PySem.W.instObj C dx) ∧ R (.ok (.ret .notImplemented)) s) :=
  .of_wp fun prog w A R s h => by obtain ⟨hp, g, d, tk, os⟩ := s; obtain ⟨hl, h⟩ := h; unfold PySem.W.instObj at hl; wp_walk using wpAny_loadPart' hl, wpAny_load hl; exact ⟨_, rfl, h⟩
theorem list_dec (p l : Addr) : Meets (Builtin.«list.__eq__» ⟨[.ref p, .ref l], []⟩) (fun _ R s => (∀ M : Model, PySem.W.Looks M s.heap (isInstance (.ref l) (.type "list")) false) ∧ R (.ok (.ret .notImplemented)) s) :=
  .of_wp fun prog w A R s h => by obtain ⟨hp, g, d, tk, os⟩ := s; obtain ⟨hl, h⟩ := h; wp_walk using (hl _).here; exact ⟨_, rfl, h⟩
theorem tuple_dec (p l : Addr) : Meets (Builtin.«tuple.__eq__» ⟨[.ref p, .ref l], []⟩) (fun _ R s => (∀ M : Model, PySem.W.Looks M s.heap (isInstance (.ref l) (.type "tuple")) false) ∧ R (.ok (.ret .notImplemented)) s) :=
  .of_wp fun prog w A R s h => by obtain ⟨hp, g, d, tk, os⟩ := s; obtain ⟨hl, h⟩ := h; wp_walk using (hl _).here; exact ⟨_, rfl, h⟩
end
/-- a value that stands in such a list -/
inductive Dcl (h : Heap) : Value → String → Prop
  | non : Dcl h .none "NoneType"
  | int (i : Int) (t : Tok) : Dcl h (.int i t) "int"
  | str (x : Str) (t : Tok) : Dcl h (.str x t) "str"
  | lst {p : Addr} {ob : Obj} : h.get? p = some ob → ob.cls = .type "list" → Dcl h (.ref p) "list"
  | tup {p : Addr} {ob : Obj} : h.get? p = some ob → ob.cls = .type "tuple" → Dcl h (.ref p) "tuple"
theorem Dcl.is {s : Shared} {u : Value} {T : String} (d : Dcl s.heap u T) : s.TypeIs u T := by
  cases d with
  | non => rfl
  | int i t => exact typeIs_int s i t
  | str x t => exact typeIs_str s x t
  | lst h c => exact ⟨_, h, c⟩
  | tup h c => exact ⟨_, h, c⟩
section
variable {prog : Program} {W : World} {B : Around} {E : Value → Shared → Prop} {K : PySem.W.Frag} {s : Shared} {x dx C f : Addr} {od : Option Obj} {u : Value} {T : String}
theorem dec_try (kin : K.In s.heap) (J : PySem.W.InstAt s.heap x (PySem.W.instObj C dx) C od) (hl : PySem.W.mroIn K C (.type "list") = some false) (ht : PySem.W.mroIn K C (.type "tuple") = some false) (d : Dcl s.heap u T) {Q : Option Value → Shared → Prop} (q : Q none s) : wpAny (model prog W) B (tryCompare u "__eq__" (.ref x)) Q E s := by
  have look : ∀ {T : String}, PySem.W.mroIn K C (.type T) = some false → ∀ M : Model, PySem.W.Looks M s.heap (isInstance (.ref x) (.type T)) false := fun h M => J.type.andThen (PySem.W.looks_mroIn kin h)
  cases d with
  | non => exact wpAny_tryCompare_declines (show s.TypeIs .none "NoneType" from rfl) F.slot_NoneType_eq (call_gives F.slot_NoneType_eq rfl F.entry_NoneType_eq (F.args_NoneType_eq_2 _ _) (SeqAt.NoneType___eq___none_ref_0 x) ⟨rfl, q⟩)
  | int i t => exact wpAny_tryCompare_declines (typeIs_int s i t) F.slot_int_eq (call_meets F.slot_int_eq (typeIs_int s i t) F.entry_int_eq (F.args_int_eq_2 _ _) (int_dec i t x dx C) ⟨J.at_, rfl, q⟩)
  | str y t => exact wpAny_tryCompare_declines (typeIs_str s y t) F.slot_str_eq (call_meets F.slot_str_eq (typeIs_str s y t) F.entry_str_eq (F.args_str_eq_2 _ _) (str_dec y t x dx C) ⟨J.at_, rfl, q⟩)
  | lst h c => exact wpAny_tryCompare_declines (T := "list") ⟨_, h, c⟩ F.slot_list_eq (call_meets F.slot_list_eq ⟨_, h, c⟩ F.entry_list_eq (F.args_list_eq_2 _ _) (list_dec _ x) ⟨look hl, rfl, q⟩)
  | tup h c => exact wpAny_tryCompare_declines (T := "tuple") ⟨_, h, c⟩ F.slot_tuple_eq (call_meets F.slot_tuple_eq ⟨_, h, c⟩ F.entry_tuple_eq (F.args_tuple_eq_2 _ _) (tuple_dec _ x) ⟨look ht, rfl, q⟩)
theorem rc_dec (hu : B.units < cLine) (kin : K.In s.heap) (J : PySem.W.InstAt s.heap x (PySem.W.instObj C dx) C od) (hl : PySem.W.mroIn K C (.type "list") = some false) (ht : PySem.W.mroIn K C (.type "tuple") = some false) (d : Dcl s.heap u T) (hsub : PySem.W.subIn K (.ref C) (.type T) = some false)
    (hs : PySem.W.findIn K (.ref C) "__eq__" = some (some (.ref f))) (hf : PySem.W.isFn K (.ref f) = true) {Q : Value → Shared → Prop} (hc : wpAny (model prog W) B (call (.ref f) [.ref x, u]) (fun v s' => ∃ b, v = .bool b ∧ Q (.bool b) s') E s) : wpAny (model prog W) B (richCompare .Eq u (.ref x)) Q E s := by
  have two : wpAny (model prog W) B (tryCompare (.ref x) "__eq__" u) (fun r s' => ∃ v, r = some v ∧ Q v s') E s := by
    unfold tryCompare
    refine wpAny_bind (PySem.W.ifBound_K kin J hs hf (wpAny_mono hc (fun v s' hv => ?_) fun _ _ e => e))
    obtain ⟨b, rfl, q⟩ := hv
    exact wpAny_pure ⟨_, rfl, q⟩
  have one : wpAny (model prog W) B (tryCompare u "__eq__" (.ref x)) (fun r s' => r = none ∧ s' = s) E s := dec_try kin J hl ht d ⟨rfl, rfl⟩
  simp only [richCompare, cmpInfo_Eq, d.is.oneThing_none]
  refine wpAny_holding (wpAny_bind (wpAny_cRoomFor hu ?_))
  refine wpAny_bind (wpAny_typeOf d.is (wpAny_bind (J.type.here ?_)))
  split
  · refine wpAny_bind ((PySem.W.looks_subIn kin hsub).here ?_)
    simp only [Bool.false_eq_true, if_false, Bool.not_false, if_true]
    refine wpAny_bind (wpAny_mono one (fun r s1 z => ?_) fun _ _ e => e)
    obtain ⟨z1, z2⟩ := z
    subst z1; subst z2
    refine wpAny_bind (wpAny_mono two (fun r s2 z => ?_) fun _ _ e => e)
    obtain ⟨v, rfl, q⟩ := z
    exact wpAny_pure q
  · rename_i z
    exact absurd (by simp) z
theorem eq_dec (hu : B.units < cLine) (kin : K.In s.heap) (J : PySem.W.InstAt s.heap x (PySem.W.instObj C dx) C od) (hl : PySem.W.mroIn K C (.type "list") = some false) (ht : PySem.W.mroIn K C (.type "tuple") = some false) (d : Dcl s.heap u T) (hsub : PySem.W.subIn K (.ref C) (.type T) = some false)
    (hs : PySem.W.findIn K (.ref C) "__eq__" = some (some (.ref f))) (hf : PySem.W.isFn K (.ref f) = true) {Q : Bool → Shared → Prop} (hc : wpAny (model prog W) B (call (.ref f) [.ref x, u]) (fun v s' => ∃ b, v = .bool b ∧ Q b s') E s) : wpAny (model prog W) B (eqBool u (.ref x)) Q E s := by
  have ne : ¬ (u == Value.ref x) = true := fun z => by
    have e := eq_of_beq z
    cases d with
    | non => cases e
    | int => cases e
    | str => cases e
    | lst h c => cases e; rw [J.at_] at h; cases h; cases c
    | tup h c => cases e; rw [J.at_] at h; cases h; cases c
  unfold eqBool
  refine wpAny_holding (wpAny_ite_split (fun z => absurd z ne) (fun _ => ?_))
  have rc := rc_dec (Q := fun v s' => ∃ b, v = .bool b ∧ Q b s') hu kin J hl ht d hsub hs hf (wpAny_mono hc (fun v s' hv => by obtain ⟨b, rfl, q⟩ := hv; exact ⟨b, rfl, b, rfl, q⟩) fun _ _ e => e)
  cases d with
  | non => exact wpAny_bind (wpAny_mono rc (fun v s' hv => by obtain ⟨b, rfl, q⟩ := hv; exact wpAny_truthy_bool q) fun _ _ e => e)
  | int => exact wpAny_bind (wpAny_mono rc (fun v s' hv => by obtain ⟨b, rfl, q⟩ := hv; exact wpAny_truthy_bool q) fun _ _ e => e)
  | str => exact wpAny_bind (wpAny_mono rc (fun v s' hv => by obtain ⟨b, rfl, q⟩ := hv; exact wpAny_truthy_bool q) fun _ _ e => e)
  | lst => exact wpAny_bind (wpAny_mono rc (fun v s' hv => by obtain ⟨b, rfl, q⟩ := hv; exact wpAny_truthy_bool q) fun _ _ e => e)
  | tup => exact wpAny_bind (wpAny_mono rc (fun v s' hv => by obtain ⟨b, rfl, q⟩ := hv; exact wpAny_truthy_bool q) fun _ _ e => e)
end
section
open PySem.SeqAt PySem.MeetsSeq
open PySem.AutoSeq1 (wpAny_loadPart')
variable {prog : Program} {W : World} {B : Around} {R : Result → Shared → Prop}
/-- none of the items is equal; what is known may change from turn to turn -/
def NoneOf (prog : Program) (W : World) (B : Around) (R : Result → Shared → Prop) (l : Addr) (x : Value) (N : Nat) (I : Nat → Shared → Prop) : Prop :=
  ∀ i s, I i s → ∃ (items : Array Value) (n : Nat) (dd : Option Addr) (sl : Array (Option Value)), s.heap.get? l = some { cls := .type "list", dict := dd, data := .seq items n, slots := sl } ∧ items.size = N ∧
    ∀ h : i < items.size, wpAny (model prog W) B.in1 (eqBool items[i] x) (fun r s' => r = false ∧ I (i + 1) s') (fun e s' => R (.error e) s') s
theorem none_loop (l : Addr) (x : Value) (N : Nat) (I : Nat → Shared → Prop) (hl : NoneOf prog W B R l x N I) (fin : ∀ s, I N s → R (.ok (.ret (.bool false))) s) (k : Nat) :
    ∀ i : Nat, N - i = k → i ≤ N → ∀ s, I i s → wpAny (model prog W) B.in1 (Builtin.«list.__contains__.loop» ⟨[.ref l, x, rawInt i], []⟩) (GQ.FinOf prog W B R) (fun e s' => R (.error e) s') s := by
  induction k with
  | zero =>
    intro i hk hi s h
    obtain ⟨items, n, dd, sl, h1, hs, _⟩ := hl _ _ h
    have e : i = N := by omega
    have hR := fin s (e ▸ h)
    obtain ⟨hp, g, d, tk, os⟩ := s
    wp_walk using wpAny_loadPart' h1
    have hi1 : items[((i : Nat) : Int).toNat]? = none := by simp; omega
    rw [hi1]
    wp_walk
    exact hR
  | succ k ih =>
    intro i hk hi s h
    obtain ⟨items, n, dd, sl, h1, hs, turn⟩ := hl _ _ h
    have hlt : i < items.size := by omega
    have ht := turn hlt
    obtain ⟨hp, g, d, tk, os⟩ := s
    wp_walk using wpAny_loadPart' h1
    have hi1 : items[((i : Nat) : Int).toNat]? = some items[i] := by simp [hlt]
    have hc : ((i : Int) + 1) = ((i + 1 : Nat) : Int) := by omega
    rw [hi1]
    refine wpAny_bind (wpAny_mono ht (fun r s2 h2 => ?_) fun _ _ z => z)
    obtain ⟨hr, h2⟩ := h2
    subst hr
    have hrec := ih (i + 1) (by omega) (by omega) s2 h2
    obtain ⟨hp2, g2, d2, tk2, os2⟩ := s2
    wp_walk
    rw [hc]
    exact ⟨plainId_quiet plain_contains_loop _, codeAny_builtin entry_contains_loop (by
      rw [Around.under_plainId plain_contains_loop _]
      exact hrec)⟩
theorem none_contains (l : Addr) (x : Value) (N : Nat) (I : Nat → Shared → Prop) (hl : NoneOf prog W B R l x N I) (fin : ∀ s, I N s → R (.ok (.ret (.bool false))) s) {s : Shared} (h : I 0 s) :
    wpAny (model prog W) B.in1 (Builtin.«list.__contains__» ⟨[.ref l, x], []⟩) (GQ.FinOf prog W B R) (fun e s' => R (.error e) s') s := by
  obtain ⟨items, n, dd, sl, h1, hs, _⟩ := hl _ _ h
  have hrec := none_loop (B := B) (R := R) l x N I hl fin _ 0 rfl (Nat.zero_le _) s h
  obtain ⟨hp, g, d, tk, os⟩ := s
  wp_walk using wpAny_loadPart' h1
  exact ⟨plainId_quiet plain_contains_loop _, codeAny_builtin entry_contains_loop (by
    rw [Around.under_plainId plain_contains_loop _]
    exact hrec)⟩
end
/-- what the class must be like -/
structure NotB (K : PySem.W.Frag) (C : Addr) : Prop where
  l : PySem.W.mroIn K C (.type "list") = some false
  t : PySem.W.mroIn K C (.type "tuple") = some false
  s : ∀ T ∈ (["NoneType", "int", "str", "list", "tuple"] : List String), PySem.W.subIn K (.ref C) (.type T) = some false
/-- None, a number, a text, a list or a tuple -/
def BV (K : PySem.W.Frag) (H : Hp) (z : V) : Prop := z = .non ∨ (∃ i, z = .int i) ∨ (∃ x, z = .str x) ∨ ∃ q vs, z = .ref q ∧ (SqL K H q vs ∨ SqT K H q vs)
def rInO (K : PySem.W.Frag) (C : Addr) (sp : Sp) : R2 := fun x y H Q => ∃ (a p : Addr) (ys : List V) (J : Hp → Prop), x = .ref a ∧ y = .ref p ∧ J H ∧
  (∀ H', J H' → (∃ dx fs, H' a = some (.ins C dx fs)) ∧ SqL K H' p ys ∧ ∀ z ∈ ys, BV K H' z ∧ sp [.ref a, z] H' (fun v H'' => v = .bl false ∧ J H'') E0) ∧ ∀ H', J H' → Q (.bl false) H'
theorem op_inO {X : Cx} {n : Nat} {C f : Addr} {fd : FuncData} {ps : List Str} {sp : Sp} (F : FnOk X.prog X.w X.K X.mg X.base CX0 n f fd ps sp) (hr : Room (n + 1) X.A) (hs : PySem.W.findIn X.K (.ref C) "__eq__" = some (some (.ref f))) (hf : PySem.W.isFn X.K (.ref f) = true) (hb : Binds X.K fd ps []) (nb : NotB X.K C) : OpR X (compareOp .In) (rInO X.K C sp) := by
  intro pins s σ H x y v u Q I rx ry h
  obtain ⟨a, p, ys, J, rfl, rfl, j0, jt, q⟩ := h
  cases rx; cases ry
  have hu : X.A.in1.units < cLine := by have := hr.un; show X.A.units + 1 < cLine; omega
  have hT : s.TypeIs (.ref p) "list" := by
    obtain ⟨its, rv, ⟨o, m, ho, hc, _, hdt⟩, hz⟩ := I.list (jt H j0).2.1
    exact ⟨o, ho, hc⟩
  show wpAny (model X.prog X.w) X.A (do return .bool (← contains (.ref p) (.ref a))) (EP X pins σ Q) X.xe s
  refine wpAny_bind (wpAny_contains_slot hT PySem.F.slot_list_contains (wpAny_mono (GQ.call_here (Q := fun v s' => ∃ b, v = .bool b ∧ EP X pins σ Q (.bool b) s') PySem.F.slot_list_contains hT PySem.F.entry_list_contains (PySem.F.args_list_contains_2 _ _) (none_contains p (.ref a) ys.length (fun _ s' => ∃ H', Inv X pins σ H' s' ∧ J H') ?_ ?_ ⟨H, I, j0⟩)) (fun v s' hv => ?_) fun _ _ z => z))
  · rintro i s' ⟨H', I', j⟩
    obtain ⟨⟨dx, fs, ha⟩, hq, step⟩ := jt H' j
    obtain ⟨its, rv, ⟨⟨cls, dd, dt, sl⟩, m, ho, hc, _, hdt⟩, hz⟩ := I'.list hq
    simp only at hc hdt
    subst hc; subst hdt
    refine ⟨its.toArray, m, dd, sl, ho, by rw [List.size_toArray]; exact rv.length.symm, fun hi => ?_⟩
    have hi' : i < ys.length := by rw [rv.length]; simpa using hi
    obtain ⟨hb1, hsp⟩ := step ys[i] (List.getElem_mem hi')
    obtain ⟨mA, O, _⟩ := ins_get I'.hok ha
    obtain ⟨od, O, _⟩ := O.look
    have rz : RelV ys[i] its.toArray[i] := by
      obtain ⟨u', hu', ru'⟩ := rv.get (List.getElem?_eq_getElem hi')
      obtain ⟨_, e'⟩ := List.getElem?_eq_some_iff.mp hu'
      have e2 : its.toArray[i] = u' := by simpa using e'
      rw [e2]; exact ru'
    have dc : ∃ T, Dcl s'.heap its.toArray[i] T ∧ T ∈ (["NoneType", "int", "str", "list", "tuple"] : List String) := by
      generalize ys[i] = z at rz hb1
      generalize its.toArray[i] = w at rz
      rcases hb1 with rfl | ⟨j, rfl⟩ | ⟨j, rfl⟩ | ⟨b, vs, rfl, hv⟩
      · obtain rfl : w = Value.none := rz; exact ⟨_, .non, by simp⟩
      · obtain ⟨t, rfl⟩ := rz; exact ⟨_, .int j t, by simp⟩
      · obtain ⟨t, rfl⟩ := rz; exact ⟨_, .str j t, by simp⟩
      · obtain rfl : w = Value.ref b := rz
        rcases hv with hv | hv
        · obtain ⟨_, _, ⟨o, _, ho, hc, _⟩, _⟩ := I'.list hv; exact ⟨_, .lst ho hc, by simp⟩
        · obtain ⟨_, _, ⟨o, ho, hc, _⟩, _⟩ := I'.tuple hv; exact ⟨_, .tup ho hc, by simp⟩
    obtain ⟨T, dc, hTm⟩ := dc
    refine eq_dec hu I'.kIn O nb.l nb.t dc (nb.s T hTm) hs hf (wpAny_mono (runA (us := [.ref a, its.toArray[i]]) (vs := [.ref a, ys[i]]) F hr.in1 rfl hb I' (.cons rfl (.cons rz .nil)) hsp) (fun w s2 hq => ?_) fun _ _ z => z)
    obtain ⟨z, H2, I2, rz2, ez, j2⟩ := hq
    subst ez
    cases (show w = Value.bool false from rz2)
    exact ⟨false, rfl, rfl, H2, I2, j2⟩
  · rintro s' ⟨H', I', j⟩
    exact ⟨false, rfl, .bl false, H', I', rfl, q H' j⟩
  · obtain ⟨b, rfl, e⟩ := hv
    exact wpAny_truthy_bool (wpAny_pure e)
end EL

set_option Elab.async false
set_option linter.all false
set_option maxRecDepth 100000
set_option maxHeartbeats 4000000
namespace EL
open PySem PySem.Spec PyProof.Rows L2
def isIt : D → Bool
  | .non => true
  | .int _ => true
  | .str _ => true
  | .lst _ => true
  | .tup _ => true
  | _ => false
theorem rep_bv {K : PySem.W.Frag} {G H : Hp} {z : V} {d : D} (e : Sm G H) (r : Rep K G z d) (h : isIt d = true) : BV K H z := by
  cases d with
  | non => cases r; exact .inl rfl
  | int i => cases r; exact .inr (.inl ⟨i, rfl⟩)
  | str x => cases r; exact .inr (.inr (.inl ⟨x, rfl⟩))
  | lst ds => obtain ⟨a, vs, rfl, h1, _⟩ := rep_lst r; exact .inr (.inr (.inr ⟨a, vs, rfl, .inl (ex_l e h1)⟩))
  | tup ds => obtain ⟨a, vs, rfl, h1, _⟩ := rep_tup r; exact .inr (.inr (.inr ⟨a, vs, rfl, .inr (ex_t e h1)⟩))
  | _ => cases h
theorem reps_mem {K : PySem.W.Frag} {G : Hp} : ∀ {vs : List V} {ds : List D} {z : V}, Reps K G vs ds → z ∈ vs → ∃ d ∈ ds, Rep K G z d
  | _, _, _, .nil, h => by cases h
  | _, _, z, .cons r t, h => by
    rcases List.mem_cons.mp h with rfl | h
    · exact ⟨_, List.mem_cons_self, r⟩
    · obtain ⟨d, hd, r'⟩ := reps_mem t h
      exact ⟨d, List.mem_cons_of_mem _ hd, r'⟩
theorem w2_inO {K : PySem.W.Frag} {w : Wd} {Q : Wd → D → Prop} {C : Addr} {fs : List (Str × D)} {ds : List D} {ok : OkF} (h : ∀ d ∈ ds, isIt d = true ∧ ok w [.obj C fs, d] fun r => r = .bl false) (q : Q w (.bl false)) : W2 K (rInO K C (SpF K ok)) w (.obj C fs) (.lst ds) Q := fun G σ H env R F x y o rx ry c => by
  obtain ⟨p, vs, rfl, hp, rp⟩ := rep_lst ry
  cases rx with
  | obj g k r =>
    rename_i a dx fv
    have rx : Rep K G (.ref a) (.obj C fs) := .obj g k r
    refine ⟨a, p, vs, fun H' => ∃ G', Sm G G' ∧ Ok K w G' σ H' env F, rfl, rfl, ⟨G, Sm.refl _, o⟩, ?_, ?_⟩
    · rintro H' ⟨G', sm, o'⟩
      refine ⟨⟨_, _, ex_ins (sm.trans o'.sub) g⟩, ex_l (sm.trans o'.sub) hp, fun z hz => ?_⟩
      obtain ⟨d, hd, rd⟩ := reps_mem rp hz
      obtain ⟨h1, h2⟩ := h d hd
      refine ⟨rep_bv (sm.trans o'.sub) rd h1, w, G', [.obj C fs, d], fun r => r = .bl false, ⟨sl_nil, o'.nm, o'.sub, o'.i, stab_reps _ _, .cons (rx.mono sm) (.cons (rd.mono sm) .nil)⟩, h2, fun v G2 H2 r er sm2 o2 => ?_⟩
      subst er
      have rv := o2.f
      cases rv
      exact ⟨rfl, G2, sm.trans sm2, ⟨o'.sl.mono sm2, o2.nm, o2.sub, o2.i, o.st, o.st _ _ (sm.trans sm2) o.f⟩⟩
    · rintro H' ⟨G', sm, o'⟩
      exact c w _ G' H' _ q (o'.push (stab_rep _ _) (.bl _))
theorem op_inI {X : Cx} {K : PySem.W.Frag} {C : Addr} {k k' : Nat} {ok : OkF} (e : X.K = K) (d : EqD X.prog X.w X.K X.mg X.base C k ok) (nb : NotB K C) (hr : Room k' X.A) (hk : k + 1 ≤ k') : OpR X (compareOp .In) (rInO K C (SpF K ok)) := by
  subst e
  obtain ⟨⟨f, fd, h1, h2, h3, F⟩, _, _⟩ := d
  exact op_inO F (hr.mono hk) h1 h2 h3 nb
end EL

set_option Elab.async false
set_option linter.all false
set_option maxRecDepth 100000
set_option maxHeartbeats 4000000
namespace EL
open PySem PySem.Spec PyProof.Rows L2
/-! ### the law's script: a list of numbers that nobody changes -/
def Scr (K : PySem.W.Frag) (w : Wd) (a : Addr) (ns : List Int) : Prop := ∀ G H, w.I G H → SqL K G a (ns.map V.int)
theorem Scr.le {K : PySem.W.Frag} {w w' : Wd} {a : Addr} {ns : List Int} (h : Scr K w a ns) (l : w.le w') : Scr K w' a ns := fun G H i => h G H (l.i G H i)
/-- the world at the law's start -/
def Wd.scr (K : PySem.W.Frag) (a : Addr) (ns : List Int) : Wd where
  M := []
  I := fun G _ => SqL K G a (ns.map V.int)
  mok := fun _ _ _ _ h => absurd h List.not_mem_nil
  mono := fun _ _ _ i e => ex_l e i
  loc := fun _ _ _ i _ => i
section
variable {K : PySem.W.Frag} {w : Wd} {env : Env} {Q : Wd → D → Prop} {T : Wd → List D → Prop} {a : Addr} {ns : List Int}
theorem wi_scr {i : Nat} (hi : env[i]? = some (some (.raw (.ref a)))) (h : Scr K w a ns) (q : T w (ns.map D.int)) : Wi K (iList K (tVar i)) w env T := fun G σ H R F o c => by
  obtain ⟨v, e, r⟩ := o.sl.get i _ hi
  cases rep_raw r
  have hs := h G H o.i
  exact ⟨.ref a, e, a, rfl, ⟨_, ex_l o.sub hs⟩, c w G H _ _ _ q (o.push itok_list.st ⟨hs, ints_reps ns⟩) itok_list⟩
theorem wb_lenScr (h : Scr K w a ns) (q : Q w (.int ns.length)) : Wb K (fun xs H Q => ∃ p ys, xs = [.ref p] ∧ (SqL K H p ys ∨ SqT K H p ys) ∧ Q (.int ys.length) H) w [.raw (.ref a)] Q := fun G σ H env R F xs o r c => by
  cases r with
  | cons r1 r2 =>
    cases r2
    cases rep_raw r1
    refine ⟨a, _, rfl, .inl (ex_l o.sub (h G H o.i)), c w _ G H _ q (o.push (stab_rep _ _) ?_)⟩
    rw [List.length_map]; exact .int _
end
theorem draw_le (w : Wd) (r : Dr) (t : Nat) : w.le (w.draw r t) := ⟨fun _ h => by simp [Wd.draw, h], fun _ _ h => h.1⟩
end EL

set_option Elab.async false
set_option linter.all false
set_option maxRecDepth 100000
set_option maxHeartbeats 4000000
namespace K01
open PySem PySem.Spec PyProof.Rows L2 EL
def topS (i : Nat) : Stmt := PySem.Challenge.pw_amidupgrades_k01_editions_as_made.main.body.getD i (.Pass ⟨0, 0, 0, 0⟩)
abbrev s_is_list : Stmt := (topS 10)
theorem sc_is_list : FnScope ["thing"] ["thing"] (defScope s_is_list) := ⟨rfl, rfl, rfl, by decide +kernel, rfl, by decide +kernel, by decide +kernel⟩
abbrev s_is_one_of : Stmt := (topS 11)
theorem sc_is_one_of : FnScope ["thing", "words"] ["thing", "words"] (defScope s_is_one_of) := ⟨rfl, rfl, rfl, by decide +kernel, rfl, by decide +kernel, by decide +kernel⟩
structure Txt (K : PySem.W.Frag) (mg : Str → Option Value) : Prop where
  b_isinstance : mg "isinstance" = none
  b_list : mg "list" = none
  b_tuple : mg "tuple" = none
  b_str : mg "str" = none
  f_is_list : DefAt K mg "is_list" s_is_list ["thing"]
  f_is_one_of : DefAt K mg "is_one_of" s_is_one_of ["thing", "words"]
section
variable {P : Program} {W : World} {K : PySem.W.Frag} {mg : Str → Option Value} {base : Heap}
def ok_is_list : OkF := fun _ ds R => ∃ d, ds = [d] ∧ isB d = true ∧ R (.bl (isSeq d))
theorem D_is_list (T : Txt K mg) : Def P W K mg base "is_list" 1 ["thing"] (SpF K ok_is_list) := by
  refine def_ok (k := 0) T.f_is_list sc_is_list (by rintro w ds R ⟨d, rfl, _⟩; rfl) (fun _ _ _ _ h => h) (fun f cdv A outer s H E hr => ⟨_, (pss_one (ps_ret (pe_callB call_isiS (by rfl) T.b_isinstance (by decide +kernel) (pa_cons (pv 0) (pa_cons (pe_tup (pa_cons (pe_bltn (v := .ty "list") (by rfl) T.b_list (by decide +kernel) rfl) (pa_cons (pe_bltn (v := .ty "tuple") (by rfl) T.b_tuple (by decide +kernel) rfl) pa_nil))) pa_nil))))), ?_⟩)
  rintro wd ds R ⟨d, rfl, hb, q⟩
  refine es_ret (wp_cb (wa_cons (wp_var rfl (wa_cons (wp_tup (wa_cons (wp_cst (fun _ => .raw _) (wa_cons (wp_cst (fun _ => .raw _) (wa_nil ⟨by decide, wa_nil ?_⟩))))))))))
  exact wb_isiS (cs := [.ty "list", .ty "tuple"]) (.cons (.ty _) (.cons (.ty _) .nil)) (isB_raw hb) (isB_obj hb) (isB_dct hb) (kit_seq hb) ⟨.refl _, q⟩
def oneOf (d : D) (ws : List D) : Bool := isStr d && inD d ws
def ok_is_one_of : OkF := fun _ ds R => ∃ d ws, ds = [d, .tup ws] ∧ isB d = true ∧ ws.all flatD = true ∧ R (.bl (oneOf d ws))
theorem D_is_one_of (T : Txt K mg) : Def P W K mg base "is_one_of" 1 ["thing", "words"] (SpF K ok_is_one_of) := by
  refine def_ok (k := 0) T.f_is_one_of sc_is_one_of (by rintro w ds R ⟨d, ws, rfl, _⟩; rfl) (fun _ _ _ _ h => h) (fun f cdv A outer s H E hr => ⟨_, (pss_one (ps_ret (pe_and (pe_callB call_isi (by rfl) T.b_isinstance (by decide +kernel) (pa_cons (pv 0) (pa_cons (pe_bltn (v := .ty "str") (by rfl) T.b_str (by decide +kernel) rfl) pa_nil))) (pe_one (pe_cmpR op_in_seq (pv 0) (pv 1) (by rfl)))))), ?_⟩)
  rintro wd ds R ⟨d, ws, rfl, hb, hf, q⟩
  refine es_ret (wp_andV (wp_cb (wa_cons (wp_var rfl (wa_cons (wp_cst (fun _ => .raw _) (wa_nil ?_)))))))
  refine wb_isi (.ty _) (isB_raw hb) (isB_obj hb) (isB_dct hb) (kit_str hb) ⟨_, rfl, ?_⟩
  refine ite2 (fun h => ?_) (fun h => ?_)
  · refine wp_op (wp_var rfl (wp_var rfl (w2_inT ?_ hf ⟨.refl _, ?_⟩)))
    · cases d <;> first | rfl | cases h
    · unfold oneOf at q; rw [h] at q; exact q
  · have h' : isStr d = false := by simpa using h
    unfold oneOf at q
    rw [h'] at q
    exact ⟨.refl _, q⟩
end
end K01

set_option Elab.async false
set_option linter.all false
set_option maxRecDepth 100000
set_option maxHeartbeats 4000000
namespace K01
open PySem PySem.Spec PyProof.Rows L2 EL
abbrev s_l_mixed : Stmt := (topS 18)
theorem sc_l_mixed : FnScope ["_law_draw", "_law_turn", "_law_found", "_law_prime", "_law_blend", "_law_grain"] ["_law_draw"] (defScope s_l_mixed) := ⟨rfl, rfl, rfl, by decide +kernel, rfl, by decide +kernel, by decide +kernel⟩
section
variable {P : Program} {W : World} {K : PySem.W.Frag} {mg : Str → Option Value} {base : Heap}
theorem D_l_mixed (bi : mg "int" = none) (F : DefAt K mg "_law_mixed" s_l_mixed ["_law_draw"]) : Def P W K mg base "_law_mixed" 1 ["_law_draw"] spMixed := by
  obtain ⟨f, fd, hm, F, b⟩ := F
  refine ⟨f, fd, hm, F.kp, b, F.ok (k := 0) sc_l_mixed (fun vs H Q E h => ?_) (fun cdv A outer s H vs Q E hr h => ?_)⟩
  · obtain ⟨r, t, rfl, _⟩ := h; rfl
  · obtain ⟨r, t, rfl, ⟨⟨wide, cells, rest, turn, h1, h2, h3, h4, h5, h6, h7⟩, n1, n2, n3⟩, ht, q⟩ := h
    refine ⟨_, (pss_cons (ps_par (i := 1) (j := 2) (by rfl) sc_l_mixed.nd rfl rfl (by decide) rfl rfl (pa_cons (pe_op op_add (pe_dget (hu_of hr) (pv 0) pe_str (fun _ _ => rfl)) pe_int) (pa_cons pe_int pa_nil)) (by rfl))
      (pss_cons (ps_dput (hu_of hr) (pv 0) pe_str (pv 1) rfl)
      (pss_cons (ps_for PassesOwn.never rfl (pi_list (pe_lst (pa_cons pe_int (pa_cons pe_int (pa_cons pe_int (pa_cons pe_int pa_nil)))))) (pg_name (i := 3) sc_l_mixed.nd rfl (Or.inl rfl)) (pss_cons (ps_set (i := 4) sc_l_mixed.nd rfl (Or.inl rfl) (pe_op op_add (pe_op op_mul pe_int (pv 1)) (pe_op op_fdivN (pv 3) pe_int)))
      (pss_cons (ps_for PassesOwn.never rfl (pi_list (pe_dget (hu_of hr) (pv 0) pe_str (fun _ _ => rfl))) (pg_name (i := 5) sc_l_mixed.nd rfl (Or.inl rfl)) (pss_one (ps_set (i := 4) sc_l_mixed.nd rfl (Or.inl rfl) (pe_op op_modN (pe_callTy call_int1 (by rfl) bi (by decide +kernel) (pa_cons (pe_op op_add (pe_op op_add (pe_op op_mul (pv 4) pe_int) (pv 5)) (pv 1)) pa_nil)) (pv 3)))))
      (pss_one (ps_set (i := 2) sc_l_mixed.nd rfl (Or.inl rfl) (pe_op op_add (pe_op op_mul (pv 2) pe_int) (pe_op op_modN (pe_callTy call_int1 (by rfl) bi (by decide +kernel) (pa_cons (pe_op op_pow (pv 4) pe_int) pa_nil)) (pv 3))))))))
      (pss_one (ps_ret (pv 2)))))), ?_⟩
    have ht' := tMax_lt ht
    have l1 : r.d ≠ r.cl := fun z => n2 z.symm
    refine ⟨_, rfl, r.d, _, rfl, g_turn h1, _, _, rfl, rfl, _, _, rfl, ?_⟩
    refine ⟨_, rfl, _, rfl, r.d, _, rfl, u_turn h1, ?_⟩
    refine ⟨by show 4 ≤ sizeLine; decide, fun l hl => ?_⟩
    have hd1 : (upd H r.d (.dK (drKvs r.wl r.cl rest (turn + 1)))) r.d = some (.dK (drKvs r.wl r.cl rest (turn + 1))) := upd_same
    have ndl : r.d ≠ l := ne_of_none hd1 hl
    have hl0 : H l = none := by rw [upd_ne ndl.symm] at hl; exact hl
    have ncl : r.cl ≠ l := ne_of_none h3 hl0
    have nwl : r.wl ≠ l := ne_of_none h2 hl0
    have hcl : (upd (upd H r.d (.dK (drKvs r.wl r.cl rest (turn + 1)))) l (.lst [V.int 2147483647, V.int 2147483629, V.int 2147483587, V.int 2147483579])) r.cl = some (.lst (cells.map V.int)) := by rw [upd_ne ncl, upd_ne l1.symm]; exact h3
    have hdd : (upd (upd H r.d (.dK (drKvs r.wl r.cl rest (turn + 1)))) l (.lst [V.int 2147483647, V.int 2147483629, V.int 2147483587, V.int 2147483579])) r.d = some (.dK (drKvs r.wl r.cl rest (turn + 1))) := by rw [upd_ne ndl, upd_same]
    have hww : (upd (upd H r.d (.dK (drKvs r.wl r.cl rest (turn + 1)))) l (.lst [V.int 2147483647, V.int 2147483629, V.int 2147483587, V.int 2147483579])) r.wl = some (.lst (wide.map V.int)) := by rw [upd_ne nwl, upd_ne n1.symm]; exact h2
    have kp : KeepD r H (upd (upd H r.d (.dK (drKvs r.wl r.cl rest (turn + 1)))) l (.lst [V.int 2147483647, V.int 2147483629, V.int 2147483587, V.int 2147483579])) := ((KeepD.refl r H).d).new hl
    have hll : (upd (upd H r.d (.dK (drKvs r.wl r.cl rest (turn + 1)))) l (.lst [V.int 2147483647, V.int 2147483629, V.int 2147483587, V.int 2147483579])) l = some (.lst [V.int 2147483647, V.int 2147483629, V.int 2147483587, V.int 2147483579]) := upd_same
    generalize (upd (upd H r.d (.dK (drKvs r.wl r.cl rest (turn + 1)))) l (.lst [V.int 2147483647, V.int 2147483629, V.int 2147483587, V.int 2147483579])) = H2 at *
    refine ⟨l, rfl, ⟨_, SqL.of hll⟩, for_list (K := K) (a := l) (xs := [V.int 2147483647, V.int 2147483629, V.int 2147483587, V.int 2147483579]) (fun i σ H' => ∃ (fnd : Int) (x3 x4 x5 : Option V), σ = [some (.ref r.d), some (.int (turn + 1)), some (.int fnd), x3, x4, x5] ∧ H' = H2)
      ⟨0, none, none, none, rfl, rfl⟩ (fun i σ H' _ ⟨_, _, _, _, _, e⟩ => by rw [e]; exact SqL.of hll) ?_ ?_⟩
    · rintro i x σ H' hi ⟨fnd, x3, x4, x5, rfl, rfl⟩
      obtain ⟨p, rfl, p0, p1⟩ := primes4 hi
      refine ⟨_, rfl, _, _, rfl, rfl, .inl ⟨by decide, by decide⟩, _, rfl, _, _, rfl, rfl, ⟨by decide, by decide⟩, _, _, rfl, rfl, ?_⟩
      refine ⟨_, rfl, r.d, _, rfl, g_cells hdd, r.cl, rfl, ⟨_, SqL.of hcl⟩, for_list (K := K) (a := r.cl) (xs := cells.map V.int) (fun i σ H'' => ∃ (bl : Int) (x5 : Option V), σ = [some (.ref r.d), some (.int (turn + 1)), some (.int fnd), some (.int p), some (.int bl), x5] ∧ H'' = H' ∧ bl.natAbs < 18446744073709551616)
        ⟨_, x5, rfl, rfl, blend0 (by omega) (by omega) p0 p1⟩ (fun i σ H' _ ⟨_, _, _, e, _⟩ => by rw [e]; exact SqL.of hcl) ?_ ?_⟩
      · rintro j y σ H'' hj ⟨bl, x5, rfl, rfl, hb⟩
        obtain ⟨g, _, rfl⟩ := int_at hj
        refine ⟨_, rfl, _, _, rfl, rfl, .inr ⟨by decide, by decide⟩, _, rfl, _, _, rfl, rfl, _, rfl, _, _, rfl, rfl, .inl ⟨_, rfl, _, rfl, _, _, rfl, rfl, by omega, ?_⟩⟩
        exact ⟨_, _, rfl, rfl, modBound p0 p1⟩
      · rintro σ H'' ⟨bl, x5, rfl, rfl, hb⟩
        refine ⟨_, rfl, _, _, rfl, rfl, .inr ⟨by decide, by decide⟩, _, rfl, _, _, rfl, rfl, ⟨by decide, by decide, hb⟩, .inl ⟨_, rfl, _, rfl, _, _, rfl, rfl, by omega, _, _, rfl, rfl, ?_⟩⟩
        exact ⟨_, _, _, _, rfl, rfl⟩
    · rintro σ H' ⟨fnd, x3, x4, x5, rfl, rfl⟩
      exact ⟨_, rfl, q _ _ ⟨⟨wide, cells, rest, turn + 1, hdd, hww, hcl, by omega, by omega, h6, h7⟩, n1, n2, n3⟩ kp⟩
end
end K01

set_option Elab.async false
set_option linter.all false
set_option maxRecDepth 100000
set_option maxHeartbeats 4000000
namespace EL
open PySem PySem.Spec PyProof.Rows L2
theorem dp_ints {K : PySem.W.Frag} {H : Hp} : ∀ ns : List Int, DpAll K H (ns.map V.int) (ns.map PyData.int)
  | [] => .nil
  | n :: ns => .cons (.int n) (dp_ints ns)
theorem shaped_ints (ns : List Int) : SeqAt.shaped (.list (ns.map PyData.int)) = true := by
  have h1 : ∀ ns : List Int, PyData.canLayAll0 (ns.map PyData.int) = true := fun ns => by
    induction ns with
    | nil => simp [PyData.canLayAll0]
    | cons n ns ih => simp [PyData.canLayAll0, PyData.canLay0, ih]
  have h2 : ∀ ns : List Int, PyData.depthAll (ns.map PyData.int) = 0 := fun ns => by
    induction ns with
    | nil => simp [PyData.depthAll]
    | cons n ns ih => simp [PyData.depthAll, PyData.depth, ih]
  show (PyData.canLay0 (.list (ns.map PyData.int)) && decide (PyData.depth (.list (ns.map PyData.int)) ≤ 64)) = true
  simp [PyData.canLay0, PyData.depth, h1, h2]
end EL
namespace K01
open PySem PySem.Spec PyProof.Rows L2 EL
abbrev s_l_take : Stmt := (topS 19)
theorem sc_l_take : FnScope ["_law_draw", "_law_size", "_law_found"] ["_law_draw", "_law_size"] (defScope s_l_take) := ⟨rfl, rfl, rfl, by decide +kernel, rfl, by decide +kernel, by decide +kernel⟩
section
variable {P : Program} {W : World} {K : PySem.W.Frag} {mg : Str → Option Value} {base : Heap}
theorem D_l_take (bi : mg "int" = none) (M : Def P W K mg base "_law_mixed" 1 ["_law_draw"] spMixed) (F : DefAt K mg "_law_take" s_l_take ["_law_draw", "_law_size"]) : Def P W K mg base "_law_take" 2 ["_law_draw", "_law_size"] spTake := by
  obtain ⟨f, fd, hm, F, b⟩ := F
  refine ⟨f, fd, hm, F.kp, b, F.ok (k := 1) sc_l_take (fun vs H Q E h => ?_) (fun cdv A outer s H vs Q E hr h => ?_)⟩
  · obtain ⟨r, t, n, rfl, _⟩ := h; rfl
  · obtain ⟨r, t, n, rfl, dA, ht, n0, n1', q⟩ := h
    obtain ⟨⟨wide, cells, rest, turn, h1, h2, h3, h4, h5, h6, h7⟩, n1, n2, n3⟩ := id dA
    refine ⟨_, (pss_cons (ps_if (pt_cmpR op_eq (pe_dget (hu_of hr) (pv 0) pe_str (fun _ _ => rfl)) pe_int (nomark _)) (pss_one (ps_dput (hu_of hr) (pv 0) pe_str (pe_ifExp (pt_cmpR (op_neD hr.units) (pe_dget (hu_of hr) (pv 0) pe_str (fun _ _ => rfl)) (pe_lst pa_nil) (nomark _)) (pe_bm PySem.F.plainAttrs_list PySem.F.slot_list_pop PySem.F.type_list_pop mt_popAt (pe_dget (hu_of hr) (pv 0) pe_str (fun _ _ => rfl)) (pa_cons pe_int pa_nil)) (pe_callD M hr (by decide) (by rfl) (pa_cons (pv 0) pa_nil))) rfl)) pss_nil)
      (pss_cons (ps_set (i := 2) sc_l_take.nd rfl (Or.inl rfl) (pe_op op_modN (pe_callTy call_int1 (by rfl) bi (by decide +kernel) (pa_cons (pe_dget (hu_of hr) (pv 0) pe_str (fun _ _ => rfl)) pa_nil)) (pv 1)))
      (pss_cons (ps_dput (hu_of hr) (pv 0) pe_str (pe_op op_fdivN (pe_dget (hu_of hr) (pv 0) pe_str (fun _ _ => rfl)) (pv 1)) rfl)
      (pss_one (ps_ret (pv 2)))))), ?_⟩
    have fin : ∀ H1, DrawAt r (t + 1) H1 → KeepD r H H1 → tSeq (tAsg (tOp (rI (fun _ j => j ≠ 0) fun i j => V.int (i.fmod j)) (tCB (fun xs H Q => (∃ i, xs = [V.int i] ∧ Q (.int i) H) ∨ ∃ k, xs = [V.bl k] ∧ Q (.int (b2i k)) H) (tCons (tDGet (tVar 0) (tC (V.str "rest"))) tNil)) (tVar 1)) (gName 2))
        (tSeq (sDPut (tVar 0) (tC (V.str "rest")) (tOp (rI (fun _ j => j ≠ 0 ∧ j.natAbs < 1073741824) fun i j => V.int (i.fdiv j)) (tDGet (tVar 0) (tC (V.str "rest"))) (tVar 1))) (tRet (tVar 2))) { nx := fun _ H' => Q .non H', rt := Q } [some (.ref r.d), some (.int n), none] H1 := by
      rintro H1 ⟨⟨wide, cells, rest, turn, h1, h2, h3, h4, h5, h6, h7⟩, n1, n2, n3⟩ kp
      refine ⟨_, rfl, r.d, _, rfl, g_rest h1, .inl ⟨_, rfl, _, rfl, _, _, rfl, rfl, by omega, ?_⟩⟩
      refine ⟨_, rfl, r.d, _, rfl, g_rest h1, _, rfl, _, _, rfl, rfl, ⟨by omega, by omega⟩, _, rfl, r.d, _, rfl, u_rest h1, ?_⟩
      have a := Int.fmod_nonneg_of_pos rest n0
      have b := Int.fmod_lt_of_pos rest n0
      exact ⟨_, rfl, q _ _ a b ⟨⟨wide, cells, _, turn, upd_same, by rw [upd_ne n1.symm]; exact h2, by rw [upd_ne n2]; exact h3, h4, h5, h6, h7⟩, n1, n2, n3⟩ kp.d⟩
    refine ⟨_, rfl, r.d, _, rfl, g_rest h1, rfl, _, rfl, ?_⟩
    refine ite2 (fun _ => ?_) (fun _ => fin H (dA.mono (Nat.le_succ _)) (KeepD.refl r H))
    refine ⟨_, rfl, r.d, _, rfl, g_wide h1, Nat.zero_le _, fun l hl => ?_⟩
    have nl : ∀ {a o}, H a = some o → a ≠ l := fun e => ne_of_none e hl
    have kp0 : KeepD r H (upd H l (.lst [])) := (KeepD.refl r H).new hl
    have dl : DrawAt r t (upd H l (.lst [])) := ⟨⟨wide, cells, rest, turn, by rw [upd_ne (nl h1)]; exact h1, by rw [upd_ne (nl h2)]; exact h2, by rw [upd_ne (nl h3)]; exact h3, h4, h5, h6, h7⟩, n1, n2, n3⟩
    have hw : (upd H l (.lst [])) r.wl = some (.lst (wide.map V.int)) := by rw [upd_ne (nl h2)]; exact h2
    have hd : (upd H l (.lst [])) r.d = some (.dK (drKvs r.wl r.cl rest turn)) := by rw [upd_ne (nl h1)]; exact h1
    have hc : (upd H l (.lst [])) r.cl = some (.lst (cells.map V.int)) := by rw [upd_ne (nl h3)]; exact h3
    refine ⟨.list (wide.map PyData.int), .list [], .lst (SqL.of hw) (dp_ints wide), .lst (SqL.of upd_same) .nil, shaped_ints wide, shaped_ints [], _, rfl, ?_⟩
    cases wide with
    | nil =>
      refine ite2 (fun z => absurd z (by simp [PyData.eqv, PyData.eqvAll])) (fun _ => ?_)
      refine ⟨_, rfl, r, t, rfl, dl, ht, fun z H' dA' kp' => ?_⟩
      obtain ⟨⟨wide', cells', rest', turn', e1, e2, e3, e4, e5, e6, e7⟩, m1, m2, m3⟩ := id dA'
      refine ⟨_, rfl, r.d, _, rfl, u_rest e1, ?_⟩
      exact fin _ ⟨⟨wide', cells', _, turn', upd_same, by rw [upd_ne n1.symm]; exact e2, by rw [upd_ne n2]; exact e3, e4, e5, e6, e7⟩, n1, n2, n3⟩ (kp0.trans kp').d
    | cons x xs =>
      refine ite2 (fun _ => ?_) (fun z => absurd (by simp [PyData.eqv, PyData.eqvAll]) z)
      refine ⟨_, rfl, r.d, _, rfl, g_wide hd, .inl ⟨rfl, _, SqL.of hw⟩, r.wl, _, 0, 0, .int x, rfl, rfl, hw, by decide, by decide, by simp [seqIndex?], rfl, ?_⟩
      refine ⟨_, rfl, r.d, _, rfl, u_rest (by rw [upd_ne n1]; exact hd), ?_⟩
      exact fin _ ⟨⟨xs, cells, x, turn, upd_same, by rw [upd_ne n1.symm, upd_same]; rfl, by rw [upd_ne n2, upd_ne n3]; exact hc, h4, by omega, by simp at h6 ⊢; omega, h7⟩, n1, n2, n3⟩ kp0.wl.d
end
end K01

set_option Elab.async false
set_option linter.all false
set_option maxRecDepth 100000
set_option maxHeartbeats 4000000
namespace K01
open PySem PySem.Spec PyProof.Rows L2 EL
abbrev s_l_pick : Stmt := (topS 20)
theorem sc_l_pick : FnScope ["_law_draw", "_law_some"] ["_law_draw", "_law_some"] (defScope s_l_pick) := ⟨rfl, rfl, rfl, by decide +kernel, rfl, by decide +kernel, by decide +kernel⟩
abbrev s_l_any_of : Stmt := (topS 21)
theorem sc_l_any_of : FnScope ["_law_draw", "_law_words", "_law_size", "_law_item"] ["_law_draw", "_law_words", "_law_size"] (defScope s_l_any_of) := ⟨rfl, rfl, rfl, by decide +kernel, rfl, by decide +kernel, by decide +kernel⟩
abbrev s_l_shuffled : Stmt := (topS 22)
theorem sc_l_shuffled : FnScope ["_law_draw", "_law_some", "_law_left", "_law_found"] ["_law_draw", "_law_some"] (defScope s_l_shuffled) := ⟨rfl, rfl, rfl, by decide +kernel, rfl, by decide +kernel, by decide +kernel⟩
abbrev s_l_notes : Stmt := (topS 23)
theorem sc_l_notes : FnScope [] [] (defScope s_l_notes) := ⟨rfl, rfl, rfl, by decide +kernel, rfl, by decide +kernel, by decide +kernel⟩
section
variable {P : Program} {W : World} {K : PySem.W.Frag} {mg : Str → Option Value} {base : Heap}
def ok_pick : OkD := fun ds R => ∃ xs : List D, ds = [.lst xs] ∧ 0 < xs.length ∧ xs.length < 1000000 ∧ ∀ x ∈ xs, R x
theorem D_l_pick (bl : mg "len" = none) (M : Def P W K mg base "_law_take" 2 ["_law_draw", "_law_size"] (SpD K 1 ok_take)) (F : DefAt K mg "_law_pick" s_l_pick ["_law_draw", "_law_some"]) : Def P W K mg base "_law_pick" 3 ["_law_draw", "_law_some"] (SpD K 1 ok_pick) := by
  refine def_okD (k := 2) F sc_l_pick (by rintro ds R ⟨xs, rfl, _⟩; rfl) (fun f cdv A outer s H E hr => ⟨_, (pss_one (ps_ret (pe_ix ix_list (pv 1) (pe_callD M hr (by decide) (by rfl) (pa_cons (pv 0) (pa_cons (pe_callB call_len_seq (by rfl) bl PySem.boot_len (pa_cons (pv 1) pa_nil)) pa_nil))) (fun _ _ => rfl)))), ?_⟩)
  rintro wf r n ds R hw hn ⟨xs, rfl, h0, h1, q⟩
  refine es_ret (wp_op (wp_var rfl (wp_callD (wa_cons (wp_var rfl (wa_one (wp_cb (wa_one (wp_var rfl (wb_len (.inl rfl) ?_))))))))))
  refine ⟨wf, r, n, _, rfl, rfl, hw, hn, _, rfl, by omega, by omega, fun k k0 k1 => ?_⟩
  obtain ⟨x, hx, ex⟩ := atI_of k0 k1
  exact w2_ixL ex ⟨⟨n + 1, Nat.le_refl _, .refl _⟩, q x hx⟩
def notesS : List Str := ["begin", "yes", "no", "ready", "agreed", "refused"]
def ok_notes : OkF := fun _ ds R => ds = [] ∧ R (.lst (notesS.map D.str))
theorem D_l_notes (F : DefAt K mg "_law_notes" s_l_notes []) : Def P W K mg base "_law_notes" 1 [] (SpF K ok_notes) := by
  refine def_ok (k := 0) F sc_l_notes (by rintro w ds R ⟨rfl, _⟩; rfl) (fun _ _ _ _ h => h) (fun f cdv A outer s H E hr => ⟨_, (pss_one (ps_ret (pe_lst (pa_cons pe_str (pa_cons pe_str (pa_cons pe_str (pa_cons pe_str (pa_cons pe_str (pa_cons pe_str pa_nil))))))))), ?_⟩)
  rintro wd ds R ⟨rfl, q⟩
  exact es_ret (wp_lst (wa_cons (wp_str (wa_cons (wp_str (wa_cons (wp_str (wa_cons (wp_str (wa_cons (wp_str (wa_cons (wp_str (wa_nil ⟨by simp, .refl _, q⟩))))))))))))))
/-- some of them, in their order -/
def ok_any_of : OkD := fun ds R => ∃ (xs : List D) (n : Int), ds = [.lst xs, .int n] ∧ xs.length ≤ 100 ∧ 0 < n ∧ n < 1000000 ∧ ∀ ys, ys.Sublist xs → R (.lst ys)
theorem D_l_any_of (M : Def P W K mg base "_law_take" 2 ["_law_draw", "_law_size"] (SpD K 1 ok_take)) (F : DefAt K mg "_law_any_of" s_l_any_of ["_law_draw", "_law_words", "_law_size"]) : Def P W K mg base "_law_any_of" 3 ["_law_draw", "_law_words", "_law_size"] (SpD K 100 ok_any_of) := by
  refine def_okD (k := 2) F sc_l_any_of (by rintro ds R ⟨xs, n, rfl, _⟩; rfl) (fun f cdv A outer s H E hr => ⟨_, (pss_one (ps_ret (pe_lc (own := [("_law_item", 3)]) (g := (gName 3)) (by rfl) sc_l_any_of.nd (pi_list (pv 1)) (blkOk_by (own := [("_law_item", 3)]) (N := ["_law_draw", "_law_words", "_law_size", "_law_item"]) (sc := defScope s_l_any_of) (by decide +kernel)) (fun _ _ _ _ _ => (pg_name (i := 3) sc_l_any_of.nd rfl (Or.inl rfl))) (fun _ _ _ _ _ => (pts_one (pt_cmpR op_gt (pe_callD M hr (by decide) (by rfl) (pa_cons (pv 0) (pa_cons (pv 2) pa_nil))) pe_int (nomark _)))) (fun _ _ _ _ _ => (pv 3))))), ?_⟩)
  rintro wf r n ds R hw hn ⟨xs, m, rfl, hx, m0, m1, q⟩
  refine es_ret (wp_lc (wi_list (wp_var rfl ⟨xs, rfl, by omega, fun i w acc => w = wf (n + i) ∧ acc.Sublist (xs.take i), ⟨rfl, by simp⟩, ?_, ?_⟩)))
  · rintro i w acc x p hi ⟨rfl, hs⟩ hp
    have hi' : i < xs.length := (List.getElem?_eq_some_iff.mp hi).1
    have et : xs.take (i + 1) = xs.take i ++ [x] := by rw [List.take_succ, hi]; rfl
    refine ⟨_, wgv_name (by simp), wt_test (wp_op (wp_callD (wa_cons (wp_var rfl (wa_one (wp_var rfl ?_))))))⟩
    refine ⟨fun t => (wf t).own K [(p, .lst acc)], r, n + i, _, rfl, rfl, hw.own _, by omega, _, rfl, by omega, by omega, fun k k0 k1 => wp_int (w2_I0 (d := .bl (decide (0 < k))) (fun _ => .bl _) ⟨_, rfl, wf (n + (i + 1)), rfl, ?_⟩)⟩
    refine ite2 (fun _ => wp_var rfl ⟨_, rfl, rfl, ?_⟩) (fun _ => ⟨rfl, ?_⟩)
    · rw [et]; exact hs.append (List.Sublist.refl _)
    · rw [et]; exact hs.trans (List.sublist_append_left _ _)
  · rintro w acc ⟨rfl, hs⟩
    rw [List.take_length] at hs
    exact ⟨⟨n + xs.length, by omega, .refl _⟩, q acc hs⟩
def ok_shuffled : OkD := fun ds R => ∃ (xs : List D), (ds = [.lst xs] ∨ ds = [.tup xs]) ∧ xs.length ≤ 100 ∧ (∀ ys : List D, (∀ y ∈ ys, y ∈ xs) → pls ys = true ∧ (py (.lst ys)).depth ≤ 50) ∧ ∀ ys, ys.Perm xs → R (.lst ys)
theorem D_l_shuffled (bl : mg "len" = none) (bt : mg "list" = none) (M : Def P W K mg base "_law_take" 2 ["_law_draw", "_law_size"] (SpD K 1 ok_take)) (F : DefAt K mg "_law_shuffled" s_l_shuffled ["_law_draw", "_law_some"]) : Def P W K mg base "_law_shuffled" 3 ["_law_draw", "_law_some"] (SpD K 100 ok_shuffled) := by
  refine def_okD (k := 2) F sc_l_shuffled (by rintro ds R ⟨xs, rfl | rfl, _⟩ <;> rfl) (fun f cdv A outer s H E hr => ⟨_, (pss_cons (ps_par (i := 2) (j := 3) (by rfl) sc_l_shuffled.nd rfl rfl (by decide) rfl rfl (pa_cons (pe_callTy call_list_of (by rfl) bt (by decide +kernel) (pa_cons (pv 1) pa_nil)) (pa_cons (pe_lst pa_nil) pa_nil)) (by rfl))
      (pss_cons (ps_while PassesOwn.never (pt_cmpR (op_neP hr.units) (pv 2) (pe_lst pa_nil) (nomark _)) (pss_one (ps_expr (pe_bm PySem.F.plainAttrs_list PySem.F.slot_list_append PySem.F.type_list_append mt_append (pv 3) (pa_cons (pe_bm PySem.F.plainAttrs_list PySem.F.slot_list_pop PySem.F.type_list_pop mt_popAt (pv 2) (pa_cons (pe_callD M hr (by decide) (by rfl) (pa_cons (pv 0) (pa_cons (pe_callB call_len_seq (by rfl) bl PySem.boot_len (pa_cons (pv 2) pa_nil)) pa_nil))) pa_nil)) pa_nil)))))
      (pss_one (ps_ret (pv 3))))), ?_⟩)
  rintro wf r n ds R hw hn ⟨xs, hd, hx, hsh, q⟩
  obtain ⟨d, rfl, hd2⟩ : ∃ d, ds = [d] ∧ (d = .lst xs ∨ d = .tup xs) := by
    rcases hd with rfl | rfl
    · exact ⟨_, rfl, .inl rfl⟩
    · exact ⟨_, rfl, .inr rfl⟩
  refine es_seq (es_two (k := 1) rfl hd2 fun p1 p2 => es_seq ?_)
  refine es_while (fun m w e => ∃ (left fnd : List D), m = left.length ∧ (fnd ++ left).Perm xs ∧ w = (wf (n + fnd.length)).own K [(p2, .lst fnd), (p1, .lst left)] ∧ e = [some (.raw (.ref r.d)), some d, some (.raw (.ref p1)), some (.raw (.ref p2))]) xs.length ⟨xs, [], rfl, by simp, rfl, rfl⟩ ?_
  rintro m w e ⟨left, fnd, rfl, hp, rfl, rfl⟩
  have hlen := hp.length_eq
  rw [List.length_append] at hlen
  have hsub : ∀ y ∈ left, y ∈ xs := fun y hy => hp.mem_iff.mp (List.mem_append_right _ hy)
  refine wt_neO (k := 1) rfl rfl (hsh left hsub).1 (hsh left hsub).2 ?_
  refine ite2 (fun hb => ?_) (fun hb => ?_)
  · have hpos : 0 < left.length := by
      cases left with
      | nil => cases hb
      | cons => simp
    refine es_append (k := 0) rfl rfl ?_
    refine wp_popAt (k := 1) rfl rfl ?_
    refine wp_callD (wa_cons (wp_var rfl (wa_one (wp_cb (wa_one (wp_var rfl (wb_lenO (k := 1) rfl ?_)))))))
    refine ⟨fun t => (wf t).own K [(p2, .lst fnd), (p1, .lst left)], r, n + fnd.length, _, rfl, rfl, hw.own _, by omega, _, rfl, by omega, by omega, fun k k0 k1 => ?_⟩
    have hk : k.toNat < left.length := by omega
    refine ⟨_, _, left, k.toNat, left[k.toNat], rfl, by rw [Int.toNat_of_nonneg k0], rfl, List.getElem?_eq_getElem hk, by omega, ?_⟩
    refine ⟨_, _, fnd, rfl, rfl, by omega, ?_⟩
    refine ⟨(left.eraseIdx k.toNat).length, by rw [List.length_eraseIdx]; rw [if_pos hk]; omega, left.eraseIdx k.toNat, fnd ++ [left[k.toNat]], rfl, ?_, ?_, rfl⟩
    · refine List.Perm.trans ?_ hp
      rw [List.append_assoc]
      refine List.Perm.append_left _ ?_
      exact perm_erase left k.toNat hk
    · rw [List.length_append, List.length_singleton, Nat.add_assoc]
      rfl
  · have he : left = [] := by
      cases left with
      | nil => rfl
      | cons => exact absurd rfl hb
    subst he
    rw [List.append_nil] at hp
    exact es_ret (wp_stillV (k := 0) rfl rfl ⟨⟨n + fnd.length, by simp at hlen; omega, .refl _⟩, q fnd hp⟩)
end
end K01

set_option Elab.async false
set_option linter.all false
set_option maxRecDepth 100000
set_option maxHeartbeats 4000000
namespace K01
open PySem PySem.Spec PyProof.Rows L2 EL
abbrev s_are_different : Stmt := (topS 12)
theorem sc_are_different : FnScope ["thing", "words", "item"] ["thing", "words"] (defScope s_are_different) := ⟨rfl, rfl, rfl, by decide +kernel, rfl, by decide +kernel, by decide +kernel⟩
section
variable {P : Program} {W : World} {K : PySem.W.Frag} {mg : Str → Option Value} {base : Heap}
def ok_is_listS (K : PySem.W.Frag) : OkF := fun w ds R => ∃ d xs, ds = [d] ∧ Seq K w d xs ∧ R (.bl true)
theorem D_is_listS (bi : mg "isinstance" = none) (bl : mg "list" = none) (bt : mg "tuple" = none) (F : DefAt K mg "is_list" s_is_list ["thing"]) : Def P W K mg base "is_list" 1 ["thing"] (SpF K (ok_is_listS K)) := by
  refine def_ok (k := 0) F sc_is_list (by rintro w ds R ⟨d, _, rfl, _⟩; rfl) (fun w G ds R ⟨d, xs, e, s, q⟩ => ⟨d, xs, e, s.le (w.le_since G), q⟩) (fun f cdv A outer s H E hr => ⟨_, (pss_one (ps_ret (pe_callB call_isiS (by rfl) bi (by decide +kernel) (pa_cons (pv 0) (pa_cons (pe_tup (pa_cons (pe_bltn (v := .ty "list") (by rfl) bl (by decide +kernel) rfl) (pa_cons (pe_bltn (v := .ty "tuple") (by rfl) bt (by decide +kernel) rfl) pa_nil))) pa_nil))))), ?_⟩)
  rintro wd ds R ⟨d, xs, rfl, s, q⟩
  refine es_ret (wp_cb (wa_cons (wp_var rfl (wa_cons (wp_tup (wa_cons (wp_cst (fun _ => .raw _) (wa_cons (wp_cst (fun _ => .raw _) (wa_nil ⟨by decide, wa_nil ?_⟩))))))))))
  exact wb_isSeq s ⟨.refl _, q⟩
def diffS (ss : List Str) (ws : List D) : Bool := (ss.map fun s => oneOf (.str s) ws).all id && decide (((dn (ss.map Sum.inr) ss.length : Nat) : Int) = (ss.length : Int))
def ok_are_different (K : PySem.W.Frag) : OkF := fun w ds R => ∃ d ss ws, ds = [d, .tup ws] ∧ Seq K w d (ss.map D.str) ∧ ss.length ≤ 1000 ∧ ws.all flatD = true ∧ R (.bl (diffS ss ws))
theorem keys_str (ss : List Str) : (ss.map (Sum.inr : Str → Key)).map kD = ss.map D.str := by
  rw [List.map_map]; rfl
theorem D_are_different (bl : mg "len" = none) (bs : mg "set" = none) (ba : mg "all" = none) (M1 : Def P W K mg base "is_list" 1 ["thing"] (SpF K (ok_is_listS K))) (M2 : Def P W K mg base "is_one_of" 1 ["thing", "words"] (SpF K ok_is_one_of))
    (F : DefAt K mg "are_different" s_are_different ["thing", "words"]) : Def P W K mg base "are_different" 2 ["thing", "words"] (SpF K (ok_are_different K)) := by
  refine def_ok (k := 1) F sc_are_different (by rintro w ds R ⟨d, _, _, rfl, _⟩; rfl) (fun w G ds R ⟨d, ss, ws, e, s, n, f, q⟩ => ⟨d, ss, ws, e, s.le (w.le_since G), n, f, q⟩) (fun f cdv A outer s H E hr => ⟨_, (pss_cons (ps_if (PW.pt (pw_or (pt_not (pt_val (pe_callD M1 hr (by decide) (by rfl) (pa_cons (pv 0) pa_nil)))) (pw_or1 (pt_not (pt_val (pe_callB (cr_all rfl) (by rfl) ba (by decide +kernel) (pa_cons (pe_lc (own := [("item", 2)]) (g := (gName 2)) (tt := tYes) (by rfl) sc_are_different.nd (pi_alt (pi_list (pv 0)) (pi_tup (pv 0))) (blkOk_by (own := [("item", 2)]) (N := ["thing", "words", "item"]) (sc := defScope s_are_different) (by decide +kernel)) (fun _ _ _ _ _ => (pg_name (i := 2) sc_are_different.nd rfl (Or.inl rfl))) (fun _ _ _ _ _ => pts_nil) (fun _ _ _ _ _ => (pe_callD M2 hr (by decide) (by rfl) (pa_cons (pv 2) (pa_cons (pv 1) pa_nil))))) pa_nil))))))) (pss_one (ps_ret pe_bl)) pss_nil)
      (pss_one (ps_ret (pe_cmpR op_eq (pe_lenSetK (by rfl) (by rfl) bl (by rfl) bs (pv 0)) (pe_callB call_len_seq (by rfl) bl PySem.boot_len (pa_cons (pv 0) pa_nil)) (nomark _))))), ?_⟩)
  rintro wd ds R ⟨d, ss, ws, rfl, s, hn, hf, q⟩
  refine es_seq (es_if (wt_or (wt_not (wt_B (wp_call0 (wa_one (wp_var rfl ⟨d, _, rfl, s, ⟨_, rfl, ?_⟩⟩)))))))
  refine wt_not (wt_B (wp_cb (wa_one ?_)))
  refine wp_lcSeq (cc := fun _ => true) (f := fun x => .bl (oneOf x ws)) rfl s (by rw [List.length_map]; omega) ?_ ?_
  · intro x hx
    obtain ⟨y, _, rfl⟩ := List.mem_map.mp hx
    refine ⟨_, wgv_name (by simp), fun w2 l2 => wt_yes ⟨rfl, rfl, fun _ => wp_call0 (wa_cons (wp_var rfl (wa_one (wp_var rfl ⟨_, ws, rfl, rfl, hf, rfl, rfl⟩))))⟩⟩
  · have e : ((ss.map D.str).filter (fun _ => true)).map (fun x => D.bl (oneOf x ws)) = (ss.map fun s => oneOf (.str s) ws).map D.bl := by
      rw [List.filter_eq_self.mpr (by simp), List.map_map, List.map_map]; rfl
    rw [e]
    refine wb_all ⟨_, rfl, ?_⟩
    have hq := q
    unfold diffS at hq
    cases c : (ss.map fun s => oneOf (.str s) ws).all id with
    | false =>
      rw [c] at hq
      exact es_ret (wp_bl ⟨.refl _, hq⟩)
    | true =>
      rw [c] at hq
      refine es_next (es_ret (wp_op (wp_lenSetS (wp_var rfl ⟨ss.map Sum.inr, by rw [keys_str]; exact s, by rw [List.length_map]; exact hn, wp_cb (wa_one (wp_var rfl (wb_lenS s ?_)))⟩))))
      refine w2_eqI ⟨.refl _, ?_⟩
      rw [List.length_map, List.length_map]
      exact hq
end
end K01

set_option Elab.async false
set_option linter.all false
set_option maxRecDepth 100000
set_option maxHeartbeats 4000000
namespace K01
open PySem PySem.Spec PyProof.Rows L2 EL
abbrev s_E_init : Stmt := (inClass (topS 13) 0)
theorem sc_E_init : FnScope ["self", "begin", "yes", "no", "ready", "agreed", "refused", "answers", "presume", "reads", "strange", "words", "record", "word"] ["self", "begin", "yes", "no", "ready", "agreed", "refused", "answers", "presume", "reads", "strange"] (defScope s_E_init) := ⟨rfl, rfl, rfl, by decide +kernel, rfl, by decide +kernel, by decide +kernel⟩
def wordsS : List Str := ["none", "lazy", "forced"]
def outsS : List Str := ["no", "yes"]
def presS : List Str := ["no", "wait", "yes"]
def strgS : List Str := ["cut", "skip"]
def knownS (ws rds : List Str) : List Str := ((notesS.zip ws).filter fun p => !(p.2 == ("none" : Str)) || decide (p.1 ∈ rds)).map (·.1)
/-- an edition, by its six words, its answers and reads ascending -/
def edF (ws ans : List Str) (pre : Str) (rds : List Str) (sg : Str) : List (Str × D) :=
  [("own_words", .tup (ws.map D.str)), ("own_rest", .tup [.tup (ans.map D.str), .str pre, .tup (rds.map D.str), .str sg]), ("own_known", .lst ((knownS ws rds).map D.str))]
theorem n_wr' : ¬ ("own_words" : Str) = "own_rest" := by decide +kernel
theorem n_wk' : ¬ ("own_words" : Str) = "own_known" := by decide +kernel
theorem n_rk' : ¬ ("own_rest" : Str) = "own_known" := by decide +kernel
theorem fld3 (a b c : D) : putFD "own_known" c (putFD "own_rest" b (putFD "own_words" a [])) = ([("own_words", a), ("own_rest", b), ("own_known", c)] : List (Str × D)) := by
  simp [putFD, n_wr', n_wk', n_rk']
section
variable {P : Program} {W : World} {K : PySem.W.Frag} {mg : Str → Option Value} {base : Heap}
def ok_E_init (K : PySem.W.Frag) : OkI := fun w ds fs => ∃ (ws : List Str) (da : D) (ans : List Str) (pre : Str) (dr : D) (rds : List Str) (sg : Str), ds = ws.map D.str ++ [da, .str pre, dr, .str sg] ∧ ws.length = 6 ∧ (∀ x ∈ ws, x ∈ wordsS) ∧
  Seq K w da (ans.map D.str) ∧ ans.Nodup ∧ (∀ x ∈ ans, x ∈ outsS) ∧ pre ∈ presS ∧ Seq K w dr (rds.map D.str) ∧ rds.Nodup ∧ (∀ x ∈ rds, x ∈ notesS) ∧ sg ∈ strgS ∧ fs = edF ws (sortS ans) pre (sortS rds) sg
theorem oneOf_str {s : Str} {ss : List Str} (h : s ∈ ss) : oneOf (.str s) (ss.map D.str) = true := by
  unfold oneOf
  rw [inD_str.mpr h]; rfl
theorem nodup_inr {ss : List Str} (h : ss.Nodup) : (ss.map (Sum.inr : Str → Key)).Nodup := by
  unfold List.Nodup at *
  rw [List.pairwise_map]
  exact h.imp fun a e => a (Sum.inr.inj e)
theorem diffS_true {ss ws : List Str} (h : ss.Nodup) (hs : ∀ x ∈ ss, x ∈ ws) : diffS ss (ws.map D.str) = true := by
  unfold diffS
  have e := dn_nodup (nodup_inr h) ss.length (by simp)
  rw [e, decide_eq_true rfl, Bool.and_true, List.all_map, List.all_eq_true]
  intro x hx
  exact oneOf_str (hs x hx)
theorem eq_str (a b : Str) : eqD (.str a) (.str b) = (a == b) := by
  unfold eqD py
  simp [PyData.eqv]
def ccK (rds : List Str) : D → Bool
  | .tup [r, w] => !(eqD w (.str ("none" : Str))) || inD r (rds.map D.str)
  | _ => false
def ffK : D → D
  | .tup [r, _] => r
  | _ => .non
theorem knownD (rds : List Str) : ∀ (ns ws : List Str), ((zipD (ns.map D.str) (ws.map D.str)).filter (ccK rds)).map ffK = (((ns.zip ws).filter fun p => !(p.2 == ("none" : Str)) || decide (p.1 ∈ rds)).map (·.1)).map D.str
  | [], _ => rfl
  | _ :: _, [] => rfl
  | n :: ns, w :: ws => by
    have ih := knownD rds ns ws
    have e : zipD ((n :: ns).map D.str) ((w :: ws).map D.str) = .tup [.str n, .str w] :: zipD (ns.map D.str) (ws.map D.str) := rfl
    have c : ccK rds (.tup [.str n, .str w]) = (!(w == ("none" : Str)) || decide (n ∈ rds)) := by
      show (!(eqD (.str w) (.str ("none" : Str))) || inD (.str n) (rds.map D.str)) = _
      rw [eq_str]
      congr 1
      by_cases h : n ∈ rds
      · rw [inD_str.mpr h, decide_eq_true h]
      · rw [decide_eq_false h]
        exact Bool.eq_false_iff.mpr fun z => h (inD_str.mp z)
    rw [e, List.filter_cons, c, List.zip_cons_cons, List.filter_cons]
    split
    · rw [List.map_cons, ih]; rfl
    · exact ih
theorem mem_sortS {x : Str} {ss : List Str} : x ∈ sortS ss ↔ x ∈ ss := List.mem_mergeSort
theorem known_sort (ws rds : List Str) : knownS ws (sortS rds) = knownS ws rds := by
  unfold knownS
  have e : (fun p : Str × Str => !(p.2 == ("none" : Str)) || decide (p.1 ∈ sortS rds)) = fun p => !(p.2 == ("none" : Str)) || decide (p.1 ∈ rds) := by
    funext p; rw [decide_eq_decide.mpr mem_sortS]
  rw [e]
theorem len6 {ws : List Str} (h : ws.length = 6) : ∃ a b c d e f, ws = [a, b, c, d, e, f] := by
  match ws, h with
  | [a, b, c, d, e, f], _ => exact ⟨a, b, c, d, e, f, rfl⟩
theorem len_nodup : ∀ {ss : List Str} {ws : List Str}, ss.Nodup → (∀ x ∈ ss, x ∈ ws) → ss.length ≤ ws.length
  | [], _, _, _ => Nat.zero_le _
  | x :: xs, ws, h, hs => by
    obtain ⟨h1, h2⟩ := List.nodup_cons.mp h
    have hx := hs x List.mem_cons_self
    have ih := len_nodup (ws := ws.erase x) h2 fun y hy => (List.mem_erase_of_ne (fun (e : y = x) => h1 (e ▸ hy))).mpr (hs y (List.mem_cons_of_mem _ hy))
    rw [List.length_erase_of_mem hx] at ih
    have := List.length_pos_of_mem hx
    simp only [List.length_cons]
    omega
theorem I_E_init {k' : Nat} {f C : Addr} {fd : FuncData} {x qual : Str} (bz : mg "zip" = none) (bt : mg "tuple" = none) (bs : mg "sorted" = none) (gR : ConstT K mg "RECORDS" notesS) (gW : ConstT K mg "WORDS" wordsS) (gO : ConstT K mg "OUTCOMES" outsS) (gP : ConstT K mg "PRESUMED" presS) (gS : ConstT K mg "STRANGE" strgS)
    (M1 : Def P W K mg base "is_one_of" 1 ["thing", "words"] (SpF K ok_is_one_of)) (M2 : Def P W K mg base "are_different" 2 ["thing", "words"] (SpF K (ok_are_different K))) (hC : Cls K C) (n1 : NoAttr K C "own_words") (n2 : NoAttr K C "own_rest") (n3 : NoAttr K C "own_known")
    {dvs : List V} {kw : List (Str × V)} (F : FunD K x qual (defArgs s_E_init) (defBody s_E_init) (defScope s_E_init) dvs kw f fd) : FnOk P W K mg base CX0 3 f fd ["self", "begin", "yes", "no", "ready", "agreed", "refused", "answers", "presume", "reads", "strange"] (SpI K C (ok_E_init K)) := by
  obtain ⟨aR, hR, rR⟩ := gR
  obtain ⟨aW, hW, rW⟩ := gW
  obtain ⟨aO, hO, rO⟩ := gO
  obtain ⟨aP, hP, rP⟩ := gP
  obtain ⟨aS, hS, rS⟩ := gS
  refine fnI_okD (k := 2) F sc_E_init (by rintro w ds fs ⟨ws, da, ans, pre, dr, rds, sg, rfl, h6, _⟩; simp [h6]) (fun w G ds fs ⟨ws, da, ans, pre, dr, rds, sg, e, h6, hw, sa, na, ma, hp, sr, nr, mr, hs, ef⟩ => ⟨ws, da, ans, pre, dr, rds, sg, e, h6, hw, sa.le (w.le_since G), na, ma, hp, sr.le (w.le_since G), nr, mr, hs, ef⟩) (fun cdv A outer s H E hr => ⟨_, (pss_cons (ps_set (i := 11) sc_E_init.nd rfl (Or.inl rfl) (pe_tup (pa_cons (pv 1) (pa_cons (pv 2) (pa_cons (pv 3) (pa_cons (pv 4) (pa_cons (pv 5) (pa_cons (pv 6) pa_nil))))))))
      (pss_cons (ps_for PassesOwn.never rfl (RZ.pi_zipA (by rfl) bz (pa_cons (pe_globA (by rfl) hR) (pa_cons (pv 11) pa_nil))) (pg_tup rfl (pgs_cons (pg_name (i := 12) sc_E_init.nd rfl (Or.inl rfl)) (pgs_cons (pg_name (i := 13) sc_E_init.nd rfl (Or.inl rfl)) pgs_nil))) (pss_one (ps_if (pt_not (pt_val (pe_callD M1 hr (by decide) (by rfl) (pa_cons (pv 13) (pa_cons (pe_globA (by rfl) hW) pa_nil))))) (pss_one ps_never) pss_nil)))
      (pss_cons (ps_if (pt_not (pt_val (pe_callD M2 hr (by decide) (by rfl) (pa_cons (pv 7) (pa_cons (pe_globA (by rfl) hO) pa_nil))))) (pss_one ps_never) pss_nil)
      (pss_cons (ps_if (pt_not (pt_val (pe_callD M1 hr (by decide) (by rfl) (pa_cons (pv 8) (pa_cons (pe_globA (by rfl) hP) pa_nil))))) (pss_one ps_never) pss_nil)
      (pss_cons (ps_if (pt_not (pt_val (pe_callD M2 hr (by decide) (by rfl) (pa_cons (pv 9) (pa_cons (pe_globA (by rfl) hR) pa_nil))))) (pss_one ps_never) pss_nil)
      (pss_cons (ps_if (pt_not (pt_val (pe_callD M1 hr (by decide) (by rfl) (pa_cons (pv 10) (pa_cons (pe_globA (by rfl) hS) pa_nil))))) (pss_one ps_never) pss_nil)
      (pss_cons (ps_fld (pv 0) (pv 11) rfl)
      (pss_cons (ps_fld (pv 0) (pe_tup (pa_cons (pe_callTy call_tuple_of (by rfl) bt (by decide +kernel) (pa_cons (pe_callB (cr_sortedX hr.units) (by rfl) bs (by decide +kernel) (pa_cons (pv 7) pa_nil)) pa_nil)) (pa_cons (pv 8) (pa_cons (pe_callTy call_tuple_of (by rfl) bt (by decide +kernel) (pa_cons (pe_callB (cr_sortedX hr.units) (by rfl) bs (by decide +kernel) (pa_cons (pv 9) pa_nil)) pa_nil)) (pa_cons (pv 10) pa_nil))))) rfl)
      (pss_one (ps_fld (pv 0) (pe_lc (own := [("record", 12), ("word", 13)]) (g := (gTup K 2 (gCons (gName 12) (gCons (gName 13) gNil)))) (by rfl) sc_E_init.nd (RZ.pi_zipA (by rfl) bz (pa_cons (pe_globA (by rfl) hR) (pa_cons (pv 11) pa_nil))) (blkOk_by (own := [("record", 12), ("word", 13)]) (N := ["self", "begin", "yes", "no", "ready", "agreed", "refused", "answers", "presume", "reads", "strange", "words", "record", "word"]) (sc := defScope s_E_init) (by decide +kernel)) (fun _ _ _ _ _ => (pg_tup rfl (pgs_cons (pg_name (i := 12) sc_E_init.nd rfl (Or.inl rfl)) (pgs_cons (pg_name (i := 13) sc_E_init.nd rfl (Or.inl rfl)) pgs_nil)))) (fun _ _ _ _ _ => (pts_one (PW.pt (pw_or (pt_cmpR (op_neA (K := K) rfl hr.units) (pv 13) pe_str (nomark _)) (pw_or1 (pt_cmpR (op_inA (K := K) rfl) (pv 12) (pv 9) (by rfl))))))) (fun _ _ _ _ _ => (pv 12))) rfl)))))))))), ?_⟩)
  rintro wd p ds fs ⟨ws, da, ans, pre, dr, rds, sg, rfl, h6, hw, sa, na, ma, hp, sr, nr, mr, hs, rfl⟩
  obtain ⟨a, b, c, d, e, f, rfl⟩ := len6 h6
  have lw := fun L => wd.le_own (K := K) L
  have la := len_nodup na ma
  have lr := len_nodup nr mr
  refine es_seq (es_asg (wp_tup (wa_cons (wp_var rfl (wa_cons (wp_var rfl (wa_cons (wp_var rfl (wa_cons (wp_var rfl (wa_cons (wp_var rfl (wa_cons (wp_var rfl (wa_nil ⟨by simp, ?_⟩)))))))))))))))
  refine es_seq (es_forG (wi_zip (wa_cons (wp_cst rR (wa_one (wp_var rfl ⟨_, _, .inr rfl, fun i w2 e2 => w2 = wd.own K [(p, .obj C [])] ∧ ∃ y z : Option D, e2 = [some (.raw (.ref p)), some (.str a), some (.str b), some (.str c), some (.str d), some (.str e), some (.str f), some da, some (.str pre), some dr, some (.str sg), some (.tup [.str a, .str b, .str c, .str d, .str e, .str f]), y, z], ⟨rfl, none, none, rfl⟩, ?_, ?_⟩))))))
  · rintro i w2 e2 x hx ⟨rfl, y, z, rfl⟩
    obtain ⟨r, u, rfl, hu⟩ : ∃ r u, x = .tup [.str r, .str u] ∧ u ∈ [a, b, c, d, e, f] := by
      have hm := List.mem_of_getElem? hx
      have hm' : x ∈ zipD (notesS.map D.str) ([a, b, c, d, e, f].map D.str) := hm
      obtain ⟨⟨s, t⟩, hz, rfl⟩ := List.mem_map.mp hm'
      rw [List.zip_map] at hz
      obtain ⟨⟨s', t'⟩, hz2, ee⟩ := List.mem_map.mp hz
      cases ee
      exact ⟨s', t', rfl, (List.of_mem_zip hz2).2⟩
    refine ⟨_, wg_tup rfl (wgs_cons wg_name (wgs_cons wg_name wgs_nil)), es_if (wt_not (wt_B (wp_call0 (wa_cons (wp_var rfl (wa_one (wp_cst rW ⟨_, _, rfl, rfl, flat_strD _, ⟨_, rfl, ?_⟩⟩)))))))⟩
    rw [oneOf_str (hw u hu)]
    exact es_next ⟨rfl, _, _, rfl⟩
  rintro w2 e2 ⟨rfl, y, z, rfl⟩
  refine es_seq (es_if (wt_not (wt_B (wp_call0 (wa_cons (wp_var rfl (wa_one (wp_cst rO ⟨_, ans, _, rfl, sa.le (lw _), Nat.le_trans la (by decide), flat_strD _, ⟨_, rfl, ?_⟩⟩))))))))
  rw [diffS_true na ma]
  refine es_next (es_seq (es_if (wt_not (wt_B (wp_call0 (wa_cons (wp_var rfl (wa_one (wp_cst rP ⟨_, _, rfl, rfl, flat_strD _, ⟨_, rfl, ?_⟩⟩)))))))))
  rw [oneOf_str hp]
  refine es_next (es_seq (es_if (wt_not (wt_B (wp_call0 (wa_cons (wp_var rfl (wa_one (wp_cst rR ⟨_, rds, _, rfl, sr.le (lw _), Nat.le_trans lr (by decide), flat_strD _, ⟨_, rfl, ?_⟩⟩)))))))))
  rw [diffS_true nr mr]
  refine es_next (es_seq (es_if (wt_not (wt_B (wp_call0 (wa_cons (wp_var rfl (wa_one (wp_cst rS ⟨_, _, rfl, rfl, flat_strD _, ⟨_, rfl, ?_⟩⟩)))))))))
  rw [oneOf_str hs]
  refine es_next (es_seq (es_fldO (wp_var rfl (wp_var rfl ⟨wd, _, 0, p, C, [], rfl, rfl, rfl, hC, n1, by simp, ?_⟩))))
  refine es_seq (es_fldO (wp_tup (wa_cons (wp_cb (wa_one (wp_cb (wa_one (wp_var rfl (wb_sortS (sa.le (lw _)) (wb_tuple (.inl rfl) (wa_cons (wp_var rfl (wa_cons (wp_cb (wa_one (wp_cb (wa_one (wp_var rfl (wb_sortS (sr.le (lw _)) (wb_tuple (.inl rfl) (wa_one (wp_var rfl ⟨by simp, wp_var rfl ⟨wd, _, 0, p, C, _, rfl, rfl, rfl, hC, n2, by simp [putFD], ?_⟩⟩))))))))))))))))))))))
  refine es_fldO (wp_lcM (cc := ccK rds) (f := ffK) (wi_zip (wa_cons (wp_cst rR (wa_one (wp_var rfl ⟨_, _, .inr rfl, ?_, ?_, wp_var rfl ⟨wd, _, 0, p, C, _, rfl, rfl, rfl, hC, n3, by simp [putFD, n_wr'], ?_⟩⟩))))))
  · rw [zipD_length]; exact Nat.lt_of_le_of_lt (Nat.min_le_right _ _) (by simp)
  · intro x hx
    obtain ⟨r, u, rfl, hu⟩ : ∃ r u, x = .tup [.str r, .str u] ∧ u ∈ [a, b, c, d, e, f] := by
      have hm' : x ∈ zipD (notesS.map D.str) ([a, b, c, d, e, f].map D.str) := hx
      obtain ⟨⟨s, t⟩, hz, rfl⟩ := List.mem_map.mp hm'
      rw [List.zip_map] at hz
      obtain ⟨⟨s', t'⟩, hz2, ee⟩ := List.mem_map.mp hz
      cases ee
      exact ⟨s', t', rfl, (List.of_mem_zip hz2).2⟩
    refine ⟨_, wgv_tup rfl (wgvs_cons (wgv_name (by simp)) (wgvs_cons (wgv_name (by simp)) wgvs_nil)), fun w2 l2 => wt_or (wt_test (wp_op (wp_var rfl (wp_str (w2_neP (by simp [pl]) (by simp [pl]) (by simp [py, PyData.depth]) ⟨_, rfl, ?_⟩)))))⟩
    have ec : ccK rds (.tup [.str r, .str u]) = (!(eqD (.str u) (.str ("none" : Str))) || inD (.str r) (rds.map D.str)) := rfl
    cases hq : (!(eqD (.str u) (.str ("none" : Str)))) with
    | true =>
      refine ⟨rfl, by rw [ec, hq]; rfl, fun _ => wp_var rfl ⟨rfl, rfl⟩⟩
    | false =>
      refine wt_test (wp_op (wp_var rfl (wp_var rfl (w2_inS ((sr.le (lw _)).le l2) rfl (flat_strD _) ⟨_, rfl, rfl, by rw [ec, hq]; rfl, fun _ => wp_var rfl ⟨rfl, rfl⟩⟩))))
  · have ek := knownD rds notesS [a, b, c, d, e, f]
    show Wd.own K wd [(p, .obj C _)] = Wd.own K wd [(p, .obj C _)]
    rw [fld3]
    unfold edF
    rw [known_sort]
    unfold knownS
    rw [← ek]
    rfl
end
end K01

set_option Elab.async false
set_option linter.all false
set_option maxRecDepth 100000
set_option maxHeartbeats 4000000
namespace K01
open PySem PySem.Spec PyProof.Rows L2 EL
abbrev s_l_known_sheet : Stmt := (topS 24)
theorem sc_l_known_sheet : FnScope ["_law_draw", "_law_way", "_law_must", "_law_verbs", "_law_note", "_law_replies"] ["_law_draw"] (defScope s_l_known_sheet) := ⟨rfl, rfl, rfl, by decide +kernel, rfl, by decide +kernel, by decide +kernel⟩
/-- a sheet: what an edition is to be -/
structure Sheet where
  f : Str → Str
  ans : List Str
  pre : Str
  rds : List Str
  sg : Str
def ansS : List (List Str) := [[], ["no"], ["yes"], ["no", "yes"]]
def wordsK (f : Str → Str) : List (Key × D) := notesS.map fun n => (.inr n, .str (f n))
def Sheet.kvs (S : Sheet) (x : D) : List (Key × D) := [(.inr "words", x), (.inr "answers", .tup (S.ans.map D.str)), (.inr "presume", .str S.pre), (.inr "reads", .tup (S.rds.map D.str)), (.inr "strange", .str S.sg)]
structure Sheet.Ok (S : Sheet) : Prop where
  fw : ∀ n ∈ notesS, S.f n ∈ wordsS
  ans : S.ans ∈ ansS
  pre : S.pre ∈ presS
  rds : ∃ l : List Str, l.Sublist notesS ∧ S.rds = sortS l
  sg : S.sg ∈ strgS
def Sheet.own (S : Sheet) (p q : Addr) : Own := [(p, .dct (S.kvs (.raw (.ref q)))), (q, .dct (wordsK S.f))]
theorem notes_nd : notesS.Nodup := by decide +kernel
theorem words_nd (f : Str → Str) : ((wordsK f).map (·.1)).Nodup := by
  unfold wordsK
  rw [List.map_map]
  exact nodup_inr notes_nd
theorem kvs_nd (S : Sheet) (x : D) : ((S.kvs x).map (·.1)).Nodup := by
  show (([("words" : Str), "answers", "presume", "reads", "strange"] : List Str).map (Sum.inr : Str → Key)).Nodup
  exact nodup_inr (by decide +kernel)
theorem w_wf : ("forced" : Str) ∈ wordsS := by decide +kernel
theorem w_wn : ("none" : Str) ∈ wordsS := by decide +kernel
theorem g_skip : ("skip" : Str) ∈ strgS := by decide +kernel
theorem p_pre : ∀ x ∈ (["no", "yes", "wait"] : List Str), x ∈ presS := by decide +kernel
theorem sort_nil : sortS [] = [] := by simp [sortS]
section
variable {P : Program} {W : World} {K : PySem.W.Frag} {mg : Str → Option Value} {base : Heap}
def ok_known : OkDO := fun ds R => ds = [] ∧ ∀ (S : Sheet) p q, S.Ok → R (S.own p q) (.raw (.ref p))
theorem D_l_known_sheet (bd : mg "dict" = none) (M1 : Def P W K mg base "_law_take" 2 ["_law_draw", "_law_size"] (SpD K 1 ok_take)) (M2 : Def P W K mg base "_law_notes" 1 [] (SpF K ok_notes)) (F : DefAt K mg "_law_known_sheet" s_l_known_sheet ["_law_draw"]) : Def P W K mg base "_law_known_sheet" 3 ["_law_draw"] (SpDO K 1 ok_known) := by
  refine def_okDO (k := 2) F sc_l_known_sheet (by rintro ds R ⟨rfl, _⟩; rfl) (fun f cdv A outer s H E hr => ⟨_, (pss_cons (ps_set (i := 1) sc_l_known_sheet.nd rfl (Or.inl rfl) (pe_callD M1 hr (by decide) (by rfl) (pa_cons (pv 0) (pa_cons pe_int pa_nil))))
      (pss_cons (ps_set (i := 2) sc_l_known_sheet.nd rfl (Or.inr rfl) (pe_op op_catX (pe_ix ix_list (pe_lst (pa_cons (pe_lst (pa_cons pe_str pa_nil)) (pa_cons (pe_lst (pa_cons pe_str (pa_cons pe_str pa_nil))) (pa_cons (pe_lst (pa_cons pe_str (pa_cons pe_str (pa_cons pe_str (pa_cons pe_str pa_nil))))) pa_nil)))) (pv 1) (fun _ _ => rfl)) (pe_lst (pa_cons pe_str (pa_cons pe_str pa_nil)))))
      (pss_cons (ps_set (i := 3) sc_l_known_sheet.nd rfl (Or.inl rfl) (pe_callTy (call_dictP rfl) (by rfl) bd (by decide +kernel) (pa_cons (pe_lc (own := [("_law_note", 4)]) (g := (gName 4)) (tt := tYes) (by rfl) sc_l_known_sheet.nd (pi_list (pe_callD0 M2 hr (by decide) (by rfl))) (blkOk_by (own := [("_law_note", 4)]) (N := ["_law_draw", "_law_way", "_law_must", "_law_verbs", "_law_note", "_law_replies"]) (sc := defScope s_l_known_sheet) (by decide +kernel)) (fun _ _ _ _ _ => (pg_name (i := 4) sc_l_known_sheet.nd rfl (Or.inl rfl))) (fun _ _ _ _ _ => pts_nil) (fun _ _ _ _ _ => (pe_tup (pa_cons (pv 4) (pa_cons (pe_ifExp (pt_cmpR (op_inA (K := K) rfl) (pv 4) (pv 2) (by rfl)) pe_str pe_str) pa_nil))))) pa_nil)))
      (pss_cons (ps_set (i := 5) sc_l_known_sheet.nd rfl (Or.inl rfl) (pe_ix ix_list (pe_lst (pa_cons (pe_tup (pa_cons pe_str pa_nil)) (pa_cons (pe_tup (pa_cons pe_str pa_nil)) (pa_cons (pe_tup (pa_cons pe_str (pa_cons pe_str pa_nil))) pa_nil)))) (pv 1) (fun _ _ => rfl)))
      (pss_one (ps_ret (pe_disp (pps_cons pe_str (pv 3) (pps_cons pe_str (pv 5) (pps_cons pe_str (pe_ix ix_list (pe_lst (pa_cons pe_str (pa_cons pe_str (pa_cons pe_str pa_nil)))) (pv 1) (fun _ _ => rfl)) (pps_cons pe_str (pe_tup pa_nil) (pps_cons pe_str pe_str pps_nil))))) (by rfl) (by rfl) (fun z => by cases z) (by decide)))))))), ?_⟩)
  rintro wf r n ds R hw hn ⟨rfl, q⟩
  refine es_seq (es_asg (wp_callD (wa_cons (wp_var rfl (wa_one (wp_int ⟨wf, r, n, _, rfl, rfl, hw, hn, _, rfl, by decide, by decide, fun k k0 k1 => ?_⟩))))))
  obtain ⟨m, hm, em⟩ := atI_of (xs := ([.lst (([("agreed" : Str)] : List Str).map D.str), .lst ((["begin", "refused"] : List Str).map D.str), .lst ((["agreed", "begin", "no", "refused"] : List Str).map D.str)] : List D)) k0 k1
  obtain ⟨ms, rfl, hl⟩ : ∃ ms : List Str, m = .lst (ms.map D.str) ∧ ms.length ≤ 4 := by
    simp only [List.mem_cons, List.not_mem_nil, or_false] at hm
    rcases hm with rfl | rfl | rfl <;> exact ⟨_, rfl, by decide⟩
  refine es_seq (es_asg (wp_op (wp_op (wp_lst (wa_cons (wp_lst (wa_cons (wp_str (wa_nil (⟨by simp, wa_cons (wp_lst (wa_cons (wp_str (wa_cons (wp_str (wa_nil (⟨by simp, wa_cons (wp_lst (wa_cons (wp_str (wa_cons (wp_str (wa_cons (wp_str (wa_cons (wp_str (wa_nil (⟨by simp, wa_nil (⟨by simp, wp_var rfl (w2_ixL em (wp_lst (wa_cons (wp_str (wa_cons (wp_str (wa_nil (⟨by simp, w2_cat (by simp; omega) (?_)⟩))))))))⟩)⟩)))))))))))⟩)))))))⟩))))))))))
  generalize hmu : (ms.map D.str ++ [D.str "yes", D.str "ready"]) = mu
  have hf : mu.all flatD = true := by
    rw [← hmu, List.all_append, flat_strD]; rfl
  let fS : Str → Str := fun n => if inD (.str n) mu = true then "forced" else "none"
  refine es_seq (es_asg (wp_dictP (wp_lcM (cc := fun _ => true) (f := fun x => .tup [x, .str (if inD x mu = true then "forced" else "none")]) (wi_list (wp_call0 (wa_nil ⟨rfl, _, rfl, by decide, ?_, wordsK fS, ?_, fun q0 => ?_⟩))))))
  · intro x hx
    obtain ⟨y, _, rfl⟩ := List.mem_map.mp hx
    refine ⟨_, wgv_name (by simp), fun w2 l2 => wt_yes ⟨rfl, rfl, fun _ => wp_tup (wa_cons (wp_var rfl (wa_one (wp_if (wt_test (wp_op (wp_var rfl (wp_var rfl (w2_inL rfl hf ⟨_, rfl, ite2 (fun e => wp_str ⟨by simp, rfl, by rw [if_pos e]⟩) (fun e => wp_str ⟨by simp, rfl, by rw [if_neg e]⟩)⟩)))))))))⟩⟩
  · rw [List.filter_eq_self.mpr (by simp), List.map_map]
    unfold wordsK
    rw [List.map_map]; rfl
  obtain ⟨an, han, ean⟩ := atI_of (xs := ([.tup (([("yes" : Str)] : List Str).map D.str), .tup ((["no"] : List Str).map D.str), .tup ((["no", "yes"] : List Str).map D.str)] : List D)) k0 k1
  obtain ⟨ans, rfl, hans⟩ : ∃ ms : List Str, an = .tup (ms.map D.str) ∧ ms ∈ ansS := by
    simp only [List.mem_cons, List.not_mem_nil, or_false] at han
    rcases han with rfl | rfl | rfl <;> exact ⟨_, rfl, by decide +kernel⟩
  obtain ⟨pe, hpe, epe⟩ := atI_of (xs := ((["no", "yes", "wait"] : List Str).map D.str)) k0 k1
  obtain ⟨pre, hpre, rfl⟩ := List.mem_map.mp hpe
  refine es_seq (es_asg (wp_op (wp_lst (wa_cons (wp_tup (wa_cons (wp_str (wa_nil (⟨by simp, wa_cons (wp_tup (wa_cons (wp_str (wa_nil (⟨by simp, wa_cons (wp_tup (wa_cons (wp_str (wa_cons (wp_str (wa_nil (⟨by simp, wa_nil (⟨by simp, wp_var rfl (w2_ixL ean (?_))⟩)⟩)))))))⟩)))))⟩)))))))))
  refine es_ret (Wp.flat (wp_disp fun p => wpp_cons (wp_str (wp_var rfl (wpp_cons (wp_str (wp_var rfl (wpp_cons (wp_str (wp_op (wp_lst (wa_cons (wp_str (wa_cons (wp_str (wa_cons (wp_str (wa_nil (⟨by simp, wp_var rfl (w2_ixL epe (wpp_cons (wp_str (wp_tup (wa_nil ⟨by simp, wpp_cons (wp_str (wp_str (wpp_nil ?_)))⟩)))))⟩)))))))))))))))))))
  refine ⟨_, Sheet.kvs ⟨fS, ans, pre, [], "skip"⟩ (.raw (.ref q0)), rfl, rfl, by simp [Sheet.kvs], wf (n + 1), _, _, rfl, n + 1, _, Nat.le_refl _, rfl, ?_⟩
  rw [merge_new (by simpa using kvs_nd _ _), merge_new (by simpa using words_nd _)]
  refine q ⟨fS, ans, pre, [], "skip"⟩ p q0 ⟨fun n _ => ?_, hans, ?_, ⟨[], List.nil_sublist _, ?_⟩, g_skip⟩
  · show (if inD (.str n) mu = true then ("forced" : Str) else "none") ∈ wordsS
    split
    · exact w_wf
    · exact w_wn
  · exact p_pre _ hpre
  · exact sort_nil.symm
end
end K01

set_option Elab.async false
set_option linter.all false
set_option maxRecDepth 100000
set_option maxHeartbeats 4000000
namespace K01
open PySem PySem.Spec PyProof.Rows L2 EL
abbrev s_l_sheet : Stmt := (topS 26)
theorem sc_l_sheet : FnScope ["_law_draw", "_law_lazies", "_law_found", "_law_note", "_law_turn"] ["_law_draw", "_law_lazies"] (defScope s_l_sheet) := ⟨rfl, rfl, rfl, by decide +kernel, rfl, by decide +kernel, by decide +kernel⟩
def Sheet.putW (S : Sheet) (n v : Str) : Sheet := { S with f := fun m => if m = n then v else S.f m }
theorem put_words {f : Str → Str} {n v : Str} (hn : n ∈ notesS) : putD (wordsK f) (.inr n) (.str v) = wordsK fun m => if m = n then v else f m := by
  unfold putD wordsK
  rw [if_pos, List.map_map]
  · refine List.map_congr_left fun m _ => ?_
    show (if (Sum.inr m : Key) = Sum.inr n then _ else _) = _
    by_cases c : m = n
    · rw [if_pos (congrArg _ c)]; simp [c]
    · rw [if_neg (ki c)]; simp [c]
  · rw [List.any_map, List.any_eq_true]
    exact ⟨n, hn, by simp⟩
theorem val_words {f : Str → Str} {n : Str} : ∀ {ns : List Str}, n ∈ ns → valK (ns.map fun n => ((Sum.inr n : Key), D.str (f n))) (.inr n) = some (.str (f n))
  | m :: ns, h => by
    rw [List.map_cons, valK_cons]
    by_cases c : m = n
    · rw [if_pos (congrArg _ c), c]
    · rw [if_neg (ki c)]
      exact val_words ((List.mem_cons.mp h).resolve_left (fun e => c e.symm))
theorem s1 : ¬ ("words" : Str) = "answers" := by decide +kernel
theorem s2 : ¬ ("words" : Str) = "presume" := by decide +kernel
theorem s3 : ¬ ("words" : Str) = "reads" := by decide +kernel
theorem s4 : ¬ ("words" : Str) = "strange" := by decide +kernel
theorem s5 : ¬ ("answers" : Str) = "presume" := by decide +kernel
theorem s6 : ¬ ("answers" : Str) = "reads" := by decide +kernel
theorem s7 : ¬ ("answers" : Str) = "strange" := by decide +kernel
theorem s8 : ¬ ("presume" : Str) = "reads" := by decide +kernel
theorem s9 : ¬ ("presume" : Str) = "strange" := by decide +kernel
theorem s10 : ¬ ("reads" : Str) = "strange" := by decide +kernel
theorem t1 : ¬ ("answers" : Str) = "words" := by decide +kernel
theorem t2 : ¬ ("presume" : Str) = "words" := by decide +kernel
theorem t3 : ¬ ("reads" : Str) = "words" := by decide +kernel
theorem t4 : ¬ ("strange" : Str) = "words" := by decide +kernel
theorem t5 : ¬ ("presume" : Str) = "answers" := by decide +kernel
theorem t6 : ¬ ("reads" : Str) = "answers" := by decide +kernel
theorem t7 : ¬ ("strange" : Str) = "answers" := by decide +kernel
theorem t8 : ¬ ("reads" : Str) = "presume" := by decide +kernel
theorem t9 : ¬ ("strange" : Str) = "presume" := by decide +kernel
theorem t10 : ¬ ("strange" : Str) = "reads" := by decide +kernel
theorem put_w {S : Sheet} {x y : D} : putD (S.kvs x) (.inr "words") y = S.kvs y := by
  simp [putD, Sheet.kvs, t1, t2, t3, t4]
theorem put_ans {S : Sheet} {x : D} {a : List Str} : putD (S.kvs x) (.inr "answers") (.tup (a.map D.str)) = ({ S with ans := a } : Sheet).kvs x := by
  simp [putD, Sheet.kvs, s1, t5, t6, t7]
theorem put_pre {S : Sheet} {x : D} {a : Str} : putD (S.kvs x) (.inr "presume") (.str a) = ({ S with pre := a } : Sheet).kvs x := by
  simp [putD, Sheet.kvs, s2, s5, t8, t9]
theorem put_rds {S : Sheet} {x : D} {a : List Str} : putD (S.kvs x) (.inr "reads") (.tup (a.map D.str)) = ({ S with rds := a } : Sheet).kvs x := by
  simp [putD, Sheet.kvs, s3, s6, s8, t10]
theorem put_sg {S : Sheet} {x : D} {a : Str} : putD (S.kvs x) (.inr "strange") (.str a) = ({ S with sg := a } : Sheet).kvs x := by
  simp [putD, Sheet.kvs, s4, s7, s9, s10]
theorem val_w {S : Sheet} {x : D} : valK (S.kvs x) (.inr "words") = some x := by simp [valK_cons, Sheet.kvs]
theorem val_ans {S : Sheet} {x : D} : valK (S.kvs x) (.inr "answers") = some (.tup (S.ans.map D.str)) := by simp [valK_cons, Sheet.kvs, s1]
theorem val_pre {S : Sheet} {x : D} : valK (S.kvs x) (.inr "presume") = some (.str S.pre) := by simp [valK_cons, Sheet.kvs, s2, s5]
theorem val_rds {S : Sheet} {x : D} : valK (S.kvs x) (.inr "reads") = some (.tup (S.rds.map D.str)) := by simp [valK_cons, Sheet.kvs, s3, s6, s8]
theorem val_sg {S : Sheet} {x : D} : valK (S.kvs x) (.inr "strange") = some (.str S.sg) := by simp [valK_cons, Sheet.kvs, s4, s7, s9, s10]
theorem Sheet.Ok.putW {S : Sheet} {n v : Str} (h : S.Ok) (hv : v ∈ wordsS) : (S.putW n v).Ok := ⟨fun m hm => by
  show (if m = n then v else S.f m) ∈ wordsS
  split
  · exact hv
  · exact h.fw m hm, h.ans, h.pre, h.rds, h.sg⟩
section
variable {K : PySem.W.Frag} {w : Wd} {env : EL.Env} {Q : Wd → D → Prop} {ta tb te td ty tv : TE} {as : TA} {Z : DEnds} {ts tu : TS}
/-- found['words'][note] = word -/
theorem es_sheetW {S : Sheet} {p q : Addr} {i : Nat} (hi : env[i]? = some (some (.raw (.ref p)))) (h : Wp K tv w env fun w1 v => ∃ w2 s, w1 = Wd.own K w2 (S.own p q) ∧ v = .str s ∧ Wp K ty w1 env fun w3 y => ∃ w4 n, w3 = Wd.own K w4 (S.own p q) ∧ y = .str n ∧ n ∈ notesS ∧ Z.nx (w4.own K ((S.putW n s).own p q)) env) :
    Es K (sDPut (tDGet (tVar i) (tC (.str "words"))) ty tv) w env Z := by
  refine es_dput (h.imp fun w1 v ⟨w2, s, e1, e2, h2⟩ => ?_)
  subst e1; subst e2
  refine wp_dgetO (L := S.own p q) (j := 0) (p := p) (ds := S.kvs (.raw (.ref q))) (wp_var hi ⟨rfl, wp_str ⟨w2, .inr "words", .raw (.ref q), rfl, rfl, rfl, val_w, h2.imp fun w3 y ⟨w4, n, e3, e4, hn, z⟩ => ?_⟩⟩)
  subst e3; subst e4
  refine ⟨w4, S.own p q, 1, q, wordsK S.f, .inr n, rfl, rfl, rfl, rfl, by simp [wordsK, notesS], ?_⟩
  rw [put_words hn]
  exact z
/-- found['x'] = value -/
theorem es_sheetF {S : Sheet} {p q : Addr} {i : Nat} {key : Str} (hi : env[i]? = some (some (.raw (.ref p)))) (h : Wp K tv w env fun w1 v => ∃ (w2 : Wd) (S' : Sheet), w1 = w2.own K (S.own p q) ∧ S'.f = S.f ∧ putD (S.kvs (.raw (.ref q))) (.inr key) v = S'.kvs (.raw (.ref q)) ∧ Z.nx (w2.own K (S'.own p q)) env) :
    Es K (sDPut (tVar i) (tC (.str key)) tv) w env Z := by
  refine es_dput (h.imp fun w1 v ⟨w2, S', e1, e2, e3, h2⟩ => ?_)
  subst e1
  refine wp_var hi (wp_str ⟨w2, S.own p q, 0, p, S.kvs (.raw (.ref q)), .inr key, rfl, rfl, rfl, rfl, by simp [Sheet.kvs], ?_⟩)
  rw [e3]
  have : (S.own p q).set 0 (p, .dct (S'.kvs (.raw (.ref q)))) = S'.own p q := by
    show [(p, D.dct (S'.kvs (.raw (.ref q)))), (q, D.dct (wordsK S.f))] = [(p, D.dct (S'.kvs (.raw (.ref q)))), (q, D.dct (wordsK S'.f))]
    rw [e2]
  rw [this]
  exact h2
end
theorem rds_ok {l : List Str} (h : l.Sublist notesS) : (sortS l).Nodup ∧ ∀ x ∈ sortS l, x ∈ notesS := 
  ⟨(List.mergeSort_perm l leS).nodup_iff.mpr (h.nodup notes_nd), fun x hx => h.subset (mem_sortS.mp hx)⟩
theorem sub_str {l : List Str} {ys : List D} (h : ys.Sublist (l.map D.str)) : ∃ ss : List Str, ss.Sublist l ∧ ys = ss.map D.str := by
  obtain ⟨ss, hs, rfl⟩ := List.sublist_map_iff.mp h
  exact ⟨ss, hs, rfl⟩
theorem w_nf : ∀ x ∈ (["none", "forced"] : List Str), x ∈ wordsS := by decide +kernel
theorem w_lz : ("lazy" : Str) ∈ wordsS := by decide +kernel
theorem p_prs : ∀ x ∈ (["no", "wait", "yes"] : List Str), x ∈ presS := by decide +kernel
theorem g_sg : ∀ x ∈ (["skip", "cut"] : List Str), x ∈ strgS := by decide +kernel
section
variable {P : Program} {W : World} {K : PySem.W.Frag} {mg : Str → Option Value} {base : Heap}
def ok_sheet : OkDO := fun ds R => ∃ z : Int, ds = [.int z] ∧ 0 ≤ z ∧ z ≤ 6 ∧ ∀ (S : Sheet) p q, S.Ok → R (S.own p q) (.raw (.ref p))
theorem D_l_sheet (b_range : mg "range" = none) (b_tuple : mg "tuple" = none) (b_sorted : mg "sorted" = none) (M_take : Def P W K mg base "_law_take" 2 ["_law_draw", "_law_size"] (SpD K 1 ok_take)) (M_notes : Def P W K mg base "_law_notes" 1 [] (SpF K ok_notes)) (M_pick : Def P W K mg base "_law_pick" 3 ["_law_draw", "_law_some"] (SpD K 1 ok_pick))
    (M_any_of : Def P W K mg base "_law_any_of" 3 ["_law_draw", "_law_words", "_law_size"] (SpD K 100 ok_any_of)) (M_shuffled : Def P W K mg base "_law_shuffled" 3 ["_law_draw", "_law_some"] (SpD K 100 ok_shuffled)) (M_known : Def P W K mg base "_law_known_sheet" 3 ["_law_draw"] (SpDO K 1 ok_known))
    (F : DefAt K mg "_law_sheet" s_l_sheet ["_law_draw", "_law_lazies"]) : Def P W K mg base "_law_sheet" 4 ["_law_draw", "_law_lazies"] (SpDO K 300 ok_sheet) := by
  refine def_okDO (k := 3) F sc_l_sheet (by rintro ds R ⟨z, rfl, _⟩; rfl) (fun f cdv A outer s H E hr => ⟨_, (pss_cons (ps_set (i := 2) sc_l_sheet.nd rfl (Or.inl rfl) (pe_callD M_known hr (by decide) (by rfl) (pa_cons (pv 0) pa_nil)))
      (pss_cons (ps_if (pt_cmpR op_eq (pe_callD M_take hr (by decide) (by rfl) (pa_cons (pv 0) (pa_cons pe_int pa_nil))) pe_int (nomark _)) (pss_cons (ps_for PassesOwn.never rfl (pi_list (pe_callD0 M_notes hr (by decide) (by rfl))) (pg_name (i := 3) sc_l_sheet.nd rfl (Or.inl rfl)) (pss_one (ps_dput (hu_of hr) (pe_dget (hu_of hr) (pv 2) pe_str (fun _ _ => rfl)) (pv 3) (pe_callD M_pick hr (by decide) (by rfl) (pa_cons (pv 0) (pa_cons (pe_lst (pa_cons pe_str (pa_cons pe_str pa_nil))) pa_nil))) rfl)))
      (pss_cons (ps_dput (hu_of hr) (pv 2) pe_str (pe_callD M_pick hr (by decide) (by rfl) (pa_cons (pv 0) (pa_cons (pe_lst (pa_cons (pe_tup pa_nil) (pa_cons (pe_tup (pa_cons pe_str pa_nil)) (pa_cons (pe_tup (pa_cons pe_str pa_nil)) (pa_cons (pe_tup (pa_cons pe_str (pa_cons pe_str pa_nil))) pa_nil))))) pa_nil))) rfl)
      (pss_one (ps_dput (hu_of hr) (pv 2) pe_str (pe_callD M_pick hr (by decide) (by rfl) (pa_cons (pv 0) (pa_cons (pe_lst (pa_cons pe_str (pa_cons pe_str (pa_cons pe_str pa_nil)))) pa_nil))) rfl)))) pss_nil)
      (pss_cons (ps_for PassesOwn.never rfl (pi_range1 (by rfl) b_range (pa_cons (pe_callD M_take hr (by decide) (by rfl) (pa_cons (pv 0) (pa_cons pe_int pa_nil))) pa_nil)) (pg_name (i := 4) sc_l_sheet.nd rfl (Or.inl rfl)) (pss_one (ps_dput (hu_of hr) (pe_dget (hu_of hr) (pv 2) pe_str (fun _ _ => rfl)) (pe_callD M_pick hr (by decide) (by rfl) (pa_cons (pv 0) (pa_cons (pe_callD0 M_notes hr (by decide) (by rfl)) pa_nil))) (pe_callD M_pick hr (by decide) (by rfl) (pa_cons (pv 0) (pa_cons (pe_lst (pa_cons pe_str (pa_cons pe_str pa_nil))) pa_nil))) rfl)))
      (pss_cons (ps_for PassesOwn.never rfl (pi_list (pe_slice sl_list (pe_callD M_shuffled hr (by decide) (by rfl) (pa_cons (pv 0) (pa_cons (pe_callD0 M_notes hr (by decide) (by rfl)) pa_nil))) po_none (po_some (pe_callD M_take hr (by decide) (by rfl) (pa_cons (pv 0) (pa_cons (pe_op op_add (pv 1) pe_int) pa_nil)))))) (pg_name (i := 3) sc_l_sheet.nd rfl (Or.inl rfl)) (pss_one (ps_dput (hu_of hr) (pe_dget (hu_of hr) (pv 2) pe_str (fun _ _ => rfl)) (pv 3) pe_str rfl)))
      (pss_cons (ps_dput (hu_of hr) (pv 2) pe_str (pe_callTy call_tuple_of (by rfl) b_tuple (by decide +kernel) (pa_cons (pe_callB (cr_sortedX hr.units) (by rfl) b_sorted (by decide +kernel) (pa_cons (pe_callD M_any_of hr (by decide) (by rfl) (pa_cons (pv 0) (pa_cons (pe_callD0 M_notes hr (by decide) (by rfl)) (pa_cons (pe_callD M_pick hr (by decide) (by rfl) (pa_cons (pv 0) (pa_cons (pe_lst (pa_cons pe_int (pa_cons pe_int (pa_cons pe_int pa_nil)))) pa_nil))) pa_nil)))) pa_nil)) pa_nil)) rfl)
      (pss_cons (ps_dput (hu_of hr) (pv 2) pe_str (pe_callD M_pick hr (by decide) (by rfl) (pa_cons (pv 0) (pa_cons (pe_lst (pa_cons pe_str (pa_cons pe_str pa_nil))) pa_nil))) rfl)
      (pss_one (ps_ret (pv 2))))))))), ?_⟩)
  rintro wf r n ds R hw hn ⟨lz, rfl, z0, z1, fin⟩
  refine es_seq (es_asg (wp_callDO (wa_one (wp_var rfl ⟨wf, r, n, [], rfl, rfl, hw, by omega, rfl, fun S p q hS => ?_⟩))))
  let M : Nat → Wd → EL.Env → Prop := fun b w e => ∃ (S : Sheet) (t : Nat) (y z : Option D), S.Ok ∧ t ≤ n + b ∧ w = (wf t).own K (S.own p q) ∧ e = [some (.raw (.ref r.d)), some (.int lz), some (.raw (.ref p)), y, z]
  refine es_seqM (M 10) (es_if (wt_test (wp_op (wp_callD (wa_cons (wp_var rfl (wa_one (wp_int ⟨fun t => (wf t).own K (S.own p q), r, n + 1, _, rfl, rfl, hw.own _, by omega, 2, rfl, by decide, by decide, fun k k0 k1 => wp_int (w2_eqI ⟨_, rfl, ite2 (fun _ => ?_) (fun _ => es_next ⟨S, n + 1 + 1, none, none, hS, by omega, rfl, rfl⟩)⟩)⟩)))))))) ?_
  · refine es_seqM (M 8) (es_forG (wi_list (wp_call0 (wa_nil ⟨rfl, _, rfl, fun i => M (2 + i), ⟨S, n + 1 + 1, none, none, hS, by omega, rfl, rfl⟩, ?_, fun w e h => h⟩)))) ?_
    · rintro i w e x hx ⟨S, t, y, z, hS, ht, rfl, rfl⟩
      have hi : i < 6 := (List.getElem?_eq_some_iff.mp hx).1
      obtain ⟨nt, hnt, rfl⟩ := List.mem_map.mp (List.mem_of_getElem? hx)
      refine ⟨_, wg_name, es_sheetW (S := S) (p := p) (q := q) rfl (wp_callD (wa_cons (wp_var rfl (wa_cons (wp_lst (wa_cons (wp_str (wa_cons (wp_str (wa_nil (⟨by simp, wa_nil (⟨fun t => (wf t).own K (S.own p q), r, t, _, rfl, rfl, hw.own _, by omega, _, rfl, by simp, by simp, fun x hx => ?_⟩)⟩)))))))))))⟩
      obtain ⟨v, hv, rfl⟩ := List.mem_map.mp (show x ∈ (["none", "forced"] : List Str).map D.str from hx)
      exact ⟨_, v, rfl, rfl, wp_var rfl ⟨_, nt, rfl, rfl, hnt, S.putW nt v, t + 1, _, _, hS.putW (w_nf v hv), by omega, rfl, rfl⟩⟩
    · rintro w e ⟨S, t, y, z, hS, ht, rfl, rfl⟩
      refine es_seqM (M 9) (es_sheetF (S := S) (p := p) (q := q) rfl (wp_callD (wa_cons (wp_var rfl (wa_cons (wp_lst (wa_cons (wp_tup (wa_nil (⟨by simp, wa_cons (wp_tup (wa_cons (wp_str (wa_nil (⟨by simp, wa_cons (wp_tup (wa_cons (wp_str (wa_nil (⟨by simp, wa_cons (wp_tup (wa_cons (wp_str (wa_cons (wp_str (wa_nil (⟨by simp, wa_nil (⟨by simp, wa_nil (⟨fun t => (wf t).own K (S.own p q), r, t, _, rfl, rfl, hw.own _, by omega, _, rfl, by simp, by simp, fun x hx => ?_⟩)⟩)⟩)))))))⟩)))))⟩)))))⟩)))))))))) ?_
      · obtain ⟨a, ha, rfl⟩ := List.mem_map.mp (show x ∈ ansS.map (fun a => D.tup (a.map D.str)) from hx)
        exact ⟨_, { S with ans := a }, rfl, rfl, put_ans, { S with ans := a }, t + 1, _, _, ⟨hS.fw, ha, hS.pre, hS.rds, hS.sg⟩, by omega, rfl, rfl⟩
      · rintro w e ⟨S, t, y, z, hS, ht, rfl, rfl⟩
        refine es_sheetF (S := S) (p := p) (q := q) rfl (wp_callD (wa_cons (wp_var rfl (wa_cons (wp_lst (wa_cons (wp_str (wa_cons (wp_str (wa_cons (wp_str (wa_nil (⟨by simp, wa_nil (⟨fun t => (wf t).own K (S.own p q), r, t, _, rfl, rfl, hw.own _, by omega, _, rfl, by simp, by simp, fun x hx => ?_⟩)⟩)))))))))))))
        obtain ⟨a, ha, rfl⟩ := List.mem_map.mp (show x ∈ (["no", "wait", "yes"] : List Str).map D.str from hx)
        exact ⟨_, { S with pre := a }, rfl, rfl, put_pre, { S with pre := a }, t + 1, _, _, ⟨hS.fw, hS.ans, p_prs a ha, hS.rds, hS.sg⟩, by omega, rfl, rfl⟩
  clear hS S
  rintro w e ⟨S, t, y, z, hS, ht, rfl, rfl⟩
  refine es_seqM (M 20) (es_forG (wi_rng1 (wa_one (wp_callD (wa_cons (wp_var rfl (wa_cons (wp_int (wa_nil (⟨fun t => (wf t).own K (S.own p q), r, t, _, rfl, rfl, hw.own _, by omega, 3, rfl, by decide, by decide, fun k k0 k1 => ?_⟩)))))))))) ?_
  · refine ⟨k, rfl, by omega, fun i => M (11 + 2 * i), ⟨S, t + 1, y, z, hS, by omega, rfl, rfl⟩, ?_, ?_⟩
    · rintro i w e x hx ⟨S, t, y, z, hS, ht, rfl, rfl⟩
      have hi : i < k.toNat := by have := (List.getElem?_eq_some_iff.mp hx).1; rwa [rangeD_length] at this
      refine ⟨_, wg_name, es_sheetW (S := S) (p := p) (q := q) rfl (wp_callD (wa_cons (wp_var rfl (wa_cons (wp_lst (wa_cons (wp_str (wa_cons (wp_str (wa_nil (⟨by simp, wa_nil (⟨fun t => (wf t).own K (S.own p q), r, t, _, rfl, rfl, hw.own _, by omega, _, rfl, by simp, by simp, fun x hx => ?_⟩)⟩)))))))))))⟩
      obtain ⟨v, hv, rfl⟩ := List.mem_map.mp (show x ∈ (["none", "forced"] : List Str).map D.str from hx)
      refine ⟨_, v, rfl, rfl, wp_callD (wa_cons (wp_var rfl (wa_cons (wp_call0 (wa_nil (⟨rfl, wa_nil (⟨fun t => (wf t).own K (S.own p q), r, t + 1, _, rfl, rfl, hw.own _, by omega, _, rfl, by decide, by decide, fun x hx => ?_⟩)⟩))))))⟩
      obtain ⟨nt, hnt, rfl⟩ := List.mem_map.mp hx
      exact ⟨_, nt, rfl, rfl, hnt, S.putW nt v, t + 1 + 1, _, _, hS.putW (w_nf v hv), by omega, rfl, rfl⟩
    · rintro w e ⟨S, t, y, z, hS, ht, rfl, rfl⟩
      rw [rangeD_length] at ht
      exact ⟨S, t, y, z, hS, by omega, rfl, rfl⟩
  clear hS S ht t y z
  rintro w e ⟨S, t, y, z, hS, ht, rfl, rfl⟩
  refine es_seqM (M 130) (es_forG (wi_list (wp_slL (wp_callD (wa_cons (wp_var rfl (wa_cons (wp_call0 (wa_nil (⟨rfl, wa_nil (⟨fun t => (wf t).own K (S.own p q), r, t, _, rfl, rfl, hw.own _, by omega, notesS.map D.str, .inl rfl, by decide, ?_, fun ys hys => ?_⟩)⟩)))))))))) ?_
  · intro ys hy
    obtain ⟨ss, rfl⟩ := strs_of fun y h => let ⟨s, _, e⟩ := List.mem_map.mp (hy y h); ⟨s, e.symm⟩
    exact ⟨pls_str ss, dep_strs ss⟩
  · refine ⟨ys, rfl, wo_none (wo_some (wp_callD (wa_cons (wp_var rfl (wa_cons (wp_op (wp_var rfl (wp_int (w2_I0 (fun _ => .int _) (wa_nil (⟨fun t => (wf t).own K (S.own p q), r, t + 100, _, rfl, rfl, hw.own _, by omega, _, rfl, by omega, by omega, fun k k0 k1 => ?_⟩)))))))))))⟩
    refine ⟨k, rfl, _, rfl, fun i => M 130, ⟨S, t + 100 + 1, y, z, hS, by omega, rfl, rfl⟩, ?_, fun w e h => h⟩
    rintro i w e x hx ⟨S, t, y, z, hS, ht, rfl, rfl⟩
    have hx1 := List.mem_of_mem_drop (List.mem_of_mem_take (List.mem_of_getElem? hx))
    obtain ⟨nt, hnt, rfl⟩ := List.mem_map.mp (hys.mem_iff.mp hx1)
    exact ⟨_, wg_name, es_sheetW (S := S) (p := p) (q := q) rfl (wp_str ⟨_, "lazy", rfl, rfl, wp_var rfl ⟨_, nt, rfl, rfl, hnt, S.putW nt "lazy", t, _, _, hS.putW w_lz, by omega, rfl, rfl⟩⟩)⟩
  clear hS S ht t y z
  rintro w e ⟨S, t, y, z, hS, ht, rfl, rfl⟩
  refine es_seqM (M 240) (es_sheetF (S := S) (p := p) (q := q) rfl (wp_cb (wa_one (wp_cb (wa_one (wp_callD (wa_cons (wp_var rfl (wa_cons (wp_call0 (wa_nil (⟨rfl, wa_cons (wp_callD (wa_cons (wp_var rfl (wa_cons (wp_lst (wa_cons (wp_int (wa_cons (wp_int (wa_cons (wp_int (wa_nil (⟨by simp, wa_nil (⟨fun t => (wf t).own K (S.own p q), r, t, _, rfl, rfl, hw.own _, by omega, _, rfl, by simp, by simp, fun x hx => wa_nil (?_)⟩)⟩)))))))))))))⟩)))))))))))) ?_
  · obtain ⟨m, hm, rfl⟩ : ∃ m : Int, (0 < m ∧ m < 1000000) ∧ x = .int m := by
      simp only [List.mem_cons, List.not_mem_nil, or_false] at hx
      rcases hx with rfl | rfl | rfl <;> exact ⟨_, by decide, rfl⟩
    refine ⟨fun t => (wf t).own K (S.own p q), r, t + 1, _, rfl, rfl, hw.own _, by omega, _, m, rfl, by decide, hm.1, hm.2, fun ys hys => ?_⟩
    obtain ⟨ss, hss, rfl⟩ := sub_str hys
    exact wb_sortedS (.inl rfl) (wb_tuple (.inl rfl) ⟨_, { S with rds := sortS ss }, rfl, rfl, put_rds, { S with rds := sortS ss }, t + 1 + 100, _, _, ⟨hS.fw, hS.ans, hS.pre, ⟨ss, hss, rfl⟩, hS.sg⟩, by omega, rfl, rfl⟩)
  clear hS S ht t y z
  rintro w e ⟨S, t, y, z, hS, ht, rfl, rfl⟩
  refine es_seqM (M 241) (es_sheetF (S := S) (p := p) (q := q) rfl (wp_callD (wa_cons (wp_var rfl (wa_cons (wp_lst (wa_cons (wp_str (wa_cons (wp_str (wa_nil (⟨by simp, wa_nil (⟨fun t => (wf t).own K (S.own p q), r, t, _, rfl, rfl, hw.own _, by omega, _, rfl, by simp, by simp, fun x hx => ?_⟩)⟩)))))))))))) ?_
  · obtain ⟨a, ha, rfl⟩ := List.mem_map.mp (show x ∈ (["skip", "cut"] : List Str).map D.str from hx)
    exact ⟨_, { S with sg := a }, rfl, rfl, put_sg, { S with sg := a }, t + 1, _, _, ⟨hS.fw, hS.ans, hS.pre, hS.rds, g_sg a ha⟩, by omega, rfl, rfl⟩
  clear hS S ht t y z
  rintro w e ⟨S, t, y, z, hS, ht, rfl, rfl⟩
  exact es_ret (wp_var rfl ⟨t, _, by omega, rfl, fin S p q hS⟩)
end
end K01

set_option Elab.async false
set_option linter.all false
set_option maxRecDepth 100000
set_option maxHeartbeats 4000000
namespace K01
open PySem PySem.Spec PyProof.Rows L2 EL
abbrev s_l_copied : Stmt := (topS 25)
theorem sc_l_copied : FnScope ["_law_sheet_here", "_law_found"] ["_law_sheet_here"] (defScope s_l_copied) := ⟨rfl, rfl, rfl, by decide +kernel, rfl, by decide +kernel, by decide +kernel⟩
abbrev s_l_near_sheet : Stmt := (topS 27)
theorem sc_l_near_sheet : FnScope ["_law_draw", "_law_sheet_here", "_law_near", "_law_change", "_law_way"] ["_law_draw", "_law_sheet_here"] (defScope s_l_near_sheet) := ⟨rfl, rfl, rfl, by decide +kernel, rfl, by decide +kernel, by decide +kernel⟩
abbrev s_l_edition : Stmt := (topS 28)
theorem sc_l_edition : FnScope ["_law_sheet_here", "_law_verbs", "_law_note", "_law_rest"] ["_law_sheet_here"] (defScope s_l_edition) := ⟨rfl, rfl, rfl, by decide +kernel, rfl, by decide +kernel, by decide +kernel⟩
abbrev s_l_parts : Stmt := (topS 29)
theorem sc_l_parts : FnScope ["_law_sheet_here", "_law_verbs", "_law_note"] ["_law_sheet_here"] (defScope s_l_parts) := ⟨rfl, rfl, rfl, by decide +kernel, rfl, by decide +kernel, by decide +kernel⟩
/-- a sheet, still -/
def Sheet.d (S : Sheet) : D := .dct (S.kvs (.dct (wordsK S.f)))
def Sheet.parts (S : Sheet) : List D := (notesS.map fun n => D.str (S.f n)) ++ [.tup (S.ans.map D.str), .str S.pre, .tup (S.rds.map D.str), .str S.sg]
def Sheet.ed (S : Sheet) : List (Str × D) := edF (notesS.map S.f) S.ans S.pre S.rds S.sg
section
variable {P : Program} {W : World} {K : PySem.W.Frag} {mg : Str → Option Value} {base : Heap}
def ok_copied : OkO := fun _ ds R => ∃ S : Sheet, ds = [S.d] ∧ ∀ p q, R (S.own p q) (.raw (.ref p))
theorem D_l_copied (b_dict : mg "dict" = none) (F : DefAt K mg "_law_copied" s_l_copied ["_law_sheet_here"]) : Def P W K mg base "_law_copied" 1 ["_law_sheet_here"] (SpO K ok_copied) := by
  refine def_okO (k := 0) F sc_l_copied (by rintro w ds R ⟨S, rfl, _⟩; rfl) (fun _ _ _ _ h => h) (fun f cdv A outer s H E hr => ⟨_, (pss_cons (ps_set (i := 1) sc_l_copied.nd rfl (Or.inl rfl) (pe_callTy call_dictD (by rfl) b_dict (by decide +kernel) (pa_cons (pv 0) pa_nil)))
      (pss_cons (ps_dput (hu_of hr) (pv 1) pe_str (pe_callTy call_dictD (by rfl) b_dict (by decide +kernel) (pa_cons (pe_dget (hu_of hr) (pv 0) pe_str (fun _ _ => rfl)) pa_nil)) rfl)
      (pss_one (ps_ret (pv 1))))), ?_⟩)
  rintro wd ds R ⟨S, rfl, fin⟩
  refine es_seq (es_asg (wp_cb (wa_one (wp_var rfl (wb_dictD fun p => ?_)))))
  refine es_seq (es_dput (Wp.flat (wp_cb (wa_one (wp_dget (wp_var rfl ⟨_, rfl, wp_str ⟨.inr "words", _, rfl, val_w, wb_dictD fun q => ?_⟩⟩))))))
  refine ⟨wd, _, _, rfl, wp_var rfl (wp_str ⟨wd, _, 1, p, _, .inr "words", rfl, rfl, rfl, rfl, by simp [Sheet.kvs], ?_⟩)⟩
  rw [put_w]
  exact es_ret (Wp.like (wp_var rfl ⟨_, fun G σ H env F o => ⟨G, Sm.refl _, o.swap⟩, _, rfl, fin p q⟩))
def ok_near : OkDO := fun ds R => ∃ S0 : Sheet, ds = [S0.d] ∧ S0.Ok ∧ ∀ (S : Sheet) p q, S.Ok → R (S.own p q) (.raw (.ref p))
theorem D_l_near_sheet (b_range : mg "range" = none) (b_tuple : mg "tuple" = none) (b_sorted : mg "sorted" = none) (M_take : Def P W K mg base "_law_take" 2 ["_law_draw", "_law_size"] (SpD K 1 ok_take)) (M_notes : Def P W K mg base "_law_notes" 1 [] (SpF K ok_notes)) (M_pick : Def P W K mg base "_law_pick" 3 ["_law_draw", "_law_some"] (SpD K 1 ok_pick))
    (M_any_of : Def P W K mg base "_law_any_of" 3 ["_law_draw", "_law_words", "_law_size"] (SpD K 100 ok_any_of)) (M_copied : Def P W K mg base "_law_copied" 1 ["_law_sheet_here"] (SpO K ok_copied))
    (F : DefAt K mg "_law_near_sheet" s_l_near_sheet ["_law_draw", "_law_sheet_here"]) : Def P W K mg base "_law_near_sheet" 4 ["_law_draw", "_law_sheet_here"] (SpDO K 400 ok_near) := by
  refine def_okDO (k := 3) F sc_l_near_sheet (by rintro ds R ⟨z, rfl, _⟩; rfl) (fun f cdv A outer s H E hr => ⟨_, (pss_cons (ps_set (i := 2) sc_l_near_sheet.nd rfl (Or.inl rfl) (pe_callD M_copied hr (by decide) (by rfl) (pa_cons (pv 1) pa_nil)))
      (pss_cons (ps_for PassesOwn.never rfl (pi_range1 (by rfl) b_range (pa_cons (pe_callD M_take hr (by decide) (by rfl) (pa_cons (pv 0) (pa_cons pe_int pa_nil))) pa_nil)) (pg_name (i := 3) sc_l_near_sheet.nd rfl (Or.inl rfl)) (pss_cons (ps_set (i := 4) sc_l_near_sheet.nd rfl (Or.inl rfl) (pe_callD M_take hr (by decide) (by rfl) (pa_cons (pv 0) (pa_cons pe_int pa_nil))))
      (pss_cons (ps_if (pt_cmpR op_lt (pv 4) pe_int (nomark _)) (pss_one (ps_dput (hu_of hr) (pe_dget (hu_of hr) (pv 2) pe_str (fun _ _ => rfl)) (pe_callD M_pick hr (by decide) (by rfl) (pa_cons (pv 0) (pa_cons (pe_callD0 M_notes hr (by decide) (by rfl)) pa_nil))) (pe_callD M_pick hr (by decide) (by rfl) (pa_cons (pv 0) (pa_cons (pe_lst (pa_cons pe_str (pa_cons pe_str pa_nil))) pa_nil))) rfl)) pss_nil)
      (pss_cons (ps_if (pt_cmpR op_eq (pv 4) pe_int (nomark _)) (pss_one (ps_dput (hu_of hr) (pv 2) pe_str (pe_callD M_pick hr (by decide) (by rfl) (pa_cons (pv 0) (pa_cons (pe_lst (pa_cons (pe_tup pa_nil) (pa_cons (pe_tup (pa_cons pe_str pa_nil)) (pa_cons (pe_tup (pa_cons pe_str pa_nil)) (pa_cons (pe_tup (pa_cons pe_str (pa_cons pe_str pa_nil))) pa_nil))))) pa_nil))) rfl)) pss_nil)
      (pss_cons (ps_if (pt_cmpR op_eq (pv 4) pe_int (nomark _)) (pss_one (ps_dput (hu_of hr) (pv 2) pe_str (pe_callD M_pick hr (by decide) (by rfl) (pa_cons (pv 0) (pa_cons (pe_lst (pa_cons pe_str (pa_cons pe_str (pa_cons pe_str pa_nil)))) pa_nil))) rfl)) pss_nil)
      (pss_one (ps_if (pt_cmpR op_eq (pv 4) pe_int (nomark _)) (pss_one (ps_dput (hu_of hr) (pv 2) pe_str (pe_callTy call_tuple_of (by rfl) b_tuple (by decide +kernel) (pa_cons (pe_callB (cr_sortedX hr.units) (by rfl) b_sorted (by decide +kernel) (pa_cons (pe_callD M_any_of hr (by decide) (by rfl) (pa_cons (pv 0) (pa_cons (pe_callD0 M_notes hr (by decide) (by rfl)) (pa_cons pe_int pa_nil)))) pa_nil)) pa_nil)) rfl)) pss_nil)))))))
      (pss_one (ps_ret (pv 2))))), ?_⟩)
  rintro wf r n ds R hw hn ⟨S0, rfl, hS0, fin⟩
  refine es_seq (es_asg (wp_callO (wa_one (wp_var rfl ⟨S0, rfl, fun p q => ?_⟩))))
  let M : Nat → Wd → EL.Env → Prop := fun b w e => ∃ (S : Sheet) (t : Nat) (y z : Option D), S.Ok ∧ t ≤ n + b ∧ w = (wf t).own K (S.own p q) ∧ e = [some (.raw (.ref r.d)), some S0.d, some (.raw (.ref p)), y, z]
  refine es_seqM (M 400) (es_forG (wi_rng1 (wa_one (wp_callD (wa_cons (wp_var rfl (wa_cons (wp_int (wa_nil (⟨fun t => (wf t).own K (S0.own p q), r, n, _, rfl, rfl, hw.own _, by omega, 3, rfl, by decide, by decide, fun k k0 k1 => ?_⟩)))))))))) ?_
  · refine ⟨k, rfl, by omega, fun i => M (1 + 110 * i), ⟨S0, n + 1, none, none, hS0, by omega, rfl, rfl⟩, ?_, ?_⟩
    · rintro i w e x hx ⟨S, t, y, z, hS, ht, rfl, rfl⟩
      have hi : i < k.toNat := by have := (List.getElem?_eq_some_iff.mp hx).1; rwa [rangeD_length] at this
      refine ⟨_, wg_name, es_seq (es_asg (wp_callD (wa_cons (wp_var rfl (wa_cons (wp_int (wa_nil (⟨fun t => (wf t).own K (S.own p q), r, t, _, rfl, rfl, hw.own _, by omega, 5, rfl, by decide, by decide, fun k2 _ _ => ?_⟩))))))))⟩
      let N : Nat → Wd → EL.Env → Prop := fun b w e => ∃ (S : Sheet) (t : Nat) (y : Option D), S.Ok ∧ t ≤ n + (1 + 110 * i) + b ∧ w = (wf t).own K (S.own p q) ∧ e = [some (.raw (.ref r.d)), some S0.d, some (.raw (.ref p)), y, some (.int k2)]
      refine es_seqM (N 3) (es_if (wt_test (wp_op (wp_var rfl (wp_int (w2_I0 (d := .bl (decide (k2 < 2))) (fun _ => .bl _) ⟨_, rfl, ite2 (fun _ => ?_) (fun _ => es_next ⟨S, t + 1, _, hS, by omega, rfl, rfl⟩)⟩)))))) ?_
      · refine es_sheetW (S := S) (p := p) (q := q) rfl (wp_callD (wa_cons (wp_var rfl (wa_cons (wp_lst (wa_cons (wp_str (wa_cons (wp_str (wa_nil (⟨by simp, wa_nil (⟨fun t => (wf t).own K (S.own p q), r, t + 1, _, rfl, rfl, hw.own _, by omega, _, rfl, by simp, by simp, fun x hx => ?_⟩)⟩)))))))))))
        obtain ⟨v, hv, rfl⟩ := List.mem_map.mp (show x ∈ (["none", "forced"] : List Str).map D.str from hx)
        refine ⟨_, v, rfl, rfl, wp_callD (wa_cons (wp_var rfl (wa_cons (wp_call0 (wa_nil (⟨rfl, wa_nil (⟨fun t => (wf t).own K (S.own p q), r, t + 1 + 1, _, rfl, rfl, hw.own _, by omega, _, rfl, by decide, by decide, fun x hx => ?_⟩)⟩))))))⟩
        obtain ⟨nt, hnt, rfl⟩ := List.mem_map.mp hx
        exact ⟨_, nt, rfl, rfl, hnt, S.putW nt v, t + 1 + 1 + 1, _, hS.putW (w_nf v hv), by omega, rfl, rfl⟩
      clear hS S ht t y z
      rintro w e ⟨S, t, y, hS, ht, rfl, rfl⟩
      refine es_seqM (N 4) (es_if (wt_test (wp_op (wp_var rfl (wp_int (w2_eqI ⟨_, rfl, ite2 (fun _ => ?_) (fun _ => es_next ⟨S, t, _, hS, by omega, rfl, rfl⟩)⟩)))))) ?_
      · refine es_sheetF (S := S) (p := p) (q := q) rfl (wp_callD (wa_cons (wp_var rfl (wa_cons (wp_lst (wa_cons (wp_tup (wa_nil (⟨by simp, wa_cons (wp_tup (wa_cons (wp_str (wa_nil (⟨by simp, wa_cons (wp_tup (wa_cons (wp_str (wa_nil (⟨by simp, wa_cons (wp_tup (wa_cons (wp_str (wa_cons (wp_str (wa_nil (⟨by simp, wa_nil (⟨by simp, wa_nil (⟨fun t => (wf t).own K (S.own p q), r, t, _, rfl, rfl, hw.own _, by omega, _, rfl, by simp, by simp, fun x hx => ?_⟩)⟩)⟩)))))))⟩)))))⟩)))))⟩)))))))))
        obtain ⟨a, ha, rfl⟩ := List.mem_map.mp (show x ∈ ansS.map (fun a => D.tup (a.map D.str)) from hx)
        exact ⟨_, { S with ans := a }, rfl, rfl, put_ans, { S with ans := a }, t + 1, _, ⟨hS.fw, ha, hS.pre, hS.rds, hS.sg⟩, by omega, rfl, rfl⟩
      clear hS S ht t y
      rintro w e ⟨S, t, y, hS, ht, rfl, rfl⟩
      refine es_seqM (N 5) (es_if (wt_test (wp_op (wp_var rfl (wp_int (w2_eqI ⟨_, rfl, ite2 (fun _ => ?_) (fun _ => es_next ⟨S, t, _, hS, by omega, rfl, rfl⟩)⟩)))))) ?_
      · refine es_sheetF (S := S) (p := p) (q := q) rfl (wp_callD (wa_cons (wp_var rfl (wa_cons (wp_lst (wa_cons (wp_str (wa_cons (wp_str (wa_cons (wp_str (wa_nil (⟨by simp, wa_nil (⟨fun t => (wf t).own K (S.own p q), r, t, _, rfl, rfl, hw.own _, by omega, _, rfl, by simp, by simp, fun x hx => ?_⟩)⟩)))))))))))))
        obtain ⟨a, ha, rfl⟩ := List.mem_map.mp (show x ∈ (["no", "wait", "yes"] : List Str).map D.str from hx)
        exact ⟨_, { S with pre := a }, rfl, rfl, put_pre, { S with pre := a }, t + 1, _, ⟨hS.fw, hS.ans, p_prs a ha, hS.rds, hS.sg⟩, by omega, rfl, rfl⟩
      clear hS S ht t y
      rintro w e ⟨S, t, y, hS, ht, rfl, rfl⟩
      refine es_if (wt_test (wp_op (wp_var rfl (wp_int (w2_eqI ⟨_, rfl, ite2 (fun _ => ?_) (fun _ => es_next ⟨S, t, _, _, hS, by omega, rfl, rfl⟩)⟩)))))
      refine es_sheetF (S := S) (p := p) (q := q) rfl (wp_cb (wa_one (wp_cb (wa_one (wp_callD (wa_cons (wp_var rfl (wa_cons (wp_call0 (wa_nil (⟨rfl, wa_cons (wp_int (wa_nil (⟨fun t => (wf t).own K (S.own p q), r, t, _, rfl, rfl, hw.own _, by omega, _, 2, rfl, by decide, by decide, by decide, fun ys hys => ?_⟩)))⟩)))))))))))
      obtain ⟨ss, hss, rfl⟩ := sub_str hys
      exact wb_sortedS (.inl rfl) (wb_tuple (.inl rfl) ⟨_, { S with rds := sortS ss }, rfl, rfl, put_rds, { S with rds := sortS ss }, t + 100, _, _, ⟨hS.fw, hS.ans, hS.pre, ⟨ss, hss, rfl⟩, hS.sg⟩, by omega, rfl, rfl⟩)
    · rintro w e ⟨S, t, y, z, hS, ht, rfl, rfl⟩
      rw [rangeD_length] at ht
      exact ⟨S, t, y, z, hS, by omega, rfl, rfl⟩
  rintro w e ⟨S, t, y, z, hS, ht, rfl, rfl⟩
  exact es_ret (wp_var rfl ⟨t, _, by omega, rfl, fin S p q hS⟩)
def ok_parts : OkF := fun _ ds R => ∃ S : Sheet, ds = [S.d] ∧ R (.lst S.parts)
theorem D_l_parts (M_notes : Def P W K mg base "_law_notes" 1 [] (SpF K ok_notes)) (F : DefAt K mg "_law_parts" s_l_parts ["_law_sheet_here"]) : Def P W K mg base "_law_parts" 2 ["_law_sheet_here"] (SpF K ok_parts) := by
  refine def_ok (k := 1) F sc_l_parts (by rintro w ds R ⟨S, rfl, _⟩; rfl) (fun _ _ _ _ h => h) (fun f cdv A outer s H E hr => ⟨_, (pss_cons (ps_setLc (i := 1) (own := [("_law_note", 2)]) (g := (gName 2)) (tt := tYes) (by rfl) sc_l_parts.nd rfl rfl (sw_true rfl rfl rfl (by decide +kernel)) (pi_list (pe_callD0 M_notes hr (by decide) (by rfl))) (blkOk_by (own := [("_law_note", 2)]) (N := ["_law_sheet_here", "_law_verbs", "_law_note"]) (sc := defScope s_l_parts) (by decide +kernel)) (fun _ _ _ _ _ => (pg_name (i := 2) sc_l_parts.nd rfl (Or.inl rfl))) (fun _ _ _ _ _ => pts_nil) (fun _ _ _ _ _ => (pe_dget (hu_of hr) (pe_dget (hu_of hr) (pv 0) pe_str (fun _ _ => rfl)) (pv 2) (fun _ _ => rfl))))
      (pss_one (ps_ret (pe_op op_catX (pv 1) (pe_lst (pa_cons (pe_dget (hu_of hr) (pv 0) pe_str (fun _ _ => rfl)) (pa_cons (pe_dget (hu_of hr) (pv 0) pe_str (fun _ _ => rfl)) (pa_cons (pe_dget (hu_of hr) (pv 0) pe_str (fun _ _ => rfl)) (pa_cons (pe_dget (hu_of hr) (pv 0) pe_str (fun _ _ => rfl)) pa_nil))))))))), ?_⟩)
  rintro wd ds R ⟨S, rfl, fin⟩
  refine es_seq (es_asg (wp_lcM (cc := fun _ => true) (f := fun x => .str (S.f (strOf x))) (wi_list (wp_call0 (wa_nil ⟨rfl, _, rfl, by decide, ?_, ?_⟩)))))
  · intro x hx
    obtain ⟨y, hy, rfl⟩ := List.mem_map.mp hx
    exact ⟨_, wgv_name (by simp), fun w2 l2 => wt_yes ⟨rfl, rfl, fun _ => wp_dget (wp_dget (wp_var rfl ⟨_, rfl, wp_str ⟨.inr "words", _, rfl, val_w, _, rfl, wp_var rfl ⟨.inr y, _, rfl, val_words hy, rfl, rfl⟩⟩⟩))⟩⟩
  refine es_ret (wp_op (wp_var rfl (wp_lst (wa_cons (wp_dget (wp_var rfl ⟨_, rfl, wp_str ⟨.inr "answers", _, rfl, val_ans, wa_cons (wp_dget (wp_var rfl ⟨_, rfl, wp_str ⟨.inr "presume", _, rfl, val_pre, wa_cons (wp_dget (wp_var rfl ⟨_, rfl, wp_str ⟨.inr "reads", _, rfl, val_rds, wa_cons (wp_dget (wp_var rfl ⟨_, rfl, wp_str ⟨.inr "strange", _, rfl, val_sg, wa_nil ⟨by simp, w2_cat (by simp [notesS]) ⟨.refl _, ?_⟩⟩⟩⟩))⟩⟩))⟩⟩))⟩⟩))))))
  exact fin
theorem le_trans_S (a b c : Str) : leS a b = true → leS b c = true → leS a c = true := by
  unfold leS
  simp only [decide_eq_true_eq]
  exact fun h1 h2 => Std.le_trans h1 h2
theorem le_total_S (a b : Str) : (leS a b || leS b a) = true := by
  unfold leS
  rw [Bool.or_eq_true, decide_eq_true_eq, decide_eq_true_eq]
  exact Std.le_total
theorem le_anti_S (a b : Str) (h1 : leS a b = true) (h2 : leS b a = true) : a = b := by
  unfold leS at h1 h2
  rw [decide_eq_true_eq] at h1 h2
  have e := Std.le_antisymm h1 h2
  cases a; cases b
  exact congrArg _ (Array.toList_inj.mp e)
theorem sort_perm {a b : List Str} (h : a.Perm b) : sortS a = sortS b := List.Perm.eq_of_pairwise (fun x y _ _ h1 h2 => le_anti_S x y h1 h2) (List.pairwise_mergeSort le_trans_S le_total_S a) (List.pairwise_mergeSort le_trans_S le_total_S b) ((List.mergeSort_perm a leS).trans (h.trans (List.mergeSort_perm b leS).symm))
theorem sort_sort (l : List Str) : sortS (sortS l) = sortS l := List.mergeSort_of_pairwise (List.pairwise_mergeSort le_trans_S le_total_S l)
theorem sort_ans : ∀ a ∈ ansS, sortS a = a := by
  have h : ∀ a ∈ ansS, a.Pairwise (fun a b => leS a b = true) := by decide +kernel
  exact fun a ha => List.mergeSort_of_pairwise (h a ha)
theorem ans_ok : ∀ a ∈ ansS, a.Nodup ∧ ∀ x ∈ a, x ∈ outsS := by decide +kernel
theorem Sheet.Ok.sorts {S : Sheet} (h : S.Ok) : sortS S.ans = S.ans ∧ sortS S.rds = S.rds := by
  obtain ⟨l, _, e⟩ := h.rds
  exact ⟨sort_ans _ h.ans, by rw [e, sort_sort]⟩
theorem Sheet.Ok.rd {S : Sheet} (h : S.Ok) : S.rds.Nodup ∧ ∀ x ∈ S.rds, x ∈ notesS := by
  obtain ⟨l, hl, e⟩ := h.rds
  rw [e]; exact rds_ok hl
def ok_edition (C : Addr) : OkF := fun _ ds R => ∃ S : Sheet, ds = [S.d] ∧ S.Ok ∧ R (.obj C S.ed)
/-- the ten parts, as they are handed over -/
theorem init_of {w : Wd} {S : Sheet} (h : S.Ok) {da dr : D} {la lr : List Str} (sa : Seq K w da (la.map D.str)) (pa : la.Perm S.ans) (sr : Seq K w dr (lr.map D.str)) (pr : lr.Perm S.rds) :
    ok_E_init K w [.str (S.f "begin"), .str (S.f "yes"), .str (S.f "no"), .str (S.f "ready"), .str (S.f "agreed"), .str (S.f "refused"), da, .str S.pre, dr, .str S.sg] S.ed := by
  obtain ⟨ra, rm⟩ := h.rd
  obtain ⟨aa, am⟩ := ans_ok _ h.ans
  refine ⟨notesS.map S.f, da, la, S.pre, dr, lr, S.sg, rfl, rfl, fun x hx => ?_, sa, pa.nodup_iff.mpr aa, fun x hx => am x (pa.mem_iff.mp hx), h.pre, sr, pr.nodup_iff.mpr ra, fun x hx => rm x (pr.mem_iff.mp hx), h.sg, ?_⟩
  · obtain ⟨n, hn, rfl⟩ := List.mem_map.mp hx
    exact h.fw n hn
  · rw [sort_perm pa, sort_perm pr, h.sorts.1, h.sorts.2]; rfl
theorem D_l_edition {C : Addr} (M_notes : Def P W K mg base "_law_notes" 1 [] (SpF K ok_notes)) (M_Edition : ClsD P W K mg base "Edition" C 3 ["self", "begin", "yes", "no", "ready", "agreed", "refused", "answers", "presume", "reads", "strange"] (ok_E_init K)) (F : DefAt K mg "_law_edition" s_l_edition ["_law_sheet_here"]) : Def P W K mg base "_law_edition" 5 ["_law_sheet_here"] (SpF K (ok_edition C)) := by
  refine def_ok (k := 4) F sc_l_edition (by rintro w ds R ⟨S, rfl, _⟩; rfl) (fun _ _ _ _ h => h) (fun f cdv A outer s H E hr => ⟨_, (pss_cons (ps_setLc (i := 1) (own := [("_law_note", 2)]) (g := (gName 2)) (tt := tYes) (by rfl) sc_l_edition.nd rfl rfl (sw_true rfl rfl rfl (by decide +kernel)) (pi_list (pe_callD0 M_notes hr (by decide) (by rfl))) (blkOk_by (own := [("_law_note", 2)]) (N := ["_law_sheet_here", "_law_verbs", "_law_note", "_law_rest"]) (sc := defScope s_l_edition) (by decide +kernel)) (fun _ _ _ _ _ => (pg_name (i := 2) sc_l_edition.nd rfl (Or.inl rfl))) (fun _ _ _ _ _ => pts_nil) (fun _ _ _ _ _ => (pe_dget (hu_of hr) (pe_dget (hu_of hr) (pv 0) pe_str (fun _ _ => rfl)) (pv 2) (fun _ _ => rfl))))
      (pss_cons (ps_set (i := 3) sc_l_edition.nd rfl (Or.inl rfl) (pe_lst (pa_cons (pe_dget (hu_of hr) (pv 0) pe_str (fun _ _ => rfl)) (pa_cons (pe_dget (hu_of hr) (pv 0) pe_str (fun _ _ => rfl)) (pa_cons (pe_dget (hu_of hr) (pv 0) pe_str (fun _ _ => rfl)) (pa_cons (pe_dget (hu_of hr) (pv 0) pe_str (fun _ _ => rfl)) pa_nil))))))
      (pss_one (ps_ret (pe_makeD M_Edition hr (by decide) (by rfl) (pa_cons (pe_ix ix_list (pv 1) pe_int (fun _ _ => rfl)) (pa_cons (pe_ix ix_list (pv 1) pe_int (fun _ _ => rfl)) (pa_cons (pe_ix ix_list (pv 1) pe_int (fun _ _ => rfl)) (pa_cons (pe_ix ix_list (pv 1) pe_int (fun _ _ => rfl)) (pa_cons (pe_ix ix_list (pv 1) pe_int (fun _ _ => rfl)) (pa_cons (pe_ix ix_list (pv 1) pe_int (fun _ _ => rfl)) (pa_cons (pe_ix ix_list (pv 3) pe_int (fun _ _ => rfl)) (pa_cons (pe_ix ix_list (pv 3) pe_int (fun _ _ => rfl)) (pa_cons (pe_ix ix_list (pv 3) pe_int (fun _ _ => rfl)) (pa_cons (pe_ix ix_list (pv 3) pe_int (fun _ _ => rfl)) pa_nil))))))))))))))), ?_⟩)
  rintro wd ds R ⟨S, rfl, hS, fin⟩
  refine es_seq (es_asg (wp_lcM (cc := fun _ => true) (f := fun x => .str (S.f (strOf x))) (wi_list (wp_call0 (wa_nil ⟨rfl, _, rfl, by decide, ?_, ?_⟩)))))
  · intro x hx
    obtain ⟨y, hy, rfl⟩ := List.mem_map.mp hx
    exact ⟨_, wgv_name (by simp), fun w2 l2 => wt_yes ⟨rfl, rfl, fun _ => wp_dget (wp_dget (wp_var rfl ⟨_, rfl, wp_str ⟨.inr "words", _, rfl, val_w, _, rfl, wp_var rfl ⟨.inr y, _, rfl, val_words hy, rfl, rfl⟩⟩⟩))⟩⟩
  refine es_seq (es_asg (wp_lst (wa_cons (wp_dget (wp_var rfl ⟨_, rfl, wp_str ⟨.inr "answers", _, rfl, val_ans, wa_cons (wp_dget (wp_var rfl ⟨_, rfl, wp_str ⟨.inr "presume", _, rfl, val_pre, wa_cons (wp_dget (wp_var rfl ⟨_, rfl, wp_str ⟨.inr "reads", _, rfl, val_rds, wa_cons (wp_dget (wp_var rfl ⟨_, rfl, wp_str ⟨.inr "strange", _, rfl, val_sg, wa_nil ⟨by simp, ?_⟩⟩⟩))⟩⟩))⟩⟩))⟩⟩)))))
  refine es_ret (wp_make (wa_cons (wp_op (wp_var rfl (wp_int (w2_ixL rfl (wa_cons (wp_op (wp_var rfl (wp_int (w2_ixL rfl (wa_cons (wp_op (wp_var rfl (wp_int (w2_ixL rfl (wa_cons (wp_op (wp_var rfl (wp_int (w2_ixL rfl (wa_cons (wp_op (wp_var rfl (wp_int (w2_ixL rfl (wa_cons (wp_op (wp_var rfl (wp_int (w2_ixL rfl (wa_cons (wp_op (wp_var rfl (wp_int (w2_ixL rfl (wa_cons (wp_op (wp_var rfl (wp_int (w2_ixL rfl (wa_cons (wp_op (wp_var rfl (wp_int (w2_ixL rfl (wa_cons (wp_op (wp_var rfl (wp_int (w2_ixL rfl (wa_nil (?_)))))))))))))))))))))))))))))))))))))))))))))))))))))
  exact ⟨_, init_of hS (.inl (.inr rfl)) (List.Perm.refl _) (.inl (.inr rfl)) (List.Perm.refl _), .refl _, fin⟩
end
end K01

set_option Elab.async false
set_option linter.all false
set_option maxRecDepth 100000
set_option maxHeartbeats 4000000
namespace K01
open PySem PySem.Spec PyProof.Rows L2 EL
abbrev s_E_begin : Stmt := (inClass (topS 13) 1)
theorem sc_E_begin : FnScope ["self"] ["self"] (defScope s_E_begin) := ⟨rfl, rfl, rfl, by decide +kernel, rfl, by decide +kernel, by decide +kernel⟩
abbrev s_E_yes : Stmt := (inClass (topS 13) 2)
theorem sc_E_yes : FnScope ["self"] ["self"] (defScope s_E_yes) := ⟨rfl, rfl, rfl, by decide +kernel, rfl, by decide +kernel, by decide +kernel⟩
abbrev s_E_no : Stmt := (inClass (topS 13) 3)
theorem sc_E_no : FnScope ["self"] ["self"] (defScope s_E_no) := ⟨rfl, rfl, rfl, by decide +kernel, rfl, by decide +kernel, by decide +kernel⟩
abbrev s_E_ready : Stmt := (inClass (topS 13) 4)
theorem sc_E_ready : FnScope ["self"] ["self"] (defScope s_E_ready) := ⟨rfl, rfl, rfl, by decide +kernel, rfl, by decide +kernel, by decide +kernel⟩
abbrev s_E_agreed : Stmt := (inClass (topS 13) 5)
theorem sc_E_agreed : FnScope ["self"] ["self"] (defScope s_E_agreed) := ⟨rfl, rfl, rfl, by decide +kernel, rfl, by decide +kernel, by decide +kernel⟩
abbrev s_E_refused : Stmt := (inClass (topS 13) 6)
theorem sc_E_refused : FnScope ["self"] ["self"] (defScope s_E_refused) := ⟨rfl, rfl, rfl, by decide +kernel, rfl, by decide +kernel, by decide +kernel⟩
abbrev s_E_answers : Stmt := (inClass (topS 13) 7)
theorem sc_E_answers : FnScope ["self"] ["self"] (defScope s_E_answers) := ⟨rfl, rfl, rfl, by decide +kernel, rfl, by decide +kernel, by decide +kernel⟩
abbrev s_E_presume : Stmt := (inClass (topS 13) 8)
theorem sc_E_presume : FnScope ["self"] ["self"] (defScope s_E_presume) := ⟨rfl, rfl, rfl, by decide +kernel, rfl, by decide +kernel, by decide +kernel⟩
abbrev s_E_reads : Stmt := (inClass (topS 13) 9)
theorem sc_E_reads : FnScope ["self"] ["self"] (defScope s_E_reads) := ⟨rfl, rfl, rfl, by decide +kernel, rfl, by decide +kernel, by decide +kernel⟩
abbrev s_E_strange : Stmt := (inClass (topS 13) 10)
theorem sc_E_strange : FnScope ["self"] ["self"] (defScope s_E_strange) := ⟨rfl, rfl, rfl, by decide +kernel, rfl, by decide +kernel, by decide +kernel⟩
abbrev s_need_record : Stmt := (topS 15)
theorem sc_need_record : FnScope ["record"] ["record"] (defScope s_need_record) := ⟨rfl, rfl, rfl, by decide +kernel, rfl, by decide +kernel, by decide +kernel⟩
abbrev s_E_word : Stmt := (inClass (topS 13) 11)
theorem sc_E_word : FnScope ["self", "record"] ["self", "record"] (defScope s_E_word) := ⟨rfl, rfl, rfl, by decide +kernel, rfl, by decide +kernel, by decide +kernel⟩
abbrev s_E_understands : Stmt := (inClass (topS 13) 12)
theorem sc_E_understands : FnScope ["self", "record"] ["self", "record"] (defScope s_E_understands) := ⟨rfl, rfl, rfl, by decide +kernel, rfl, by decide +kernel, by decide +kernel⟩
abbrev s_l_seen : Stmt := (topS 30)
theorem sc_l_seen : FnScope ["_law_made", "_law_found"] ["_law_made"] (defScope s_l_seen) := ⟨rfl, rfl, rfl, by decide +kernel, rfl, by decide +kernel, by decide +kernel⟩
theorem lk_w (S : Sheet) : S.ed.lookup ("own_words" : Str) = some (.tup ((notesS.map S.f).map D.str)) := by
  simp [Sheet.ed, edF, List.lookup]
theorem n_rw' : (("own_rest" : Str) == "own_words") = false := by decide +kernel
theorem n_kw' : (("own_known" : Str) == "own_words") = false := by decide +kernel
theorem n_kr' : (("own_known" : Str) == "own_rest") = false := by decide +kernel
theorem lk_r (S : Sheet) : S.ed.lookup ("own_rest" : Str) = some (.tup [.tup (S.ans.map D.str), .str S.pre, .tup (S.rds.map D.str), .str S.sg]) := by
  unfold Sheet.ed edF
  rw [List.lookup_cons, n_rw', List.lookup_cons]
  simp
theorem lk_k (S : Sheet) : S.ed.lookup ("own_known" : Str) = some (.lst ((knownS (notesS.map S.f) S.rds).map D.str)) := by
  unfold Sheet.ed edF
  rw [List.lookup_cons, n_kw', List.lookup_cons, n_kr', List.lookup_cons]
  simp
theorem known_f (f : Str → Str) (rds : List Str) : ∀ ns : List Str, (((ns.zip (ns.map f)).filter fun p => !(p.2 == ("none" : Str)) || decide (p.1 ∈ rds)).map (·.1)) = ns.filter fun n => !(f n == ("none" : Str)) || decide (n ∈ rds)
  | [] => rfl
  | n :: ns => by
    rw [List.map_cons, List.zip_cons_cons, List.filter_cons, List.filter_cons]
    have ih := known_f f rds ns
    split
    · rw [List.map_cons, ih]
    · exact ih
def Sheet.knows (S : Sheet) (n : Str) : Bool := !(S.f n == ("none" : Str)) || decide (n ∈ S.rds)
theorem in_known (S : Sheet) {n : Str} (h : n ∈ notesS) : inD (.str n) ((knownS (notesS.map S.f) S.rds).map D.str) = S.knows n := by
  unfold knownS
  rw [known_f]
  by_cases c : S.knows n = true
  · rw [c]
    exact inD_str.mpr (List.mem_filter.mpr ⟨h, c⟩)
  · have c' : S.knows n = false := by simpa using c
    rw [c']
    exact Bool.eq_false_iff.mpr fun z => c (List.mem_filter.mp (inD_str.mp z)).2
theorem idx_of {n : Str} (h : n ∈ notesS) : ∃ j : Nat, j < 6 ∧ notesS[j]? = some n ∧ ∀ m, m < j → notesS[m]? ≠ some n := by
  obtain ⟨j, hj, e⟩ := List.mem_iff_getElem.mp h
  refine ⟨j, hj, by rw [List.getElem?_eq_getElem hj, e], fun m hm z => ?_⟩
  obtain ⟨hm', e'⟩ := List.getElem?_eq_some_iff.mp z
  exact absurd ((List.getElem_inj notes_nd).mp (e'.trans e.symm)) (by omega)
theorem atI_nat {xs : List D} {j : Nat} {x : D} (h : xs[j]? = some x) : atI xs (j : Int) = some x := by
  have hl := (List.getElem?_eq_some_iff.mp h).1
  unfold atI ixN
  rw [if_pos (by omega), if_pos (by omega)]
  exact h
section
variable {P : Program} {W : World} {K : PySem.W.Frag} {mg : Str → Option Value} {base : Heap} {C : Addr}
def ok_p (C : Addr) (g : Sheet → D) : OkF := fun _ ds R => ∃ S : Sheet, ds = [.obj C S.ed] ∧ R (g S)
theorem Pr_begin (hC : Cls K C) (n1 : NoAttr K C "own_words") (F : PropAt K C "begin" "Edition.begin" s_E_begin) : PropD P W K mg base C "begin" 1 (SpF K (ok_p C fun S => .str (S.f "begin"))) := by
  refine prop_ok (k := 0) hC F sc_E_begin (by rintro w ds R ⟨S, rfl, _⟩; rfl) (fun _ _ _ _ h => h) (fun f cdv A outer s H E hr => ⟨_, (pss_one (ps_ret (pe_ix ix_tup (pe_fld (pv 0) rfl) pe_int (fun _ _ => rfl)))), ?_⟩)
  rintro wd ds R ⟨S, rfl, q⟩
  exact es_ret (wp_op (wp_fld (wp_var rfl ⟨C, _, _, rfl, hC, n1, lk_w S, wp_int (w2_ixT rfl ⟨.refl _, q⟩)⟩)))
theorem Pr_yes (hC : Cls K C) (n1 : NoAttr K C "own_words") (F : PropAt K C "yes" "Edition.yes" s_E_yes) : PropD P W K mg base C "yes" 1 (SpF K (ok_p C fun S => .str (S.f "yes"))) := by
  refine prop_ok (k := 0) hC F sc_E_yes (by rintro w ds R ⟨S, rfl, _⟩; rfl) (fun _ _ _ _ h => h) (fun f cdv A outer s H E hr => ⟨_, (pss_one (ps_ret (pe_ix ix_tup (pe_fld (pv 0) rfl) pe_int (fun _ _ => rfl)))), ?_⟩)
  rintro wd ds R ⟨S, rfl, q⟩
  exact es_ret (wp_op (wp_fld (wp_var rfl ⟨C, _, _, rfl, hC, n1, lk_w S, wp_int (w2_ixT rfl ⟨.refl _, q⟩)⟩)))
theorem Pr_no (hC : Cls K C) (n1 : NoAttr K C "own_words") (F : PropAt K C "no" "Edition.no" s_E_no) : PropD P W K mg base C "no" 1 (SpF K (ok_p C fun S => .str (S.f "no"))) := by
  refine prop_ok (k := 0) hC F sc_E_no (by rintro w ds R ⟨S, rfl, _⟩; rfl) (fun _ _ _ _ h => h) (fun f cdv A outer s H E hr => ⟨_, (pss_one (ps_ret (pe_ix ix_tup (pe_fld (pv 0) rfl) pe_int (fun _ _ => rfl)))), ?_⟩)
  rintro wd ds R ⟨S, rfl, q⟩
  exact es_ret (wp_op (wp_fld (wp_var rfl ⟨C, _, _, rfl, hC, n1, lk_w S, wp_int (w2_ixT rfl ⟨.refl _, q⟩)⟩)))
theorem Pr_ready (hC : Cls K C) (n1 : NoAttr K C "own_words") (F : PropAt K C "ready" "Edition.ready" s_E_ready) : PropD P W K mg base C "ready" 1 (SpF K (ok_p C fun S => .str (S.f "ready"))) := by
  refine prop_ok (k := 0) hC F sc_E_ready (by rintro w ds R ⟨S, rfl, _⟩; rfl) (fun _ _ _ _ h => h) (fun f cdv A outer s H E hr => ⟨_, (pss_one (ps_ret (pe_ix ix_tup (pe_fld (pv 0) rfl) pe_int (fun _ _ => rfl)))), ?_⟩)
  rintro wd ds R ⟨S, rfl, q⟩
  exact es_ret (wp_op (wp_fld (wp_var rfl ⟨C, _, _, rfl, hC, n1, lk_w S, wp_int (w2_ixT rfl ⟨.refl _, q⟩)⟩)))
theorem Pr_agreed (hC : Cls K C) (n1 : NoAttr K C "own_words") (F : PropAt K C "agreed" "Edition.agreed" s_E_agreed) : PropD P W K mg base C "agreed" 1 (SpF K (ok_p C fun S => .str (S.f "agreed"))) := by
  refine prop_ok (k := 0) hC F sc_E_agreed (by rintro w ds R ⟨S, rfl, _⟩; rfl) (fun _ _ _ _ h => h) (fun f cdv A outer s H E hr => ⟨_, (pss_one (ps_ret (pe_ix ix_tup (pe_fld (pv 0) rfl) pe_int (fun _ _ => rfl)))), ?_⟩)
  rintro wd ds R ⟨S, rfl, q⟩
  exact es_ret (wp_op (wp_fld (wp_var rfl ⟨C, _, _, rfl, hC, n1, lk_w S, wp_int (w2_ixT rfl ⟨.refl _, q⟩)⟩)))
theorem Pr_refused (hC : Cls K C) (n1 : NoAttr K C "own_words") (F : PropAt K C "refused" "Edition.refused" s_E_refused) : PropD P W K mg base C "refused" 1 (SpF K (ok_p C fun S => .str (S.f "refused"))) := by
  refine prop_ok (k := 0) hC F sc_E_refused (by rintro w ds R ⟨S, rfl, _⟩; rfl) (fun _ _ _ _ h => h) (fun f cdv A outer s H E hr => ⟨_, (pss_one (ps_ret (pe_ix ix_tup (pe_fld (pv 0) rfl) pe_int (fun _ _ => rfl)))), ?_⟩)
  rintro wd ds R ⟨S, rfl, q⟩
  exact es_ret (wp_op (wp_fld (wp_var rfl ⟨C, _, _, rfl, hC, n1, lk_w S, wp_int (w2_ixT rfl ⟨.refl _, q⟩)⟩)))
theorem Pr_answers (hC : Cls K C) (n2 : NoAttr K C "own_rest") (F : PropAt K C "answers" "Edition.answers" s_E_answers) : PropD P W K mg base C "answers" 1 (SpF K (ok_p C fun S => .tup (S.ans.map D.str))) := by
  refine prop_ok (k := 0) hC F sc_E_answers (by rintro w ds R ⟨S, rfl, _⟩; rfl) (fun _ _ _ _ h => h) (fun f cdv A outer s H E hr => ⟨_, (pss_one (ps_ret (pe_ix ix_tup (pe_fld (pv 0) rfl) pe_int (fun _ _ => rfl)))), ?_⟩)
  rintro wd ds R ⟨S, rfl, q⟩
  exact es_ret (wp_op (wp_fld (wp_var rfl ⟨C, _, _, rfl, hC, n2, lk_r S, wp_int (w2_ixT rfl ⟨.refl _, q⟩)⟩)))
theorem Pr_presume (hC : Cls K C) (n2 : NoAttr K C "own_rest") (F : PropAt K C "presume" "Edition.presume" s_E_presume) : PropD P W K mg base C "presume" 1 (SpF K (ok_p C fun S => .str S.pre)) := by
  refine prop_ok (k := 0) hC F sc_E_presume (by rintro w ds R ⟨S, rfl, _⟩; rfl) (fun _ _ _ _ h => h) (fun f cdv A outer s H E hr => ⟨_, (pss_one (ps_ret (pe_ix ix_tup (pe_fld (pv 0) rfl) pe_int (fun _ _ => rfl)))), ?_⟩)
  rintro wd ds R ⟨S, rfl, q⟩
  exact es_ret (wp_op (wp_fld (wp_var rfl ⟨C, _, _, rfl, hC, n2, lk_r S, wp_int (w2_ixT rfl ⟨.refl _, q⟩)⟩)))
theorem Pr_reads (hC : Cls K C) (n2 : NoAttr K C "own_rest") (F : PropAt K C "reads" "Edition.reads" s_E_reads) : PropD P W K mg base C "reads" 1 (SpF K (ok_p C fun S => .tup (S.rds.map D.str))) := by
  refine prop_ok (k := 0) hC F sc_E_reads (by rintro w ds R ⟨S, rfl, _⟩; rfl) (fun _ _ _ _ h => h) (fun f cdv A outer s H E hr => ⟨_, (pss_one (ps_ret (pe_ix ix_tup (pe_fld (pv 0) rfl) pe_int (fun _ _ => rfl)))), ?_⟩)
  rintro wd ds R ⟨S, rfl, q⟩
  exact es_ret (wp_op (wp_fld (wp_var rfl ⟨C, _, _, rfl, hC, n2, lk_r S, wp_int (w2_ixT rfl ⟨.refl _, q⟩)⟩)))
theorem Pr_strange (hC : Cls K C) (n2 : NoAttr K C "own_rest") (F : PropAt K C "strange" "Edition.strange" s_E_strange) : PropD P W K mg base C "strange" 1 (SpF K (ok_p C fun S => .str S.sg)) := by
  refine prop_ok (k := 0) hC F sc_E_strange (by rintro w ds R ⟨S, rfl, _⟩; rfl) (fun _ _ _ _ h => h) (fun f cdv A outer s H E hr => ⟨_, (pss_one (ps_ret (pe_ix ix_tup (pe_fld (pv 0) rfl) pe_int (fun _ _ => rfl)))), ?_⟩)
  rintro wd ds R ⟨S, rfl, q⟩
  exact es_ret (wp_op (wp_fld (wp_var rfl ⟨C, _, _, rfl, hC, n2, lk_r S, wp_int (w2_ixT rfl ⟨.refl _, q⟩)⟩)))
def ok_need : OkF := fun _ ds R => ∃ n : Str, ds = [.str n] ∧ n ∈ notesS ∧ R .non
theorem D_need_record (gR : ConstT K mg "RECORDS" notesS) (M_is_one_of : Def P W K mg base "is_one_of" 1 ["thing", "words"] (SpF K ok_is_one_of)) (F : DefAt K mg "need_record" s_need_record ["record"]) : Def P W K mg base "need_record" 2 ["record"] (SpF K ok_need) := by
  obtain ⟨aR, g_RECORDS, rR⟩ := gR
  refine def_ok (k := 1) F sc_need_record (by rintro w ds R ⟨n, rfl, _⟩; rfl) (fun _ _ _ _ h => h) (fun f cdv A outer s H E hr => ⟨_, (pss_one (ps_if (pt_not (pt_val (pe_callD M_is_one_of hr (by decide) (by rfl) (pa_cons (pv 0) (pa_cons (pe_globA (by rfl) g_RECORDS) pa_nil))))) (pss_one ps_never) pss_nil)), ?_⟩)
  rintro wd ds R ⟨n, rfl, hn, q⟩
  refine es_if (wt_not (wt_B (wp_call0 (wa_cons (wp_var rfl (wa_one (wp_cst rR ⟨_, _, rfl, rfl, flat_strD _, ⟨_, rfl, ?_⟩⟩)))))))
  rw [oneOf_str hn]
  exact es_next ⟨.refl _, q⟩
def ok_word (C : Addr) : OkF := fun _ ds R => ∃ (S : Sheet) (n : Str), ds = [.obj C S.ed, .str n] ∧ n ∈ notesS ∧ R (.str (S.f n))
/-- a module's tuple, as an object of the module -/
def ConstK (K : PySem.W.Frag) (mg : Str → Option Value) (nm : Str) (ss : List Str) : Prop := ∃ a, mg nm = some (.ref a) ∧ (∃ ob : Obj, K.lookup a = some ob ∧ ob.cls = .type "tuple" ∧ ob.dict = none) ∧ ∀ G : Hp, Rep K G (.ref a) (.tup (ss.map D.str))
theorem Me_word (hC : Cls K C) (n1 : NoAttr K C "own_words") (gR : ConstK K mg "RECORDS" notesS) (M_need_record : Def P W K mg base "need_record" 2 ["record"] (SpF K ok_need)) (F : MethAt K C "word" "Edition.word" s_E_word ["self", "record"]) : MethD P W K mg base C "word" 3 ["self", "record"] (SpF K (ok_word C)) := by
  obtain ⟨aR, g_RECORDS, kR, rR⟩ := gR
  refine meth_ok (k := 2) hC F sc_E_word (by rintro w ds R ⟨S, n, rfl, _⟩; rfl) (fun _ _ _ _ h => h) (fun f cdv A outer s H E hr => ⟨_, (pss_cons (ps_expr (pe_callD M_need_record hr (by decide) (by rfl) (pa_cons (pv 1) pa_nil)))
      (pss_one (ps_ret (pe_ix ix_tup (pe_fld (pv 0) rfl) (pe_bm PySem.F.plainAttrs_tuple PySem.F.slot_tuple_index PySem.F.type_tuple_index mt_tup_index (pe_globA (by rfl) g_RECORDS) (pa_cons (pv 1) pa_nil)) (fun _ _ => rfl))))), ?_⟩)
  rintro wd ds R ⟨S, n, rfl, hn, q⟩
  obtain ⟨j, hj, e1, e2⟩ := idx_of hn
  refine es_seq (es_drop (wp_call0 (wa_one (wp_var rfl ⟨n, rfl, hn, ?_⟩))))
  refine es_ret (wp_op (wp_fld (wp_var rfl ⟨C, _, _, rfl, hC, n1, lk_w S, wp_tupIndex kR rR (wp_var rfl ⟨n, j, rfl, e1, e2, w2_ixT (atI_nat ?_) ⟨.refl _, q⟩⟩)⟩)))
  rw [List.getElem?_map, List.getElem?_map, e1]; rfl
def ok_und (C : Addr) : OkF := fun _ ds R => ∃ (S : Sheet) (n : Str), ds = [.obj C S.ed, .str n] ∧ n ∈ notesS ∧ R (.bl (S.knows n))
theorem Me_understands (hC : Cls K C) (n3 : NoAttr K C "own_known") (M_need_record : Def P W K mg base "need_record" 2 ["record"] (SpF K ok_need)) (F : MethAt K C "understands" "Edition.understands" s_E_understands ["self", "record"]) : MethD P W K mg base C "understands" 3 ["self", "record"] (SpF K (ok_und C)) := by
  refine meth_ok (k := 2) hC F sc_E_understands (by rintro w ds R ⟨S, n, rfl, _⟩; rfl) (fun _ _ _ _ h => h) (fun f cdv A outer s H E hr => ⟨_, (pss_cons (ps_expr (pe_callD M_need_record hr (by decide) (by rfl) (pa_cons (pv 1) pa_nil)))
      (pss_one (ps_ret (pe_cmpR (op_inA (K := K) rfl) (pv 1) (pe_fld (pv 0) rfl) (by rfl))))), ?_⟩)
  rintro wd ds R ⟨S, n, rfl, hn, q⟩
  refine es_seq (es_drop (wp_call0 (wa_one (wp_var rfl ⟨n, rfl, hn, ?_⟩))))
  refine es_ret (wp_op (wp_var rfl (wp_fld (wp_var rfl ⟨C, _, _, rfl, hC, n3, lk_k S, w2_inL rfl (flat_strD _) ⟨.refl _, ?_⟩⟩))))
  rw [in_known S hn]; exact q
end
end K01

set_option Elab.async false
set_option linter.all false
set_option maxRecDepth 100000
set_option maxHeartbeats 4000000
namespace K01
open PySem PySem.Spec PyProof.Rows L2 EL
abbrev s_edition_of : Stmt := (topS 14)
theorem sc_edition_of : FnScope ["words", "rest", "begin", "yes", "no", "ready", "agreed", "refused", "answers", "presume", "reads", "strange"] ["words", "rest"] (defScope s_edition_of) := ⟨rfl, rfl, rfl, by decide +kernel, rfl, by decide +kernel, by decide +kernel⟩
abbrev s_E_with_word : Stmt := (inClass (topS 13) 13)
theorem sc_E_with_word : FnScope ["self", "record", "word", "words", "one", "own"] ["self", "record", "word"] (defScope s_E_with_word) := ⟨rfl, rfl, rfl, by decide +kernel, rfl, by decide +kernel, by decide +kernel⟩
abbrev s_E_with_reads : Stmt := (inClass (topS 13) 14)
theorem sc_E_with_reads : FnScope ["self", "records"] ["self", "records"] (defScope s_E_with_reads) := ⟨rfl, rfl, rfl, by decide +kernel, rfl, by decide +kernel, by decide +kernel⟩
abbrev s_E_eq : Stmt := (inClass (topS 13) 15)
theorem sc_E_eq : FnScope ["self", "other"] ["self", "other"] (defScope s_E_eq) := ⟨rfl, rfl, rfl, by decide +kernel, rfl, by decide +kernel, by decide +kernel⟩
/-- what is equal in equal editions -/
def Sheet.key (S : Sheet) : List Str × List Str × Str × List Str × Str := (notesS.map S.f, S.ans, S.pre, S.rds, S.sg)
theorem eq_strs : ∀ (xs ys : List Str), PyData.eqvAll (xs.map PyData.str) (ys.map PyData.str) = decide (xs = ys)
  | [], [] => by simp [PyData.eqvAll]
  | [], _ :: _ => by simp [PyData.eqvAll]
  | _ :: _, [] => by simp [PyData.eqvAll]
  | x :: xs, y :: ys => by
    have ih := eq_strs xs ys
    simp only [List.map_cons, PyData.eqvAll, ih, PyData.eqv, List.cons.injEq]
    by_cases c : x = y <;> by_cases d : xs = ys <;> simp [c, d]
theorem eqD_tup (xs ys : List Str) : eqD (.tup (xs.map D.str)) (.tup (ys.map D.str)) = decide (xs = ys) := by
  unfold eqD py
  rw [pys_str, pys_str]
  show PyData.eqvAll _ _ = _
  exact eq_strs xs ys
theorem py_tup (xs : List Str) : py (.tup (xs.map D.str)) = .tuple (xs.map PyData.str) := by
  unfold py; rw [pys_str]
def Sheet.rest (S : Sheet) : D := .tup [.tup (S.ans.map D.str), .str S.pre, .tup (S.rds.map D.str), .str S.sg]
theorem eqD_rest (S T : Sheet) : eqD S.rest T.rest = decide (S.key.2 = T.key.2) := by
  unfold Sheet.rest eqD
  simp only [py, pys, pys_str, PyData.eqv, PyData.eqvAll, eq_strs, Sheet.key, Prod.mk.injEq, Bool.and_true, Bool.decide_and]
  have e : ∀ a b : Str, (a == b) = decide (a = b) := fun a b => by by_cases c : a = b <;> simp [c]
  rw [e, e]
theorem dep0 : ∀ xs : List Str, PyData.depthAll (xs.map PyData.str) = 0
  | [] => by simp [PyData.depthAll]
  | x :: xs => by simp [PyData.depthAll, PyData.depth, dep0 xs]
theorem dep_rest (S : Sheet) : (py S.rest).depth ≤ 50 := by
  unfold Sheet.rest
  simp [py, pys, pys_str, PyData.depth, PyData.depthAll, dep0]
theorem pl_rest (S : Sheet) : pl S.rest = true := by
  unfold Sheet.rest
  simp [pl, pls, pls_str]
section
variable {P : Program} {W : World} {K : PySem.W.Frag} {mg : Str → Option Value} {base : Heap} {C : Addr}
def ok_eo (C : Addr) : OkF := fun _ ds R => ∃ (S : Sheet) (dw da dr : D) (la lr : List Str), ds = [dw, .tup [da, .str S.pre, dr, .str S.sg]] ∧ (dw = .lst ((notesS.map S.f).map D.str) ∨ dw = .tup ((notesS.map S.f).map D.str)) ∧ S.Ok ∧
  (da = .lst (la.map D.str) ∨ da = .tup (la.map D.str)) ∧ la.Perm S.ans ∧ (dr = .lst (lr.map D.str) ∨ dr = .tup (lr.map D.str)) ∧ lr.Perm S.rds ∧ R (.obj C S.ed)
theorem D_edition_of (M_Edition : ClsD P W K mg base "Edition" C 3 ["self", "begin", "yes", "no", "ready", "agreed", "refused", "answers", "presume", "reads", "strange"] (ok_E_init K)) (F : DefAt K mg "edition_of" s_edition_of ["words", "rest"]) : Def P W K mg base "edition_of" 5 ["words", "rest"] (SpF K (ok_eo C)) := by
  refine def_ok (k := 4) F sc_edition_of (by rintro w ds R ⟨S, dw, da, dr, la, lr, rfl, _⟩; rfl) (fun _ _ _ _ h => h) (fun f cdv A outer s H E hr => ⟨_, (pss_cons (ps_alt (ps_asg (pv 0) (pg_tup rfl (pgs_cons (pg_name (i := 2) sc_edition_of.nd rfl (Or.inl rfl)) (pgs_cons (pg_name (i := 3) sc_edition_of.nd rfl (Or.inl rfl)) (pgs_cons (pg_name (i := 4) sc_edition_of.nd rfl (Or.inl rfl)) (pgs_cons (pg_name (i := 5) sc_edition_of.nd rfl (Or.inl rfl)) (pgs_cons (pg_name (i := 6) sc_edition_of.nd rfl (Or.inl rfl)) (pgs_cons (pg_name (i := 7) sc_edition_of.nd rfl (Or.inl rfl)) pgs_nil)))))))) (ps_asg (pv 0) (pg_lst rfl (pgs_cons (pg_name (i := 2) sc_edition_of.nd rfl (Or.inl rfl)) (pgs_cons (pg_name (i := 3) sc_edition_of.nd rfl (Or.inl rfl)) (pgs_cons (pg_name (i := 4) sc_edition_of.nd rfl (Or.inl rfl)) (pgs_cons (pg_name (i := 5) sc_edition_of.nd rfl (Or.inl rfl)) (pgs_cons (pg_name (i := 6) sc_edition_of.nd rfl (Or.inl rfl)) (pgs_cons (pg_name (i := 7) sc_edition_of.nd rfl (Or.inl rfl)) pgs_nil)))))))))
      (pss_cons (ps_asg (pv 1) (pg_tup rfl (pgs_cons (pg_name (i := 8) sc_edition_of.nd rfl (Or.inl rfl)) (pgs_cons (pg_name (i := 9) sc_edition_of.nd rfl (Or.inl rfl)) (pgs_cons (pg_name (i := 10) sc_edition_of.nd rfl (Or.inl rfl)) (pgs_cons (pg_name (i := 11) sc_edition_of.nd rfl (Or.inl rfl)) pgs_nil))))))
      (pss_one (ps_ret (pe_makeD M_Edition hr (by decide) (by rfl) (pa_cons (pv 2) (pa_cons (pv 3) (pa_cons (pv 4) (pa_cons (pv 5) (pa_cons (pv 6) (pa_cons (pv 7) (pa_cons (pv 8) (pa_cons (pv 9) (pa_cons (pv 10) (pa_cons (pv 11) pa_nil))))))))))))))), ?_⟩)
  rintro wd ds R ⟨S, dw, da, dr, la, lr, rfl, hw, hS, ha, pa, hr', pr, q⟩
  refine es_seqM (fun w e => w = wd ∧ e = [some dw, some (.tup [da, .str S.pre, dr, .str S.sg]), some (.str (S.f "begin")), some (.str (S.f "yes")), some (.str (S.f "no")), some (.str (S.f "ready")), some (.str (S.f "agreed")), some (.str (S.f "refused")), none, none, none, none]) ?_ ?_
  · rcases hw with rfl | rfl
    · exact es_altR (es_asgT (wp_var rfl ⟨_, wg_lst rfl (wgs_cons wg_name (wgs_cons wg_name (wgs_cons wg_name (wgs_cons wg_name (wgs_cons wg_name (wgs_cons wg_name wgs_nil)))))), rfl, rfl⟩))
    · exact es_altL (es_asgT (wp_var rfl ⟨_, wg_tup rfl (wgs_cons wg_name (wgs_cons wg_name (wgs_cons wg_name (wgs_cons wg_name (wgs_cons wg_name (wgs_cons wg_name wgs_nil)))))), rfl, rfl⟩))
  rintro w e ⟨rfl, rfl⟩
  refine es_seq (es_asgT (wp_var rfl ⟨_, wg_tup rfl (wgs_cons wg_name (wgs_cons wg_name (wgs_cons wg_name (wgs_cons wg_name wgs_nil)))), ?_⟩))
  refine es_ret (wp_make (wa_cons (wp_var rfl (wa_cons (wp_var rfl (wa_cons (wp_var rfl (wa_cons (wp_var rfl (wa_cons (wp_var rfl (wa_cons (wp_var rfl (wa_cons (wp_var rfl (wa_cons (wp_var rfl (wa_cons (wp_var rfl (wa_cons (wp_var rfl (wa_nil (?_)))))))))))))))))))))))
  exact ⟨_, init_of hS (.inl ha) pa (.inl hr') pr, .refl _, q⟩
def ok_ww (C : Addr) : OkF := fun _ ds R => ∃ (S : Sheet) (n v : Str), ds = [.obj C S.ed, .str n, .str v] ∧ S.Ok ∧ n ∈ notesS ∧ v ∈ wordsS ∧ R (.obj C (S.putW n v).ed)
def fW (n v : Str) : D → D
  | .tup [.str m, o] => if m = n then .str v else o
  | d => d
theorem zip_f (f : Str → Str) (n v : Str) : ∀ ns : List Str, (zipD (ns.map D.str) ((ns.map f).map D.str)).map (fW n v) = (ns.map fun m => if m = n then v else f m).map D.str
  | [] => rfl
  | m :: ns => by
    have e : zipD ((m :: ns).map D.str) (((m :: ns).map f).map D.str) = .tup [.str m, .str (f m)] :: zipD (ns.map D.str) ((ns.map f).map D.str) := rfl
    rw [e, List.map_cons, zip_f f n v ns, List.map_cons, List.map_cons]
    show (if m = n then D.str v else D.str (f m)) :: _ = _
    by_cases c : m = n <;> simp [c]
theorem Me_with_word (hC : Cls K C) (n1 : NoAttr K C "own_words") (n2 : NoAttr K C "own_rest") (b_zip : mg "zip" = none) (gR : ConstT K mg "RECORDS" notesS) (M_need_record : Def P W K mg base "need_record" 2 ["record"] (SpF K ok_need)) (M_edition_of : Def P W K mg base "edition_of" 5 ["words", "rest"] (SpF K (ok_eo C)))
    (F : MethAt K C "with_word" "Edition.with_word" s_E_with_word ["self", "record", "word"]) : MethD P W K mg base C "with_word" 6 ["self", "record", "word"] (SpF K (ok_ww C)) := by
  obtain ⟨aR, g_RECORDS, rR⟩ := gR
  refine meth_ok (k := 5) hC F sc_E_with_word (by rintro w ds R ⟨S, n, v, rfl, _⟩; rfl) (fun _ _ _ _ h => h) (fun f cdv A outer s H E hr => ⟨_, (pss_cons (ps_expr (pe_callD M_need_record hr (by decide) (by rfl) (pa_cons (pv 1) pa_nil)))
      (pss_cons (ps_setLc (i := 3) (own := [("one", 4), ("own", 5)]) (g := (gTup K 2 (gCons (gName 4) (gCons (gName 5) gNil)))) (tt := tYes) (by rfl) sc_E_with_word.nd rfl rfl (sw_true rfl rfl rfl (by decide +kernel)) (RZ.pi_zipA (by rfl) b_zip (pa_cons (pe_globA (by rfl) g_RECORDS) (pa_cons (pe_fld (pv 0) rfl) pa_nil))) (blkOk_by (own := [("one", 4), ("own", 5)]) (N := ["self", "record", "word", "words", "one", "own"]) (sc := defScope s_E_with_word) (by decide +kernel)) (fun _ _ _ _ _ => (pg_tup rfl (pgs_cons (pg_name (i := 4) sc_E_with_word.nd rfl (Or.inl rfl)) (pgs_cons (pg_name (i := 5) sc_E_with_word.nd rfl (Or.inl rfl)) pgs_nil)))) (fun _ _ _ _ _ => pts_nil) (fun _ _ _ _ _ => (pe_ifExp (pt_cmpR op_eq (pv 4) (pv 1) (nomark _)) (pv 2) (pv 5))))
      (pss_one (ps_ret (pe_callD M_edition_of hr (by decide) (by rfl) (pa_cons (pv 3) (pa_cons (pe_fld (pv 0) rfl) pa_nil))))))), ?_⟩)
  rintro wd ds R ⟨S, n, v, rfl, hS, hn, hv, q⟩
  refine es_seq (es_drop (wp_call0 (wa_one (wp_var rfl ⟨n, rfl, hn, ?_⟩))))
  refine es_seq (es_asg (wp_lcM (cc := fun _ => true) (f := fW n v) (wi_zip (wa_cons (wp_cst rR (wa_one (wp_fld (wp_var rfl ⟨C, _, _, rfl, hC, n1, lk_w S, _, _, .inr rfl, by simp [zipD_length, notesS], ?_, ?_⟩))))))))
  · intro x hx
    obtain ⟨m, o, rfl⟩ : ∃ m o : Str, x = .tup [.str m, .str o] := by
      obtain ⟨⟨s, t⟩, hz, rfl⟩ := List.mem_map.mp hx
      rw [List.zip_map] at hz
      obtain ⟨⟨s', t'⟩, _, ee⟩ := List.mem_map.mp hz
      cases ee
      exact ⟨s', t', rfl⟩
    refine ⟨_, wgv_tup rfl (wgvs_cons (wgv_name (by simp)) (wgvs_cons (wgv_name (by simp)) wgvs_nil)), fun w2 l2 => wt_yes ⟨rfl, rfl, fun _ => wp_if (wt_test (wp_op (wp_var rfl (wp_var rfl (w2_eqS ⟨_, rfl, ?_⟩)))))⟩⟩
    by_cases c : m = n
    · rw [if_pos (decide_eq_true c)]
      exact wp_var rfl ⟨rfl, (if_pos c).symm⟩
    · rw [if_neg (by simpa using c)]
      exact wp_var rfl ⟨rfl, (if_neg c).symm⟩
  · rw [List.filter_eq_self.mpr (by simp), zip_f]
    refine es_ret (wp_call0 (wa_cons (wp_var rfl (wa_one (wp_fld (wp_var rfl ⟨C, _, _, rfl, hC, n2, lk_r S, ?_⟩))))))
    exact ⟨S.putW n v, _, _, _, S.ans, S.rds, rfl, .inl rfl, hS.putW hv, .inr rfl, .refl _, .inr rfl, .refl _, .refl _, q⟩
def ok_wr (C : Addr) : OkF := fun _ ds R => ∃ (S : Sheet) (d : D) (l rd : List Str), ds = [.obj C S.ed, d] ∧ (d = .lst (l.map D.str) ∨ d = .tup (l.map D.str)) ∧ l.Perm rd ∧ Sheet.Ok { S with rds := rd } ∧ R (.obj C ({ S with rds := rd } : Sheet).ed)
theorem Me_with_reads (hC : Cls K C) (n1 : NoAttr K C "own_words") (n2 : NoAttr K C "own_rest") (M_edition_of : Def P W K mg base "edition_of" 5 ["words", "rest"] (SpF K (ok_eo C)))
    (F : MethAt K C "with_reads" "Edition.with_reads" s_E_with_reads ["self", "records"]) : MethD P W K mg base C "with_reads" 6 ["self", "records"] (SpF K (ok_wr C)) := by
  refine meth_ok (k := 5) hC F sc_E_with_reads (by rintro w ds R ⟨S, d, l, rd, rfl, _⟩; rfl) (fun _ _ _ _ h => h) (fun f cdv A outer s H E hr => ⟨_, (pss_one (ps_ret (pe_callD M_edition_of hr (by decide) (by rfl) (pa_cons (pe_fld (pv 0) rfl) (pa_cons (pe_tup (StX.pa_star (pe_slice sl_tupA (pe_fld (pv 0) rfl) po_none (po_some pe_int)) (pa_cons (pv 1) (pa_cons (pe_ix ix_tup (pe_fld (pv 0) rfl) pe_int (fun _ _ => rfl)) pa_nil)))) pa_nil))))), ?_⟩)
  rintro wd ds R ⟨S, d, l, rd, rfl, hd, hp, hS, q⟩
  refine es_ret (wp_call0 (wa_cons (wp_fld (wp_var rfl ⟨C, _, _, rfl, hC, n1, lk_w S, wa_one (wp_tup (wa_star (wp_slT (wp_fld (wp_var rfl ⟨C, _, _, rfl, hC, n2, lk_r S, _, rfl, wo_none (wo_some (wp_int ⟨2, rfl, _, .inl rfl, wa_cons (wp_var rfl (wa_one (wp_op (wp_fld (wp_var rfl ⟨C, _, _, rfl, hC, n2, lk_r S, wp_int (w2_ixT rfl ⟨by simp [EL.cutD, HT.sIx], ?_⟩)⟩)))))⟩))⟩)))))⟩))))
  exact ⟨{ S with rds := rd }, _, _, _, S.ans, l, rfl, .inr rfl, hS, .inr rfl, .refl _, hd, hp, .refl _, q⟩
def ok_eq (C : Addr) : OkF := fun _ ds R => (∃ S T : Sheet, ds = [.obj C S.ed, .obj C T.ed] ∧ R (.bl (decide (S.key = T.key)))) ∨ ∃ (S : Sheet) (d : D), ds = [.obj C S.ed, d] ∧ isB d = true ∧ R (.bl false)
theorem F_E_eq {f : Addr} {fd : FuncData} (hC : Cls K C) (n1 : NoAttr K C "own_words") (n2 : NoAttr K C "own_rest") (b_isinstance : mg "isinstance" = none) (g_Edition : mg "Edition" = some (.ref C)) (hi : IsC K C) (hk : PySem.W.kitOne K (.ref C) (.ref C) = some true) (hk2 : ∀ T ∈ (["NoneType", "bool", "int", "str", "list", "tuple"] : List String), PySem.W.kitOne K (.type T) (.ref C) = some false)
    (F : Fun K "__eq__" "Edition.__eq__" s_E_eq f fd) : FnOk P W K mg base CX0 1 f fd ["self", "other"] (SpF K (ok_eq C)) := by
  refine fn_ok (k := 0) F sc_E_eq (by rintro w ds R (⟨S, T, rfl, _⟩ | ⟨S, d, rfl, _⟩) <;> rfl) (fun _ _ _ _ h => h) (fun cdv A outer s H E hr => ⟨_, (pss_one (ps_ret (pe_and (pe_callB call_isi (by rfl) b_isinstance (by decide +kernel) (pa_cons (pv 1) (pa_cons (pe_globA (by rfl) g_Edition) pa_nil))) (pe_and (pe_cmpR (op_eqA (K := K) rfl hr.units) (pe_fld (pv 0) rfl) (pe_fld (pv 1) rfl) (nomark _)) (pe_one (pe_cmpR (op_eqA (K := K) rfl hr.units) (pe_fld (pv 0) rfl) (pe_fld (pv 1) rfl) (nomark _))))))), ?_⟩)
  rintro wd ds R (⟨S, T, rfl, q⟩ | ⟨S, d, rfl, hb, q⟩)
  · refine es_ret (wp_andV (wp_cb (wa_cons (wp_var rfl (wa_one (wp_cst (fun _ => .raw _) (wb_isi (b := true) (.own C) rfl (fun C' fs e => by cases e; exact hi) rfl hk ⟨_, rfl, ?_⟩)))))))
    refine wp_andV (wp_op (wp_fld (wp_var rfl ⟨C, _, _, rfl, hC, n1, lk_w S, wp_fld (wp_var rfl ⟨C, _, _, rfl, hC, n1, lk_w T, w2_eqP ?_ ?_ ?_ ⟨_, rfl, ?_⟩⟩)⟩)))
    · unfold pl; exact pls_str _
    · unfold pl; exact pls_str _
    · rw [py_tup, PyData.depth, dep0]; decide
    rw [eqD_tup]
    by_cases c : notesS.map S.f = notesS.map T.f
    · rw [decide_eq_true c]
      refine wp_op (wp_fld (wp_var rfl ⟨C, _, _, rfl, hC, n2, lk_r S, wp_fld (wp_var rfl ⟨C, _, _, rfl, hC, n2, lk_r T, w2_eqP (pl_rest S) (pl_rest T) (dep_rest S) ⟨.refl _, ?_⟩⟩)⟩))
      have e := eqD_rest S T
      have e2 : decide (S.key.2 = T.key.2) = decide (S.key = T.key) := decide_eq_decide.mpr ⟨fun h => Prod.ext c h, fun h => congrArg Prod.snd h⟩
      show R (.bl (eqD S.rest T.rest))
      rw [e, e2]; exact q
    · rw [decide_eq_false c]
      have e2 : decide (S.key = T.key) = false := decide_eq_false fun h => c (congrArg Prod.fst h)
      rw [e2] at q
      exact ⟨.refl _, q⟩
  · refine es_ret (wp_andV (wp_cb (wa_cons (wp_var rfl (wa_one (wp_cst (fun _ => .raw _) (wb_isi (b := false) (.own C) (isB_raw hb) (isB_obj hb) (isB_dct hb) ?_ ⟨_, rfl, .refl _, q⟩)))))))
    cases d <;> first | (cases hb; done) | exact hk2 _ (by simp)
end
end K01

set_option Elab.async false
set_option linter.all false
set_option maxRecDepth 100000
set_option maxHeartbeats 4000000
namespace K01
open PySem PySem.Spec PyProof.Rows L2 EL
abbrev s_l_by_name : Stmt := (topS 32)
theorem sc_l_by_name : FnScope ["_law_draw", "_law_sheet_here", "_law_verbs", "_law_answers_here", "_law_reads_here", "_law_made"] ["_law_draw", "_law_sheet_here"] (defScope s_l_by_name) := ⟨rfl, rfl, rfl, by decide +kernel, rfl, by decide +kernel, by decide +kernel⟩
section
variable {P : Program} {W : World} {K : PySem.W.Frag} {mg : Str → Option Value} {base : Heap} {C : Addr}
def ok_seen (C : Addr) : OkF := fun _ ds R => ∃ S : Sheet, ds = [.obj C S.ed] ∧ R (.lst S.parts)
theorem D_l_seen (P1 : PropD P W K mg base C "begin" 1 (SpF K (ok_p C fun S => .str (S.f "begin")))) (P2 : PropD P W K mg base C "yes" 1 (SpF K (ok_p C fun S => .str (S.f "yes")))) (P3 : PropD P W K mg base C "no" 1 (SpF K (ok_p C fun S => .str (S.f "no")))) (P4 : PropD P W K mg base C "ready" 1 (SpF K (ok_p C fun S => .str (S.f "ready"))))
    (P5 : PropD P W K mg base C "agreed" 1 (SpF K (ok_p C fun S => .str (S.f "agreed")))) (P6 : PropD P W K mg base C "refused" 1 (SpF K (ok_p C fun S => .str (S.f "refused")))) (P7 : PropD P W K mg base C "answers" 1 (SpF K (ok_p C fun S => .tup (S.ans.map D.str)))) (P8 : PropD P W K mg base C "presume" 1 (SpF K (ok_p C fun S => .str S.pre)))
    (P9 : PropD P W K mg base C "reads" 1 (SpF K (ok_p C fun S => .tup (S.rds.map D.str)))) (P10 : PropD P W K mg base C "strange" 1 (SpF K (ok_p C fun S => .str S.sg))) (F : DefAt K mg "_law_seen" s_l_seen ["_law_made"]) : Def P W K mg base "_law_seen" 3 ["_law_made"] (SpF K (ok_seen C)) := by
  refine def_ok (k := 2) F sc_l_seen (by rintro w ds R ⟨S, rfl, _⟩; rfl) (fun _ _ _ _ h => h) (fun f cdv A outer s H E hr => ⟨_, (pss_cons (ps_set (i := 1) sc_l_seen.nd rfl (Or.inl rfl) (pe_lst (pa_cons (pe_propD P1 hr (by decide) (pv 0)) (pa_cons (pe_propD P2 hr (by decide) (pv 0)) (pa_cons (pe_propD P3 hr (by decide) (pv 0)) (pa_cons (pe_propD P4 hr (by decide) (pv 0)) (pa_cons (pe_propD P5 hr (by decide) (pv 0)) (pa_cons (pe_propD P6 hr (by decide) (pv 0)) pa_nil))))))))
      (pss_one (ps_ret (pe_op op_catX (pv 1) (pe_lst (pa_cons (pe_propD P7 hr (by decide) (pv 0)) (pa_cons (pe_propD P8 hr (by decide) (pv 0)) (pa_cons (pe_propD P9 hr (by decide) (pv 0)) (pa_cons (pe_propD P10 hr (by decide) (pv 0)) pa_nil))))))))), ?_⟩)
  rintro wd ds R ⟨S, rfl, q⟩
  refine es_seq (es_asg (wp_lst (wa_cons (wp_prop (wp_var rfl ⟨_, rfl, S, rfl, wa_cons (wp_prop (wp_var rfl ⟨_, rfl, S, rfl, wa_cons (wp_prop (wp_var rfl ⟨_, rfl, S, rfl, wa_cons (wp_prop (wp_var rfl ⟨_, rfl, S, rfl, wa_cons (wp_prop (wp_var rfl ⟨_, rfl, S, rfl, wa_cons (wp_prop (wp_var rfl ⟨_, rfl, S, rfl, wa_nil (⟨by simp, ?_⟩)⟩))⟩))⟩))⟩))⟩))⟩)))))
  refine es_ret (wp_op (wp_var rfl (wp_lst (wa_cons (wp_prop (wp_var rfl ⟨_, rfl, S, rfl, wa_cons (wp_prop (wp_var rfl ⟨_, rfl, S, rfl, wa_cons (wp_prop (wp_var rfl ⟨_, rfl, S, rfl, wa_cons (wp_prop (wp_var rfl ⟨_, rfl, S, rfl, wa_nil (⟨by simp, ?_⟩)⟩))⟩))⟩))⟩))))))
  exact w2_cat (by simp) ⟨.refl _, q⟩
def ok_shuffledO : OkDO := fun ds R => ∃ (xs : List D), (ds = [.lst xs] ∨ ds = [.tup xs]) ∧ xs.length ≤ 100 ∧ (∀ ys : List D, (∀ y ∈ ys, y ∈ xs) → pls ys = true ∧ (py (.lst ys)).depth ≤ 50) ∧ ∀ ys p, ys.Perm xs → R [(p, .lst ys)] (.raw (.ref p))
theorem D_l_shuffledO (b_len : mg "len" = none) (b_list : mg "list" = none) (M_take : Def P W K mg base "_law_take" 2 ["_law_draw", "_law_size"] (SpD K 1 ok_take)) (F : DefAt K mg "_law_shuffled" s_l_shuffled ["_law_draw", "_law_some"]) : Def P W K mg base "_law_shuffled" 3 ["_law_draw", "_law_some"] (SpDO K 100 ok_shuffledO) := by
  refine def_okDO (k := 2) F sc_l_shuffled (by rintro ds R ⟨xs, rfl | rfl, _⟩ <;> rfl) (fun f cdv A outer s H E hr => ⟨_, (pss_cons (ps_par (i := 2) (j := 3) (by rfl) sc_l_shuffled.nd rfl rfl (by decide) rfl rfl (pa_cons (pe_callTy call_list_of (by rfl) b_list (by decide +kernel) (pa_cons (pv 1) pa_nil)) (pa_cons (pe_lst pa_nil) pa_nil)) (by rfl))
      (pss_cons (ps_while PassesOwn.never (pt_cmpR (op_neA (K := K) rfl hr.units) (pv 2) (pe_lst pa_nil) (nomark _)) (pss_one (ps_expr (pe_bm PySem.F.plainAttrs_list PySem.F.slot_list_append PySem.F.type_list_append mt_append (pv 3) (pa_cons (pe_bm PySem.F.plainAttrs_list PySem.F.slot_list_pop PySem.F.type_list_pop mt_popAt (pv 2) (pa_cons (pe_callD M_take hr (by decide) (by rfl) (pa_cons (pv 0) (pa_cons (pe_callB call_len_seq (by rfl) b_len PySem.boot_len (pa_cons (pv 2) pa_nil)) pa_nil))) pa_nil)) pa_nil)))))
      (pss_one (ps_ret (pv 3))))), ?_⟩)
  rintro wf r n ds R hw hn ⟨xs, hd, hx, hsh, q⟩
  obtain ⟨d, rfl, hd2⟩ : ∃ d, ds = [d] ∧ (d = .lst xs ∨ d = .tup xs) := by
    rcases hd with rfl | rfl
    · exact ⟨_, rfl, .inl rfl⟩
    · exact ⟨_, rfl, .inr rfl⟩
  refine es_seq (es_two (k := 1) rfl hd2 fun p1 p2 => es_seq ?_)
  refine es_while (fun m w e => ∃ (left fnd : List D), m = left.length ∧ (fnd ++ left).Perm xs ∧ w = (wf (n + fnd.length)).own K [(p2, .lst fnd), (p1, .lst left)] ∧ e = [some (.raw (.ref r.d)), some d, some (.raw (.ref p1)), some (.raw (.ref p2))]) xs.length ⟨xs, [], rfl, by simp, rfl, rfl⟩ ?_
  rintro m w e ⟨left, fnd, rfl, hp, rfl, rfl⟩
  have hlen := hp.length_eq
  rw [List.length_append] at hlen
  have hsub : ∀ y ∈ left, y ∈ xs := fun y hy => hp.mem_iff.mp (List.mem_append_right _ hy)
  refine wt_neO (k := 1) rfl rfl (hsh left hsub).1 (hsh left hsub).2 ?_
  refine ite2 (fun hb => ?_) (fun hb => ?_)
  · have hpos : 0 < left.length := by
      cases left with
      | nil => cases hb
      | cons => simp
    refine es_append (k := 0) rfl rfl ?_
    refine wp_popAt (k := 1) rfl rfl ?_
    refine wp_callD (wa_cons (wp_var rfl (wa_one (wp_cb (wa_one (wp_var rfl (wb_lenO (k := 1) rfl ?_)))))))
    refine ⟨fun t => (wf t).own K [(p2, .lst fnd), (p1, .lst left)], r, n + fnd.length, _, rfl, rfl, hw.own _, by omega, _, rfl, by omega, by omega, fun k k0 k1 => ?_⟩
    have hk : k.toNat < left.length := by omega
    refine ⟨_, _, left, k.toNat, left[k.toNat], rfl, by rw [Int.toNat_of_nonneg k0], rfl, List.getElem?_eq_getElem hk, by omega, ?_⟩
    refine ⟨_, _, fnd, rfl, rfl, by omega, ?_⟩
    refine ⟨(left.eraseIdx k.toNat).length, by rw [List.length_eraseIdx]; rw [if_pos hk]; omega, left.eraseIdx k.toNat, fnd ++ [left[k.toNat]], rfl, ?_, ?_, rfl⟩
    · refine List.Perm.trans ?_ hp
      rw [List.append_assoc]
      refine List.Perm.append_left _ ?_
      exact perm_erase left k.toNat hk
    · rw [List.length_append, List.length_singleton, Nat.add_assoc]
      rfl
  · have he : left = [] := by
      cases left with
      | nil => rfl
      | cons => exact absurd rfl hb
    subst he
    rw [List.append_nil] at hp
    exact es_ret (Wp.like (wp_var rfl ⟨_, fun G σ H env F o => ⟨G, Sm.refl _, o.le own_less⟩, n + fnd.length, _, by simp at hlen; omega, rfl, q fnd p2 hp⟩))
def ok_by_name (C : Addr) : OkD := fun ds R => ∃ S : Sheet, ds = [S.d] ∧ S.Ok ∧ R (.obj C S.ed)
theorem str_shuf {l : List Str} (ys : List D) (hy : ∀ y ∈ ys, y ∈ l.map D.str) : pls ys = true ∧ (py (.lst ys)).depth ≤ 50 := by
  obtain ⟨ss, rfl⟩ := strs_of fun y h => let ⟨s, _, e⟩ := List.mem_map.mp (hy y h); ⟨s, e.symm⟩
  exact ⟨pls_str ss, dep_strs ss⟩
theorem perm_str {l : List Str} {ys : List D} (h : ys.Perm (l.map D.str)) : ∃ ss : List Str, ys = ss.map D.str ∧ ss.Perm l := by
  obtain ⟨ss, rfl⟩ := strs_of fun y hy => let ⟨s, _, e⟩ := List.mem_map.mp (h.mem_iff.mp hy); ⟨s, e.symm⟩
  refine ⟨ss, rfl, ?_⟩
  have := h.map EL.strOf
  rw [List.map_map, List.map_map] at this
  have e : (EL.strOf ∘ D.str) = id := rfl
  rw [e, List.map_id, List.map_id] at this
  exact this
theorem ans_len : ∀ a ∈ ansS, a.length ≤ 2 := by decide +kernel
theorem D_l_by_name (M_shuffled : Def P W K mg base "_law_shuffled" 3 ["_law_draw", "_law_some"] (SpDO K 100 ok_shuffledO)) (CK_Edition : ClsK P W K mg base "Edition" C 3 ["strange", "reads", "presume", "answers", "refused", "agreed", "ready", "no", "yes", "begin"] (fun xs => xs.reverse) ["self", "begin", "yes", "no", "ready", "agreed", "refused", "answers", "presume", "reads", "strange"] (ok_E_init K))
    (F : DefAt K mg "_law_by_name" s_l_by_name ["_law_draw", "_law_sheet_here"]) : Def P W K mg base "_law_by_name" 5 ["_law_draw", "_law_sheet_here"] (SpD K 200 (ok_by_name C)) := by
  refine def_okD (k := 4) F sc_l_by_name (by rintro ds R ⟨S, rfl, _⟩; rfl) (fun f cdv A outer s H E hr => ⟨_, (pss_cons (ps_set (i := 2) sc_l_by_name.nd rfl (Or.inl rfl) (pe_dget (hu_of hr) (pv 1) pe_str (fun _ _ => rfl)))
      (pss_cons (ps_par (i := 3) (j := 4) (by rfl) sc_l_by_name.nd rfl rfl (by decide) rfl rfl (pa_cons (pe_callD M_shuffled hr (by decide) (by rfl) (pa_cons (pv 0) (pa_cons (pe_dget (hu_of hr) (pv 1) pe_str (fun _ _ => rfl)) pa_nil))) (pa_cons (pe_callD M_shuffled hr (by decide) (by rfl) (pa_cons (pv 0) (pa_cons (pe_dget (hu_of hr) (pv 1) pe_str (fun _ _ => rfl)) pa_nil))) pa_nil)) (by rfl))
      (pss_cons (ps_set (i := 5) sc_l_by_name.nd rfl (Or.inl rfl) (pe_makeK CK_Edition hr (by decide) (by rfl) (pk_cons (pe_dget (hu_of hr) (pv 1) pe_str (fun _ _ => rfl)) (pk_cons (pv 4) (pk_cons (pe_dget (hu_of hr) (pv 1) pe_str (fun _ _ => rfl)) (pk_cons (pv 3) (pk_cons (pe_dget (hu_of hr) (pv 2) pe_str (fun _ _ => rfl)) (pk_cons (pe_dget (hu_of hr) (pv 2) pe_str (fun _ _ => rfl)) (pk_cons (pe_dget (hu_of hr) (pv 2) pe_str (fun _ _ => rfl)) (pk_cons (pe_dget (hu_of hr) (pv 2) pe_str (fun _ _ => rfl)) (pk_cons (pe_dget (hu_of hr) (pv 2) pe_str (fun _ _ => rfl)) (pk_cons (pe_dget (hu_of hr) (pv 2) pe_str (fun _ _ => rfl)) pk_nil))))))))))))
      (pss_cons (ps_expr (pe_bm PySem.F.plainAttrs_list PySem.F.slot_list_append PySem.F.type_list_append mt_append (pv 3) (pa_cons pe_str pa_nil)))
      (pss_cons (ps_expr (pe_bm PySem.F.plainAttrs_list PySem.F.slot_list_append PySem.F.type_list_append mt_append (pv 4) (pa_cons pe_str pa_nil)))
      (pss_one (ps_ret (pv 5)))))))), ?_⟩)
  rintro wf r n ds R hw hn ⟨S, rfl, hS, fin⟩
  have hal := ans_len _ hS.ans
  have hrl := len_nodup hS.rd.1 hS.rd.2
  have v : ∀ {nt}, nt ∈ notesS → valK (wordsK S.f) (.inr nt) = some (.str (S.f nt)) := fun h => val_words h
  refine es_seq (es_asg (wp_dget (wp_var rfl ⟨_, rfl, wp_str ⟨.inr "words", _, rfl, val_w, ?_⟩⟩)))
  refine es_seq (es_par (wa_cons (wp_callDO (wa_cons (wp_var rfl (wa_one (wp_dget (wp_var rfl ⟨_, rfl, wp_str ⟨.inr "answers", _, rfl, val_ans, wf, r, n, _, rfl, rfl, hw, by omega, _, .inr rfl, by rw [List.length_map]; omega, str_shuf, fun ys p hy => ?_⟩⟩))))))))
  obtain ⟨la, rfl, pa⟩ := perm_str hy
  refine wa_one (Wp.flat (wp_callDO (wa_cons (wp_var rfl (wa_one (wp_dget (wp_var rfl ⟨_, rfl, wp_str ⟨.inr "reads", _, rfl, val_rds, fun t => (wf t).own K [(p, .lst (la.map D.str))], r, n + 100, _, rfl, rfl, hw.own _, by omega, _, .inr rfl, by rw [List.length_map]; exact Nat.le_trans hrl (by decide), str_shuf, fun ys2 p2 hy2 => ?_⟩⟩)))))))
  obtain ⟨lr, rfl, pr⟩ := perm_str hy2
  refine ⟨wf (n + 100 + 100), _, _, rfl, _, _, rfl, ?_⟩
  have l1 := pa.length_eq
  have l2 := pr.length_eq
  refine es_seq (es_asg (wp_makeK ord_rev (wa_cons (wp_dget (wp_var rfl ⟨_, rfl, wp_str ⟨.inr "strange", _, rfl, val_sg, wa_cons (wp_var rfl (wa_cons (wp_dget (wp_var rfl ⟨_, rfl, wp_str ⟨.inr "presume", _, rfl, val_pre, wa_cons (wp_var rfl (wa_cons (wp_dget (wp_var rfl ⟨_, rfl, wp_str ⟨.inr "refused", _, rfl, v (by decide +kernel), wa_cons (wp_dget (wp_var rfl ⟨_, rfl, wp_str ⟨.inr "agreed", _, rfl, v (by decide +kernel), wa_cons (wp_dget (wp_var rfl ⟨_, rfl, wp_str ⟨.inr "ready", _, rfl, v (by decide +kernel), wa_cons (wp_dget (wp_var rfl ⟨_, rfl, wp_str ⟨.inr "no", _, rfl, v (by decide +kernel), wa_cons (wp_dget (wp_var rfl ⟨_, rfl, wp_str ⟨.inr "yes", _, rfl, v (by decide +kernel), wa_cons (wp_dget (wp_var rfl ⟨_, rfl, wp_str ⟨.inr "begin", _, rfl, v (by decide +kernel), wa_nil (⟨rfl, S.ed, ?_, ?_⟩)⟩⟩))⟩⟩))⟩⟩))⟩⟩))⟩⟩))⟩⟩))))⟩⟩))))⟩⟩)))))
  · exact init_of hS (.inr ⟨p, rfl, has_own (k := 1) rfl⟩) pa (.inr ⟨p2, rfl, has_own (k := 0) rfl⟩) pr
  refine es_seq (es_append (k := 1) rfl rfl (wp_str ⟨_, _, _, rfl, rfl, by rw [List.length_map]; omega, ?_⟩))
  refine es_seq (es_append (k := 0) rfl rfl (wp_str ⟨_, _, _, rfl, rfl, by rw [List.length_map, l2]; exact Nat.lt_of_le_of_lt hrl (by decide), ?_⟩))
  exact es_ret (wp_var rfl ⟨⟨n + 100 + 100, by omega, Wd.le_own _ _⟩, fin⟩)
end
end K01

set_option Elab.async false
set_option linter.all false
set_option maxRecDepth 100000
set_option maxHeartbeats 4000000
namespace K01
open PySem PySem.Spec PyProof.Rows L2 EL
abbrev s_l_right : Stmt := (topS 31)
theorem sc_l_right : FnScope ["_law_sheet_here", "_law_made", "_law_note", "_law_knows"] ["_law_sheet_here", "_law_made"] (defScope s_l_right) := ⟨rfl, rfl, rfl, by decide +kernel, rfl, by decide +kernel, by decide +kernel⟩
/-- a short text -/
def shS (x : Str) : Bool := x.cps.toList.all (fun c => decide (c < 16 ^ 8)) && decide (x.cps.size ≤ 10)
theorem sh_w : ∀ x ∈ wordsS, shS x = true := by decide +kernel
theorem sh_o : ∀ x ∈ outsS, shS x = true := by decide +kernel
theorem sh_p : ∀ x ∈ presS, shS x = true := by decide +kernel
theorem sh_s : ∀ x ∈ strgS, shS x = true := by decide +kernel
theorem sh_n : ∀ x ∈ notesS, shS x = true := by decide +kernel
theorem sh_ok {x : Str} (h : shS x = true) : PyData.leavesShort 13 (.str x) = true ∧ PyData.weight (.str x) ≤ 10 := by
  unfold shS at h
  rw [Bool.and_eq_true, decide_eq_true_eq] at h
  unfold PyData.leavesShort PyData.weight
  exact h
theorem sh_all : ∀ {xs : List Str}, (∀ x ∈ xs, shS x = true) → PyData.leavesShortAll 13 (xs.map PyData.str) = true ∧ PyData.weightAll (xs.map PyData.str) ≤ 11 * xs.length
  | [], _ => by simp [PyData.leavesShortAll, PyData.weightAll]
  | x :: xs, h => by
    obtain ⟨a, b⟩ := sh_ok (h x List.mem_cons_self)
    obtain ⟨c, d⟩ := sh_all (xs := xs) fun y hy => h y (List.mem_cons_of_mem _ hy)
    refine ⟨by simp only [List.map_cons, PyData.leavesShortAll, a, c, Bool.and_self], ?_⟩
    simp only [List.map_cons, PyData.weightAll, List.length_cons]
    omega
theorem lsa_append : ∀ (xs ys : List PyData), PyData.leavesShortAll 13 (xs ++ ys) = (PyData.leavesShortAll 13 xs && PyData.leavesShortAll 13 ys)
  | [], _ => by simp [PyData.leavesShortAll]
  | x :: xs, ys => by simp only [List.cons_append, PyData.leavesShortAll, lsa_append xs ys, Bool.and_assoc]
theorem wa_append : ∀ (xs ys : List PyData), PyData.weightAll (xs ++ ys) = PyData.weightAll xs + PyData.weightAll ys
  | [], _ => by simp [PyData.weightAll]
  | x :: xs, ys => by simp only [List.cons_append, PyData.weightAll, wa_append xs ys]; omega
def Sheet.pt (S : Sheet) : PyData := .list ((notesS.map S.f).map PyData.str ++ [.tuple (S.ans.map PyData.str), .str S.pre, .tuple (S.rds.map PyData.str), .str S.sg])
theorem py_parts (S : Sheet) : py (.lst S.parts) = S.pt := by
  unfold py Sheet.parts Sheet.pt
  rw [pys_map, List.map_append, List.map_map, List.map_map]
  have e1 : (py ∘ fun n => D.str (S.f n)) = (PyData.str ∘ S.f) := by funext n; simp [py]
  rw [e1]
  simp [py, pys_str]
theorem pl_parts (S : Sheet) : pl (.lst S.parts) = true := by
  unfold pl
  rw [pls_all, Sheet.parts, List.all_append, List.all_map]
  have e : (notesS.all (pl ∘ fun n => D.str (S.f n))) = true := List.all_eq_true.mpr fun n _ => by simp [pl]
  rw [e]
  simp [pl, pls_str]
theorem shw_strs : ∀ xs : List Str, PyData.showableAll (xs.map PyData.str) = true
  | [] => by simp [PyData.showableAll]
  | x :: xs => by simp [PyData.showableAll, PyData.showable, shw_strs xs]
theorem shwa_append : ∀ (xs ys : List PyData), PyData.showableAll (xs ++ ys) = (PyData.showableAll xs && PyData.showableAll ys)
  | [], _ => by simp [PyData.showableAll]
  | x :: xs, ys => by simp only [List.cons_append, PyData.showableAll, shwa_append xs ys, Bool.and_assoc]
theorem hd_strs : ∀ xs : List Str, PyData.hasDictAll (xs.map PyData.str) = false
  | [] => by simp [PyData.hasDictAll]
  | x :: xs => by simp [PyData.hasDictAll, PyData.hasDict, hd_strs xs]
theorem hda_append : ∀ (xs ys : List PyData), PyData.hasDictAll (xs ++ ys) = (PyData.hasDictAll xs || PyData.hasDictAll ys)
  | [], _ => by simp [PyData.hasDictAll]
  | x :: xs, ys => by simp only [List.cons_append, PyData.hasDictAll, hda_append xs ys, Bool.or_assoc]
theorem dpa_append : ∀ (xs ys : List PyData), PyData.depthAll (xs ++ ys) = max (PyData.depthAll xs) (PyData.depthAll ys)
  | [], _ => by simp [PyData.depthAll]
  | x :: xs, ys => by simp only [List.cons_append, PyData.depthAll, dpa_append xs ys]; omega
theorem pt_show (S : Sheet) : S.pt.showable = true ∧ S.pt.hasDict = false ∧ S.pt.depth ≤ 50 := by
  unfold Sheet.pt
  refine ⟨?_, ?_, ?_⟩
  · rw [PyData.showable, shwa_append, shw_strs]
    simp [PyData.showableAll, PyData.showable, shw_strs]
  · rw [PyData.hasDict, hda_append, hd_strs]
    simp [PyData.hasDictAll, PyData.hasDict, hd_strs]
  · rw [PyData.depth, dpa_append, dep0]
    simp [PyData.depthAll, PyData.depth, dep0]
theorem Sheet.Ok.small {S : Sheet} (h : S.Ok) : S.pt.shown.length ≤ sizeLine := by
  have a1 := sh_all (xs := notesS.map S.f) fun x hx => by
    obtain ⟨n, hn, rfl⟩ := List.mem_map.mp hx
    exact sh_w _ (h.fw n hn)
  have a2 := sh_all (xs := S.ans) fun x hx => sh_o x ((ans_ok _ h.ans).2 x hx)
  have a3 := sh_all (xs := S.rds) fun x hx => sh_n x (h.rd.2 x hx)
  have a4 := sh_ok (sh_p _ h.pre)
  have a5 := sh_ok (sh_s _ h.sg)
  have l2 := ans_len _ h.ans
  have l3 : S.rds.length ≤ 6 := len_nodup h.rd.1 h.rd.2
  have l1 : (notesS.map S.f).length = 6 := rfl
  have hs : S.pt.leavesShort 13 = true := by
    unfold Sheet.pt
    rw [PyData.leavesShort, lsa_append, a1.1]
    simp only [PyData.leavesShortAll, PyData.leavesShort, a2.1, a3.1, Bool.and_true, Bool.true_and]
    have b4 := a4.1
    have b5 := a5.1
    unfold PyData.leavesShort at b4 b5
    rw [b4, b5]; rfl
  have hw : S.pt.weight ≤ 1000 := by
    unfold Sheet.pt
    rw [PyData.weight, wa_append]
    have b4 := a4.2
    have b5 := a5.2
    simp only [PyData.weightAll, PyData.weight] at b4 b5 ⊢
    have c1 := a1.2
    have c2 := a2.2
    have c3 := a3.2
    omega
  have := PyData.shown_le 13 (by decide) S.pt hs
  have e : sizeLine = 16777216 := by decide
  omega
theorem no_fld {m : Str} (S : Sheet) (h1 : (m == ("own_words" : Str)) = false) (h2 : (m == ("own_rest" : Str)) = false) (h3 : (m == ("own_known" : Str)) = false) : S.ed.lookup m = none := by
  unfold Sheet.ed edF
  rw [List.lookup_cons, h1, List.lookup_cons, h2, List.lookup_cons, h3]
  rfl
theorem no_word (S : Sheet) : S.ed.lookup ("word" : Str) = none := no_fld S (by decide +kernel) (by decide +kernel) (by decide +kernel)
theorem no_und (S : Sheet) : S.ed.lookup ("understands" : Str) = none := no_fld S (by decide +kernel) (by decide +kernel) (by decide +kernel)
theorem no_ww (S : Sheet) : S.ed.lookup ("with_word" : Str) = none := no_fld S (by decide +kernel) (by decide +kernel) (by decide +kernel)
theorem no_wr (S : Sheet) : S.ed.lookup ("with_reads" : Str) = none := no_fld S (by decide +kernel) (by decide +kernel) (by decide +kernel)
section
variable {P : Program} {W : World} {K : PySem.W.Frag} {mg : Str → Option Value} {base : Heap} {C : Addr}
theorem wb_parts {w : Wd} {Q : Wd → D → Prop} {S : Sheet} (h : S.Ok) (q : Q w (.str S.pt.shown)) : Wb K (rRepr K) w [.lst S.parts] Q := by
  have e := py_parts S
  obtain ⟨h1, h2, h3⟩ := pt_show S
  refine wb_repr (.inl rfl) (pl_parts S) (by rw [e]; exact h1) (by rw [e]; exact h2) (by rw [e]; exact h3) (by rw [e]; exact h.small) (by rw [e]; exact q)
def ok_right (C : Addr) : OkF := fun _ ds R => ∃ S : Sheet, ds = [S.d, .obj C S.ed] ∧ S.Ok ∧ R (.bl true)
theorem D_l_right (b_repr : mg "repr" = none) (M_notes : Def P W K mg base "_law_notes" 1 [] (SpF K ok_notes)) (M_seen : Def P W K mg base "_law_seen" 3 ["_law_made"] (SpF K (ok_seen C))) (M_parts : Def P W K mg base "_law_parts" 2 ["_law_sheet_here"] (SpF K ok_parts))
    (M_word : MethD P W K mg base C "word" 3 ["self", "record"] (SpF K (ok_word C))) (MK_word : MethK P W K mg base C "word" 3 ["record"] (fun xs => xs) ["self", "record"] (SpF K (ok_word C))) (MK_und : MethK P W K mg base C "understands" 3 ["record"] (fun xs => xs) ["self", "record"] (SpF K (ok_und C)))
    (F : DefAt K mg "_law_right" s_l_right ["_law_sheet_here", "_law_made"]) : DefG P W K mg base "_law_right" 4 ["_law_sheet_here", "_law_made"] (SpF K (ok_right C)) := by
  refine def_okG (k := 3) F sc_l_right (by rintro w ds R ⟨S, rfl, _⟩; rfl) (fun _ _ _ _ h => h) (fun f cdv A outer s H E hg hr => ⟨_, (pss_cons (ps_if (pt_cmpR op_ne (pe_callB (call_repr (K := K) rfl hg hr.units) (by rfl) b_repr (by decide +kernel) (pa_cons (pe_callD M_seen hr (by decide) (by rfl) (pa_cons (pv 1) pa_nil)) pa_nil)) (pe_callB (call_repr (K := K) rfl hg hr.units) (by rfl) b_repr (by decide +kernel) (pa_cons (pe_callD M_parts hr (by decide) (by rfl) (pa_cons (pv 0) pa_nil)) pa_nil)) (nomark _)) (pss_one (ps_ret pe_bl)) pss_nil)
      (pss_cons (ps_for PassesOwn.never rfl (pi_list (pe_callD0 M_notes hr (by decide) (by rfl))) (pg_name (i := 2) sc_l_right.nd rfl (Or.inl rfl)) (pss_cons (ps_set (i := 3) sc_l_right.nd rfl (Or.inl rfl) (pe_or (pe_cmpR op_ne (pe_dget (hu_of hr) (pe_dget (hu_of hr) (pv 0) pe_str (fun _ _ => rfl)) (pv 2) (fun _ _ => rfl)) pe_str (nomark _)) (pe_one (pe_cmpR (op_inA (K := K) rfl) (pv 2) (pe_dget (hu_of hr) (pv 0) pe_str (fun _ _ => rfl)) (by rfl)))))
      (pss_cons (ps_if (PW.pt (pw_or (pt_cmpR op_ne (pe_methK MK_word hr (by decide) (pv 1) (pk_cons (pv 2) pk_nil)) (pe_methD M_word hr (by decide) (pv 1) (pa_cons (pv 2) pa_nil)) (nomark _)) (pw_or1 (pt_cmpR op_ne (pe_methD M_word hr (by decide) (pv 1) (pa_cons (pv 2) pa_nil)) (pe_dget (hu_of hr) (pe_dget (hu_of hr) (pv 0) pe_str (fun _ _ => rfl)) (pv 2) (fun _ _ => rfl)) (nomark _))))) (pss_one (ps_ret pe_bl)) pss_nil)
      (pss_one (ps_if (pt_cmpR op_ne (pe_callB call_reprB (by rfl) b_repr (by decide +kernel) (pa_cons (pe_methK MK_und hr (by decide) (pv 1) (pk_cons (pv 2) pk_nil)) pa_nil)) (pe_callB call_reprB (by rfl) b_repr (by decide +kernel) (pa_cons (pv 3) pa_nil)) (nomark _)) (pss_one (ps_ret pe_bl)) pss_nil)))))
      (pss_one (ps_ret pe_bl)))), ?_⟩)
  rintro wd ds R ⟨S, rfl, hS, q⟩
  refine es_seq (es_if (wt_test (wp_op (wp_cb (wa_one (wp_call0 (wa_one (wp_var rfl ⟨S, rfl, wb_parts hS (wp_cb (wa_one (wp_call0 (wa_one (wp_var rfl ⟨S, rfl, wb_parts hS (w2_neS ⟨_, rfl, ?_⟩)⟩)))))⟩))))))))
  rw [decide_eq_true rfl]
  refine es_next (es_seq (es_forG (wi_list (wp_call0 (wa_nil ⟨rfl, _, rfl, fun i w e => w = wd ∧ ∃ y z : Option D, e = [some S.d, some (.obj C S.ed), y, z], ⟨rfl, _, _, rfl⟩, ?_, ?_⟩)))))
  · rintro i w e x hx ⟨rfl, y, z, rfl⟩
    obtain ⟨n, hn, rfl⟩ := List.mem_map.mp (List.mem_of_getElem? hx)
    have vn : valK (wordsK S.f) (.inr n) = some (.str (S.f n)) := val_words hn
    refine ⟨_, wg_name, es_seqM (fun w' e => w' = w ∧ e = [some S.d, some (.obj C S.ed), some (.str n), some (.bl (S.knows n))]) (es_asg (wp_orV (wp_op (wp_dget (wp_dget (wp_var rfl ⟨_, rfl, wp_str ⟨.inr "words", _, rfl, val_w, _, rfl, wp_var rfl ⟨.inr n, _, rfl, vn, wp_str (w2_neS ⟨_, rfl, ?_⟩)⟩⟩⟩)))))) ?_⟩
    · by_cases c : S.f n = "none"
      · rw [if_neg (by simp [c])]
        refine wp_op (wp_var rfl (wp_dget (wp_var rfl ⟨_, rfl, wp_str ⟨.inr "reads", _, rfl, val_rds, w2_inT rfl (flat_strD _) ⟨rfl, ?_⟩⟩⟩)))
        have e : inD (.str n) (S.rds.map D.str) = S.knows n := by
          unfold Sheet.knows
          by_cases d : n ∈ S.rds
          · rw [inD_str.mpr d, decide_eq_true d, Bool.or_true]
          · rw [decide_eq_false d, Bool.or_false, c]
            exact (Bool.eq_false_iff.mpr fun z => d (inD_str.mp z)).trans (by simp)
        rw [e]; rfl
      · rw [if_pos (by simp [c])]
        refine ⟨rfl, ?_⟩
        have e : S.knows n = true := by unfold Sheet.knows; simp [c]
        rw [e]; rfl
    · rintro w' e ⟨rfl, rfl⟩
      refine es_seq (es_if (wt_or (wt_test (wp_op (wp_methN ord_id (wp_var rfl ⟨_, rfl, no_word S, wa_one (wp_var rfl ⟨rfl, S, n, rfl, hn, wp_meth (wp_var rfl ⟨_, rfl, no_word S, wa_one (wp_var rfl ⟨S, n, rfl, hn, w2_neS ⟨_, rfl, ?_⟩⟩)⟩)⟩)⟩))))))
      rw [decide_eq_true rfl]
      refine wt_test (wp_op (wp_meth (wp_var rfl ⟨_, rfl, no_word S, wa_one (wp_var rfl ⟨S, n, rfl, hn, wp_dget (wp_dget (wp_var rfl ⟨_, rfl, wp_str ⟨.inr "words", _, rfl, val_w, _, rfl, wp_var rfl ⟨.inr n, _, rfl, vn, w2_neS ⟨_, rfl, ?_⟩⟩⟩⟩))⟩)⟩)))
      rw [decide_eq_true rfl]
      refine es_next (es_if (wt_test (wp_op (wp_cb (wa_one (wp_methN ord_id (wp_var rfl ⟨_, rfl, no_und S, wa_one (wp_var rfl ⟨rfl, S, n, rfl, hn, wb_reprB (wp_cb (wa_one (wp_var rfl (wb_reprB (w2_neS ⟨_, rfl, ?_⟩)))))⟩)⟩)))))))
      rw [decide_eq_true rfl]
      exact es_next ⟨rfl, _, _, rfl⟩
  · rintro w e ⟨rfl, y, z, rfl⟩
    exact es_ret (wp_bl ⟨.refl _, q⟩)
end
end K01

set_option Elab.async false
set_option linter.all false
set_option maxRecDepth 100000
set_option maxHeartbeats 4000000
namespace EL
open PySem PySem.Spec PyProof.Rows L2
section
variable {K : PySem.W.Frag} {w : Wd} {Q : Wd → D → Prop}
def absI (i : Int) : Int := if i < 0 then -i else i
theorem wb_abs {i : Int} (q : Q w (.int (absI i))) : Wb K (fun xs H Q => ∃ i, xs = [.int i] ∧ Q (.int (if i < 0 then -i else i)) H) w [.int i] Q := fun G σ H env R F xs o r c => by
  cases r with
  | cons r1 r2 =>
    cases r1; cases r2
    exact ⟨i, rfl, c w _ G H _ q (o.push (stab_rep _ _) (.int _))⟩
theorem wb_int1 {i : Int} (q : Q w (.int i)) : Wb K (fun xs H Q => (∃ i, xs = [.int i] ∧ Q (.int i) H) ∨ ∃ k, xs = [.bl k] ∧ Q (.int (if k then 1 else 0)) H) w [.int i] Q := fun G σ H env R F xs o r c => by
  cases r with
  | cons r1 r2 =>
    cases r1; cases r2
    exact .inl ⟨i, rfl, c w _ G H _ q (o.push (stab_rep _ _) (.int _))⟩
theorem wb_min2 {i j : Int} (q : Q w (.int (if j < i then j else i))) : Wb K (fun xs H Q => ∃ i j, xs = [.int i, .int j] ∧ Q (.int (if j < i then j else i)) H) w [.int i, .int j] Q := fun G σ H env R F xs o r c => by
  obtain ⟨x, y, rfl, r1, r2⟩ := reps2 r
  cases r1; cases r2
  exact ⟨i, j, rfl, c w _ G H _ q (o.push (stab_rep _ _) (.int _))⟩
end
def intOf : D → Int
  | .int i => i
  | _ => 0
theorem ints_fm (p : Int → Bool) (f : Int → Int) : ∀ ns : List Int, ((ns.map D.int).filter (fun d => p (intOf d))).map (fun d => D.int (f (intOf d))) = ((ns.filter p).map f).map D.int
  | [] => rfl
  | n :: ns => by
    rw [List.map_cons, List.filter_cons, List.filter_cons]
    have ih := ints_fm p f ns
    have e : intOf (.int n) = n := rfl
    rw [e]
    split
    · rw [List.map_cons, ih]; rfl
    · exact ih
end EL
namespace K01
open PySem PySem.Spec PyProof.Rows L2 EL
abbrev s_l_begun : Stmt := (topS 17)
theorem sc_l_begun : FnScope ["_law_script", "_law_wide", "_law_grain"] ["_law_script"] (defScope s_l_begun) := ⟨rfl, rfl, rfl, by decide +kernel, rfl, by decide +kernel, by decide +kernel⟩
section
variable {P : Program} {W : World} {K : PySem.W.Frag} {mg : Str → Option Value} {base : Heap} {C : Addr}
theorem cp18 : CPow 10 18 := ⟨by decide, by decide, by decide⟩
def ok_begun (K : PySem.W.Frag) : OkO := fun w ds R => ∃ (a : Addr) (ns : List Int), ds = [.raw (.ref a)] ∧ Scr K w a ns ∧ ns.length ≤ 63 ∧ ∀ d wl cl (wide cells : List Int), wide.length ≤ 63 → cells.length ≤ 63 → R [(d, .dct (drD wl cl)), (cl, .lst (cells.map D.int)), (wl, .lst (wide.map D.int))] (.raw (.ref d))
theorem drD_nd (wl cl : Addr) : ((drD wl cl).map (·.1)).Nodup := by
  show (([("wide" : Str), "cells", "rest", "turn"] : List Str).map (Sum.inr : Str → Key)).Nodup
  exact nodup_inr (by decide +kernel)
theorem D_l_begun (b_abs : mg "abs" = none) (b_int : mg "int" = none) (F : DefAt K mg "_law_begun" s_l_begun ["_law_script"]) : Def P W K mg base "_law_begun" 1 ["_law_script"] (SpO K (ok_begun K)) := by
  refine def_okO (k := 0) F sc_l_begun (by rintro w ds R ⟨a, ns, rfl, _⟩; rfl) (fun w G ds R ⟨a, ns, e, s, n, q⟩ => ⟨a, ns, e, s.le (w.le_since G), n, q⟩) (fun f cdv A outer s H E hr => ⟨_, (pss_cons (ps_setLc (i := 1) (own := [("_law_grain", 2)]) (g := (gName 2)) (by rfl) sc_l_begun.nd rfl rfl (sw_true rfl rfl rfl (by decide +kernel)) (pi_list (pv 0)) (blkOk_by (own := [("_law_grain", 2)]) (N := ["_law_script", "_law_wide", "_law_grain"]) (sc := defScope s_l_begun) (by decide +kernel)) (fun _ _ _ _ _ => (pg_name (i := 2) sc_l_begun.nd rfl (Or.inl rfl))) (fun _ _ _ _ _ => (pts_one (pt_cmpR op_ge (pe_callB call_abs (by rfl) b_abs (by decide +kernel) (pa_cons (pv 2) pa_nil)) (pe_op op_pow pe_int pe_int) (nomark _)))) (fun _ _ _ _ _ => (pe_op op_sub (pe_callB call_abs (by rfl) b_abs (by decide +kernel) (pa_cons (pv 2) pa_nil)) (pe_op op_pow pe_int pe_int))))
      (pss_one (ps_ret (pe_disp (pps_cons pe_str (pv 1) (pps_cons pe_str (pe_lc (own := [("_law_grain", 2)]) (g := (gName 2)) (tt := tYes) (by rfl) sc_l_begun.nd (pi_list (pv 0)) (blkOk_by (own := [("_law_grain", 2)]) (N := ["_law_script", "_law_wide", "_law_grain"]) (sc := defScope s_l_begun) (by decide +kernel)) (fun _ _ _ _ _ => (pg_name (i := 2) sc_l_begun.nd rfl (Or.inl rfl))) (fun _ _ _ _ _ => pts_nil) (fun _ _ _ _ _ => (pe_op op_modN (pe_callTy call_int1 (by rfl) b_int (by decide +kernel) (pa_cons (pe_callB call_abs (by rfl) b_abs (by decide +kernel) (pa_cons (pv 2) pa_nil)) pa_nil)) pe_int))) (pps_cons pe_str pe_int (pps_cons pe_str pe_int pps_nil)))) (by rfl) (by rfl) (fun z => by cases z) (by decide))))), ?_⟩)
  rintro wd ds R ⟨a, ns, rfl, scr, hn, fin⟩
  refine es_seq (es_asg (wp_lcO (cc := fun d => decide ((10 : Int) ^ (18 : Int).toNat ≤ absI (intOf d))) (f := fun d => .int (absI (intOf d) - (10 : Int) ^ (18 : Int).toNat)) (wi_scr rfl scr ⟨by rw [List.length_map]; omega, ?_, fun wl => ?_⟩)))
  · intro x hx
    obtain ⟨i, _, rfl⟩ := List.mem_map.mp hx
    refine ⟨_, wgv_name (by simp), fun w2 l2 => wt_test (wp_op (wp_cb (wa_one (wp_var rfl (wb_abs (wp_op (wp_int (wp_int (w2_I (fun _ => .int _) ?_ (w2_I0 (d := .bl (decide ((10 : Int) ^ (18 : Int).toNat ≤ absI i))) (fun _ => .bl _) ⟨_, rfl, rfl, rfl, fun _ => ?_⟩))))))))))⟩
    · exact cp18
    · refine wp_op (wp_cb (wa_one (wp_var rfl (wb_abs (wp_op (wp_int (wp_int (w2_I (fun _ => .int _) ?_ (w2_I0 (fun _ => .int _) ⟨rfl, rfl⟩)))))))))
      exact cp18
  have hw := ints_fm (fun i => decide ((10 : Int) ^ (18 : Int).toNat ≤ absI i)) (fun i => absI i - (10 : Int) ^ (18 : Int).toNat) ns
  rw [hw]
  generalize hg : (ns.filter fun i => decide ((10 : Int) ^ (18 : Int).toNat ≤ absI i)).map (fun i => absI i - (10 : Int) ^ (18 : Int).toNat) = wide
  have lw : wide.length ≤ 63 := by
    rw [← hg, List.length_map]
    exact Nat.le_trans (List.length_filter_le _ _) hn
  refine es_ret (Wp.flat (Wp.flat (wp_disp fun p => wpp_cons (wp_str (wp_var rfl (wpp_cons (wp_str (Wp.like (wp_lcO (cc := fun _ => true) (f := fun d => .int ((absI (intOf d)).fmod 2147483629)) (wi_scr rfl ((scr.le (wd.le_own _)).le (Wd.le_own _ _)) ⟨by rw [List.length_map]; omega, ?_, fun cl => ?_⟩))))))))))
  · intro x hx
    obtain ⟨i, _, rfl⟩ := List.mem_map.mp hx
    refine ⟨_, wgv_name (by simp), fun w2 l2 => wt_yes ⟨rfl, rfl, fun _ => wp_op (wp_cb (wa_one (wp_cb (wa_one (wp_var rfl (wb_abs (wb_int1 (wp_int (w2_I (fun _ => .int _) (by decide) ⟨rfl, rfl⟩)))))))))⟩⟩
  have hc := ints_fm (fun _ => true) (fun i => (absI i).fmod 2147483629) ns
  rw [hc]
  have lc : ((ns.filter fun _ => true).map fun i => (absI i).fmod 2147483629).length ≤ 63 := by
    rw [List.length_map]
    exact Nat.le_trans (List.length_filter_le _ _) hn
  refine ⟨_, fun G σ H env F o => ⟨G, Sm.refl _, o.exch⟩, wpp_cons (wp_str (wp_int (wpp_cons (wp_str (wp_int (wpp_nil ⟨_, drD wl cl, rfl, rfl, by simp [drD], ?_⟩))))))⟩
  rw [merge_new (by simpa using drD_nd wl cl)]
  exact ⟨_, _, _, rfl, _, _, _, rfl, _, rfl, fin p wl cl wide _ lw lc⟩
end
end K01

set_option Elab.async false
set_option linter.all false
set_option maxRecDepth 100000
set_option maxHeartbeats 4000000
namespace K01
open PySem PySem.Spec PyProof.Rows L2 EL
/-! ### the shown texts tell the parts -/
def cd (s : Str) : List Nat := s.cps.toList
theorem cd_append (a b : Str) : cd (a ++ b) = cd a ++ cd b := by
  show (a.cps ++ b.cps).toList = _
  rw [Array.toList_append]; rfl
def rt (s : Str) : List Nat := cd (reprText s)
/-- no one's text begins another's -/
def PFV (V : List Str) : Prop := (∀ x ∈ V, ∀ y ∈ V, (rt x).isPrefixOf (rt y) = true → x = y) ∧ ∀ x ∈ V, (rt x).head? = some 39
instance (V : List Str) : Decidable (PFV V) := by unfold PFV; infer_instance
theorem pf_cut {V : List Str} (h : PFV V) {x y : Str} (hx : x ∈ V) (hy : y ∈ V) {s t : List Nat} (e : rt x ++ s = rt y ++ t) : x = y ∧ s = t := by
  have hxy : x = y := by
    rcases List.append_eq_append_iff.mp e with ⟨as, h1, _⟩ | ⟨bs, h1, _⟩
    · exact h.1 x hx y hy (List.isPrefixOf_iff_prefix.mpr ⟨as, h1.symm⟩)
    · exact (h.1 y hy x hx (List.isPrefixOf_iff_prefix.mpr ⟨bs, h1.symm⟩)).symm
  subst hxy
  exact ⟨rfl, List.append_cancel_left e⟩
def tl : List Str → List Nat
  | [] => [41]
  | y :: r => [44, 32] ++ rt y ++ tl r
theorem tl_cut {V : List Str} (h : PFV V) : ∀ {xs ys : List Str} {s t : List Nat}, (∀ x ∈ xs, x ∈ V) → (∀ y ∈ ys, y ∈ V) → tl xs ++ s = tl ys ++ t → xs = ys ∧ s = t
  | [], [], s, t, _, _, e => by simpa [tl] using e
  | [], y :: ys, s, t, _, _, e => by simp [tl] at e
  | x :: xs, [], s, t, _, _, e => by simp [tl] at e
  | x :: xs, y :: ys, s, t, hx, hy, e => by
    simp only [tl, List.cons_append, List.nil_append, List.append_assoc, List.cons.injEq, true_and] at e
    obtain ⟨rfl, e2⟩ := pf_cut h (hx x List.mem_cons_self) (hy y List.mem_cons_self) e
    obtain ⟨rfl, e3⟩ := tl_cut h (fun z hz => hx z (List.mem_cons_of_mem _ hz)) (fun z hz => hy z (List.mem_cons_of_mem _ hz)) e2
    exact ⟨rfl, e3⟩
def tt (xs : List Str) : List Nat := match xs with
  | [] => [40, 41]
  | [x] => [40] ++ rt x ++ [44, 41]
  | x :: y :: r => [40] ++ rt x ++ tl (y :: r)
theorem hd39 {V : List Str} (h : PFV V) {x : Str} (hx : x ∈ V) : ∃ r, rt x = 39 :: r := by
  have := h.2 x hx
  cases e : rt x with
  | nil => rw [e] at this; cases this
  | cons a r => rw [e] at this; cases this; exact ⟨r, rfl⟩
theorem tt_cut {V : List Str} (h : PFV V) {xs ys : List Str} {s t : List Nat} (hx : ∀ x ∈ xs, x ∈ V) (hy : ∀ y ∈ ys, y ∈ V) (e : tt xs ++ s = tt ys ++ t) : xs = ys ∧ s = t := by
  match xs, ys, hx, hy, e with
  | [], [], _, _, e => simpa [tt] using e
  | [], [y], _, hy, e =>
    obtain ⟨r, er⟩ := hd39 h (hy y (by simp))
    simp [tt, er] at e
  | [], y :: z :: r, _, hy, e =>
    obtain ⟨r', er⟩ := hd39 h (hy y (by simp))
    simp [tt, er] at e
  | [x], [], hx, _, e =>
    obtain ⟨r, er⟩ := hd39 h (hx x (by simp))
    simp [tt, er] at e
  | x :: z :: r, [], hx, _, e =>
    obtain ⟨r', er⟩ := hd39 h (hx x (by simp))
    simp [tt, er] at e
  | [x], [y], hx, hy, e =>
    simp only [tt, List.cons_append, List.nil_append, List.append_assoc, List.cons.injEq, true_and] at e
    obtain ⟨rfl, e2⟩ := pf_cut h (hx x (by simp)) (hy y (by simp)) e
    simp at e2
    exact ⟨rfl, e2⟩
  | [x], y :: z :: r, hx, hy, e =>
    simp only [tt, List.cons_append, List.nil_append, List.append_assoc, List.cons.injEq, true_and] at e
    obtain ⟨rfl, e2⟩ := pf_cut h (hx x (by simp)) (hy y (by simp)) e
    simp [tl] at e2
  | x :: z :: r, [y], hx, hy, e =>
    simp only [tt, List.cons_append, List.nil_append, List.append_assoc, List.cons.injEq, true_and] at e
    obtain ⟨rfl, e2⟩ := pf_cut h (hx x (by simp)) (hy y (by simp)) e
    simp [tl] at e2
  | x :: z :: r, y :: z' :: r', hx, hy, e =>
    simp only [tt, List.cons_append, List.nil_append, List.append_assoc, List.cons.injEq, true_and] at e
    obtain ⟨rfl, e2⟩ := pf_cut h (hx x (by simp)) (hy y (by simp)) e
    obtain ⟨e3, e4⟩ := tl_cut h (fun a ha => hx a (List.mem_cons_of_mem _ ha)) (fun a ha => hy a (List.mem_cons_of_mem _ ha)) e2
    rw [e3]
    exact ⟨rfl, e4⟩
theorem pf_w : PFV wordsS := by decide +kernel
theorem pf_o : PFV outsS := by decide +kernel
theorem pf_p : PFV presS := by decide +kernel
theorem pf_s : PFV strgS := by decide +kernel
theorem pf_n : PFV notesS := by decide +kernel
theorem tf_cd : ∀ (ts : List Str) (k : Nat) (acc : Str), cd (textFrom (k + 1) acc ts) = cd acc ++ ts.flatMap (fun t => 44 :: 32 :: cd t)
  | [], k, acc => by simp [textFrom]
  | t :: ts, k, acc => by
    rw [textFrom, tf_cd ts (k + 1), if_pos (Nat.succ_pos k), cd_append, cd_append]
    have e : cd ((", " : String) : Str) = [44, 32] := by decide +kernel
    rw [e]
    simp
theorem list_cd (t : Str) (ts : List Str) : cd (listText (t :: ts)) = [91] ++ cd t ++ ts.flatMap (fun t => 44 :: 32 :: cd t) ++ [93] := by
  unfold listText
  rw [cd_append, textFrom, tf_cd ts 0, if_neg (by decide), cd_append, cd_append]
  have e1 : cd (("[" : String) : Str) = [91] := by decide +kernel
  have e2 : cd (("" : String) : Str) = [] := by decide +kernel
  have e3 : cd (("]" : String) : Str) = [93] := by decide +kernel
  rw [e1, e2, e3]
  simp
theorem join_cd : ∀ (x : Str) (r : List Str), cd (Str.join ", " ((x :: r).map reprText)) ++ [41] = rt x ++ tl r
  | x, [] => rfl
  | x, y :: r => by
    have ih := join_cd y r
    show cd (reprText x ++ ", " ++ Str.join ", " ((y :: r).map reprText)) ++ [41] = _
    rw [cd_append, cd_append, List.append_assoc, ih]
    have e : cd ((", " : String) : Str) = [44, 32] := by decide +kernel
    rw [e]
    simp [tl, rt]
theorem tuple_cd (xs : List Str) : cd (tupleText (xs.map reprText)) = tt xs := by
  unfold tupleText
  have e1 : cd (("(" : String) : Str) = [40] := by decide +kernel
  have e2 : cd ((")" : String) : Str) = [41] := by decide +kernel
  have e3 : cd ((",)" : String) : Str) = [44, 41] := by decide +kernel
  match xs with
  | [] => decide +kernel
  | [x] =>
    rw [cd_append, cd_append, e1]
    show [40] ++ cd (reprText x) ++ cd ((",)" : String) : Str) = _
    rw [e3]; rfl
  | x :: y :: r =>
    rw [cd_append, cd_append, e1]
    have : (((x :: y :: r).map reprText).length == 1) = false := by simp
    rw [this]
    show [40] ++ cd (Str.join ", " ((x :: y :: r).map reprText)) ++ cd ((")" : String) : Str) = _
    rw [e2, List.append_assoc, join_cd]
    simp [tt]
theorem shown_strs : ∀ xs : List Str, PyData.shownAll (xs.map PyData.str) = xs.map reprText
  | [] => by simp [PyData.shownAll]
  | x :: xs => by simp [PyData.shownAll, PyData.shown, shown_strs xs]
theorem pt_cd (S : Sheet) : cd S.pt.shown = [91] ++ rt (S.f "begin") ++ ([44, 32] ++ rt (S.f "yes") ++ ([44, 32] ++ rt (S.f "no") ++ ([44, 32] ++ rt (S.f "ready") ++ ([44, 32] ++ rt (S.f "agreed") ++ ([44, 32] ++ rt (S.f "refused") ++
    ([44, 32] ++ tt S.ans ++ ([44, 32] ++ rt S.pre ++ ([44, 32] ++ tt S.rds ++ ([44, 32] ++ rt S.sg ++ [93]))))))))) := by
  unfold Sheet.pt
  rw [PyData.shown]
  have e : PyData.shownAll ((notesS.map S.f).map PyData.str ++ [.tuple (S.ans.map PyData.str), .str S.pre, .tuple (S.rds.map PyData.str), .str S.sg]) = [reprText (S.f "begin"), reprText (S.f "yes"), reprText (S.f "no"), reprText (S.f "ready"), reprText (S.f "agreed"), reprText (S.f "refused"), tupleText (S.ans.map reprText), reprText S.pre, tupleText (S.rds.map reprText), reprText S.sg] := by
    simp [notesS, PyData.shownAll, PyData.shown, shown_strs]
  rw [e, list_cd]
  simp [tuple_cd, rt]
theorem Sheet.Ok.tell {S T : Sheet} (h : S.Ok) (k : T.Ok) (e : S.pt.shown = T.pt.shown) : S.key = T.key := by
  have e := congrArg cd e
  rw [pt_cd, pt_cd] at e
  have m : ∀ {n : Str}, n ∈ notesS → S.f n ∈ wordsS ∧ T.f n ∈ wordsS := fun hn => ⟨h.fw _ hn, k.fw _ hn⟩
  simp only [List.cons_append, List.nil_append, List.append_assoc, List.cons.injEq, true_and] at e
  obtain ⟨a1, e⟩ := pf_cut pf_w (m (n := "begin") (by decide +kernel)).1 (m (n := "begin") (by decide +kernel)).2 e
  simp only [List.cons.injEq, true_and] at e
  obtain ⟨a2, e⟩ := pf_cut pf_w (m (n := "yes") (by decide +kernel)).1 (m (n := "yes") (by decide +kernel)).2 e
  simp only [List.cons.injEq, true_and] at e
  obtain ⟨a3, e⟩ := pf_cut pf_w (m (n := "no") (by decide +kernel)).1 (m (n := "no") (by decide +kernel)).2 e
  simp only [List.cons.injEq, true_and] at e
  obtain ⟨a4, e⟩ := pf_cut pf_w (m (n := "ready") (by decide +kernel)).1 (m (n := "ready") (by decide +kernel)).2 e
  simp only [List.cons.injEq, true_and] at e
  obtain ⟨a5, e⟩ := pf_cut pf_w (m (n := "agreed") (by decide +kernel)).1 (m (n := "agreed") (by decide +kernel)).2 e
  simp only [List.cons.injEq, true_and] at e
  obtain ⟨a6, e⟩ := pf_cut pf_w (m (n := "refused") (by decide +kernel)).1 (m (n := "refused") (by decide +kernel)).2 e
  simp only [List.cons.injEq, true_and] at e
  obtain ⟨a7, e⟩ := tt_cut pf_o (ans_ok _ h.ans).2 (ans_ok _ k.ans).2 e
  simp only [List.cons.injEq, true_and] at e
  obtain ⟨a8, e⟩ := pf_cut pf_p h.pre k.pre e
  simp only [List.cons.injEq, true_and] at e
  obtain ⟨a9, e⟩ := tt_cut pf_n h.rd.2 k.rd.2 e
  simp only [List.cons.injEq, true_and] at e
  obtain ⟨a10, _⟩ := pf_cut pf_s h.sg k.sg e
  unfold Sheet.key
  rw [a7, a8, a9, a10]
  simp [notesS, a1, a2, a3, a4, a5, a6]
theorem tell_key {S T : Sheet} (e : S.key = T.key) : S.pt = T.pt := by
  unfold Sheet.key at e
  simp only [Prod.mk.injEq] at e
  obtain ⟨a, b, c, d, f⟩ := e
  unfold Sheet.pt
  rw [a, b, c, d, f]
end K01

set_option Elab.async false
set_option linter.all false
set_option maxRecDepth 100000
set_option maxHeartbeats 4000000
namespace EL
open PySem PySem.Spec PyProof.Rows L2
section
variable {K : PySem.W.Frag} {w : Wd} {env : Env} {Q : Wd → D → Prop} {te : TE} {ts : TS} {Z : DEnds}
theorem w2_eqB {i j : Bool} (q : Q w (.bl (decide (i = j)))) : W2 K rEq w (.bl i) (.bl j) Q := fun G σ H env R F x y o rx ry c => by
  cases rx; cases ry
  refine ⟨rfl, c w _ G H (.bl (decide (i = j))) q (o.push (stab_rep _ _) ?_)⟩
  have e : decide (V.bl i = V.bl j) = decide (i = j) := by simp
  rw [e]; exact .bl _
theorem w2_neB {i j : Bool} (q : Q w (.bl (!decide (i = j)))) : W2 K rNe w (.bl i) (.bl j) Q := fun G σ H env R F x y o rx ry c => by
  cases rx; cases ry
  refine ⟨rfl, c w _ G H (.bl (!decide (i = j))) q (o.push (stab_rep _ _) ?_)⟩
  have e : decide (V.bl i = V.bl j) = decide (i = j) := by simp
  rw [e]; exact .bl _
/-- another world and other data for the same value -/
theorem Wp.turn (h : Wp K te w env fun w1 d => ∃ w2 d2, (∀ G σ H env F v, Ok K w1 G σ H env (fun G => F G ∧ Rep K G v d) → Stab F → ∃ G', Ok K w2 G' σ H env (fun G => F G ∧ Rep K G v d2)) ∧ Q w2 d2) : Wp K te w env Q := fun G σ H R F o c =>
  h G σ H R F o fun w1 v G1 H1 d q o1 => by
    obtain ⟨w2, d2, k, q⟩ := q
    obtain ⟨G2, o2⟩ := k _ _ _ _ _ _ o1 o.st
    exact c w2 v G2 H1 d2 q o2
end
end EL
namespace K01
open PySem PySem.Spec PyProof.Rows L2 EL
abbrev s_law : Stmt := (topS 33)
theorem sc_law : FnScope ["_law_script", "_law_draw", "_law_turn", "_law_sheet_here", "_law_made", "_law_near", "_law_mate", "_law_is_same", "_law_verbs", "_law_bare", "_law_note", "_law_verb", "_law_later"] ["_law_script"] (defScope s_law) := ⟨rfl, rfl, rfl, by decide +kernel, rfl, by decide +kernel, by decide +kernel⟩
section
variable {P : Program} {W : World} {K : PySem.W.Frag} {mg : Str → Option Value} {base : Heap} {C : Addr} {w : Wd} {env : EL.Env} {ts : TS} {Z : DEnds}
theorem sheet_rep {S : Sheet} {p q : Addr} {G : Hp} (h1 : Rep K G (.ref p) (.dct (S.kvs (.raw (.ref q))))) (h2 : Rep K G (.ref q) (.dct (wordsK S.f))) : Rep K G (.ref p) S.d := by
  obtain ⟨a, kvs, e, hd, hk, hr⟩ := rep_dK h1
  cases e
  refine .dK hd hk ?_
  have hr' : Reps K G (kvs.map (·.2)) [.raw (.ref q), .tup (S.ans.map D.str), .str S.pre, .tup (S.rds.map D.str), .str S.sg] := hr
  show Reps K G (kvs.map (·.2)) [.dct (wordsK S.f), .tup (S.ans.map D.str), .str S.pre, .tup (S.rds.map D.str), .str S.sg]
  generalize kvs.map (·.2) = vs at hr'
  cases hr' with
  | cons r1 r2 =>
    cases rep_raw r1
    exact .cons h2 r2
theorem still_sheet {S : Sheet} {p q : Addr} {G : Hp} {σ : L2.St} {H : Hp} {F : Hp → Prop} {v : V} (o : Ok K (w.own K (S.own p q)) G σ H env (fun G => F G ∧ Rep K G v (.raw (.ref p)))) (sF : Stab F) : ∃ G', Ok K w G' σ H env (fun G => F G ∧ Rep K G v S.d) := by
  obtain ⟨G', sm, o'⟩ := o.stills
  have h1 := o'.f.2 (p, .dct (S.kvs (.raw (.ref q)))) (by simp [Sheet.own])
  have h2 := o'.f.2 (q, .dct (wordsK S.f)) (by simp [Sheet.own])
  have ev := rep_raw o'.f.1.2
  subst ev
  exact ⟨G', o'.as (stab_and sF (stab_rep _ _)) ⟨o'.f.1.1, sheet_rep h1 h2⟩⟩
/-- a sheet of one's own, still from now on, by its name -/
theorem es_still {S : Sheet} {p q : Addr} {i : Nat} (hi : env[i]? = some (some (.raw (.ref p)))) (h : Es K ts w (env.set i (some S.d)) Z) : Es K ts (w.own K (S.own p q)) env Z := fun G σ H De F o c1 c2 c3 c4 => by
  obtain ⟨v, e, r⟩ := o.sl.get i _ hi
  obtain ⟨G', o'⟩ := still_sheet (o.push (stab_rep v _) r) o.st
  have hs := o'.sl.set o'.f.2 i
  have e2 : σ.set i (some v) = σ := by
    apply List.ext_getElem?
    intro j
    rw [List.getElem?_set]
    by_cases c : i = j
    · subst c
      have := (List.getElem?_eq_some_iff.mp e).1
      rw [if_pos rfl, if_pos this, e]
    · rw [if_neg c]
  rw [e2] at hs
  exact h G' σ H De F ((ok_drop o' o.st).se hs) c1 c2 c3 c4
end
end K01

set_option Elab.async false
set_option linter.all false
set_option maxRecDepth 100000
set_option maxHeartbeats 4000000
namespace K01
open PySem PySem.Spec PyProof.Rows L2 EL
theorem a_nil : ([] : List Str) ∈ ansS := by decide +kernel
theorem p_no : ("no" : Str) ∈ presS := by decide +kernel
theorem w_all : ∀ x ∈ (["none", "lazy", "forced"] : List Str), x ∈ wordsS := by decide +kernel
section
variable {P : Program} {W : World} {K : PySem.W.Frag} {mg : Str → Option Value} {base : Heap} {C : Addr}
def sp_law (K : PySem.W.Frag) : Sp := fun vs H Q _ => ∃ (a : Addr) (ns : List Int), vs = [.ref a] ∧ ns.length ≤ 63 ∧ SqL K H a (ns.map V.int) ∧ ∀ H', Q (.bl true) H'
theorem F_law {f : Addr} {fd : FuncData} {tA tR : Addr} (b_range : mg "range" = none) (b_min : mg "min" = none) (b_len : mg "len" = none) (b_repr : mg "repr" = none) (b_tuple : mg "tuple" = none) (b_sorted : mg "sorted" = none) (b_list : mg "list" = none)
    (M_begun : Def P W K mg base "_law_begun" 1 ["_law_script"] (SpO K (ok_begun K))) (M_sheet : Def P W K mg base "_law_sheet" 4 ["_law_draw", "_law_lazies"] (SpDO K 300 ok_sheet)) (M_edition : Def P W K mg base "_law_edition" 5 ["_law_sheet_here"] (SpF K (ok_edition C))) (M_near : Def P W K mg base "_law_near_sheet" 4 ["_law_draw", "_law_sheet_here"] (SpDO K 400 ok_near))
    (M_right : DefG P W K mg base "_law_right" 4 ["_law_sheet_here", "_law_made"] (SpF K (ok_right C))) (M_by_name : Def P W K mg base "_law_by_name" 5 ["_law_draw", "_law_sheet_here"] (SpD K 200 (ok_by_name C))) (M_parts : Def P W K mg base "_law_parts" 2 ["_law_sheet_here"] (SpF K ok_parts)) (M_seen : Def P W K mg base "_law_seen" 3 ["_law_made"] (SpF K (ok_seen C)))
    (M_pick : Def P W K mg base "_law_pick" 3 ["_law_draw", "_law_some"] (SpD K 1 ok_pick)) (M_notes : Def P W K mg base "_law_notes" 1 [] (SpF K ok_notes)) (M_any_of : Def P W K mg base "_law_any_of" 3 ["_law_draw", "_law_words", "_law_size"] (SpD K 100 ok_any_of)) (M_shuffled : Def P W K mg base "_law_shuffled" 3 ["_law_draw", "_law_some"] (SpD K 100 ok_shuffled)) (M_copied : Def P W K mg base "_law_copied" 1 ["_law_sheet_here"] (SpO K ok_copied))
    (M_Eq : EqD P W K mg base C 1 (ok_eq C)) (nb : NotB K C) (CP_Edition : ClsP P W K mg base "Edition" C 3 ["self", "begin", "yes", "no", "ready", "agreed", "refused", "answers", "presume", "reads", "strange"] [.ref tA, .str "no", .ref tR, .str "skip"] (ok_E_init K)) (rA : ∀ G, Rep K G (.ref tA) (.tup [])) (rR : ∀ G, Rep K G (.ref tR) (.tup []))
    (M_ww : MethD P W K mg base C "with_word" 6 ["self", "record", "word"] (SpF K (ok_ww C))) (MK_ww : MethK P W K mg base C "with_word" 6 ["word", "record"] (fun xs => xs.reverse) ["self", "record", "word"] (SpF K (ok_ww C)))
    (M_wr : MethD P W K mg base C "with_reads" 6 ["self", "records"] (SpF K (ok_wr C))) (MK_wr : MethK P W K mg base C "with_reads" 6 ["records"] (fun xs => xs) ["self", "records"] (SpF K (ok_wr C)))
    (F : Fun K "law" "law" s_law f fd) : FnG P W K mg base 8 f fd ["_law_script"] (sp_law K) := by
  refine fnG_of (k := 7) F sc_law (by rintro xs H T E ⟨a, ns, rfl, _⟩; rfl) (fun cdv A outer s H xs T E hg hr h => ?_)
  obtain ⟨a, ns, rfl, hn, hq, fin⟩ := h
  refine ⟨_, (pss_cons (ps_set (i := 1) sc_law.nd rfl (Or.inl rfl) (pe_callD M_begun hr (by decide) (by rfl) (pa_cons (pv 0) pa_nil)))
      (pss_cons (ps_for PassesOwn.never rfl (pi_range1 (by rfl) b_range (pa_cons (pe_op op_add pe_int (pe_callB (call_min2 rfl) (by rfl) b_min (by decide +kernel) (pa_cons (pe_callB call_len_seq (by rfl) b_len PySem.boot_len (pa_cons (pv 0) pa_nil)) (pa_cons pe_int pa_nil)))) pa_nil)) (pg_name (i := 2) sc_law.nd rfl (Or.inl rfl)) (pss_cons (ps_set (i := 3) sc_law.nd rfl (Or.inl rfl) (pe_callD M_sheet hr (by decide) (by rfl) (pa_cons (pv 1) (pa_cons pe_int pa_nil))))
      (pss_cons (ps_par (i := 4) (j := 5) (by rfl) sc_law.nd rfl rfl (by decide) rfl rfl (pa_cons (pe_callD M_edition hr (by decide) (by rfl) (pa_cons (pv 3) pa_nil)) (pa_cons (pe_callD M_near hr (by decide) (by rfl) (pa_cons (pv 1) (pa_cons (pv 3) pa_nil))) pa_nil)) (by rfl))
      (pss_cons (ps_if (PW.pt (pw_or (pt_not (pt_val (pe_callG M_right hg hr (by decide) (by rfl) (pa_cons (pv 3) (pa_cons (pv 4) pa_nil))))) (pw_or1 (pt_not (pt_val (pe_callG M_right hg hr (by decide) (by rfl) (pa_cons (pv 3) (pa_cons (pe_callD M_by_name hr (by decide) (by rfl) (pa_cons (pv 1) (pa_cons (pv 3) pa_nil))) pa_nil)))))))) (pss_one (ps_ret pe_bl)) pss_nil)
      (pss_cons (ps_set (i := 6) sc_law.nd rfl (Or.inl rfl) (pe_callD M_edition hr (by decide) (by rfl) (pa_cons (pv 5) pa_nil)))
      (pss_cons (ps_set (i := 7) sc_law.nd rfl (Or.inl rfl) (pe_cmpR op_eq (pe_callB (call_repr (K := K) rfl hg hr.units) (by rfl) b_repr (by decide +kernel) (pa_cons (pe_callD M_parts hr (by decide) (by rfl) (pa_cons (pv 5) pa_nil)) pa_nil)) (pe_callB (call_repr (K := K) rfl hg hr.units) (by rfl) b_repr (by decide +kernel) (pa_cons (pe_callD M_parts hr (by decide) (by rfl) (pa_cons (pv 3) pa_nil)) pa_nil)) (nomark _)))
      (pss_cons (ps_if (PW.pt (pw_or (pt_cmpR op_ne (pe_cmpR (op_eqI (K := K) rfl M_Eq hr (by decide)) (pv 4) (pv 6) (nomark _)) (pv 7) (nomark _)) (pw_or (pt_cmpR op_eq (pe_cmpR (op_neI (K := K) rfl M_Eq hr (by decide)) (pv 4) (pv 6) (nomark _)) (pv 7) (nomark _)) (pw_or1 (pt_cmpR (op_neI (K := K) rfl M_Eq hr (by decide)) (pv 4) (pe_callD M_by_name hr (by decide) (by rfl) (pa_cons (pv 1) (pa_cons (pv 3) pa_nil))) (nomark _)))))) (pss_one (ps_ret pe_bl)) pss_nil)
      (pss_cons (ps_if (pt_cmpR (op_inI (K := K) rfl M_Eq nb hr (by decide)) (pv 4) (pe_lst (pa_cons pe_non (pa_cons pe_int (pa_cons pe_str (pa_cons (pe_tup pa_nil) (pa_cons (pe_callD M_parts hr (by decide) (by rfl) (pa_cons (pv 3) pa_nil)) pa_nil)))))) (by rfl)) (pss_one (ps_ret pe_bl)) pss_nil)
      (pss_cons (ps_set (i := 8) sc_law.nd rfl (Or.inl rfl) (pe_slice sl_list (pe_callD M_parts hr (by decide) (by rfl) (pa_cons (pv 3) pa_nil)) po_none (po_some pe_int)))
      (pss_cons (ps_set (i := 9) sc_law.nd rfl (Or.inl rfl) (pe_makeP CP_Edition hr (by decide) (by rfl) (pa_cons (pe_ix ix_list (pv 8) pe_int (fun _ _ => rfl)) (pa_cons (pe_ix ix_list (pv 8) pe_int (fun _ _ => rfl)) (pa_cons (pe_ix ix_list (pv 8) pe_int (fun _ _ => rfl)) (pa_cons (pe_ix ix_list (pv 8) pe_int (fun _ _ => rfl)) (pa_cons (pe_ix ix_list (pv 8) pe_int (fun _ _ => rfl)) (pa_cons (pe_ix ix_list (pv 8) pe_int (fun _ _ => rfl)) pa_nil))))))))
      (pss_cons (ps_if (pt_cmpR op_ne (pe_callB (call_repr (K := K) rfl hg hr.units) (by rfl) b_repr (by decide +kernel) (pa_cons (pe_callD M_seen hr (by decide) (by rfl) (pa_cons (pv 9) pa_nil)) pa_nil)) (pe_callB (call_repr (K := K) rfl hg hr.units) (by rfl) b_repr (by decide +kernel) (pa_cons (pe_op op_catX (pv 8) (pe_lst (pa_cons (pe_tup pa_nil) (pa_cons pe_str (pa_cons (pe_tup pa_nil) (pa_cons pe_str pa_nil)))))) pa_nil)) (nomark _)) (pss_one (ps_ret pe_bl)) pss_nil)
      (pss_cons (ps_par (i := 10) (j := 11) (by rfl) sc_law.nd rfl rfl (by decide) rfl rfl (pa_cons (pe_callD M_pick hr (by decide) (by rfl) (pa_cons (pv 1) (pa_cons (pe_callD0 M_notes hr (by decide) (by rfl)) pa_nil))) (pa_cons (pe_callD M_pick hr (by decide) (by rfl) (pa_cons (pv 1) (pa_cons (pe_lst (pa_cons pe_str (pa_cons pe_str (pa_cons pe_str pa_nil)))) pa_nil))) pa_nil)) (by rfl))
      (pss_cons (ps_set (i := 12) sc_law.nd rfl (Or.inl rfl) (pe_callD M_copied hr (by decide) (by rfl) (pa_cons (pv 3) pa_nil)))
      (pss_cons (ps_dput (hu_of hr) (pe_dget (hu_of hr) (pv 12) pe_str (fun _ _ => rfl)) (pv 10) (pv 11) rfl)
      (pss_cons (ps_if (PW.pt (pw_or (pt_not (pt_val (pe_callG M_right hg hr (by decide) (by rfl) (pa_cons (pv 12) (pa_cons (pe_methD M_ww hr (by decide) (pv 4) (pa_cons (pv 10) (pa_cons (pv 11) pa_nil))) pa_nil))))) (pw_or1 (pt_cmpR (op_neI (K := K) rfl M_Eq hr (by decide)) (pe_methK MK_ww hr (by decide) (pv 4) (pk_cons (pv 11) (pk_cons (pv 10) pk_nil))) (pe_callD M_edition hr (by decide) (by rfl) (pa_cons (pv 12) pa_nil)) (nomark _))))) (pss_one (ps_ret pe_bl)) pss_nil)
      (pss_cons (ps_set (i := 12) sc_law.nd rfl (Or.inl rfl) (pe_callD M_copied hr (by decide) (by rfl) (pa_cons (pv 3) pa_nil)))
      (pss_cons (ps_dput (hu_of hr) (pv 12) pe_str (pe_callTy call_tuple_of (by rfl) b_tuple (by decide +kernel) (pa_cons (pe_callB (cr_sortedX hr.units) (by rfl) b_sorted (by decide +kernel) (pa_cons (pe_callD M_any_of hr (by decide) (by rfl) (pa_cons (pv 1) (pa_cons (pe_callD0 M_notes hr (by decide) (by rfl)) (pa_cons pe_int pa_nil)))) pa_nil)) pa_nil)) rfl)
      (pss_cons (ps_if (pt_cmpR (op_neI (K := K) rfl M_Eq hr (by decide)) (pe_methK MK_wr hr (by decide) (pv 4) (pk_cons (pe_callTy call_list_of (by rfl) b_list (by decide +kernel) (pa_cons (pe_dget (hu_of hr) (pv 12) pe_str (fun _ _ => rfl)) pa_nil)) pk_nil)) (pe_callD M_edition hr (by decide) (by rfl) (pa_cons (pv 12) pa_nil)) (nomark _)) (pss_one (ps_ret pe_bl)) pss_nil)
      (pss_one (ps_if (PW.pt (pw_or (pt_not (pt_val (pe_callG M_right hg hr (by decide) (by rfl) (pa_cons (pv 12) (pa_cons (pe_methD M_wr hr (by decide) (pv 4) (pa_cons (pe_callD M_shuffled hr (by decide) (by rfl) (pa_cons (pv 1) (pa_cons (pe_dget (hu_of hr) (pv 12) pe_str (fun _ _ => rfl)) pa_nil))) pa_nil)) pa_nil))))) (pw_or1 (pt_not (pt_val (pe_callG M_right hg hr (by decide) (by rfl) (pa_cons (pv 3) (pa_cons (pv 4) pa_nil)))))))) (pss_one (ps_ret pe_bl)) pss_nil))))))))))))))))))))
      (pss_one (ps_ret pe_bl)))), ?_⟩
  refine (?go : Es K _ (Wd.scr K a ns) (startD ["_law_script", "_law_draw", "_law_turn", "_law_sheet_here", "_law_made", "_law_near", "_law_mate", "_law_is_same", "_law_verbs", "_law_bare", "_law_note", "_law_verb", "_law_later"] [.raw (.ref a)]) { nx := fun _ _ => False, rt := fun _ d => d = .bl true }) H _ H _ (fun _ => True) ⟨sl_start (.cons (.raw _) .nil), fun _ _ => List.not_mem_nil, Sm.refl _, hq, stab_true, trivial⟩ (fun _ _ _ _ _ z => z.elim) (fun w' v G' σ' H' env' d e o' => by subst e; have rv := o'.f.2; cases rv; exact fin H') (fun _ _ _ _ _ z => z.elim) (fun _ _ _ _ _ z => z.elim)
  have scr : Scr K (Wd.scr K a ns) a ns := fun G H i => i
  refine es_seq (es_asg (Wp.like (wp_callO (wa_one (wp_var rfl ⟨a, ns, rfl, scr, hn, fun d wl cl wide cells h1 h2 => ⟨(Wd.scr K a ns).draw ⟨d, wl, cl⟩ 0, fun G σ H env F o => ⟨G, Sm.refl _, draw_of h1 h2 o⟩, ?_⟩⟩)))))
  generalize hr0 : (⟨d, wl, cl⟩ : Dr) = r
  have hd : d = r.d := by rw [← hr0]
  subst hd
  have hw := drawW_draw (Wd.scr K a ns) r
  generalize hwf : (Wd.scr K a ns).draw r = wf at hw
  have scr' : Scr K (wf 0) a ns := by rw [← hwf]; exact scr.le (draw_le _ _ _)
  refine es_seqM (fun _ _ => True) (es_forG (wi_rng1 (wa_one (wp_op (wp_int (wp_cb (wa_cons (wp_cb (wa_one (wp_var rfl (wb_lenScr scr' (wa_one (wp_int (wb_min2 (w2_I0 (fun _ => .int _) ?_))))))))))))))) (fun w e _ => es_ret (wp_bl rfl))
  generalize hm : (2 + if (8 : Int) < (ns.length : Int) then (8 : Int) else (ns.length : Int)) = m
  have m0 : 0 ≤ m ∧ m ≤ 10 := by
    rw [← hm]; split <;> omega
  let Iv : Nat → Wd → EL.Env → Prop := fun i w e => ∃ (t : Nat) (x2 x3 x4 x5 x6 x7 x8 x9 x10 x11 x12 : Option D), t ≤ 1400 * i ∧ w = wf t ∧ e = [some (.raw (.ref a)), some (.raw (.ref r.d)), x2, x3, x4, x5, x6, x7, x8, x9, x10, x11, x12]
  refine ⟨m, rfl, by omega, Iv, ⟨0, none, none, none, none, none, none, none, none, none, none, none, by omega, rfl, rfl⟩, ?_, fun _ _ _ => trivial⟩
  rintro i w e x hx ⟨t, x2, x3, x4, x5, x6, x7, x8, x9, x10, x11, x12, ht, rfl, rfl⟩
  have hi : i < m.toNat := by have := (List.getElem?_eq_some_iff.mp hx).1; rwa [rangeD_length] at this
  have tb : t + 1400 ≤ tMax := by
    have : tMax = 1000000000000 := rfl
    omega
  refine ⟨_, wg_name, es_seq (es_asg (Wp.turn (wp_callDO (wa_cons (wp_var rfl (wa_cons (wp_int (wa_nil (⟨wf, r, t, _, rfl, rfl, hw, by omega, 3, rfl, by decide, by decide, fun S p q hS => ⟨_, S.d, fun G σ H env F v o sF => still_sheet o sF, ?_⟩⟩)))))))))⟩
  refine es_seq (es_par (wa_cons (wp_call0 (wa_one (wp_var rfl ⟨S, rfl, hS, wa_one (Wp.turn (wp_callDO (wa_cons (wp_var rfl (wa_one (wp_var rfl ⟨wf, r, t + 300, _, rfl, rfl, hw, by omega, S, rfl, hS, fun U p2 q2 hU => ⟨_, U.d, fun G σ H env F v o sF => still_sheet o sF, _, _, rfl, ?_⟩⟩))))))⟩)))))
  refine es_seq (es_if (wt_or (wt_not (wt_B (wp_call0 (wa_cons (wp_var rfl (wa_one (wp_var rfl ⟨S, rfl, hS, _, rfl, ?_⟩)))))))))
  refine wt_not (wt_B (wp_call0 (wa_cons (wp_var rfl (wa_one (wp_callD (wa_cons (wp_var rfl (wa_one (wp_var rfl ⟨wf, r, t + 300 + 400, _, rfl, rfl, hw, by omega, S, rfl, hS, ⟨S, rfl, hS, _, rfl, ?_⟩⟩))))))))))
  refine es_next (es_seq (es_asg (wp_call0 (wa_one (wp_var rfl ⟨U, rfl, hU, ?_⟩)))))
  refine es_seq (es_asg (wp_op (wp_cb (wa_one (wp_call0 (wa_one (wp_var rfl ⟨U, rfl, wb_parts hU (wp_cb (wa_one (wp_call0 (wa_one (wp_var rfl ⟨S, rfl, wb_parts hS (w2_eqS ?_)⟩)))))⟩)))))))
  have eb : decide (U.pt.shown = S.pt.shown) = decide (S.key = U.key) := decide_eq_decide.mpr ⟨fun h => hS.tell hU h.symm, fun h => by rw [tell_key h]⟩
  rw [eb]
  refine es_seq (es_if (wt_or (wt_test (wp_op (wp_op (wp_var rfl (wp_var rfl (w2_own (neg := false) (.inl ⟨S, U, rfl, _, rfl, wp_var rfl (w2_neB ⟨_, rfl, ?_⟩)⟩)))))))))
  rw [show (!decide ((if false = true then !decide (S.key = U.key) else decide (S.key = U.key)) = decide (S.key = U.key))) = false by simp]
  refine wt_or (wt_test (wp_op (wp_op (wp_var rfl (wp_var rfl (w2_own (neg := true) (.inl ⟨S, U, rfl, _, rfl, wp_var rfl (w2_eqB ⟨_, rfl, ?_⟩)⟩)))))))
  rw [show decide ((if true = true then !decide (S.key = U.key) else decide (S.key = U.key)) = decide (S.key = U.key)) = false by cases decide (S.key = U.key) <;> rfl]
  refine wt_test (wp_op (wp_var rfl (wp_callD (wa_cons (wp_var rfl (wa_one (wp_var rfl ⟨wf, r, t + 300 + 400 + 200, _, rfl, rfl, hw, by omega, S, rfl, hS, w2_own (neg := true) (.inl ⟨S, S, rfl, _, rfl, _, rfl, ?_⟩)⟩)))))))
  rw [show (if true = true then !decide (S.key = S.key) else decide (S.key = S.key)) = false by simp]
  refine es_next (es_seq (es_if (wt_test (wp_op (wp_var rfl (wp_lst (wa_cons (wp_non (wa_cons (wp_int (wa_cons (wp_str (wa_cons (wp_tup (wa_nil (⟨by simp, wa_cons (wp_call0 (wa_cons (wp_var rfl (wa_nil (⟨S, rfl, wa_nil (⟨by simp, w2_inO ?_ ⟨_, rfl, ?_⟩⟩)⟩)))))⟩))))))))))))))))
  · intro d hd
    refine ⟨?_, .inr ⟨S, d, rfl, ?_, rfl⟩⟩
    · simp only [List.mem_cons, List.not_mem_nil, or_false] at hd
      rcases hd with rfl | rfl | rfl | rfl | rfl <;> rfl
    · simp only [List.mem_cons, List.not_mem_nil, or_false] at hd
      rcases hd with rfl | rfl | rfl | rfl | rfl <;> rfl
  refine es_next (es_seq (es_asg (wp_slL (wp_call0 (wa_one (wp_var rfl ⟨S, rfl, _, rfl, wo_none (wo_some (wp_int ⟨6, rfl, ?_⟩))⟩))))))
  have ev : EL.cutD S.parts none (some 6) = notesS.map fun n => D.str (S.f n) := by
    simp [EL.cutD, HT.sIx, Sheet.parts, notesS]
  rw [ev]
  let Bs : Sheet := ⟨S.f, [], "no", [], "skip"⟩
  have hB : Bs.Ok := ⟨hS.fw, a_nil, p_no, ⟨[], List.nil_sublist _, sort_nil.symm⟩, g_skip⟩
  refine es_seq (es_asg (wp_makeP (dds := [.tup [], .str "no", .tup [], .str "skip"]) (fun G => .cons (rA G) (.cons (.str _) (.cons (rR G) (.cons (.str _) .nil)))) (wa_cons (wp_op (wp_var rfl (wp_int (w2_ixL rfl (wa_cons (wp_op (wp_var rfl (wp_int (w2_ixL rfl (wa_cons (wp_op (wp_var rfl (wp_int (w2_ixL rfl (wa_cons (wp_op (wp_var rfl (wp_int (w2_ixL rfl (wa_cons (wp_op (wp_var rfl (wp_int (w2_ixL rfl (wa_cons (wp_op (wp_var rfl (wp_int (w2_ixL rfl (wa_nil (?_))))))))))))))))))))))))))))))))))
  refine ⟨Bs.ed, init_of (S := Bs) hB (.inl (.inr rfl)) (.refl _) (.inl (.inr rfl)) (.refl _), ?_⟩
  refine es_seq (es_if (wt_test (wp_op (wp_cb (wa_one (wp_call0 (wa_one (wp_var rfl ⟨Bs, rfl, wb_parts hB (wp_cb (wa_one (wp_op (wp_var rfl (wp_lst (wa_cons (wp_tup (wa_nil (⟨by simp, wa_cons (wp_str (wa_cons (wp_tup (wa_nil (⟨by simp, wa_cons (wp_str (wa_nil (⟨by simp, w2_cat (by simp [notesS]) ?_⟩)))⟩)))))⟩)))))))))⟩))))))))
  refine wb_parts (S := Bs) hB (w2_neS ⟨_, rfl, ?_⟩)
  rw [decide_eq_true rfl]
  refine es_next (es_seq (es_par (wa_cons (wp_callD (wa_cons (wp_var rfl (wa_cons (wp_call0 (wa_nil (⟨rfl, wa_nil (⟨wf, r, t + 300 + 400 + 200 + 200, _, rfl, rfl, hw, by omega, _, rfl, by decide, by decide, fun x hx => ?_⟩)⟩))))))))))
  obtain ⟨nt, hnt, rfl⟩ := List.mem_map.mp hx
  refine wa_one (wp_callD (wa_cons (wp_var rfl (wa_cons (wp_lst (wa_cons (wp_str (wa_cons (wp_str (wa_cons (wp_str (wa_nil (⟨by simp, wa_nil (⟨wf, r, t + 300 + 400 + 200 + 200 + 1, _, rfl, rfl, hw, by omega, _, rfl, by simp, by simp, fun x hx => ?_⟩)⟩)))))))))))))
  obtain ⟨vb, hvb', rfl⟩ := List.mem_map.mp (show x ∈ (["none", "lazy", "forced"] : List Str).map D.str from hx)
  have hvb := w_all vb hvb'
  have hL : (S.putW nt vb).Ok := hS.putW hvb
  refine ⟨_, _, rfl, es_seq (es_asg (wp_callO (wa_one (wp_var rfl ⟨S, rfl, fun p3 q3 => ?_⟩))))⟩
  refine es_seq (es_sheetW (S := S) (p := p3) (q := q3) rfl (wp_var rfl ⟨_, vb, rfl, rfl, wp_var rfl ⟨_, nt, rfl, rfl, hnt, ?_⟩⟩))
  refine es_still (S := S.putW nt vb) (p := p3) (q := q3) (i := 12) rfl ?_
  refine es_seq (es_if (wt_or (wt_not (wt_B (wp_call0 (wa_cons (wp_var rfl (wa_one (wp_meth (wp_var rfl ⟨_, rfl, no_ww S, wa_cons (wp_var rfl (wa_one (wp_var rfl ⟨S, nt, vb, rfl, hS, hnt, hvb, S.putW nt vb, rfl, hL, _, rfl, ?_⟩)))⟩))))))))))
  refine wt_test (wp_op (wp_methN ord_rev (wp_var rfl ⟨_, rfl, no_ww S, wa_cons (wp_var rfl (wa_one (wp_var rfl ⟨rfl, S, nt, vb, rfl, hS, hnt, hvb, wp_call0 (wa_one (wp_var rfl ⟨S.putW nt vb, rfl, hL, w2_own (neg := true) (.inl ⟨S.putW nt vb, S.putW nt vb, rfl, _, rfl, _, rfl, ?_⟩)⟩))⟩)))⟩)))
  rw [show (if true = true then !decide ((S.putW nt vb).key = (S.putW nt vb).key) else decide ((S.putW nt vb).key = (S.putW nt vb).key)) = false by simp]
  refine es_next (es_seq (es_asg (wp_callO (wa_one (wp_var rfl ⟨S, rfl, fun p4 q4 => ?_⟩)))))
  refine es_seq (es_sheetF (S := S) (p := p4) (q := q4) rfl (wp_cb (wa_one (wp_cb (wa_one (wp_callD (wa_cons (wp_var rfl (wa_cons (wp_call0 (wa_nil (⟨rfl, wa_cons (wp_int (wa_nil (⟨fun t => (wf t).own K (S.own p4 q4), r, t + 300 + 400 + 200 + 200 + 1 + 1, _, rfl, rfl, hw.own _, by omega, _, 2, rfl, by decide, by decide, by decide, fun ys hys => ?_⟩)))⟩))))))))))))
  obtain ⟨ss, hss, rfl⟩ := sub_str hys
  refine wb_sortedS (.inl rfl) (wb_tuple (.inl rfl) ⟨_, { S with rds := sortS ss }, rfl, rfl, put_rds, ?_⟩)
  have hL2 : Sheet.Ok { S with rds := sortS ss } := ⟨hS.fw, hS.ans, hS.pre, ⟨ss, hss, rfl⟩, hS.sg⟩
  generalize hrd : sortS ss = rd at hL2
  refine es_still (S := { S with rds := rd }) (p := p4) (q := q4) (i := 12) rfl ?_
  have hrl := len_nodup hL2.rd.1 hL2.rd.2
  have vr : valK (Sheet.kvs { S with rds := rd } (.dct (wordsK S.f))) (.inr "reads") = some (.tup (rd.map D.str)) := val_rds (S := { S with rds := rd })
  refine es_seq (es_if (wt_test (wp_op (wp_methN ord_id (wp_var rfl ⟨_, rfl, no_wr S, wa_one (wp_cb (wa_one (wp_dget (wp_var rfl ⟨_, rfl, wp_str ⟨.inr "reads", _, rfl, vr, wb_list (.inr rfl) ⟨rfl, S, _, rd, rd, rfl, .inl rfl, .refl _, hL2, wp_call0 (wa_one (wp_var rfl ⟨{ S with rds := rd }, rfl, hL2, w2_own (neg := true) (.inl ⟨{ S with rds := rd }, { S with rds := rd }, rfl, _, rfl, _, rfl, ?_⟩)⟩))⟩⟩⟩))))⟩)))))
  rw [show (if true = true then !decide ((({ S with rds := rd } : Sheet)).key = (({ S with rds := rd } : Sheet)).key) else decide ((({ S with rds := rd } : Sheet)).key = (({ S with rds := rd } : Sheet)).key)) = false by simp]
  refine es_next (es_if (wt_or (wt_not (wt_B (wp_call0 (wa_cons (wp_var rfl (wa_one (wp_meth (wp_var rfl ⟨_, rfl, no_wr S, wa_one (wp_callD (wa_cons (wp_var rfl (wa_one (wp_dget (wp_var rfl ⟨_, rfl, wp_str ⟨.inr "reads", _, rfl, vr, wf, r, t + 300 + 400 + 200 + 200 + 1 + 1 + 100, _, rfl, rfl, hw, by omega, _, .inr rfl, by rw [List.length_map]; exact Nat.le_trans hrl (by decide), str_shuf, fun ys hy => ?_⟩⟩))))))⟩))))))))))
  obtain ⟨lr, rfl, pr⟩ := perm_str hy
  refine ⟨S, _, lr, rd, rfl, .inl rfl, pr, hL2, { S with rds := rd }, rfl, hL2, _, rfl, ?_⟩
  refine wt_not (wt_B (wp_call0 (wa_cons (wp_var rfl (wa_one (wp_var rfl ⟨S, rfl, hS, _, rfl, ?_⟩))))))
  exact es_next ⟨t + 300 + 400 + 200 + 200 + 1 + 1 + 100 + 100, _, _, _, _, _, _, _, _, _, _, _, by omega, rfl, rfl⟩
end
end K01

set_option Elab.async false
set_option linter.all false
set_option maxRecDepth 100000
set_option maxHeartbeats 4000000
namespace EL
open PySem PySem.Spec PyProof.Rows L2
section
variable {K : PySem.W.Frag} {h : Heap} {mg : Str → Option Value} {C f g p : Addr} {od an : Option Addr} {sl : Array (Option Value)} {oc dV kV dc pm cdv ct : Value} {x qual : Str} {st : Stmt} {ps : List Str}
abbrev BindOk (x qual : Str) (st : Stmt) (ps : List Str) : Prop := ∀ (kV doc pm : Value) (an : Option Addr) (cdv ct : Value) (us : List Value), us.length = ps.length → bindArgs (PySem.W.fnOf x qual (defArgs st) (defBody st) (defScope st) .none kV doc pm an cdv ct) ⟨us, []⟩ = pure (ps.zip us)
theorem defAt_mk (X : K.In h) (G : h.Ns mainGlobals mg) (a : PySem.W.nsIn K mainGlobals x = some (some (.ref f))) (l : K.lookup f = some ⟨oc, od, .func (PySem.W.fnOf x x (defArgs st) (defBody st) (defScope st) .none kV dc pm an cdv ct), sl⟩) (c : PySem.W.codeIn K cdv x = true) (k : PySem.W.keepIn K (.ref f) = true)
    (b : BindOk x x st ps) : DefAt K mg x st ps := ⟨f, _, PySem.W.mg_of X G a, fun_mk l c k, (fun_mk l c k).binds b⟩
theorem methAt_mk (a : PySem.W.findIn K (.ref C) x = some (some (.ref f))) (n : PySem.W.isFn K (.ref f) = true) (l : K.lookup f = some ⟨oc, od, .func (PySem.W.fnOf x qual (defArgs st) (defBody st) (defScope st) .none kV dc pm an cdv ct), sl⟩) (c : PySem.W.codeIn K cdv qual = true) (k : PySem.W.keepIn K (.ref f) = true)
    (b : BindOk x qual st ps) : MethAt K C x qual st ps := ⟨f, _, ⟨a, n, k⟩, fun_mk l c k, (fun_mk l c k).binds b⟩
theorem propAt_mk {rest : List Value} (a : PySem.W.findIn K (.ref C) x = some (some (.ref p))) (s : PySem.W.specialIn K (.ref p) "__get__" = some (some (.builtin "property.__get__"))) (t : PySem.W.takesIn K (.ref p) = some true) (r : PySem.W.recIn K p "property" = some (.ref g :: rest))
    (l : K.lookup g = some ⟨oc, od, .func (PySem.W.fnOf x qual (defArgs st) (defBody st) (defScope st) .none kV dc pm an cdv ct), sl⟩) (c : PySem.W.codeIn K cdv qual = true) (k : PySem.W.keepIn K (.ref g) = true)
    (b : BindOk x qual st ["self"]) : PropAt K C x qual st := ⟨p, g, _, ⟨a, s, t, rest, r⟩, fun_mk l c k, (fun_mk l c k).binds b⟩
/-- a module's tuple of texts -/
theorem const_mk {ob : Obj} {its : Array Value} {n : Nat} {ss : List Str} (X : K.In h) (G : h.Ns mainGlobals mg) (a : PySem.W.nsIn K mainGlobals x = some (some (.ref f))) (l : K.lookup f = some ob) (c : ob.cls = .type "tuple") (e : ob.dict = none) (d : ob.data = .seq its n) (r : Vals (ss.map V.str) its.toList) (hz : its.size ≤ sizeLine) :
    mg x = some (.ref f) ∧ (∃ ob : Obj, K.lookup f = some ob ∧ ob.cls = .type "tuple" ∧ ob.dict = none) ∧ ∀ G : Hp, Rep K G (.ref f) (.tup (ss.map D.str)) :=
  ⟨PySem.W.mg_of X G a, ⟨ob, l, c, e⟩, fun G => .tup (.inr ⟨ob, its, n, l, c, d, hz, r⟩) (strs_reps ss)⟩
end
end EL

set_option Elab.async false
set_option linter.all false
set_option maxRecDepth 100000
set_option maxHeartbeats 4000000
/-! The head by a Hook of one's own: a list of defs that are looked for, and a list of questions that a part of the heap must answer. -/
namespace EH
open PySem PySem.Spec PyProof.Rows L2 EL
/-- a def that is looked for -/
structure Fx where
  spot : PySem.W.Frag → Addr
  nm : Str
  qual : Str
  st : Stmt
  dfl : List He.Dv := []
  pre : PySem.W.Frag → Bool := fun _ => true
def lookFn (K : PySem.W.Frag) (a : Addr) : He.FnW := match K.lookup a with
  | some ⟨_, _, .func u, _⟩ => some (u.name, u.qualname, u.params, u.body, u.scope, u.globals, u.closure, u.builtins)
  | _ => none
def Fx.want (x : Fx) : He.FnW := some (x.nm, x.qual, defArgs x.st, .stmts (defBody x.st), defScope x.st, mainGlobals, [], builtinsNs)
def Fx.dvs (x : Fx) (K : PySem.W.Frag) : List V := x.dfl.map (He.Dv.v K)
def Fx.good (K : PySem.W.Frag) (x : Fx) : Bool := x.pre K && (PySem.W.keepIn K (.ref (x.spot K)) && (match K.lookup (x.spot K) with
  | some ⟨_, _, .func u, _⟩ => PySem.W.codeIn K u.code x.qual && He.dflB K u.defaults (x.dvs K)
  | _ => false))
theorem Fx.fun_ {K : PySem.W.Frag} {x : Fx} (e : lookFn K (x.spot K) = x.want) (c : x.good K = true) : x.pre K = true ∧ ∃ fd, FunD K x.nm x.qual (defArgs x.st) (defBody x.st) (defScope x.st) (x.dvs K) [] (x.spot K) fd := by
  obtain ⟨c0, c1⟩ := He.ba c
  obtain ⟨kp, c2⟩ := He.ba c1
  refine ⟨c0, ?_⟩
  unfold lookFn at e
  cases q : K.lookup (x.spot K) with
  | none => rw [q] at e; cases e
  | some o =>
    obtain ⟨o1, o2, o3, o4⟩ := o
    rw [q] at e c2
    cases o3 with
    | func u =>
      obtain ⟨u1, u2, u3, u4, u5, u6, u7, u8, u9, u10, u11, u12, u13, u14, u15⟩ := u
      have e' : (some (u1, u2, u3, u4, u5, u6, u7, u15) : He.FnW) = some (x.nm, x.qual, defArgs x.st, .stmts (defBody x.st), defScope x.st, mainGlobals, [], builtinsNs) := e
      cases e'
      have c3 : (PySem.W.codeIn K u13 x.qual && He.dflB K u8 (x.dvs K)) = true := c2
      exact ⟨_, ⟨o1, o2, u8, u9, u10, u11, u12, u13, u14, o4, rfl, q, (He.ba c3).1, He.dflB_ok (He.ba c3).2, .inl rfl⟩, kp⟩
    | _ => cases e
/-- a def without defaults -/
theorem plainFn {K : PySem.W.Frag} {nm qual : Str} {st : Stmt} {f : Addr} {fd : FuncData} (F : FunD K nm qual (defArgs st) (defBody st) (defScope st) [] [] f fd) : Fun K nm qual st f fd := by
  obtain ⟨⟨a1, a2, dV, a3, a4, a5, a6, a7, a8, a9, e, l, c, d, _⟩, kp⟩ := F
  rcases d with ⟨_, h⟩ | ⟨h, _⟩
  · subst h
    exact ⟨⟨a1, a2, a3, a4, a5, a6, a7, a8, a9, e, l, c⟩, kp⟩
  · exact absurd rfl h
/-! ### the Hook -/
abbrev Qs := List (PySem.W.Frag → Bool)
abbrev Seen : Type := Bool × List He.FnW
def seen (qs : Qs) (fx : List Fx) (K : PySem.W.Frag) : Seen := ((qs.all fun q => q K) && fx.all fun x => x.good K, fx.map fun x => lookFn K (x.spot K))
def wanted (fx : List Fx) : Seen := (true, fx.map Fx.want)
def Says (qs : Qs) (fx : List Fx) (K : PySem.W.Frag) : Prop := seen qs fx K = wanted fx
def seenG (n : Nat) (qs : Qs) (fx : List Fx) (g : Addr → Option Obj) : Seen := seen qs fx (He.frG g (He.asD g n))
def hook (n : Nat) (qs : Qs) (fx : List Fx) : PySem.W.Hook where
  α := Seen
  obs := fun s => seenG n qs fx s.heap.get?
  val := fun _ => wanted fx
  says := fun _ h => ∃ K : PySem.W.Frag, K.In h ∧ Says qs fx K
  of := fun _ _ e => ⟨_, He.frG_in, e⟩
  keeps := fun _ _ _ ⟨K, hK, c⟩ k => ⟨K, hK.keeps k, c⟩
def obT (n : Nat) (qs : Qs) (fx : List Fx) (s : PySem.W.SharedT) : Seen := seenG n qs fx (HandSHeadRun.getT s)
theorem obT_eq {n : Nat} {qs : Qs} {fx : List Fx} (s : PySem.W.SharedT) : obT n qs fx s = (hook n qs fx).obs s.abs := by
  show seenG n qs fx (HandSHeadRun.getT s) = seenG n qs fx s.abs.heap.get?
  rw [show HandSHeadRun.getT s = s.abs.heap.get? from funext (HandSHeadRun.getT_eq s)]
section
variable {qs : Qs} {fx : List Fx} {K : PySem.W.Frag} {h : Heap} {mg : Str → Option Value}
theorem Says.q (c : Says qs fx K) (i : Nat) {q : PySem.W.Frag → Bool} (hq : qs[i]? = some q := by rfl) : q K = true :=
  List.all_eq_true.mp (He.ba (congrArg Prod.fst c)).1 q (List.mem_of_getElem? hq)
theorem Says.f (c : Says qs fx K) (i : Nat) {x : Fx} (hx : fx[i]? = some x := by rfl) : x.pre K = true ∧ ∃ fd, FunD K x.nm x.qual (defArgs x.st) (defBody x.st) (defScope x.st) (x.dvs K) [] (x.spot K) fd := by
  have e : fx.map (fun x => lookFn K (x.spot K)) = fx.map Fx.want := congrArg Prod.snd c
  have e2 := congrArg (fun l => l[i]?) e
  simp only [List.getElem?_map, hx, Option.map_some, Option.some.injEq] at e2
  exact Fx.fun_ e2 (List.all_eq_true.mp (He.ba (congrArg Prod.fst c)).2 x (List.mem_of_getElem? hx))
/-! ### questions -/
def qFree (x : Str) (K : PySem.W.Frag) : Bool := He.eqO (PySem.W.nsIn K mainGlobals x) (some none)
def qGlo (x : Str) (K : PySem.W.Frag) : Bool := He.eqO (PySem.W.nsIn K mainGlobals x) (some (some (.ref (He.ga K x))))
def qMeth (C m : Str) (K : PySem.W.Frag) : Bool := (He.Fa.meth C m).ok K
def getter (C m : Str) (K : PySem.W.Frag) : Addr := match PySem.W.recIn K (He.ma K (He.ga K C) m) "property" with
  | some (.ref g :: _) => g
  | _ => 0
def qProp (C m : Str) (K : PySem.W.Frag) : Bool := He.eqO (PySem.W.findIn K (.ref (He.ga K C)) m) (some (some (.ref (He.ma K (He.ga K C) m)))) && (He.eqO (PySem.W.specialIn K (.ref (He.ma K (He.ga K C) m)) "__get__") (some (some (.builtin "property.__get__"))) && (decide (PySem.W.takesIn K (.ref (He.ma K (He.ga K C) m)) = some true) && (match PySem.W.recIn K (He.ma K (He.ga K C) m) "property" with
  | some (.ref _ :: _) => true
  | _ => false)))
def fxG (x : Str) (st : Stmt) : Fx := { spot := fun K => He.ga K x, nm := x, qual := x, st := st, pre := qGlo x }
def fxM (C m qual : Str) (st : Stmt) : Fx := { spot := fun K => He.ma K (He.ga K C) m, nm := m, qual := qual, st := st, pre := qMeth C m }
def fxP (C m qual : Str) (st : Stmt) : Fx := { spot := getter C m, nm := m, qual := qual, st := st, pre := qProp C m }
theorem free_ (X : K.In h) (G : h.Ns mainGlobals mg) {x : Str} (c : qFree x K = true) : mg x = none := He.free_ok X G c
theorem glo_ (X : K.In h) (G : h.Ns mainGlobals mg) {x : Str} (c : qGlo x K = true) : mg x = some (.ref (He.ga K x)) := He.glo_ok X G c
theorem defAt (X : K.In h) (G : h.Ns mainGlobals mg) (c : Says qs fx K) (i : Nat) {x : Str} {st : Stmt} {ps : List Str} (hx : fx[i]? = some (fxG x st)) (b : BindOk x x st ps) : DefAt K mg x st ps := by
  obtain ⟨a, fd, F⟩ := c.f i hx
  have F' := plainFn (st := st) F
  exact ⟨_, _, glo_ X G a, F', F'.binds b⟩
theorem methAt (c : Says qs fx K) (i : Nat) {C m qual : Str} {st : Stmt} {ps : List Str} (hx : fx[i]? = some (fxM C m qual st)) (b : BindOk m qual st ps) : MethAt K (He.ga K C) m qual st ps := by
  obtain ⟨a, fd, F⟩ := c.f i hx
  have F' := plainFn (st := st) F
  exact ⟨_, _, He.meth_ok a, F', F'.binds b⟩
theorem propAt (c : Says qs fx K) (i : Nat) {C m qual : Str} {st : Stmt} (hx : fx[i]? = some (fxP C m qual st)) (b : BindOk m qual st ["self"]) : PropAt K (He.ga K C) m qual st := by
  obtain ⟨a, fd, F⟩ := c.f i hx
  have F' := plainFn (st := st) F
  obtain ⟨a1, a⟩ := He.ba a
  obtain ⟨a2, a⟩ := He.ba a
  obtain ⟨a3, a4⟩ := He.ba a
  have hrec : ∃ rest, PySem.W.recIn K (He.ma K (He.ga K C) m) "property" = some (.ref (getter C m K) :: rest) := by
    unfold getter
    cases q : PySem.W.recIn K (He.ma K (He.ga K C) m) "property" with
    | none => rw [q] at a4; cases a4
    | some l =>
      rw [q] at a4
      cases l with
      | nil => cases a4
      | cons v r => cases v with
        | ref g => exact ⟨r, rfl⟩
        | _ => cases a4
  obtain ⟨rest, hrec⟩ := hrec
  exact ⟨_, _, _, ⟨He.eqO_ok a1, He.eqO_ok a2, of_decide_eq_true a3, rest, hrec⟩, F', F'.binds b⟩
def qStrs (x : Str) (ss : List Str) (K : PySem.W.Frag) : Bool := qGlo x K && match K.lookup (He.ga K x) with
  | some ⟨.type c, none, .seq its _, _⟩ => decide (c = "tuple") && (decide (its.size ≤ sizeLine) && He.relAll (ss.map V.str) its.toList)
  | _ => false
theorem strs_ (X : K.In h) (G : h.Ns mainGlobals mg) {x : Str} {ss : List Str} (c : qStrs x ss K = true) : mg x = some (.ref (He.ga K x)) ∧ (∃ ob : Obj, K.lookup (He.ga K x) = some ob ∧ ob.cls = .type "tuple" ∧ ob.dict = none) ∧ ∀ G : Hp, Rep K G (.ref (He.ga K x)) (.tup (ss.map D.str)) := by
  obtain ⟨c1, c2⟩ := He.ba c
  cases q : K.lookup (He.ga K x) with
  | none => rw [q] at c2; cases c2
  | some o =>
    obtain ⟨o1, o2, o3, o4⟩ := o
    rw [q] at c2
    cases o1 with
    | type t => cases o2 with
      | none => cases o3 with
        | seq its n =>
          have c3 : (decide (t = "tuple") && (decide (its.size ≤ sizeLine) && He.relAll (ss.map V.str) its.toList)) = true := c2
          obtain ⟨e1, c4⟩ := He.ba c3
          obtain ⟨e2, e3⟩ := He.ba c4
          obtain rfl := of_decide_eq_true e1
          exact ⟨glo_ X G c1, ⟨_, rfl, rfl, rfl⟩, fun G => .tup (.inr ⟨_, its, n, q, rfl, rfl, of_decide_eq_true e2, He.relAll_ok e3⟩) (strs_reps ss)⟩
        | _ => cases c2
      | some a => cases o3 <;> cases c2
    | _ => cases o2 <;> cases o3 <;> cases c2
def qIsC (x : Str) (K : PySem.W.Frag) : Bool := (He.Fa.cls x).ok K && (He.eqO (PySem.W.findIn K (.ref (He.ga K x)) "__class__") (some (some (.builtin "object.__class__"))) && (He.eqO (PySem.W.specialIn K (.builtin "object.__class__") "__get__") (some (some (.builtin "getset_descriptor.__get__"))) && (decide (PySem.W.takesIn K (.builtin "object.__class__") = some true) && decide (PySem.W.mroIn K (He.ga K x) (.type "object") = some true))))
theorem isC_ {x : Str} (c : qIsC x K = true) : IsC K (He.ga K x) := by
  obtain ⟨c1, c⟩ := He.ba c
  obtain ⟨c2, c⟩ := He.ba c
  obtain ⟨c3, c⟩ := He.ba c
  obtain ⟨c4, c5⟩ := He.ba c
  exact ⟨He.cls_ok c1, He.eqO_ok c2, He.eqO_ok c3, of_decide_eq_true c4, of_decide_eq_true c5⟩
def qKit (x : Str) (T : String) (K : PySem.W.Frag) : Bool := decide (PySem.W.kitOne K (.type T) (.ref (He.ga K x)) = some false)
def qKitS (x : Str) (K : PySem.W.Frag) : Bool := decide (PySem.W.kitOne K (.ref (He.ga K x)) (.ref (He.ga K x)) = some true)
def qMro (x : Str) (T : String) (b : Bool) (K : PySem.W.Frag) : Bool := decide (PySem.W.mroIn K (He.ga K x) (.type T) = some b)
def qSub (x : Str) (T : String) (b : Bool) (K : PySem.W.Frag) : Bool := decide (PySem.W.subIn K (.ref (He.ga K x)) (.type T) = some b)
def qNe (x : Str) (K : PySem.W.Frag) : Bool := He.eqO (PySem.W.findIn K (.ref (He.ga K x)) "__ne__") (some (some (.builtin "object.__ne__")))
/-- the i-th default of a method is the empty tuple -/
def qTup0 (a : PySem.W.Frag → Addr) (K : PySem.W.Frag) : Bool := match K.lookup (a K) with
  | some ⟨.type c, _, .seq its _, _⟩ => decide (c = "tuple") && decide (its = #[])
  | _ => false
theorem tup0_ {a : PySem.W.Frag → Addr} (c : qTup0 a K = true) (G : Hp) : Rep K G (.ref (a K)) (.tup []) := by
  unfold qTup0 at c
  cases q : K.lookup (a K) with
  | none => rw [q] at c; cases c
  | some o =>
    obtain ⟨o1, o2, o3, o4⟩ := o
    rw [q] at c
    cases o1 with
    | type t => cases o3 with
      | seq its n =>
        have c3 : (decide (t = "tuple") && decide (its = #[])) = true := c
        obtain ⟨e1, e2⟩ := He.ba c3
        obtain rfl := of_decide_eq_true e1
        obtain rfl := of_decide_eq_true e2
        exact .tup (.inr ⟨_, _, n, q, rfl, rfl, by decide, .nil⟩) .nil
      | _ => cases c
    | _ => cases o3 <;> cases c
end
/-- the goal that the head leaves, over a Hook -/
theorem walk_E {l : PySem.W.OpenLaw} {n k : Nat} {q : Program} {loose : List Str} {XP : (Str → Option Value) → Heap → Prop} {YP : World → Heap → Prop} {d : DefRec} {x : Str}
    (hn : l.most = some n) (hn2 : n ≤ sizeLine) (hdf : d.params.defaults = []) (hr : Room k callerA)
    (F : ∀ (w : World) (mg : Str → Option Value) (fa : Addr) (h : Heap), YP w h → h.Ns mainGlobals mg → mg d.name = some (.ref fa) →
      ∃ (K : PySem.W.Frag) (fd : FuncData) (sp : Sp), K.In h ∧ (∀ (s : Shared) (u : Value), BindsTo s fd ⟨[u], []⟩ [(x, u)]) ∧ (∀ base : Heap, K.In base → base.Ns mainGlobals mg → FnG l.prog w K mg base k fa fd [x] sp) ∧
        ∀ (H : Hp) (a : Addr) (ns : List Int), ns.length ≤ n → Only H → SqL K H a (ns.map V.int) → sp [.ref a] H (fun v _ => v = .bl true) E0) :
    PySem.W.WalkO q loose XP YP l.row.toRowW d [] (fun f vs => PySem.call f vs) := by
  refine Att.attach_call hn hdf fun w s₀ s₁ mg mb fa o pm cd doc a vs ns G Y ho hd hcd hmg hobj hints hlen hg => ?_
  obtain ⟨K, fd, sp, KX, hb, hF, hsp⟩ := F w mg fa _ Y G.T.g hmg
  exact law_callG KX G.T.g G.T.b G.T.builtins G.T.nolimit hg hobj hints (Nat.le_trans hlen hn2) hr hF hb fun H on sq => hsp H a ns hlen on sq
end EH

set_option Elab.async false
set_option linter.all false
set_option maxRecDepth 100000
set_option maxHeartbeats 0
namespace K01
open PySem PySem.W PySem.Calls PyProof.Rows EH
def qs : EH.Qs := [qFree "isinstance",
  qFree "list",
  qFree "tuple",
  qFree "len",
  qFree "set",
  qFree "all",
  qFree "zip",
  qFree "sorted",
  qFree "int",
  qFree "abs",
  qFree "dict",
  qFree "range",
  qFree "min",
  qFree "repr",
  qFree "str",
  qFree "bool",
  qFree "object",
  qStrs "RECORDS" notesS,
  qStrs "WORDS" wordsS,
  qStrs "OUTCOMES" outsS,
  qStrs "PRESUMED" presS,
  qStrs "STRANGE" strgS,
  qGlo "Edition",
  qIsC "Edition",
  qKitS "Edition",
  qKit "Edition" "NoneType",
  qKit "Edition" "bool",
  qKit "Edition" "int",
  qKit "Edition" "str",
  qKit "Edition" "list",
  qKit "Edition" "tuple",
  qMro "Edition" "list" false,
  qMro "Edition" "tuple" false,
  qSub "Edition" "NoneType" false,
  qSub "Edition" "int" false,
  qSub "Edition" "str" false,
  qSub "Edition" "list" false,
  qSub "Edition" "tuple" false,
  qNe "Edition",
  qTup0 (He.dflAt ("Edition", some "__init__") 0),
  qTup0 (He.dflAt ("Edition", some "__init__") 2),
  (He.Fa.noat "Edition" "own_words").ok,
  (He.Fa.noat "Edition" "own_rest").ok,
  (He.Fa.noat "Edition" "own_known").ok]
def fx : List EH.Fx := [fxG "is_list" s_is_list,
  fxG "is_one_of" s_is_one_of,
  fxG "are_different" s_are_different,
  fxG "edition_of" s_edition_of,
  fxG "need_record" s_need_record,
  fxG "_law_begun" s_l_begun,
  fxG "_law_mixed" s_l_mixed,
  fxG "_law_take" s_l_take,
  fxG "_law_pick" s_l_pick,
  fxG "_law_any_of" s_l_any_of,
  fxG "_law_shuffled" s_l_shuffled,
  fxG "_law_notes" s_l_notes,
  fxG "_law_known_sheet" s_l_known_sheet,
  fxG "_law_copied" s_l_copied,
  fxG "_law_sheet" s_l_sheet,
  fxG "_law_near_sheet" s_l_near_sheet,
  fxG "_law_edition" s_l_edition,
  fxG "_law_parts" s_l_parts,
  fxG "_law_seen" s_l_seen,
  fxG "_law_right" s_l_right,
  fxG "_law_by_name" s_l_by_name,
  fxG "law" s_law,
  fxP "Edition" "begin" "Edition.begin" s_E_begin,
  fxP "Edition" "yes" "Edition.yes" s_E_yes,
  fxP "Edition" "no" "Edition.no" s_E_no,
  fxP "Edition" "ready" "Edition.ready" s_E_ready,
  fxP "Edition" "agreed" "Edition.agreed" s_E_agreed,
  fxP "Edition" "refused" "Edition.refused" s_E_refused,
  fxP "Edition" "answers" "Edition.answers" s_E_answers,
  fxP "Edition" "presume" "Edition.presume" s_E_presume,
  fxP "Edition" "reads" "Edition.reads" s_E_reads,
  fxP "Edition" "strange" "Edition.strange" s_E_strange,
  fxM "Edition" "word" "Edition.word" s_E_word,
  fxM "Edition" "understands" "Edition.understands" s_E_understands,
  fxM "Edition" "with_word" "Edition.with_word" s_E_with_word,
  fxM "Edition" "with_reads" "Edition.with_reads" s_E_with_reads,
  fxM "Edition" "__eq__" "Edition.__eq__" s_E_eq,
  { spot := fun K => He.ma K (He.ga K "Edition") "__init__", nm := "__init__", qual := "Edition.__init__", st := s_E_init, dfl := [.adr (He.dflAt ("Edition", some "__init__") 0), .str "no", .adr (He.dflAt ("Edition", some "__init__") 2), .str "skip"], pre := (He.Fa.mkr "Edition").ok }]
abbrev R : PySem.W.OpenRow := PySem.W.OpenLaw.row PySem.Challenge.rw_amidupgrades_k01_editions_as_made
abbrev qv : Program := PySem.W.view R.prog [33]
def loose : List PySem.Str := ["__name__", "ExchangeError", "BadEdition", "BadRecord", "RECORDS", "WORDS", "OUTCOMES", "PRESUMED", "STRANGE", "Edition", "is_list", "is_one_of", "are_different", "edition_of", "need_record", "_law_begun", "_law_mixed", "_law_take", "_law_pick", "_law_any_of", "_law_shuffled", "_law_notes", "_law_known_sheet", "_law_copied", "_law_sheet", "_law_near_sheet", "_law_edition", "_law_parts", "_law_seen", "_law_right", "_law_by_name"]
theorem run (w : World) : HandSHeadRun.RunEq R qv (EH.hook 6 qs fx) (EH.obT 6 qs fx) 6000 loose w := by
  intro os
  kernel_rfl
end K01

set_option Elab.async false
set_option linter.all false
set_option maxRecDepth 100000
set_option maxHeartbeats 4000000
namespace K01
open PySem PySem.Spec PyProof.Rows L2 EL EH
theorem vals_app : ∀ {xs : List V} {us : List Value} {ys : List V} {ws : List Value}, Vals xs us → Vals ys ws → Vals (xs ++ ys) (us ++ ws)
  | _, _, _, _, .nil, h => h
  | _, _, _, _, .cons a r, h => .cons a (vals_app r h)
theorem vals_rev : ∀ {xs : List V} {us : List Value}, Vals xs us → Vals xs.reverse us.reverse
  | _, _, .nil => .nil
  | _, _, .cons a r => by
    rw [List.reverse_cons, List.reverse_cons]
    exact vals_app (vals_rev r) (.cons a .nil)
theorem methK_of {P : Program} {W : World} {K : PySem.W.Frag} {mg : Str → Option Value} {base : Heap} {C : Addr} {m qual : Str} {st : Stmt} {k : Nat} {ps ks : List Str} {sp : Sp} {π : {α : Type} → List α → List α} (A : MethAt K C m qual st ps) (d : MethD P W K mg base C m k ps sp)
    (hb : ∀ (kV doc pm : Value) (an : Option Addr) (cdv ct : Value) (us ws : List Value), us.length = 1 → ws.length = ks.length → bindArgs (PySem.W.fnOf m qual (defArgs st) (defBody st) (defScope st) .none kV doc pm an cdv ct) ⟨us, ks.zip ws⟩ = pure (ps.zip (us ++ π ws)))
    (hπ : ∀ {zs : List V} {ws : List Value}, Vals zs ws → Vals (π zs) (π ws)) : MethK P W K mg base C m k ks π ps sp := by
  obtain ⟨c, f, fd, M, b, F, o, lk, ho⟩ := d
  obtain ⟨f', fd', M', F', b'⟩ := A
  obtain ⟨a1, a2, a3, a4, a5, a6, a7, a8, a9, e, l, _⟩ := F'.ex
  have e1 : (some (some (.ref f')) : Option (Option Value)) = some (some (.ref f)) := M'.1.symm.trans M.1
  cases e1
  have e2 := l.symm.trans lk
  cases e2
  cases ho
  subst e
  exact ⟨c, f, _, M, ⟨fun s us ws _ h1 h2 => .of_eq (hb _ _ _ _ _ _ us ws h1 h2), fun r1 r2 => vals_app r1 (hπ r2)⟩, F⟩
theorem facts {P : Program} {W : World} {K : PySem.W.Frag} {h : Heap} {mg : Str → Option Value} {f : Addr} (X : K.In h) (G : h.Ns mainGlobals mg) (hfa : mg ("law" : Str) = some (.ref f)) (c : Says qs fx K) :
    ∃ fd : FuncData, (∀ (s : Shared) (v : Value), BindsTo s fd ⟨[v], []⟩ [("_law_script", v)]) ∧ ∀ base : Heap, K.In base → base.Ns mainGlobals mg → FnG P W K mg base 8 f fd ["_law_script"] (sp_law K) := by
  have b_isinstance : mg "isinstance" = none := free_ X G (c.q 0)
  have b_list : mg "list" = none := free_ X G (c.q 1)
  have b_tuple : mg "tuple" = none := free_ X G (c.q 2)
  have b_len : mg "len" = none := free_ X G (c.q 3)
  have b_set : mg "set" = none := free_ X G (c.q 4)
  have b_all : mg "all" = none := free_ X G (c.q 5)
  have b_zip : mg "zip" = none := free_ X G (c.q 6)
  have b_sorted : mg "sorted" = none := free_ X G (c.q 7)
  have b_int : mg "int" = none := free_ X G (c.q 8)
  have b_abs : mg "abs" = none := free_ X G (c.q 9)
  have b_dict : mg "dict" = none := free_ X G (c.q 10)
  have b_range : mg "range" = none := free_ X G (c.q 11)
  have b_min : mg "min" = none := free_ X G (c.q 12)
  have b_repr : mg "repr" = none := free_ X G (c.q 13)
  have b_str : mg "str" = none := free_ X G (c.q 14)
  have b_bool : mg "bool" = none := free_ X G (c.q 15)
  have b_object : mg "object" = none := free_ X G (c.q 16)
  have g0 := strs_ X G (x := "RECORDS") (ss := notesS) (c.q 17)
  have g1 := strs_ X G (x := "WORDS") (ss := wordsS) (c.q 18)
  have g2 := strs_ X G (x := "OUTCOMES") (ss := outsS) (c.q 19)
  have g3 := strs_ X G (x := "PRESUMED") (ss := presS) (c.q 20)
  have g4 := strs_ X G (x := "STRANGE") (ss := strgS) (c.q 21)
  have gC : mg "Edition" = some (.ref (He.ga K "Edition")) := glo_ X G (c.q 22)
  have iC : IsC K (He.ga K "Edition") := isC_ (c.q 23)
  have kS : PySem.W.kitOne K (.ref (He.ga K "Edition")) (.ref (He.ga K "Edition")) = some true := of_decide_eq_true (c.q 24)
  have k_NoneType : PySem.W.kitOne K (.type "NoneType") (.ref (He.ga K "Edition")) = some false := of_decide_eq_true (c.q 25)
  have k_bool : PySem.W.kitOne K (.type "bool") (.ref (He.ga K "Edition")) = some false := of_decide_eq_true (c.q 26)
  have k_int : PySem.W.kitOne K (.type "int") (.ref (He.ga K "Edition")) = some false := of_decide_eq_true (c.q 27)
  have k_str : PySem.W.kitOne K (.type "str") (.ref (He.ga K "Edition")) = some false := of_decide_eq_true (c.q 28)
  have k_list : PySem.W.kitOne K (.type "list") (.ref (He.ga K "Edition")) = some false := of_decide_eq_true (c.q 29)
  have k_tuple : PySem.W.kitOne K (.type "tuple") (.ref (He.ga K "Edition")) = some false := of_decide_eq_true (c.q 30)
  have mL : PySem.W.mroIn K (He.ga K "Edition") (.type "list") = some false := of_decide_eq_true (c.q 31)
  have mT : PySem.W.mroIn K (He.ga K "Edition") (.type "tuple") = some false := of_decide_eq_true (c.q 32)
  have u_NoneType : PySem.W.subIn K (.ref (He.ga K "Edition")) (.type "NoneType") = some false := of_decide_eq_true (c.q 33)
  have u_int : PySem.W.subIn K (.ref (He.ga K "Edition")) (.type "int") = some false := of_decide_eq_true (c.q 34)
  have u_str : PySem.W.subIn K (.ref (He.ga K "Edition")) (.type "str") = some false := of_decide_eq_true (c.q 35)
  have u_list : PySem.W.subIn K (.ref (He.ga K "Edition")) (.type "list") = some false := of_decide_eq_true (c.q 36)
  have u_tuple : PySem.W.subIn K (.ref (He.ga K "Edition")) (.type "tuple") = some false := of_decide_eq_true (c.q 37)
  have nE : PySem.W.findIn K (.ref (He.ga K "Edition")) "__ne__" = some (some (.builtin "object.__ne__")) := He.eqO_ok (c.q 38)
  have rA := tup0_ (K := K) (a := He.dflAt ("Edition", some "__init__") 0) (c.q 39)
  have rR := tup0_ (K := K) (a := He.dflAt ("Edition", some "__init__") 2) (c.q 40)
  have n1 : NoAttr K (He.ga K "Edition") "own_words" := He.noat_ok (c.q 41)
  have n2 : NoAttr K (He.ga K "Edition") "own_rest" := He.noat_ok (c.q 42)
  have n3 : NoAttr K (He.ga K "Edition") "own_known" := He.noat_ok (c.q 43)
  have D0 : DefAt K mg "is_list" s_is_list ["thing"] := defAt X G c 0 rfl (fun _ _ _ _ _ _ us hl => match us, hl with | [_], _ => rfl)
  have D1 : DefAt K mg "is_one_of" s_is_one_of ["thing", "words"] := defAt X G c 1 rfl (fun _ _ _ _ _ _ us hl => match us, hl with | [_, _], _ => rfl)
  have D2 : DefAt K mg "are_different" s_are_different ["thing", "words"] := defAt X G c 2 rfl (fun _ _ _ _ _ _ us hl => match us, hl with | [_, _], _ => rfl)
  have D3 : DefAt K mg "edition_of" s_edition_of ["words", "rest"] := defAt X G c 3 rfl (fun _ _ _ _ _ _ us hl => match us, hl with | [_, _], _ => rfl)
  have D4 : DefAt K mg "need_record" s_need_record ["record"] := defAt X G c 4 rfl (fun _ _ _ _ _ _ us hl => match us, hl with | [_], _ => rfl)
  have D5 : DefAt K mg "_law_begun" s_l_begun ["_law_script"] := defAt X G c 5 rfl (fun _ _ _ _ _ _ us hl => match us, hl with | [_], _ => rfl)
  have D6 : DefAt K mg "_law_mixed" s_l_mixed ["_law_draw"] := defAt X G c 6 rfl (fun _ _ _ _ _ _ us hl => match us, hl with | [_], _ => rfl)
  have D7 : DefAt K mg "_law_take" s_l_take ["_law_draw", "_law_size"] := defAt X G c 7 rfl (fun _ _ _ _ _ _ us hl => match us, hl with | [_, _], _ => rfl)
  have D8 : DefAt K mg "_law_pick" s_l_pick ["_law_draw", "_law_some"] := defAt X G c 8 rfl (fun _ _ _ _ _ _ us hl => match us, hl with | [_, _], _ => rfl)
  have D9 : DefAt K mg "_law_any_of" s_l_any_of ["_law_draw", "_law_words", "_law_size"] := defAt X G c 9 rfl (fun _ _ _ _ _ _ us hl => match us, hl with | [_, _, _], _ => rfl)
  have D10 : DefAt K mg "_law_shuffled" s_l_shuffled ["_law_draw", "_law_some"] := defAt X G c 10 rfl (fun _ _ _ _ _ _ us hl => match us, hl with | [_, _], _ => rfl)
  have D11 : DefAt K mg "_law_notes" s_l_notes [] := defAt X G c 11 rfl (fun _ _ _ _ _ _ us hl => match us, hl with | [], _ => rfl)
  have D12 : DefAt K mg "_law_known_sheet" s_l_known_sheet ["_law_draw"] := defAt X G c 12 rfl (fun _ _ _ _ _ _ us hl => match us, hl with | [_], _ => rfl)
  have D13 : DefAt K mg "_law_copied" s_l_copied ["_law_sheet_here"] := defAt X G c 13 rfl (fun _ _ _ _ _ _ us hl => match us, hl with | [_], _ => rfl)
  have D14 : DefAt K mg "_law_sheet" s_l_sheet ["_law_draw", "_law_lazies"] := defAt X G c 14 rfl (fun _ _ _ _ _ _ us hl => match us, hl with | [_, _], _ => rfl)
  have D15 : DefAt K mg "_law_near_sheet" s_l_near_sheet ["_law_draw", "_law_sheet_here"] := defAt X G c 15 rfl (fun _ _ _ _ _ _ us hl => match us, hl with | [_, _], _ => rfl)
  have D16 : DefAt K mg "_law_edition" s_l_edition ["_law_sheet_here"] := defAt X G c 16 rfl (fun _ _ _ _ _ _ us hl => match us, hl with | [_], _ => rfl)
  have D17 : DefAt K mg "_law_parts" s_l_parts ["_law_sheet_here"] := defAt X G c 17 rfl (fun _ _ _ _ _ _ us hl => match us, hl with | [_], _ => rfl)
  have D18 : DefAt K mg "_law_seen" s_l_seen ["_law_made"] := defAt X G c 18 rfl (fun _ _ _ _ _ _ us hl => match us, hl with | [_], _ => rfl)
  have D19 : DefAt K mg "_law_right" s_l_right ["_law_sheet_here", "_law_made"] := defAt X G c 19 rfl (fun _ _ _ _ _ _ us hl => match us, hl with | [_, _], _ => rfl)
  have D20 : DefAt K mg "_law_by_name" s_l_by_name ["_law_draw", "_law_sheet_here"] := defAt X G c 20 rfl (fun _ _ _ _ _ _ us hl => match us, hl with | [_, _], _ => rfl)
  have Q0 : PropAt K (He.ga K "Edition") "begin" "Edition.begin" s_E_begin := propAt c 22 rfl (fun _ _ _ _ _ _ us hl => match us, hl with | [_], _ => rfl)
  have Q1 : PropAt K (He.ga K "Edition") "yes" "Edition.yes" s_E_yes := propAt c 23 rfl (fun _ _ _ _ _ _ us hl => match us, hl with | [_], _ => rfl)
  have Q2 : PropAt K (He.ga K "Edition") "no" "Edition.no" s_E_no := propAt c 24 rfl (fun _ _ _ _ _ _ us hl => match us, hl with | [_], _ => rfl)
  have Q3 : PropAt K (He.ga K "Edition") "ready" "Edition.ready" s_E_ready := propAt c 25 rfl (fun _ _ _ _ _ _ us hl => match us, hl with | [_], _ => rfl)
  have Q4 : PropAt K (He.ga K "Edition") "agreed" "Edition.agreed" s_E_agreed := propAt c 26 rfl (fun _ _ _ _ _ _ us hl => match us, hl with | [_], _ => rfl)
  have Q5 : PropAt K (He.ga K "Edition") "refused" "Edition.refused" s_E_refused := propAt c 27 rfl (fun _ _ _ _ _ _ us hl => match us, hl with | [_], _ => rfl)
  have Q6 : PropAt K (He.ga K "Edition") "answers" "Edition.answers" s_E_answers := propAt c 28 rfl (fun _ _ _ _ _ _ us hl => match us, hl with | [_], _ => rfl)
  have Q7 : PropAt K (He.ga K "Edition") "presume" "Edition.presume" s_E_presume := propAt c 29 rfl (fun _ _ _ _ _ _ us hl => match us, hl with | [_], _ => rfl)
  have Q8 : PropAt K (He.ga K "Edition") "reads" "Edition.reads" s_E_reads := propAt c 30 rfl (fun _ _ _ _ _ _ us hl => match us, hl with | [_], _ => rfl)
  have Q9 : PropAt K (He.ga K "Edition") "strange" "Edition.strange" s_E_strange := propAt c 31 rfl (fun _ _ _ _ _ _ us hl => match us, hl with | [_], _ => rfl)
  have N0 : MethAt K (He.ga K "Edition") "word" "Edition.word" s_E_word ["self", "record"] := methAt c 32 rfl (fun _ _ _ _ _ _ us hl => match us, hl with | [_, _], _ => rfl)
  have N1 : MethAt K (He.ga K "Edition") "understands" "Edition.understands" s_E_understands ["self", "record"] := methAt c 33 rfl (fun _ _ _ _ _ _ us hl => match us, hl with | [_, _], _ => rfl)
  have N2 : MethAt K (He.ga K "Edition") "with_word" "Edition.with_word" s_E_with_word ["self", "record", "word"] := methAt c 34 rfl (fun _ _ _ _ _ _ us hl => match us, hl with | [_, _, _], _ => rfl)
  have N3 : MethAt K (He.ga K "Edition") "with_reads" "Edition.with_reads" s_E_with_reads ["self", "records"] := methAt c 35 rfl (fun _ _ _ _ _ _ us hl => match us, hl with | [_, _], _ => rfl)
  have N4 : MethAt K (He.ga K "Edition") "__eq__" "Edition.__eq__" s_E_eq ["self", "other"] := methAt c 36 rfl (fun _ _ _ _ _ _ us hl => match us, hl with | [_, _], _ => rfl)
  obtain ⟨mk, fI, FI⟩ := c.f 37 rfl
  have hmk : Mk K (He.ga K "Edition") (He.ma K (He.ga K "Edition") "__init__") := He.mkr_ok mk
  have FI : FunD K "__init__" "Edition.__init__" (defArgs s_E_init) (defBody s_E_init) (defScope s_E_init) [.ref (He.dflAt ("Edition", some "__init__") 0 K), .str "no", .ref (He.dflAt ("Edition", some "__init__") 2 K), .str "skip"] [] (He.ma K (He.ga K "Edition") "__init__") fI := FI
  have bI11 : Binds K fI ["self", "begin", "yes", "no", "ready", "agreed", "refused", "answers", "presume", "reads", "strange"] [] := by
    obtain ⟨ds, v, b⟩ := FI.binds1 (ps := ["self", "begin", "yes", "no", "ready", "agreed", "refused", "answers", "presume", "reads", "strange"]) 11 4 (List.cons_ne_nil _ _) rfl (fun _ _ _ _ _ _ _ us its h1 h2 => match us, its, h1, h2 with | [_, _, _, _, _, _, _, _, _, _, _], [_, _, _, _], _, _ => ⟨_, rfl, rfl⟩)
    cases v
    exact b
  obtain ⟨dI, vI, bI7⟩ := FI.binds1 (ps := ["self", "begin", "yes", "no", "ready", "agreed", "refused", "answers", "presume", "reads", "strange"]) 7 0 (List.cons_ne_nil _ _) rfl (fun _ _ _ _ _ _ _ us its h1 h2 => match us, its, h1, h2 with | [_, _, _, _, _, _, _], [_, _, _, _], _, _ => ⟨_, rfl, rfl⟩)
  obtain ⟨iI, bIK⟩ := FI.kbindsD (ps := ["self", "begin", "yes", "no", "ready", "agreed", "refused", "answers", "presume", "reads", "strange"]) 1 ["strange", "reads", "presume", "answers", "refused", "agreed", "ready", "no", "yes", "begin"] (fun us _ ws => us ++ ws.reverse) (List.cons_ne_nil _ _) (fun r1 _ r3 => vals_app r1 (vals_rev r3)) (fun _ _ _ _ _ _ _ us its ws h1 h2 h3 => match us, its, ws, h1, h2, h3 with | [_], [_, _, _, _], [_, _, _, _, _, _, _, _, _, _], _, _, _ => ⟨_, rfl, rfl⟩)
  have DL := defAt (fx := fx) X G c 21 (x := "law") (st := s_law) (ps := ["_law_script"]) rfl (fun _ _ _ _ _ _ us hl => match us, hl with | [_], _ => rfl)
  obtain ⟨fl, fdl, el, FL, _⟩ := DL
  have el' := hfa.symm.trans el
  cases el'
  refine ⟨fdl, fun s v => ?_, fun base _ _ => ?_⟩
  · obtain ⟨_, _, _, _, _, _, _, _, _, rfl, _, _⟩ := FL.ex
    exact .of_eq rfl
  have T : Txt K mg := ⟨b_isinstance, b_list, b_tuple, b_str, D0, D1⟩
  have M_is_one_of := D_is_one_of (P := P) (W := W) (base := base) T
  have M_is_listS := D_is_listS (P := P) (W := W) (base := base) b_isinstance b_list b_tuple D0
  have M_diff := D_are_different (P := P) (W := W) (base := base) b_len b_set b_all M_is_listS M_is_one_of D2
  have hC : Cls K (He.ga K "Edition") := iC.cl
  have c0 : ConstT K mg "RECORDS" notesS := ⟨_, g0.1, g0.2.2⟩
  have cK : ConstK K mg "RECORDS" notesS := ⟨_, g0⟩
  have c1 : ConstT K mg "WORDS" wordsS := ⟨_, g1.1, g1.2.2⟩
  have c2 : ConstT K mg "OUTCOMES" outsS := ⟨_, g2.1, g2.2.2⟩
  have c3 : ConstT K mg "PRESUMED" presS := ⟨_, g3.1, g3.2.2⟩
  have c4 : ConstT K mg "STRANGE" strgS := ⟨_, g4.1, g4.2.2⟩
  have FO := I_E_init (P := P) (W := W) (base := base) (k' := 3) b_zip b_tuple b_sorted c0 c1 c2 c3 c4 M_is_one_of M_diff hC n1 n2 n3 FI
  have CD : ClsD P W K mg base "Edition" (He.ga K "Edition") 3 ["self", "begin", "yes", "no", "ready", "agreed", "refused", "answers", "presume", "reads", "strange"] (ok_E_init K) := ⟨gC, _, _, hmk, bI11, FO⟩
  have CP : ClsP P W K mg base "Edition" (He.ga K "Edition") 3 ["self", "begin", "yes", "no", "ready", "agreed", "refused", "answers", "presume", "reads", "strange"] [.ref (He.dflAt ("Edition", some "__init__") 0 K), .str "no", .ref (He.dflAt ("Edition", some "__init__") 2 K), .str "skip"] (ok_E_init K) := ⟨gC, _, _, _, hmk, vI, bI7, FO⟩
  have CKK : ClsK P W K mg base "Edition" (He.ga K "Edition") 3 ["strange", "reads", "presume", "answers", "refused", "agreed", "ready", "no", "yes", "begin"] (fun xs => xs.reverse) ["self", "begin", "yes", "no", "ready", "agreed", "refused", "answers", "presume", "reads", "strange"] (ok_E_init K) := ⟨gC, _, _, hmk, ⟨_, bIK⟩, FO⟩
  have M_need := D_need_record (P := P) (W := W) (base := base) c0 M_is_one_of D4
  have M_eo := D_edition_of (P := P) (W := W) (base := base) CD D3
  have M_mixed := D_l_mixed (P := P) (W := W) (base := base) b_int D6
  have M_take := take_D (D_l_take (P := P) (W := W) (base := base) b_int M_mixed D7)
  have M_pick := D_l_pick b_len M_take D8
  have M_notes := D_l_notes (P := P) (W := W) (base := base) D11
  have M_any := D_l_any_of M_take D9
  have M_shuf := D_l_shuffled b_len b_list M_take D10
  have M_shufO := D_l_shuffledO b_len b_list M_take D10
  have M_known := D_l_known_sheet b_dict M_take M_notes D12
  have M_copied := D_l_copied (P := P) (W := W) (base := base) b_dict D13
  have M_sheet := D_l_sheet b_range b_tuple b_sorted M_take M_notes M_pick M_any M_shuf M_known D14
  have M_near := D_l_near_sheet b_range b_tuple b_sorted M_take M_notes M_pick M_any M_copied D15
  have M_edition := D_l_edition M_notes CD D16
  have M_parts := D_l_parts M_notes D17
  have M_seen := D_l_seen (P := P) (W := W) (base := base) (Pr_begin hC n1 Q0) (Pr_yes hC n1 Q1) (Pr_no hC n1 Q2) (Pr_ready hC n1 Q3) (Pr_agreed hC n1 Q4) (Pr_refused hC n1 Q5) (Pr_answers hC n2 Q6) (Pr_presume hC n2 Q7) (Pr_reads hC n2 Q8) (Pr_strange hC n2 Q9) D18
  have M_word := Me_word hC n1 cK M_need N0
  have M_und := Me_understands hC n3 M_need N1
  have M_ww := Me_with_word hC n1 n2 b_zip c0 M_need M_eo N2
  have M_wr := Me_with_reads hC n1 n2 M_eo N3
  have K_word := methK_of (ks := ["record"]) (π := fun xs => xs) N0 M_word (fun _ _ _ _ _ _ us ws h1 h2 => match us, ws, h1, h2 with | [_], [_], _, _ => rfl) (fun h => h)
  have K_und := methK_of (ks := ["record"]) (π := fun xs => xs) N1 M_und (fun _ _ _ _ _ _ us ws h1 h2 => match us, ws, h1, h2 with | [_], [_], _, _ => rfl) (fun h => h)
  have K_ww := methK_of (ks := ["word", "record"]) (π := fun xs => xs.reverse) N2 M_ww (fun _ _ _ _ _ _ us ws h1 h2 => match us, ws, h1, h2 with | [_], [_, _], _, _ => rfl) (fun h => vals_rev h)
  have K_wr := methK_of (ks := ["records"]) (π := fun xs => xs) N3 M_wr (fun _ _ _ _ _ _ us ws h1 h2 => match us, ws, h1, h2 with | [_], [_], _, _ => rfl) (fun h => h)
  obtain ⟨fe, fde, Me, Fe, be⟩ := N4
  have M_eq : EqD P W K mg base (He.ga K "Edition") 1 (ok_eq (He.ga K "Edition")) := ⟨⟨fe, fde, Me.1, Me.2, be, F_E_eq hC n1 n2 b_isinstance gC iC kS (by
    intro T hT
    simp only [List.mem_cons, List.not_mem_nil, or_false] at hT
    rcases hT with rfl | rfl | rfl | rfl | rfl | rfl <;> assumption) Fe⟩, nE, iC.hm⟩
  have nb : NotB K (He.ga K "Edition") := ⟨mL, mT, by
    intro T hT
    simp only [List.mem_cons, List.not_mem_nil, or_false] at hT
    rcases hT with rfl | rfl | rfl | rfl | rfl <;> assumption⟩
  have M_right := D_l_right b_repr M_notes M_seen M_parts M_word K_word K_und D19
  have M_bn := D_l_by_name M_shufO CKK D20
  have M_begun := D_l_begun (P := P) (W := W) (base := base) b_abs b_int D5
  exact F_law b_range b_min b_len b_repr b_tuple b_sorted b_list M_begun M_sheet M_edition M_near M_right M_bn M_parts M_seen M_pick M_notes M_any M_shuf M_copied M_eq nb CP rA rR M_ww K_ww M_wr K_wr FL
end K01
open PySem PySem.W PySem.Calls PyProof.Rows
theorem PySem.Challenge.cw_amidupgrades_k01_editions_as_made_holds : PySem.Challenge.rw_amidupgrades_k01_editions_as_made.Holds := by
  w_on; o_law
  refine HandSHeadRun.head_any (r := K01.R) (q := K01.qv) (H := EH.hook 6 K01.qs K01.fx) (ob := EH.obT 6 K01.qs K01.fx) (M := 6000) (loose := K01.loose) (d := HandSHeadRun.topDef K01.R.prog 33) (kwd := []) EH.obT_eq
    (by kernel_rfl) (fun s => by kernel_rfl) K01.run (by kernel_rfl) (by kernel_rfl) (by kernel_rfl) (by rfl) (by first | assumption | decide +kernel) (by decide +kernel) ⟨rfl, rfl, rfl, rfl, rfl, by decide +kernel⟩ ?hw ?hc
  case hw => w_witness2
  case hc =>
    refine EH.walk_E (l := PySem.Challenge.rw_amidupgrades_k01_editions_as_made) (n := 63) (k := 8) (x := "_law_script") rfl (by decide) (by kernel_rfl) ⟨rfl, by decide, by decide⟩ ?F
    intro w mg fa h Y G hmg0
    obtain ⟨K, KX, c⟩ := Y
    have hmg : mg ("law" : PySem.Str) = some (.ref fa) := by
      have e : (HandSHeadRun.topDef K01.R.prog 33).name = ("law" : PySem.Str) := by kernel_rfl
      rw [← e]
      exact hmg0
    obtain ⟨fd, hb, hF⟩ := K01.facts (P := (PySem.Challenge.rw_amidupgrades_k01_editions_as_made).prog) (W := w) KX G hmg c
    exact ⟨K, fd, K01.sp_law K, KX, hb, hF, fun H a ns hl _ hS => ⟨a, ns, rfl, hl, hS, fun _ => rfl⟩⟩

