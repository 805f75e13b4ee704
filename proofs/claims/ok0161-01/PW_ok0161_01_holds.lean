import PyProof.Rows.All
import Wide.All
import OpenK.AllK
import Wide.FinOn
import Lean
import PySem.Challenge.RW_ok0161_01
open PySem PySem.W PyProof.Rows
set_option Elab.async false
set_option linter.unusedVariables false
set_option linter.unusedSimpArgs false
set_option compiler.extract_closed false
namespace Mine

theorem stays_trans {a b c : Heap} (h : a.StaysIn b) (k : b.StaysIn c) : a.StaysIn c := fun x o e => k x o (h x o e)
theorem stays_refl (a : Heap) : a.StaysIn a := fun _ _ e => e

/-- what a block of code must keep (b), the known unchanging objects at its start (g₀), its first state -/
structure Zed where
  b : Heap
  g₀ : Heap
  σ : Shared

/-- where the walk stands: T the top's heap, g the known unchanging objects, L the frame's names (m: those known), mu the objects that this code may change -/
structure At (T : Heap) (Z : Zed) (g : Heap) (L : Addr) (m : List (Str × Value)) (mu : List (Addr × Obj)) (s : Shared) : Prop where
  ns : ∃ mr, s.heap.Ns L mr ∧ ∀ x v, m.lookup x = some v → mr x = some v
  gg : Z.g₀.StaysIn g
  gh : g.StaysIn s.heap
  hh : Z.b.StaysIn s.heap
  fr : ∀ a o, g.get? a = some o → Z.g₀.get? a = some o ∨ Z.b.get? a = none
  tg : T.StaysIn g
  Lb : Z.b.get? L = none
  Lg : g.get? L = none
  mus : ∀ p ∈ mu, s.heap.get? p.1 = some p.2 ∧ p.1 ≠ L ∧ Z.b.get? p.1 = none ∧ g.get? p.1 = none
  nd : (mu.map (·.1)).Nodup
  gens : s.gens = Z.σ.gens
  os : s.os = Z.σ.os

theorem get_none_of_ge {h : Heap} {a : Addr} (ha : h.objs.size ≤ a) : h.get? a = none := by
  cases e : h.get? a with
  | none => rfl
  | some o => exact absurd (Heap.lt_size e) (Nat.not_lt.mpr ha)

section
variable {T : Heap} {Z : Zed} {g : Heap} {L : Addr} {m m' : List (Str × Value)} {mu mu' : List (Addr × Obj)} {s s' : Shared}

theorem At.top (H : At T Z g L m mu s) : T.StaysIn s.heap := stays_trans H.tg H.gh
theorem At.Lsome (H : At T Z g L m mu s) : ∃ o, s.heap.get? L = some o := by
  obtain ⟨mr, ⟨o, es, ep, ho, _⟩, _⟩ := H.ns
  exact ⟨o, ho⟩

/-- the general step: all that is not the frame's or mu's stays -/
theorem At.step (H : At T Z g L m mu s) (k : ∀ a o, a ≠ L → a ∉ mu.map (·.1) → s.heap.get? a = some o → s'.heap.get? a = some o)
    (ns : ∃ mr, s'.heap.Ns L mr ∧ ∀ x v, m'.lookup x = some v → mr x = some v)
    (ad : mu'.map (·.1) = mu.map (·.1)) (mus : ∀ p ∈ mu', s'.heap.get? p.1 = some p.2)
    (hg : s'.gens = s.gens) (ho : s'.os = s.os) : At T Z g L m' mu' s' where
  ns := ns
  gg := H.gg
  gh := fun a o e => k a o (fun q => by rw [q, H.Lg] at e; cases e) (fun q => by
    obtain ⟨p, hp, rfl⟩ := List.mem_map.mp q
    rw [(H.mus p hp).2.2.2] at e; cases e) (H.gh a o e)
  hh := fun a o e => k a o (fun q => by rw [q, H.Lb] at e; cases e) (fun q => by
    obtain ⟨p, hp, rfl⟩ := List.mem_map.mp q
    rw [(H.mus p hp).2.2.1] at e; cases e) (H.hh a o e)
  fr := H.fr
  tg := H.tg
  Lb := H.Lb
  Lg := H.Lg
  mus := fun p hp => by
    have h1 : p.1 ∈ mu.map (·.1) := ad ▸ List.mem_map.mpr ⟨p, hp, rfl⟩
    obtain ⟨q, hq, e⟩ := List.mem_map.mp h1
    have := H.mus q hq
    rw [e] at this
    exact ⟨mus p hp, this.2⟩
  nd := ad ▸ H.nd
  gens := hg.trans H.gens
  os := ho.trans H.os

theorem At.stay (H : At T Z g L m mu s) (k : s.heap.StaysIn s'.heap) (hg : s'.gens = s.gens) (ho : s'.os = s.os) : At T Z g L m mu s' :=
  H.step (fun a o _ _ e => k a o e) (let ⟨mr, n, r⟩ := H.ns; ⟨mr, n.keeps k, r⟩) rfl (fun p hp => k _ _ (H.mus p hp).1) hg ho

theorem At.tok (H : At T Z g L m mu s) (t : Nat) : At T Z g L m mu { s with toks := t } := H.stay (stays_refl _) rfl rfl

/-- a name of the frame is stored -/
theorem At.store (H : At T Z g L m mu s) {x : Str} {v : Value} {h' : Heap} {t : Nat}
    (hn : ∀ mr, s.heap.Ns L mr → h'.Ns L (fun y => if y = x then some v else mr y)) (hs : Heap.SameBut L s.heap h') : At T Z g L ((x, v) :: m) mu { s with heap := h', toks := t } := by
  obtain ⟨mr, n, r⟩ := H.ns
  refine H.step (fun a o hL _ e => (hs.2 a hL).trans e) ⟨_, hn mr n, fun y u e => ?_⟩ rfl (fun p hp => (hs.2 p.1 (H.mus p hp).2.1).trans (H.mus p hp).1) rfl rfl
  rw [List.lookup_cons] at e
  by_cases hy : y = x
  · subst hy
    have : (y == y) = true := beq_self_eq_true y
    rw [this] at e
    simpa using e
  · have : (y == x) = false := beq_eq_false_iff_ne.mpr hy
    rw [this] at e
    dsimp only at e ⊢
    rw [if_neg hy]
    exact r y u e

/-- less is known of the names -/
theorem At.forget (H : At T Z g L m mu s) (h : ∀ x v, m'.lookup x = some v → m.lookup x = some v) : At T Z g L m' mu s :=
  { H with ns := let ⟨mr, n, r⟩ := H.ns; ⟨mr, n, fun x v e => r x v (h x v e)⟩ }

theorem lookup_all {m m' : List (Str × Value)} (h : ∀ p ∈ m', m.lookup p.1 = some p.2) : ∀ x v, m'.lookup x = some v → m.lookup x = some v := fun x v e => by
  have : (x, v) ∈ m' := by
    clear h
    induction m' with
    | nil => cases e
    | cons p r ih =>
      obtain ⟨y, u⟩ := p
      rw [List.lookup_cons] at e
      cases hb : (x == y) with
      | true => rw [hb] at e; cases e; rw [eq_of_beq hb]; exact .head _
      | false => rw [hb] at e; exact .tail _ (ih e)
  exact h _ this

/-- an object of mu turns -/
theorem At.turn (H : At T Z g L m mu s) {d : Addr} {o o' : Obj} {h' : Heap} {t : Nat} {i : Nat} (hi : mu[i]? = some (d, o)) (hd : h'.get? d = some o') (hs : ∀ a x, a ≠ d → s.heap.get? a = some x → h'.get? a = some x) :
    At T Z g L m (mu.set i (d, o')) { s with heap := h', toks := t } := by
  have hm := List.mem_of_getElem? hi
  have hL : L ≠ d := Ne.symm (H.mus _ hm).2.1
  have hlt : i < mu.length := (List.getElem?_eq_some_iff.mp hi).1
  have ad : (mu.set i (d, o')).map (·.1) = mu.map (·.1) := by
    rw [List.map_set]
    show (mu.map (·.1)).set i d = _
    have : (mu.map (·.1))[i]? = some d := by rw [List.getElem?_map, hi]; rfl
    apply List.ext_getElem?
    intro j
    by_cases hj : i = j
    · subst hj
      rw [List.getElem?_set_self (by simpa using hlt), this]
    · rw [List.getElem?_set_ne hj]
  refine H.step (fun a x hL ha e => hs a x (fun q => ha (List.mem_map.mpr ⟨_, hm, q.symm⟩)) e) ?_ ad ?_ rfl rfl
  · obtain ⟨mr, n, r⟩ := H.ns
    obtain ⟨oL, es, ep, hoL, q⟩ := n
    exact ⟨mr, ⟨oL, es, ep, hs L _ hL hoL, q⟩, r⟩
  · intro p hp
    obtain ⟨j, hj⟩ := List.mem_iff_getElem?.mp hp
    by_cases hij : i = j
    · subst hij
      rw [List.getElem?_set_self hlt] at hj
      cases hj
      exact hd
    · rw [List.getElem?_set_ne hij] at hj
      have hpm := List.mem_of_getElem? hj
      refine hs _ _ (fun q => hij ?_) (H.mus p hpm).1
      have hjl : j < mu.length := (List.getElem?_eq_some_iff.mp hj).1
      have nd := H.nd
      rw [List.nodup_iff_pairwise_ne, List.pairwise_iff_getElem] at nd
      have e1 : (mu.map (·.1))[i]'(by simpa using hlt) = d := by
        have : (mu.map (·.1))[i]? = some d := by rw [List.getElem?_map, hi]; rfl
        exact (List.getElem?_eq_some_iff.mp this).2
      have e2 : (mu.map (·.1))[j]'(by simpa using hjl) = p.1 := by
        have : (mu.map (·.1))[j]? = some p.1 := by rw [List.getElem?_map, hj]; rfl
        exact (List.getElem?_eq_some_iff.mp this).2
      rcases Nat.lt_trichotomy i j with h1 | h1 | h1
      · exact absurd (e1.trans (q.symm.trans e2.symm)) (nd i j (by simpa using hlt) (by simpa using hjl) h1)
      · exact h1
      · exact absurd (e2.trans (q.trans e1.symm)) (nd j i (by simpa using hjl) (by simpa using hlt) h1)

/-- a new object, one that may be changed -/
theorem At.more (H : At T Z g L m mu s) {a : Addr} {o : Obj} (hn : s.heap.get? a = none) (ha : s'.heap.get? a = some o) (k : s.heap.StaysIn s'.heap) (hg : s'.gens = s.gens) (ho : s'.os = s.os) :
    At T Z g L m (mu ++ [(a, o)]) s' := by
  have H' := H.stay k hg ho
  obtain ⟨oL, hL⟩ := H.Lsome
  refine { H' with mus := fun p hp => ?_, nd := ?_ }
  · rcases List.mem_append.mp hp with hp | hp
    · exact H'.mus p hp
    · obtain rfl := List.mem_singleton.mp hp
      refine ⟨ha, fun q => ?_, ?_, ?_⟩
      · rw [show a = L from q, hL] at hn; cases hn
      · cases e : Z.b.get? a with
        | none => rfl
        | some x => rw [H.hh _ _ e] at hn; cases hn
      · cases e : g.get? a with
        | none => rfl
        | some x => rw [H.gh _ _ e] at hn; cases hn
  · rw [List.map_append, List.nodup_append]
    refine ⟨H.nd, by simp, fun x hx y hy e => ?_⟩
    obtain rfl := List.mem_singleton.mp hy
    obtain ⟨p, hp, rfl⟩ := List.mem_map.mp hx
    have := (H.mus p hp).1
    rw [e] at this
    rw [hn] at this; cases this

theorem At.push (H : At T Z g L m mu s) (o : Obj) (hf : o.isFreed = false) : At T Z g L m (mu ++ [(s.heap.objs.size, o)]) { s with heap := s.heap.push o } :=
  H.more (get_none_of_ge (Nat.le_refl _)) (Heap.get?_push_size _ hf) (fun _ _ e => Heap.get?_push_of_some _ e) rfl rfl

/-- a part of a heap -/
noncomputable def only (h : Heap) (p : Addr → Bool) : Heap := hideAll h ((List.range h.objs.size).filter fun a => !p a)
theorem only_yes {h : Heap} {p : Addr → Bool} {a : Addr} {o : Obj} (e : h.get? a = some o) (hp : p a = true) : (only h p).get? a = some o :=
  hideAll_get _ e (by simp [hp])
theorem only_of {h : Heap} {p : Addr → Bool} {a : Addr} {o : Obj} (e : (only h p).get? a = some o) : h.get? a = some o ∧ p a = true := by
  have h1 := of_hideAll _ e
  refine ⟨h1, ?_⟩
  cases hp : p a with
  | true => rfl
  | false =>
    have : a ∈ (List.range h.objs.size).filter fun a => !p a := by
      rw [List.mem_filter]
      exact ⟨List.mem_range.mpr (Heap.lt_size h1), by simp [hp]⟩
    rw [show (only h p).get? a = none from hideAll_none _ this] at e
    cases e

/-- the first part of mu changes no more -/
theorem At.freeze (H : At T Z g L m (mu ++ mu') s) : ∃ g', g.StaysIn g' ∧ (∀ p ∈ mu', g'.get? p.1 = some p.2) ∧ At T Z g' L m mu s := by
  let P : Addr → Bool := fun a => (g.get? a).isSome || (mu'.map (·.1)).contains a
  have hP : ∀ a o, (only s.heap P).get? a = some o → g.get? a = some o ∨ ∃ p ∈ mu', p.1 = a := fun a o e => by
    obtain ⟨h1, h2⟩ := only_of e
    rcases Bool.or_eq_true_iff.mp h2 with h3 | h3
    · obtain ⟨x, hx⟩ := Option.isSome_iff_exists.mp h3
      have := H.gh _ _ hx
      rw [h1] at this
      cases this
      exact .inl hx
    · have h4 : a ∈ mu'.map (·.1) := by simpa using h3
      obtain ⟨p, hp, e⟩ := List.mem_map.mp h4
      exact .inr ⟨p, hp, e⟩
  have nd := H.nd
  rw [List.map_append, List.nodup_append] at nd
  have gst : g.StaysIn (only s.heap P) := fun a o e => only_yes (H.gh a o e) (by simp [P, e])
  refine ⟨only s.heap P, gst, fun p hp => only_yes (H.mus p (List.mem_append_right _ hp)).1 ?_, ?_⟩
  · simp only [P, Bool.or_eq_true]; right; simpa using ⟨p.2, hp⟩
  · refine { ns := H.ns, gg := stays_trans H.gg gst, gh := fun a o e => (only_of e).1, hh := H.hh, fr := fun a o e => ?_, tg := stays_trans H.tg gst, Lb := H.Lb, Lg := ?_, mus := fun p hp => ?_, nd := nd.1, gens := H.gens, os := H.os }
    · rcases hP a o e with h | ⟨p, hp, rfl⟩
      · exact H.fr a o h
      · exact .inr (H.mus p (List.mem_append_right _ hp)).2.2.1
    · cases e : (only s.heap P).get? L with
      | none => rfl
      | some o =>
        rcases hP L o e with h | ⟨p, hp, q⟩
        · rw [H.Lg] at h; cases h
        · exact absurd q (H.mus p (List.mem_append_right _ hp)).2.1
    · have h1 := H.mus p (List.mem_append_left _ hp)
      refine ⟨h1.1, h1.2.1, h1.2.2.1, ?_⟩
      cases e : (only s.heap P).get? p.1 with
      | none => rfl
      | some o =>
        rcases hP _ o e with h | ⟨q, hq, e2⟩
        · rw [h1.2.2.2] at h; cases h
        · exact absurd e2.symm (nd.2.2 p.1 (List.mem_map.mpr ⟨p, hp, rfl⟩) q.1 (List.mem_map.mpr ⟨q, hq, rfl⟩))

theorem At.perm (H : At T Z g L m mu s) (h : mu.Perm mu') : At T Z g L m mu' s :=
  { H with mus := fun p hp => H.mus p (h.mem_iff.mpr hp), nd := (h.map _).nodup_iff.mp H.nd }

theorem At.drop (H : At T Z g L m (mu ++ mu') s) : At T Z g L m mu s :=
  { H with mus := fun p hp => H.mus p (List.mem_append_left _ hp), nd := by have := H.nd; rw [List.map_append, List.nodup_append] at this; exact this.1 }

/-- into a block of its own (a def's frame, a comprehension): what it may change is lent -/
noncomputable def Zed.into (lent : List (Addr × Obj)) (g : Heap) (s : Shared) : Zed := ⟨hideAll s.heap (lent.map (·.1)), g, s⟩

theorem At.into {lent : List (Addr × Obj)} (H : At T Z g L m (lent ++ mu) s) {L' : Addr} {h' : Heap} {m' : List (Str × Value)} {t : Nat} (hL : s.heap.get? L' = none) (k : s.heap.StaysIn h')
    (n : ∃ mr, h'.Ns L' mr ∧ ∀ x v, m'.lookup x = some v → mr x = some v) : At T (Zed.into lent g s) g L' m' lent { s with heap := h', toks := t } where
  ns := n
  gg := stays_refl _
  gh := stays_trans H.gh k
  hh := fun a o e => k a o (of_hideAll _ e)
  fr := fun a o e => .inl e
  tg := H.tg
  Lb := by
    cases e : (hideAll s.heap (lent.map (·.1))).get? L' with
    | none => exact e
    | some o => rw [of_hideAll _ e] at hL; cases hL
  Lg := by
    cases e : g.get? L' with
    | none => rfl
    | some o => rw [H.gh _ _ e] at hL; cases hL
  mus := fun p hp => by
    have h := H.mus p (List.mem_append_left _ hp)
    refine ⟨k _ _ h.1, fun q => ?_, hideAll_none _ (List.mem_map.mpr ⟨p, hp, rfl⟩), h.2.2.2⟩
    rw [← q, h.1] at hL; cases hL
  nd := by have := H.nd; rw [List.map_append, List.nodup_append] at this; exact this.1
  gens := rfl
  os := rfl

theorem At.back {lent lent' : List (Addr × Obj)} (H : At T Z g L m (lent ++ mu) s) {L' : Addr} {m' : List (Str × Value)} {g' : Heap} {s' : Shared} (H' : At T (Zed.into lent g s) g' L' m' (lent' ++ mu') s')
    (ad : lent'.map (·.1) = lent.map (·.1)) : At T Z g' L m (lent' ++ mu) s' := by
  have kb : ∀ a o, a ∉ lent.map (·.1) → s.heap.get? a = some o → s'.heap.get? a = some o := fun a o hn e => H'.hh a o (hideAll_get _ e hn)
  have mem : ∀ a, a ∈ lent.map (·.1) → ∃ p ∈ lent, p.1 = a := fun a h => let ⟨p, hp, e⟩ := List.mem_map.mp h; ⟨p, hp, e⟩
  have hLn : L ∉ lent.map (·.1) := fun h => let ⟨p, hp, e⟩ := mem _ h; (H.mus p (List.mem_append_left _ hp)).2.1 e
  obtain ⟨mr, ⟨oL, es, ep, hoL, r⟩, q⟩ := H.ns
  have nd := H.nd
  rw [List.map_append, List.nodup_append] at nd
  have ng : ∀ a o, s.heap.get? a = some o → a ∉ lent.map (·.1) → g.get? a = none → g'.get? a = none := fun a o e hn hg => by
    cases e' : g'.get? a with
    | none => rfl
    | some x =>
      rcases H'.fr a x e' with h | h
      · rw [show g.get? a = some x from h] at hg; cases hg
      · rw [show (Zed.into lent g s).b.get? a = some o from hideAll_get _ e hn] at h; cases h
  refine { ns := ⟨mr, ⟨oL, es, ep, kb _ _ hLn hoL, r⟩, q⟩, gg := stays_trans H.gg H'.gg, gh := H'.gh, hh := fun a o e => ?_, fr := fun a o e => ?_, tg := H'.tg, Lb := H.Lb, Lg := ng _ _ hoL hLn H.Lg, mus := fun p hp => ?_, nd := ?_, gens := H'.gens.trans H.gens, os := H'.os.trans H.os }
  · refine kb a o (fun h => ?_) (H.hh a o e)
    obtain ⟨p, hp, rfl⟩ := mem _ h
    rw [(H.mus p (List.mem_append_left _ hp)).2.2.1] at e; cases e
  · rcases H'.fr a o e with h | h
    · exact H.fr a o h
    · right
      cases e' : Z.b.get? a with
      | none => rfl
      | some x =>
        by_cases hn : a ∈ lent.map (·.1)
        · obtain ⟨p, hp, rfl⟩ := mem _ hn
          rw [(H.mus p (List.mem_append_left _ hp)).2.2.1] at e'; cases e'
        · rw [show (Zed.into lent g s).b.get? a = some x from hideAll_get _ (H.hh _ _ e') hn] at h; cases h
  · rcases List.mem_append.mp hp with hp | hp
    · have h1 := H'.mus p (List.mem_append_left _ hp)
      have h2 : p.1 ∈ lent.map (·.1) := ad ▸ List.mem_map.mpr ⟨p, hp, rfl⟩
      obtain ⟨p', hp', e⟩ := mem _ h2
      have h3 := H.mus p' (List.mem_append_left _ hp')
      rw [e] at h3
      exact ⟨h1.1, h3.2.1, h3.2.2.1, h1.2.2.2⟩
    · have h1 := H.mus p (List.mem_append_right _ hp)
      have hn : p.1 ∉ lent.map (·.1) := fun h => nd.2.2 _ h _ (List.mem_map.mpr ⟨p, hp, rfl⟩) rfl
      exact ⟨kb _ _ hn h1.1, h1.2.1, h1.2.2.1, ng _ _ h1.1 hn h1.2.2.2⟩
  · rw [List.map_append, ad, ← List.map_append]; exact H.nd
end

/-- room for frames and for the C stack -/
structure Room (A : Around) (n : Nat) : Prop where
  handled : A.handled = none
  depth : A.depth + n ≤ 900
  units : A.units + 20 * n ≤ 9000

theorem Room.deeper {A : Around} {n : Nat} (R : Room A (n + 1)) (env : Env) : Room (A.deeper env) n :=
  ⟨R.handled, by have := R.depth; show A.depth + 1 + n ≤ 900; omega, by have := R.units; show A.units + 3 + 20 * n ≤ 9000; omega⟩
theorem Room.less {A : Around} {n k : Nat} (R : Room A n) (h : k ≤ n) : Room A k :=
  ⟨R.handled, by have := R.depth; omega, by have := R.units; omega⟩
theorem Room.lim {A : Around} {n : Nat} (R : Room A n) : A.depth < recursionLimit := by have := R.depth; show A.depth < 1000; omega

noncomputable abbrev noE : Value → Shared → Prop := fun _ _ => False
end Mine
namespace Mine

structure DefInfo where
  name : Str
  params : Arguments
  body : List Stmt
  scope : Scope
noncomputable def ofStmt : Stmt → Option DefInfo
  | .FunctionDef name args body _ _ _ scope _ _ _ => some ⟨name, args, body, scope⟩
  | _ => none
noncomputable def defAt (i : Nat) : Option DefInfo := (PySem.Challenge.pw_ok0161_01.main.body[i]?).bind ofStmt
noncomputable def methAt (i j : Nat) : Option DefInfo := match PySem.Challenge.pw_ok0161_01.main.body[i]? with
  | some (.ClassDef _ _ _ body _ _ _ _ _ _ _) => (body[j]?).bind ofStmt
  | _ => none

/-- a def of the text stands at f -/
noncomputable def FnIs (K : Frag) (f : Addr) (d : Option DefInfo) (qual : Str) (dV : Value) : Prop :=
  match d with
  | none => False
  | some d => ∃ oc od osl doc pm an cdv ct, K.lookup f = some ⟨oc, od, .func (fnOf d.name qual d.params d.body d.scope dV .none doc pm an cdv ct), osl⟩ ∧ codeIn K cdv qual = true

noncomputable def fe (a : Addr) (d : Option DefInfo) (q : Str) (v : Value) : Addr × Option DefInfo × Str × Value := (a, d, q, v)
noncomputable def FT : List (Addr × Option DefInfo × Str × Value) := [
  fe 69 (defAt 4) "signed" (.ref 62), fe 105 (defAt 18) "class_of" (.none), fe 112 (defAt 19) "is_jumping" (.none), fe 119 (defAt 20) "alu_size" (.none),
  fe 126 (defAt 21) "is_wide" (.none), fe 133 (defAt 22) "is_jump" (.none), fe 140 (defAt 23) "is_call" (.none), fe 147 (defAt 24) "is_local_call" (.none),
  fe 154 (defAt 25) "is_exit" (.none), fe 161 (defAt 26) "is_branch" (.none), fe 168 (defAt 27) "slots_of" (.none), fe 175 (defAt 28) "distance" (.none),
  fe 182 (defAt 29) "spot_of" (.none), fe 189 (defAt 30) "deed_code" (.none), fe 196 (defAt 31) "branch_code" (.none), fe 204 (defAt 32) "alu_imm" (.ref 197),
  fe 211 (defAt 33) "jump" (.none), fe 218 (defAt 34) "far_jump" (.none), fe 226 (defAt 35) "branch_imm" (.ref 219), fe 233 (defAt 36) "wide" (.none),
  fe 240 (defAt 37) "local_call" (.none), fe 247 (defAt 38) "leave" (.none), fe 254 (defAt 40) "next_kept" (.none), fe 261 (defAt 41) "without_idle_jumps" (.none),
  fe 268 (defAt 42) "at_distance" (.none), fe 275 (defAt 43) "laid_out" (.none), fe 282 (defAt 44) "saved" (.none), fe 289 (defAt 45) "told_distances" (.none),
  fe 359 (defAt 49) "_law_draw" (.none), fe 366 (defAt 50) "_law_pick" (.none), fe 373 (defAt 51) "_law_words" (.none), fe 378 (defAt 52) "_law_goals" (.none),
  fe 385 (defAt 53) "_law_order" (.none), fe 392 (defAt 54) "_law_places" (.none), fe 399 (defAt 55) "_law_shown" (.none), fe 406 (defAt 56) "_law_walk" (.none),
  fe 413 (defAt 57) "_law_kept" (.none), fe 420 (defAt 58) "_law_new_goals" (.none),
  fe 84 (methAt 17 0) "Order.__init__" (.ref 77), fe 303 (methAt 47 0) "Program.__init__" (.none), fe 310 (methAt 47 1) "Program.count" (.none), fe 317 (methAt 47 2) "Program.goal_slot" (.none), fe 324 (methAt 47 3) "Program.target" (.none)]

/-- the names of the top that are asked for -/
noncomputable def ge (x : Str) (v : Value) : Str × Value := (x, v)
noncomputable def gtab : List (Str × Value) := [
  ge "JMP" (.int 5 264), ge "JMP32" (.int 6 266), ge "ALU" (.int 4 262), ge "ALU64" (.int 7 268), ge "WIDE" (.int 24 270), ge "CALL" (.int 133 272), ge "EXIT" (.int 149 274),
  ge "CLASSES" (.str "ld   ldx  st   stx  alu  jmp  jmp32alu64" 276), ge "DEEDS" (.str "add sub mul div or  and lsh rsh neg mod xor mov arshend " 278),
  ge "JUMPS" (.str "ja  eq  gt  ge  set ne  sgt sge callexitlt  le  slt sle " 280), ge "KNOWN" (.int 14 282),
  ge "Order" (.ref 94), ge "Program" (.ref 348), ge "signed" (.ref 69), ge "class_of" (.ref 105), ge "is_jumping" (.ref 112), ge "alu_size" (.ref 119), ge "is_wide" (.ref 126), ge "is_jump" (.ref 133), ge "is_call" (.ref 140),
  ge "is_local_call" (.ref 147), ge "is_exit" (.ref 154), ge "is_branch" (.ref 161), ge "slots_of" (.ref 168), ge "distance" (.ref 175), ge "spot_of" (.ref 182), ge "deed_code" (.ref 189),
  ge "branch_code" (.ref 196), ge "alu_imm" (.ref 204), ge "jump" (.ref 211), ge "far_jump" (.ref 218), ge "branch_imm" (.ref 226), ge "wide" (.ref 233), ge "local_call" (.ref 240), ge "leave" (.ref 247),
  ge "next_kept" (.ref 254), ge "without_idle_jumps" (.ref 261), ge "at_distance" (.ref 268), ge "laid_out" (.ref 275), ge "saved" (.ref 282), ge "told_distances" (.ref 289),
  ge "_law_draw" (.ref 359), ge "_law_pick" (.ref 366), ge "_law_words" (.ref 373), ge "_law_goals" (.ref 378), ge "_law_order" (.ref 385), ge "_law_places" (.ref 392), ge "_law_shown" (.ref 399),
  ge "_law_walk" (.ref 406), ge "_law_kept" (.ref 413), ge "_law_new_goals" (.ref 420)]
noncomputable def btab : List (Str × Value) := [ge "len" (.builtin "len"), ge "range" (.type "range"), ge "list" (.type "list"), ge "int" (.type "int"), ge "abs" (.builtin "abs"), ge "max" (.builtin "max"), ge "min" (.builtin "min"),
  ge "enumerate" (.type "enumerate"), ge "sorted" (.builtin "sorted")]

structure ClsF (K : Frag) (C fI : Addr) (attrs : List Str) (meths : List (Str × Addr)) : Prop where
  make : makesIn K C = true
  ini : findIn K (.ref C) "__init__" = some (some (.ref fI))
  inif : isFn K (.ref fI) = true
  get : plainGet K C "" = true
  dic : hasDictIn K C = true
  set : findIn K (.ref C) "__setattr__" = some (some (.builtin "object.__setattr__"))
  over : plainOver K C = true
  keep : keepIn K (.ref C) = true
  take : ∀ a ∈ attrs, takerIn K C a = some none
  at_ : ∀ a ∈ attrs, findIn K (.ref C) a = some none
  me : ∀ p ∈ meths, findIn K (.ref C) p.1 = some (some (.ref p.2)) ∧ isFn K (.ref p.2) = true

noncomputable def oattrs : List Str := ["code", "dst", "src", "off", "imm", "more"]
noncomputable def pattrs : List Str := ["orders", "slots", "by_slot", "many_slots", "subs"]

/-- what is known of the top -/
structure TopF (K : Frag) (T : Heap) : Prop where
  X : K.In T
  nolimit : T.NoLimit
  mg : ∃ mg, T.Ns mainGlobals mg ∧ (∀ x v, gtab.lookup x = some v → mg x = some v) ∧ (∀ p ∈ btab, mg p.1 = none)
  mb : ∃ mb, T.Ns builtinsNs mb ∧ ∀ p ∈ btab, mb p.1 = some p.2
  fns : ∀ (i : Nat) (e : Addr × Option DefInfo × Str × Value), FT[i]? = some e → FnIs K e.1 e.2.1 e.2.2.1 e.2.2.2
  dfl : (∃ o n t, K.lookup 62 = some o ∧ o.data = .seq #[.int 64 t] n) ∧ (∃ o n t, K.lookup 77 = some o ∧ o.data = .seq #[.int 0 t] n) ∧ (∃ o n t, K.lookup 197 = some o ∧ o.data = .seq #[.int 64 t] n) ∧ (∃ o n t, K.lookup 219 = some o ∧ o.data = .seq #[.int 64 t] n)
  order : ClsF K 94 84 oattrs []
  program : ClsF K 348 303 pattrs [("count", 310), ("goal_slot", 317), ("target", 324)]

theorem keep_of_fn {K : Frag} {f : Addr} {d : Option DefInfo} {q : Str} {dV : Value} (h : FnIs K f d q dV) : keepIn K (.ref f) = true := by
  unfold FnIs at h
  cases d with
  | none => exact h.elim
  | some d =>
    obtain ⟨_, _, _, _, _, _, _, _, h, _⟩ := h
    unfold keepIn
    simp only [h]

section
variable {prog : Program} {w : World} {K : Frag} {A : Around} {T : Heap} {Z : Zed} {g : Heap} {L : Addr} {m : List (Str × Value)} {mu : List (Addr × Obj)} {s : Shared} {E : Value → Shared → Prop}

theorem TopF.inS (TF : TopF K T) (H : At T Z g L m mu s) : K.In s.heap := TF.X.keeps H.top

/-- into a def's frame -/
theorem enterC {lent : List (Addr × Obj)} {f : Addr} {name : Str} {params : Arguments} {bd : List Stmt} {scope : Scope} {od : Option DefInfo} {qual : Str} {dV : Value} {vals : List Value} {binds : List (Str × Value)} {Rr : Result → Shared → Prop} {n : Nat}
    (TF : TopF K T) (FI : FnIs K f od qual dV) (hd : od = some ⟨name, params, bd, scope⟩) (H : At T Z g L m (lent ++ mu) s) (R : Room A (n + 1))
    (hbind : ∀ doc pm an cdv ct, BindsTo s (fnOf name qual params bd scope dV .none doc pm an cdv ct) ⟨vals, []⟩ binds)
    (hloc : ∀ x ∈ binds, scope.names.lookup x.1 = some .local) (hcell : ∀ x ∈ scope.names, x.2 ≠ .cell)
    (hco : scope.isCoroutine = false) (hgen : scope.isGenerator = false) (hk : scope.kind = .function)
    (body : ∀ cdv L' s₁, At T (Zed.into lent g s) g L' binds.reverse lent s₁ →
      (∀ g' m' lent' mu' s', lent'.map (·.1) = lent.map (·.1) → At T (Zed.into lent g s) g' L' m' (lent' ++ mu') s' → At T Z g' L m (lent' ++ mu) s') →
      (∀ env, Room (A.deeper env) n) →
      wpAny (model prog w) (A.deeper (envOf qual scope L' f cdv)) (execs bd (envOf qual scope L' f cdv)) (fun fl s' => Rr (.ok (.ret (match fl with | .ret v => v | _ => .none))) s') noE s₁) :
    codeAny (model prog w) A (.call (.ref f) ⟨vals, []⟩) Rr s := by
  subst hd
  obtain ⟨oc, odd, osl, doc, pm, an, cdv, ct, hl, hc⟩ := FI
  have XS := TF.inS H
  refine codeAny_call_def (fd := fnOf name qual params bd scope dV .none doc pm an cdv ct) (body := bd) (binds := binds) R.lim (XS _ _ hl) rfl (TF.nolimit.keeps H.top) (codeRec_of XS hc) rfl (hbind doc pm an cdv ct) hcell hloc (fun h₁ hns hk₁ => ?_) hco hgen hk
  have H₁ := H.into (L' := s.heap.objs.size) (h' := h₁) (m' := binds.reverse) (t := s.toks + binds.length) (get_none_of_ge (Nat.le_refl _)) hk₁ ⟨_, hns, fun _ _ e => e⟩
  refine wpAny_mono (body cdv _ _ H₁ (fun g' m' lent' mu' s' ad H' => H.back H' ad) fun env => R.deeper env) (fun _ _ h => h) fun _ _ h => h.elim

theorem enter {lent : List (Addr × Obj)} {f : Addr} {name : Str} {params : Arguments} {bd : List Stmt} {scope : Scope} {od : Option DefInfo} {qual : Str} {dV : Value} {vals : List Value} {binds : List (Str × Value)} {Q : Value → Shared → Prop} {n : Nat}
    (TF : TopF K T) (FI : FnIs K f od qual dV) (hd : od = some ⟨name, params, bd, scope⟩) (H : At T Z g L m (lent ++ mu) s) (R : Room A (n + 1))
    (hbind : ∀ doc pm an cdv ct, BindsTo s (fnOf name qual params bd scope dV .none doc pm an cdv ct) ⟨vals, []⟩ binds)
    (hloc : ∀ x ∈ binds, scope.names.lookup x.1 = some .local) (hcell : ∀ x ∈ scope.names, x.2 ≠ .cell)
    (hco : scope.isCoroutine = false) (hgen : scope.isGenerator = false) (hk : scope.kind = .function)
    (body : ∀ cdv L' s₁, At T (Zed.into lent g s) g L' binds.reverse lent s₁ →
      (∀ g' m' lent' mu' s', lent'.map (·.1) = lent.map (·.1) → At T (Zed.into lent g s) g' L' m' (lent' ++ mu') s' → At T Z g' L m (lent' ++ mu) s') →
      (∀ env, Room (A.deeper env) n) →
      wpAny (model prog w) (A.deeper (envOf qual scope L' f cdv)) (execs bd (envOf qual scope L' f cdv)) (fun fl s' => Q (match fl with | .ret v => v | _ => .none) s') noE s₁) :
    wpAny (model prog w) A (call (.ref f) vals) Q E s :=
  wpAny_call (enterC TF FI hd H R hbind hloc hcell hco hgen hk body)

/-- nothing lent -/
theorem enter0 {f : Addr} {name : Str} {params : Arguments} {bd : List Stmt} {scope : Scope} {od : Option DefInfo} {qual : Str} {dV : Value} {vals : List Value} (binds : List (Str × Value)) {Q : Value → Shared → Prop} {n : Nat}
    (TF : TopF K T) (FI : FnIs K f od qual dV) (hd : od = some ⟨name, params, bd, scope⟩) (H : At T Z g L m mu s) (R : Room A (n + 1))
    (hbind : ∀ doc pm an cdv ct, BindsTo s (fnOf name qual params bd scope dV .none doc pm an cdv ct) ⟨vals, []⟩ binds)
    (hloc : (binds.all fun x => decide (scope.names.lookup x.1 = some .local)) = true) (hcell : ∀ x ∈ scope.names, x.2 ≠ .cell)
    (hco : scope.isCoroutine = false) (hgen : scope.isGenerator = false) (hk : scope.kind = .function)
    (body : ∀ cdv L' s₁, At T (Zed.into [] g s) g L' binds.reverse [] s₁ →
      (∀ g' m' mu' s', At T (Zed.into [] g s) g' L' m' mu' s' → At T Z g' L m mu s') → Room (A.deeper (envOf qual scope L' f cdv)) n →
      wpAny (model prog w) (A.deeper (envOf qual scope L' f cdv)) (execs bd (envOf qual scope L' f cdv)) (fun fl s' => Q (match fl with | .ret v => v | _ => .none) s') noE s₁) :
    wpAny (model prog w) A (call (.ref f) vals) Q E s :=
  enter (lent := []) TF FI hd H R hbind (locs hloc) hcell hco hgen hk fun cdv L' s₁ H₁ back R' => body cdv L' s₁ H₁ (fun g' m' mu' s' H' => back g' m' [] mu' s' rfl H') (R' _)

/-- one object lent -/
theorem enter1 {d : Addr} {ob : Obj} {f : Addr} {name : Str} {params : Arguments} {bd : List Stmt} {scope : Scope} {od : Option DefInfo} {qual : Str} {dV : Value} {vals : List Value} (binds : List (Str × Value)) {Q : Value → Shared → Prop} {n : Nat}
    (TF : TopF K T) (FI : FnIs K f od qual dV) (hd : od = some ⟨name, params, bd, scope⟩) (H : At T Z g L m ((d, ob) :: mu) s) (R : Room A (n + 1))
    (hbind : ∀ doc pm an cdv ct, BindsTo s (fnOf name qual params bd scope dV .none doc pm an cdv ct) ⟨vals, []⟩ binds)
    (hloc : (binds.all fun x => decide (scope.names.lookup x.1 = some .local)) = true) (hcell : ∀ x ∈ scope.names, x.2 ≠ .cell)
    (hco : scope.isCoroutine = false) (hgen : scope.isGenerator = false) (hk : scope.kind = .function)
    (body : ∀ cdv L' s₁, At T (Zed.into [(d, ob)] g s) g L' binds.reverse [(d, ob)] s₁ →
      (∀ g' m' ob' mu' s', At T (Zed.into [(d, ob)] g s) g' L' m' ((d, ob') :: mu') s' → At T Z g' L m ((d, ob') :: mu) s') → Room (A.deeper (envOf qual scope L' f cdv)) n →
      wpAny (model prog w) (A.deeper (envOf qual scope L' f cdv)) (execs bd (envOf qual scope L' f cdv)) (fun fl s' => Q (match fl with | .ret v => v | _ => .none) s') noE s₁) :
    wpAny (model prog w) A (call (.ref f) vals) Q E s :=
  enter (lent := [(d, ob)]) TF FI hd H R hbind (locs hloc) hcell hco hgen hk fun cdv L' s₁ H₁ back R' => body cdv L' s₁ H₁ (fun g' m' ob' mu' s' H' => back g' m' [(d, ob')] mu' s' rfl H') (R' _)

theorem enterC1 {d : Addr} {ob : Obj} {f : Addr} {name : Str} {params : Arguments} {bd : List Stmt} {scope : Scope} {od : Option DefInfo} {qual : Str} {dV : Value} {vals : List Value} (binds : List (Str × Value)) {Rr : Result → Shared → Prop} {n : Nat}
    (TF : TopF K T) (FI : FnIs K f od qual dV) (hd : od = some ⟨name, params, bd, scope⟩) (H : At T Z g L m ((d, ob) :: mu) s) (R : Room A (n + 1))
    (hbind : ∀ doc pm an cdv ct, BindsTo s (fnOf name qual params bd scope dV .none doc pm an cdv ct) ⟨vals, []⟩ binds)
    (hloc : (binds.all fun x => decide (scope.names.lookup x.1 = some .local)) = true) (hcell : ∀ x ∈ scope.names, x.2 ≠ .cell)
    (hco : scope.isCoroutine = false) (hgen : scope.isGenerator = false) (hk : scope.kind = .function)
    (body : ∀ cdv L' s₁, At T (Zed.into [(d, ob)] g s) g L' binds.reverse [(d, ob)] s₁ →
      (∀ g' m' ob' mu' s', At T (Zed.into [(d, ob)] g s) g' L' m' ((d, ob') :: mu') s' → At T Z g' L m ((d, ob') :: mu) s') → Room (A.deeper (envOf qual scope L' f cdv)) n →
      wpAny (model prog w) (A.deeper (envOf qual scope L' f cdv)) (execs bd (envOf qual scope L' f cdv)) (fun fl s' => Rr (.ok (.ret (match fl with | .ret v => v | _ => .none))) s') noE s₁) :
    codeAny (model prog w) A (.call (.ref f) ⟨vals, []⟩) Rr s :=
  enterC (lent := [(d, ob)]) TF FI hd H R hbind (locs hloc) hcell hco hgen hk fun cdv L' s₁ H₁ back R' => body cdv L' s₁ H₁ (fun g' m' ob' mu' s' H' => back g' m' [(d, ob')] mu' s' rfl H') (R' _)

theorem q_int {Q : Value → Shared → Prop} {i j : Int} {t : Tok} {s : Shared} (h : Q (.int i t) s) (e : i = j) : Q (.int j t) s := e ▸ h
theorem q_bool {Q : Value → Shared → Prop} {i j : Bool} {s : Shared} (h : Q (.bool i) s) (e : i = j) : Q (.bool j) s := e ▸ h
theorem q_eq {Q : Value → Shared → Prop} {v v' : Value} {s : Shared} (h : Q v s) (e : v = v') : Q v' s := e ▸ h

theorem r_loc {env : Env} {x : Str} {pos : Pos} {v : Value} {Q : Value → Shared → Prop} (H : At T Z g L m mu s) (hv : m.lookup x = some v) (h : Q v s)
    (hL : env.locals = L := by rfl) (hk : env.scope.kind = .function := by rfl) (hl : env.kindOf x = some .local := by rfl) (hd : (x == ("__debug__" : Str)) = false := by decide) :
    wpAny (model prog w) A (eval (.Name x pos) env) Q E s := by
  subst hL
  obtain ⟨mr, n, r⟩ := H.ns
  exact wpAny_Name (wpAny_loadName_local hk hl n (r _ _ hv) h) hd

theorem r_glob {env : Env} {x : Str} {pos : Pos} {v : Value} {Q : Value → Shared → Prop} (TF : TopF K T) (H : At T Z g L m mu s) (hv : gtab.lookup x = some v) (h : Q v s)
    (hg : env.globals = mainGlobals := by rfl) (hk : env.scope.kind = .function := by rfl) (hl : env.kindOf x = some .globalImplicit := by rfl) (hd : (x == ("__debug__" : Str)) = false := by decide) :
    wpAny (model prog w) A (eval (.Name x pos) env) Q E s := by
  obtain ⟨mg, n, r, _⟩ := TF.mg
  exact Calls.Name_function_global hk hl (Calls.loadGlobal_global (by rw [hg]; exact n.keeps H.top) (r _ _ hv) h) hd

theorem lookup_mem {α β : Type} [BEq α] [LawfulBEq α] {l : List (α × β)} {x : α} {v : β} (h : l.lookup x = some v) : (x, v) ∈ l := by
  induction l with
  | nil => cases h
  | cons p r ih =>
    obtain ⟨y, u⟩ := p
    rw [List.lookup_cons] at h
    cases hb : (x == y) with
    | true => rw [hb] at h; cases h; rw [eq_of_beq hb]; exact .head _
    | false => rw [hb] at h; exact .tail _ (ih h)

theorem r_blt {env : Env} {x : Str} {pos : Pos} {v : Value} {Q : Value → Shared → Prop} (TF : TopF K T) (H : At T Z g L m mu s) (hv : btab.lookup x = some v) (h : Q v s)
    (hg : env.globals = mainGlobals := by rfl) (hb : env.builtins = builtinsNs := by rfl) (hk : env.scope.kind = .function := by rfl) (hl : env.kindOf x = some .globalImplicit := by rfl) (hd : (x == ("__debug__" : Str)) = false := by decide) :
    wpAny (model prog w) A (eval (.Name x pos) env) Q E s := by
  obtain ⟨mg, n, _, r⟩ := TF.mg
  obtain ⟨mb, nb, rb⟩ := TF.mb
  have hm := lookup_mem hv
  exact Calls.Name_function_global hk hl (Calls.loadGlobal_builtin (by rw [hg]; exact n.keeps H.top) (r _ hm) (by rw [hb]; exact nb.keeps H.top) (rb _ hm) h) hd

theorem r_store {env : Env} {x : Str} {v : Value} {Q : Unit → Shared → Prop} (H : At T Z g L m mu s) (h : ∀ s', At T Z g L ((x, v) :: m) mu s' → Q () s')
    (hL : env.locals = L := by rfl) (hk : env.scope.kind = .function := by rfl) (hl : env.kindOf x = some .local := by rfl) : wpAny (model prog w) A (storeName env x v) Q E s := by
  subst hL
  obtain ⟨mr, n, r⟩ := H.ns
  refine wpAny_storeName_local hl n (fun h' hn hs => h _ (H.store (fun mr' n' => ?_) hs)) (by rw [hk]; rfl)
  have : mr' = mr := by
    obtain ⟨o, es, ep, ho, hd, hks, hf⟩ := n
    obtain ⟨o', es', ep', ho', hd', hks', hf'⟩ := n'
    rw [ho] at ho'; cases ho'
    rw [hd] at hd'; cases hd'
    funext y
    rw [← hf y, ← hf' y]
  rw [this]; exact hn

theorem r_int {env : Env} {i : Int} {k : Nat} {pos : Pos} {Q : Value → Shared → Prop} (H : At T Z g L m mu s) (h : ∀ t s', At T Z g L m mu s' → Q (.int i t) s') :
    wpAny (model prog w) A (eval (.Constant (.int i) k pos) env) Q E s := wpAny_Constant_int (h _ _ (H.tok _))
theorem r_str {env : Env} {x : Str} {k : Nat} {pos : Pos} {Q : Value → Shared → Prop} (H : At T Z g L m mu s) (h : ∀ t s', At T Z g L m mu s' → Q (.str x t) s') :
    wpAny (model prog w) A (eval (.Constant (.str x) k pos) env) Q E s := Calls.Constant_str (h _ _ (H.tok _))
theorem r_none {env : Env} {k : Nat} {pos : Pos} {Q : Value → Shared → Prop} (h : Q .none s) : wpAny (model prog w) A (eval (.Constant .none k pos) env) Q E s := wpAny_pure h
theorem r_bool {env : Env} {b : Bool} {k : Nat} {pos : Pos} {Q : Value → Shared → Prop} (h : Q (.bool b) s) : wpAny (model prog w) A (eval (.Constant (.bool b) k pos) env) Q E s := wpAny_pure h

theorem r_add {a b : Int} {t u : Tok} {Q : Value → Shared → Prop} (H : At T Z g L m mu s) (h : ∀ t s', At T Z g L m mu s' → Q (.int (a + b) t) s') : wpAny (model prog w) A (binaryOp .Add (.int a t) (.int b u)) Q E s := add_int (h _ _ (H.tok _))
theorem r_sub {a b : Int} {t u : Tok} {Q : Value → Shared → Prop} (H : At T Z g L m mu s) (h : ∀ t s', At T Z g L m mu s' → Q (.int (a - b) t) s') : wpAny (model prog w) A (binaryOp .Sub (.int a t) (.int b u)) Q E s := sub_int (h _ _ (H.tok _))
theorem r_mod {a b : Int} {t u : Tok} {Q : Value → Shared → Prop} (H : At T Z g L m mu s) (hb : b ≠ 0) (h : ∀ t s', At T Z g L m mu s' → Q (.int (a.fmod b) t) s') : wpAny (model prog w) A (binaryOp .Mod (.int a t) (.int b u)) Q E s := mod_int' hb (h _ _ (H.tok _))
theorem r_and {a b : Int} {t u : Tok} {Q : Value → Shared → Prop} (H : At T Z g L m mu s) (h : ∀ t s', At T Z g L m mu s' → Q (.int (Builtin.bitAnd a b) t) s') : wpAny (model prog w) A (binaryOp .BitAnd (.int a t) (.int b u)) Q E s := and_int (h _ _ (H.tok _))
theorem r_neg {a : Int} {t : Tok} {Q : Value → Shared → Prop} (H : At T Z g L m mu s) (h : ∀ t s', At T Z g L m mu s' → Q (.int (-a) t) s') : wpAny (model prog w) A (unaryOp .USub (.int a t)) Q E s := neg_int (h _ _ (H.tok _))

end
end Mine
namespace Mine
noncomputable abbrev pw : Program := PySem.Challenge.pw_ok0161_01
noncomputable def nsOK (K : Frag) : Bool := (gtab.all fun p => nsIn K mainGlobals p.1 == some (some p.2)) && (btab.all fun p => nsIn K mainGlobals p.1 == some none)
/-- what the top's heap must hold -/
structure CheckF (K : Frag) : Prop where
  fns : ∀ e ∈ FT, FnIs K e.1 e.2.1 e.2.2.1 e.2.2.2
  law : FnIs K 425 (defAt 59) "law" .none
  ns : nsOK K = true
  lw : (nsIn K mainGlobals "law" == some (some (.ref 425))) = true
  dfl : (∃ o n t, K.lookup 62 = some o ∧ o.data = .seq #[.int 64 t] n) ∧ (∃ o n t, K.lookup 77 = some o ∧ o.data = .seq #[.int 0 t] n) ∧ (∃ o n t, K.lookup 197 = some o ∧ o.data = .seq #[.int 64 t] n) ∧ (∃ o n t, K.lookup 219 = some o ∧ o.data = .seq #[.int 64 t] n)
  order : ClsF K 94 84 oattrs []
  program : ClsF K 348 303 pattrs [("count", 310), ("goal_slot", 317), ("target", 324)]
theorem boot_ok : (btab.all fun p => bootBuiltins p.1 == some p.2 && !(p.1 == ("__name__" : Str))) = true := by decide +kernel
theorem topF_of {K : Frag} {h : Heap} {p : Program} {loose : List Str} {mg mb : Str → Option Value} (C : CheckF K) (X : K.In h) (T : TopRead p loose mg mb h) : TopF K h := by
  have hn := Bool.and_eq_true_iff.mp C.ns
  refine ⟨X, T.nolimit, ⟨mg, T.g, fun x v e => ?_, fun q hq => ?_⟩, ⟨mb, T.b, fun q hq => ?_⟩, fun i e he => C.fns e (List.mem_of_getElem? he), C.dfl, C.order, C.program⟩
  · exact mg_of X T.g (eq_of_beq (List.all_eq_true.mp hn.1 _ (lookup_mem e)))
  · exact mg_none_of X T.g (eq_of_beq (List.all_eq_true.mp hn.2 _ hq))
  · have := Bool.and_eq_true_iff.mp (List.all_eq_true.mp boot_ok _ hq)
    rw [T.builtins q.1 (fun e => by have := this.2; rw [e] at this; simp at this)]
    exact eq_of_beq this.1
theorem law_at {K : Frag} {h : Heap} {mg : Str → Option Value} {fa : Addr} (C : CheckF K) (X : K.In h) (G : h.Ns mainGlobals mg) (hmg : mg "law" = some (.ref fa)) : fa = 425 := by
  have := mg_of X G (eq_of_beq C.lw)
  rw [hmg] at this
  cases this; rfl
theorem law_room : Room callerA 9 := ⟨by rfl, by decide +kernel, by decide +kernel⟩
/- the check, as one reckoning over the heap that the top leaves -/
noncomputable abbrev FnFix : Type := Str × Str × Arguments × FuncBody × Scope × Addr × List (Str × Addr) × Value × Value × Addr
noncomputable def fnFix (fd : FuncData) : FnFix := (fd.name, fd.qualname, fd.params, fd.body, fd.scope, fd.globals, fd.closure, fd.defaults, fd.kwdefaults, fd.builtins)
noncomputable def fnObs (K : Frag) (f : Addr) (qual : Str) : Option (FnFix × Bool) := match K.lookup f with
  | some ⟨_, _, .func fd, _⟩ => some (fnFix fd, codeIn K fd.code qual)
  | _ => none
noncomputable def fnExp (od : Option DefInfo) (qual : Str) (dV : Value) : Option (FnFix × Bool) := match od with
  | none => none
  | some d => some (fnFix (fnOf d.name qual d.params d.body d.scope dV .none .none .none none .none .none), true)
theorem fnIs_of {K : Frag} {f : Addr} {od : Option DefInfo} {qual : Str} {dV : Value} {d : DefInfo} (hd : od = some d) (h : fnObs K f qual = fnExp od qual dV) : FnIs K f od qual dV := by
  subst hd
  unfold fnObs fnExp at h
  split at h
  · rename_i oc od fd osl e
    dsimp only at h
    obtain ⟨h1, h2⟩ := Prod.mk.inj (Option.some.inj h)
    cases fd
    simp only [fnFix, Prod.mk.injEq] at h1
    obtain ⟨rfl, rfl, rfl, rfl, rfl, rfl, rfl, rfl, rfl, rfl⟩ := h1
    exact ⟨oc, od, osl, _, _, _, _, _, e, h2⟩
  · cases h
noncomputable def dflOK (K : Frag) (a : Addr) (i : Int) : Bool := match K.lookup a with
  | some o => (match o.data with | .seq xs _ => (match xs.toList with | [.int j _] => j == i | _ => false) | _ => false)
  | none => false
theorem dfl_of {K : Frag} {a : Addr} {i : Int} (h : dflOK K a i = true) : ∃ o n t, K.lookup a = some o ∧ o.data = .seq #[.int i t] n := by
  unfold dflOK at h
  split at h
  · rename_i o e
    split at h
    · rename_i xs n ed
      split at h
      · rename_i j t ex
        have := eq_of_beq h
        subst this
        exact ⟨o, n, t, e, by rw [ed]; congr 1; exact Array.toList_inj.mp ex⟩
      · cases h
    · cases h
  · cases h
noncomputable def clsOK (K : Frag) (C fI : Addr) (attrs : List Str) (meths : List (Str × Addr)) : Bool :=
  makesIn K C && (findIn K (.ref C) "__init__" == some (some (.ref fI)) && (isFn K (.ref fI) && (plainGet K C "" && (hasDictIn K C && (findIn K (.ref C) "__setattr__" == some (some (.builtin "object.__setattr__")) && (plainOver K C && (keepIn K (.ref C) &&
    (attrs.all (fun a => takerIn K C a == some none && findIn K (.ref C) a == some none) && meths.all fun p => findIn K (.ref C) p.1 == some (some (.ref p.2)) && isFn K (.ref p.2)))))))))
theorem cls_of {K : Frag} {C fI : Addr} {attrs : List Str} {meths : List (Str × Addr)} (h : clsOK K C fI attrs meths = true) : ClsF K C fI attrs meths := by
  unfold clsOK at h
  simp only [Bool.and_eq_true] at h
  obtain ⟨h1, h2, h3, h4, h5, h6, h7, h8, h9, h10⟩ := h
  exact ⟨h1, eq_of_beq h2, h3, h4, h5, eq_of_beq h6, h7, h8, fun a ha => eq_of_beq (Bool.and_eq_true_iff.mp (List.all_eq_true.mp h9 a ha)).1, fun a ha => eq_of_beq (Bool.and_eq_true_iff.mp (List.all_eq_true.mp h9 a ha)).2,
    fun p hp => ⟨eq_of_beq (Bool.and_eq_true_iff.mp (List.all_eq_true.mp h10 p hp)).1, (Bool.and_eq_true_iff.mp (List.all_eq_true.mp h10 p hp)).2⟩⟩
noncomputable def lookOK (K : Frag) : Bool := nsOK K && (nsIn K mainGlobals "law" == some (some (.ref 425)) && (dflOK K 62 64 && (dflOK K 77 0 && (dflOK K 197 64 && (dflOK K 219 64 && (clsOK K 94 84 oattrs [] && clsOK K 348 303 pattrs [("count", 310), ("goal_slot", 317), ("target", 324)]))))))
noncomputable abbrev Look : Type := Bool × List (Option (FnFix × Bool)) × Option (FnFix × Bool)
noncomputable def look (K : Frag) : Look := (lookOK K, FT.map (fun e => fnObs K e.1 e.2.2.1), fnObs K 425 "law")
noncomputable def lookExp : Look := (true, FT.map (fun e => fnExp e.2.1 e.2.2.1 e.2.2.2), fnExp (defAt 59) "law" .none)
theorem ft_some : (FT.all fun e => e.2.1.isSome) = true := by decide +kernel
theorem check_of {K : Frag} (h : look K = lookExp) : CheckF K := by
  obtain ⟨h1, h2⟩ := Prod.mk.inj h
  obtain ⟨h2, h3⟩ := Prod.mk.inj h2
  unfold lookOK at h1
  simp only [Bool.and_eq_true] at h1
  obtain ⟨a1, a2, a3, a4, a5, a6, a7, a8⟩ := h1
  refine ⟨fun e he => ?_, ?_, a1, a2, ⟨dfl_of a3, dfl_of a4, dfl_of a5, dfl_of a6⟩, cls_of a7, cls_of a8⟩
  · obtain ⟨d, hd⟩ := Option.isSome_iff_exists.mp (List.all_eq_true.mp ft_some e he)
    exact fnIs_of hd (List.map_inj_left.mp h2 e he)
  · exact fnIs_of (d := ⟨_, _, _, _⟩) (show defAt 59 = some ⟨_, _, _, _⟩ from rfl) h3
/-- a part of a heap, written out -/
noncomputable def fragOf (as : List Addr) (h : Heap) : Frag := as.filterMap fun a => (h.get? a).map fun o => (a, o)
theorem fragOf_in {as : List Addr} {h : Heap} : (fragOf as h).In h := fun a o e => by
  have := lookup_mem e
  obtain ⟨b, _, hb⟩ := List.mem_filterMap.mp this
  obtain ⟨x, hx, e2⟩ := Option.map_eq_some_iff.mp hb
  cases e2
  exact hx
end Mine
namespace Mine
theorem law_good {r : OpenLaw} {cl : Str → Option Addr} {mean : ExcName → Option Value} {xs : List WData} {s₁ s' : Shared} (k : s₁.heap.StaysIn s'.heap) (hg : s'.gens = #[]) (ho : s'.os = s₁.os) : GoodWG r.row.claim cl mean xs s₁ (.ok (.ret (.bool true))) s' := by
  refine GoodW.toG ⟨.inl ⟨.bool true, .bool true, [], rfl, fun _ => rfl, .bool true, ?_, fun _ => ⟨.nil, fun _ h => nomatch h⟩⟩, k, ho, hg⟩
  kernel_rfl
/-- the text, its law alone -/
noncomputable def vw : Program := view pw [59]
noncomputable def lo : List Str := (["_wall", "GateError", "CodeError", "signed", "ALU", "JMP", "JMP32", "ALU64", "WIDE", "CALL", "EXIT", "CLASSES", "DEEDS", "JUMPS"] : List Str) ++ (["KNOWN", "Order", "class_of", "is_jumping", "alu_size", "is_wide", "is_jump", "is_call", "is_local_call", "is_exit", "is_branch", "slots_of", "distance", "spot_of"] : List Str) ++ (["deed_code", "branch_code", "alu_imm", "jump", "far_jump", "branch_imm", "wide", "local_call", "leave", "next_kept", "without_idle_jumps", "at_distance", "laid_out", "saved"] : List Str) ++ (["told_distances", "Program", "_law_draw", "_law_pick", "_law_words", "_law_goals", "_law_order", "_law_places", "_law_shown", "_law_walk", "_law_kept", "_law_new_goals"] : List Str)
noncomputable def asL : List Addr := [2, 3, 15, 17, 18, 20, 21, 22, 29, 30, 32, 33, 35, 36, 37, 39, 40, 42, 43, 44, 45, 46, 47, 50, 57, 58, 59, 62, 63, 65, 66, 68, 69, 77, 78, 80, 81, 83, 84, 85, 87, 88, 90, 91, 92, 93, 94, 95, 96, 99, 101, 102, 104, 105, 106, 108, 109, 111, 112, 113, 115, 116, 118, 119, 120, 122, 123, 125, 126, 127, 129, 130, 132, 133, 134, 136, 137, 139, 140, 141, 143, 144, 146, 147, 148, 150, 151, 153, 154, 155, 157, 158, 160, 161, 162, 164, 165, 167, 168, 169, 171, 172, 174, 175, 176, 178, 179, 181, 182, 183, 185, 186, 188, 189, 190, 192, 193, 195, 196, 197, 198, 200, 201, 203, 204, 205, 207, 208, 210, 211, 212, 214, 215, 217, 218, 219, 220, 222, 223, 225, 226, 227, 229, 230, 232, 233, 234, 236, 237, 239, 240, 241, 243, 244, 246, 247, 248, 250, 251, 253, 254, 255, 257, 258, 260, 261, 262, 264, 265, 267, 268, 269, 271, 272, 274, 275, 276, 278, 279, 281, 282, 283, 285, 286, 288, 289, 297, 299, 300, 302, 303, 304, 306, 307, 309, 310, 311, 313, 314, 316, 317, 318, 320, 321, 323, 324, 325, 327, 328, 330, 331, 332, 334, 335, 337, 338, 339, 341, 342, 344, 345, 346, 347, 348, 349, 350, 353, 355, 356, 358, 359, 360, 362, 363, 365, 366, 367, 369, 370, 372, 373, 374, 377, 378, 379, 381, 382, 384, 385, 386, 388, 389, 391, 392, 393, 395, 396, 398, 399, 400, 402, 403, 405, 406, 407, 409, 410, 412, 413, 414, 416, 417, 419, 420, 421, 424, 425]
/-- the top's run, from the state behind the start-up, as one reckoning; the library's own quick twins of topRun, treeTable spare time and memory -/
theorem left_whole {p q : Program} {loose : List Str} {Xt : Shared → Bool} {α : Type} {Yf : Shared → α} {Ya : World → α} {N : Nat} {H : Params → Heap} {gs : Array GenState} {d : Drawn} {k : Nat}
    (open_ : ∀ w : World, (fencedOpening treeTable p w N).map (fun s => (s.heap, s.gens, s.drawn, s.toks)) = some (H w.params, gs, d, k))
    (rest : ∀ (w : World) (os : OsState), (topFrom treeTable p w N ⟨H w.params, gs, d, k, os⟩).map (fun s => (openSeen q loose (importedModules p.main.body) Xt true s, Yf s)) = some (openGood q loose, Ya w)) : LeftO p q loose Xt Yf Ya N := fun w => by
  obtain ⟨⟨h, gs', d', k', os⟩, e, e'⟩ := Option.map_eq_some_iff.mp (open_ w)
  obtain ⟨rfl, rfl, rfl, rfl⟩ : h = H w.params ∧ gs' = gs ∧ d' = d ∧ k' = k := by simpa using e'
  unfold openEnds
  rw [e]
  exact rest w os
set_option maxRecDepth 100000
theorem opn : ∀ w : World, (fencedOpening treeTable pw w 5190).map (fun s => (s.heap, s.gens, s.drawn, s.toks)) = some (boot_heap w.params, Array.mk [], boot_drawn, boot_toks) :=
  boot_open (by kernel_rfl) (by decide) (fun s => by kernel_rfl)
theorem both_of {α β γ δ : Type} {o : Option α} {f : α → β} {g : α → γ} {h : α → δ} {b : β} {c : γ} {d : δ} (h1 : o.map (fun s => (f s, g s)) = some (b, c)) (h2 : o.map h = some d) : o.map (fun s => (f s, (g s, h s))) = some (b, (c, d)) := by
  cases o with
  | none => cases h1
  | some s =>
    simp only [Option.map_some, Option.some.injEq, Prod.mk.injEq] at h1 h2 ⊢
    exact ⟨h1.1, h1.2, h2⟩
theorem rest1 : ∀ (w : World) (os : OsState), (topFrom treeTable pw w 5190 ⟨boot_heap w.params, Array.mk [], boot_drawn, boot_toks, os⟩).map (fun s => (openSeen vw lo (importedModules pw.main.body) (fun s => xlAt vw [] s && recOk [] s) true s, lookOK (fragOf asL s.heap))) = some (openGood vw lo, true) := fun w os => by
  unfold topFrom
  rw [PySem.W.Fast.te14082659384304107361, PySem.W.Fast.te14364793385576792824]
  kernel_rfl
theorem rest2 : ∀ (w : World) (os : OsState), (topFrom treeTable pw w 5190 ⟨boot_heap w.params, Array.mk [], boot_drawn, boot_toks, os⟩).map (fun s => (FT.map (fun e => fnObs (fragOf asL s.heap) e.1 e.2.2.1), fnObs (fragOf asL s.heap) 425 "law")) = some (FT.map (fun e => fnExp e.2.1 e.2.2.1 e.2.2.2), fnExp (defAt 59) "law" .none) := fun w os => by
  unfold topFrom
  rw [PySem.W.Fast.te14082659384304107361, PySem.W.Fast.te14364793385576792824]
  kernel_rfl
theorem rest : ∀ (w : World) (os : OsState), (topFrom treeTable pw w 5190 ⟨boot_heap w.params, Array.mk [], boot_drawn, boot_toks, os⟩).map (fun s => (openSeen vw lo (importedModules pw.main.body) (fun s => xlAt vw [] s && recOk [] s) true s, look (fragOf asL s.heap))) = some (openGood vw lo, lookExp) := fun w os => by
  unfold look lookExp
  exact both_of (rest1 w os) (rest2 w os)
theorem left : LeftO pw vw lo (fun s => xlAt vw [] s && recOk [] s) (fun s => look (fragOf asL s.heap)) (fun _ => lookExp) 5190 := left_whole opn rest
theorem said0 : PySem.Challenge.rw_ok0161_01.wellSaid = true := by
  unfold OpenLaw.wellSaid OpenRow.wellSaid OpenRow.partSaid looksOpen
  repeat' (with_reducible refine look_both ?_ ?_)
  all_goals decide +kernel
end Mine
namespace Mine

structure Ord where
  code : Int
  dst : Int
  src : Int
  off : Int
  imm : Int
  more : Int

noncomputable def Ord.get (o : Ord) (n : Str) : Option Int :=
  if n == ("code" : Str) then some o.code else if n == ("dst" : Str) then some o.dst else if n == ("src" : Str) then some o.src else if n == ("off" : Str) then some o.off
  else if n == ("imm" : Str) then some o.imm else if n == ("more" : Str) then some o.more else none

noncomputable abbrev Ord.kind (o : Ord) : Int := Builtin.bitAnd o.code 7
noncomputable def Ord.jumping (o : Ord) : Bool := o.kind == 5 || o.kind == 6
noncomputable def Ord.size (o : Ord) : Int := if o.kind == 4 || o.kind == 6 then 32 else 64
noncomputable def Ord.isWide (o : Ord) : Bool := o.code == 24
noncomputable def Ord.isJump (o : Ord) : Bool := o.jumping && Builtin.bitAnd o.code 240 == 0
noncomputable def Ord.isCall (o : Ord) : Bool := o.code == 133
noncomputable def Ord.isLCall (o : Ord) : Bool := o.code == 133 && o.src == 1
noncomputable def Ord.isExit (o : Ord) : Bool := o.code == 149
noncomputable def Ord.isBranch (o : Ord) : Bool := o.jumping && (!o.isJump && (!o.isCall && !o.isExit))
noncomputable def Ord.slots (o : Ord) : Int := if o.code == 24 then 2 else 1
noncomputable def Ord.dist (o : Ord) : Int := if o.isLCall || o.code == 6 then o.imm else o.off


/-- an order at x -/
noncomputable def IsOrder (g : Heap) (x : Addr) (o : Ord) : Prop :=
  ∃ dx es n, g.get? x = some (instObj 94 dx) ∧ g.get? dx = some (dictOf es n) ∧ ∀ a i, o.get a = some i → ∃ t, getL a es = some (some (.int i t))
theorem IsOrder.mono {g g' : Heap} {x : Addr} {o : Ord} (h : IsOrder g x o) (k : g.StaysIn g') : IsOrder g' x o :=
  let ⟨dx, es, n, h1, h2, h3⟩ := h; ⟨dx, es, n, k _ _ h1, k _ _ h2, h3⟩

section
variable {prog : Program} {w : World} {K : Frag} {A : Around} {T : Heap} {Z : Zed} {g : Heap} {L : Addr} {m : List (Str × Value)} {mu : List (Addr × Obj)} {s : Shared} {E : Value → Shared → Prop}

theorem r_attr {x : Addr} {o : Ord} {name : Str} {i : Int} {expr : Bool} {Q : Value → Shared → Prop} (TF : TopF K T) (H : At T Z g L m mu s) (O : IsOrder g x o) (ha : o.get name = some i) (hm : name ∈ oattrs)
    (h : ∀ t s', At T Z g L m mu s' → Q (.int i t) s') : wpAny (model prog w) A (getAttr (.ref x) name expr) Q E s := by
  obtain ⟨dx, es, n, h1, h2, h3⟩ := O
  obtain ⟨t, ht⟩ := h3 _ _ ha
  have I : InstAt s.heap x (instObj 94 dx) 94 (some (dictOf es n)) := ⟨H.gh _ _ h1, rfl, rfl, H.gh _ _ h2⟩
  exact get_value (TF.inS H) I (plainGet_of TF.order.get).1 (findObj_own TF.order.dic (TF.order.at_ _ hm) rfl ht) rfl (h _ _ (H.tok _))

/-- a call of a def by its name -/
theorem r_callK {f : Addr} {pos : Pos} {env : Env} {e : Expr} {rest : List Expr} {Q : Value → Shared → Prop} (TF : TopF K T) (hk : keepIn K (.ref f) = true)
    (h : wpAny (model prog w) A (spliced (backTo pos (starEach (e :: rest) env))) (fun vs s₁ => T.StaysIn s₁.heap ∧ wpAny (model prog w) A (call (.ref f) vs) Q E s₁) E s)
    (he : starEach (e :: rest) env = (false, eval e env) :: starEach rest env := by rfl) (hplain : (backTo pos (starEach rest env)).any (·.1) = false := by rfl) :
    wpAny (model prog w) A (callWith pos (.ref f) [] (backTo pos (starEach (e :: rest) env)) []) Q E s :=
  callWith_K (h₀ := T) TF.X hk (wpAny_mono h (fun _ _ h₁ => ⟨TF.X.keeps h₁.1, h₁.2⟩) fun _ _ x => x) he hplain


theorem keep_any (TF : TopF K T) {f : Addr} (h : (FT.any fun e => e.1 == f) = true) : keepIn K (.ref f) = true := by
  obtain ⟨e, he, hf⟩ := List.any_eq_true.mp h
  obtain ⟨i, hi⟩ := List.mem_iff_getElem?.mp he
  have := keep_of_fn (TF.fns i e hi)
  rwa [show e.1 = f from eq_of_beq hf] at this
theorem r_not {b : Bool} {Q : Value → Shared → Prop} (h : Q (.bool (!b)) s) : wpAny (model prog w) A (unaryOp .Not (.bool b)) Q E s := not_of (wpAny_truthy_bool h)
theorem r_truthy {b : Bool} {Q : Bool → Shared → Prop} (h : Q b s) : wpAny (model prog w) A (truthy (.bool b)) Q E s := wpAny_truthy_bool h
theorem ite_both {c : Prop} [Decidable c] {a b : Prop} (h1 : c → a) (h2 : ¬ c → b) : if c then a else b := by split <;> simp_all
end


end Mine
namespace Mine

/-- every object but two -/
noncomputable def objs (L d : Addr) (h : Heap) : List (Addr × Obj) := (List.range h.objs.size).filterMap fun a => if a = L ∨ a = d then none else (h.get? a).map fun o => (a, o)
theorem mem_objs {L d : Addr} {h : Heap} {a : Addr} {o : Obj} : (a, o) ∈ objs L d h ↔ h.get? a = some o ∧ a ≠ L ∧ a ≠ d := by
  unfold objs
  rw [List.mem_filterMap]
  constructor
  · rintro ⟨b, _, e⟩
    split at e
    · cases e
    · rename_i hn
      obtain ⟨x, hx, e2⟩ := Option.map_eq_some_iff.mp e
      cases e2
      exact ⟨hx, fun q => hn (.inl q), fun q => hn (.inr q)⟩
  · rintro ⟨e, h1, h2⟩
    refine ⟨a, List.mem_range.mpr (Heap.lt_size e), ?_⟩
    rw [if_neg (fun q => q.elim h1 h2), e]; rfl

section
variable {prog : Program} {w : World} {K : Frag} {A : Around} {T : Heap} {Z : Zed} {g : Heap} {L : Addr} {m : List (Str × Value)} {mu : List (Addr × Obj)} {s : Shared} {E : Value → Shared → Prop}

theorem At.turn2 (H : At T Z g L m mu s) {d : Addr} {o o' : Obj} {h' : Heap} {t : Nat} {i : Nat} (hi : mu[i]? = some (d, o)) (hd : h'.get? d = some o') (hs : ∀ a x, a ≠ L → a ≠ d → s.heap.get? a = some x → h'.get? a = some x)
    (hn : ∀ mr, s.heap.Ns L mr → h'.Ns L mr) : At T Z g L m (mu.set i (d, o')) { s with heap := h', toks := t } := by
  have hm := List.mem_of_getElem? hi
  have hlt : i < mu.length := (List.getElem?_eq_some_iff.mp hi).1
  have ad : (mu.set i (d, o')).map (·.1) = mu.map (·.1) := by
    rw [List.map_set]
    show (mu.map (·.1)).set i d = _
    have : (mu.map (·.1))[i]? = some d := by rw [List.getElem?_map, hi]; rfl
    apply List.ext_getElem?
    intro j
    by_cases hj : i = j
    · subst hj
      rw [List.getElem?_set_self (by simpa using hlt), this]
    · rw [List.getElem?_set_ne hj]
  refine H.step (fun a x hL ha e => hs a x hL (fun q => ha (List.mem_map.mpr ⟨_, hm, q.symm⟩)) e) (let ⟨mr, n, r⟩ := H.ns; ⟨mr, hn mr n, r⟩) ad ?_ rfl rfl
  intro p hp
  obtain ⟨j, hj⟩ := List.mem_iff_getElem?.mp hp
  by_cases hij : i = j
  · subst hij
    rw [List.getElem?_set_self hlt] at hj
    cases hj
    exact hd
  · rw [List.getElem?_set_ne hij] at hj
    have hpm := List.mem_of_getElem? hj
    refine hs _ _ (H.mus p hpm).2.1 (fun q => hij ?_) (H.mus p hpm).1
    have hjl : j < mu.length := (List.getElem?_eq_some_iff.mp hj).1
    have nd := H.nd
    rw [List.nodup_iff_pairwise_ne, List.pairwise_iff_getElem] at nd
    have e1 : (mu.map (·.1))[i]'(by simpa using hlt) = d := by
      have : (mu.map (·.1))[i]? = some d := by rw [List.getElem?_map, hi]; rfl
      exact (List.getElem?_eq_some_iff.mp this).2
    have e2 : (mu.map (·.1))[j]'(by simpa using hjl) = p.1 := by
      have : (mu.map (·.1))[j]? = some p.1 := by rw [List.getElem?_map, hj]; rfl
      exact (List.getElem?_eq_some_iff.mp this).2
    rcases Nat.lt_trichotomy i j with h1 | h1 | h1
    · exact absurd (e1.trans (q.symm.trans e2.symm)) (nd i j (by simpa using hlt) (by simpa using hjl) h1)
    · exact h1
    · exact absurd (e2.trans (q.trans e1.symm)) (nd j i (by simpa using hjl) (by simpa using hlt) h1)

/-- an attribute is stored -/
theorem r_setA {x dx C fI : Addr} {attrs : List Str} {meths : List (Str × Addr)} {name : Str} {v : Value} {es : List DictEntry} {n i : Nat} {Q : Unit → Shared → Prop} (TF : TopF K T) (CF : ClsF K C fI attrs meths) (H : At T Z g L m mu s)
    (hx : g.get? x = some (instObj C dx)) (hi : mu[i]? = some (dx, dictOf es n)) (ha : name ∈ attrs) (hl : (getL name es).isSome = true) (hz : ∀ h k, (putL name h k v es).length ≤ 1000)
    (h : ∀ t s', At T Z g L m (mu.set i (dx, dictOf (putL name (PyData.keyHash w.params name) (.str name t) v es) (putN name es n))) s' → Q () s') :
    wpAny (model prog w) A (setAttr (.ref x) name v) Q E s := by
  have hm := List.mem_of_getElem? hi
  have M := H.mus _ hm
  have I : InstAt s.heap x (instObj C dx) C (some (dictOf es n)) := ⟨H.gh _ _ hx, rfl, rfl, M.1⟩
  obtain ⟨mr, hn, hr⟩ := H.ns
  have F : Fr {} L s.heap mr := ⟨hn, fun b o e => by simp [Heap.get?] at e, Nat.zero_le _⟩
  have N : News {} L s.heap ((dx, dictOf es n) :: objs L dx s.heap) := by
    intro p hp
    have e0 : ∀ a : Addr, Heap.get? {} a = none := fun a => by simp [Heap.get?]
    rcases List.mem_cons.mp hp with rfl | hp
    · exact ⟨M.1, M.2.1, e0 _⟩
    · have := mem_objs.mp hp
      exact ⟨this.1, this.2.1, e0 _⟩
  refine set_plain (TF.inS H) I CF.set (osa_dict (s := { s with toks := s.toks + 1 }) (pre := []) (post := objs L dx s.heap) F N (TF.inS (H.tok _)) I rfl CF.over (CF.take _ ha) CF.dic (by rw [lookIn_dict]; exact hl) (fun _ h => nomatch h)
    (fun p hp => (mem_objs.mp hp).2.2) (putName_dict _ _ _ _ _ _) rfl (hz _ _) fun h' F' N' => h (s.toks + 1) _ ?_)
  refine H.turn2 hi (N' _ (.head _)).1 (fun a y hL hd e => (N' (a, y) (.tail _ (mem_objs.mpr ⟨e, hL, hd⟩))).1) fun mr' hn' => ?_
  have : mr' = mr := by
    obtain ⟨o, es, ep, ho, hd, hks, hf⟩ := hn
    obtain ⟨o', es', ep', ho', hd', hks', hf'⟩ := hn'
    rw [ho] at ho'; cases ho'
    rw [hd] at hd'; cases hd'
    funext y
    rw [← hf y, ← hf' y]
  rw [this]; exact F'.ns

theorem Room.make {n : Nat} {C : Addr} {vals : List Value} (R : Room A (n + 1)) : Room (A.under (.builtin "type.__call__" ⟨.ref C :: vals, []⟩)) n :=
  ⟨R.handled, by rw [depth_under_make]; have := R.depth; omega, by rw [units_under_make]; have := R.units; omega⟩

/-- an object of a class is made -/
theorem r_new {C fI : Addr} {attrs : List Str} {meths : List (Str × Addr)} {vals : List Value} {Q : Value → Shared → Prop} {n : Nat} (TF : TopF K T) (CF : ClsF K C fI attrs meths) (H : At T Z g L m mu s) (R : Room A (n + 1))
    (h : ∀ A' x dx g' s', Room A' n → g.StaysIn g' → g'.get? x = some (instObj C dx) → At T Z g' L m ((dx, dictOf [] 0) :: mu) s' →
      codeAny (model prog w) A' (.call (.ref fI) ⟨.ref x :: vals, []⟩) (fun r s' => match r with | .ok (.ret v) => v = .none ∧ Q (.ref x) s' | _ => False) s') :
    wpAny (model prog w) A (call (.ref C) vals) Q E s := by
  refine wpAny_call ?_
  obtain ⟨hh, ge, d, t, os⟩ := s
  have H1 := H.push emptyDict rfl
  have H2 := H1.push (instObj C hh.objs.size) rfl
  obtain ⟨g', k, hg, H3⟩ := At.freeze (mu := mu ++ [(hh.objs.size, emptyDict)]) H2
  have hg' := hg _ (.head _)
  have hs : (hh.push emptyDict).objs.size = hh.objs.size + 1 := Heap.size_push _ _
  dsimp only at hg'
  rw [hs] at hg'
  refine make_core (makes_of (TF.inS H) CF.make) (looks_findIn (TF.inS H) CF.ini) (fun self => bind_fn (TF.inS H) self (beq_iff_eq.mp CF.inif)) (.inl rfl) ?_
  refine codeAny_mono (h _ _ _ g' _ R.make k hg' (H3.perm (List.perm_append_comm.trans (List.Perm.refl _)))) fun r s' hr => ?_
  cases r with
  | error e => exact hr.elim
  | ok f => cases f with
    | ret v => exact hr
    | next => exact hr.elim
    | brk => exact hr.elim
    | cont => exact hr.elim

theorem dfl_int {fd : FuncData} {args : Args} {binds : List (Str × Value)} {dT : Addr} {k : Option (Array Value) → Sem (List (Str × Value))} {items : Array Value} (TF : TopF K T) (H : At T Z g L m mu s)
    (hd : fd.defaults = .ref dT) (ho : ∃ o n, K.lookup dT = some o ∧ o.data = .seq items n) (h₁ : bindArgs fd args = seqItems? fd.defaults >>= k) (h₂ : k (some items) = pure binds) : BindsTo s fd args binds := by
  obtain ⟨o, n, h1, h2⟩ := ho
  exact BindsTo.of_defaults hd (TF.inS H _ _ h1) h2 h₁ h₂
end

set_option hygiene false in
local macro_rules | `(tactic| walk_at "init") => `(tactic| (
  refine wpAny_execs_cons ?_
  refine plainObj_wpAny_Assign_Attribute ?_
  refine r_loc H rfl ?_
  refine r_loc H rfl ?_
  refine r_setA (i := 0) TF TF.order H hx rfl (by decide) (by rfl) (fun _ _ => Nat.le_of_ble_eq_true rfl) ?_
  clear H; intro t s H; simp only [List.set_cons_zero] at H; (try dsimp only)))

section
variable {prog : Program} {w : World} {K : Frag} {A : Around} {T : Heap} {Z : Zed} {g : Heap} {L : Addr} {m : List (Str × Value)} {mu : List (Addr × Obj)} {s : Shared} {E : Value → Shared → Prop}
set_option maxHeartbeats 1000000
set_option maxRecDepth 100000
theorem Order_init6 {x dx : Addr} {code dst src off imm more : Int} {t1 t2 t3 t4 t5 t6 : Tok} {Rr : Result → Shared → Prop} (TF : TopF K T) (H : At T Z g L m ((dx, dictOf [] 0) :: mu) s) (R : Room A 1) (hx : g.get? x = some (instObj 94 dx))
    {vals : List Value} (hb : ∀ name params bd scope, methAt 17 0 = some ⟨name, params, bd, scope⟩ → ∀ doc pm an cdv ct, BindsTo s (fnOf name "Order.__init__" params bd scope (.ref 77) .none doc pm an cdv ct) ⟨vals, []⟩ [("self", .ref x), ("code", .int code t1), ("dst", .int dst t2), ("src", .int src t3), ("off", .int off t4), ("imm", .int imm t5), ("more", .int more t6)])
    (h : ∀ g' s', g.StaysIn g' → IsOrder g' x ⟨code, dst, src, off, imm, more⟩ → At T Z g' L m mu s' → Rr (.ok (.ret .none)) s') : codeAny (model prog w) A (.call (.ref 84) ⟨vals, []⟩) Rr s := by
  refine enterC1 [("self", .ref x), ("code", .int code t1), ("dst", .int dst t2), ("src", .int src t3), ("off", .int off t4), ("imm", .int imm t5), ("more", .int more t6)] TF (show FnIs K 84 (methAt 17 0) "Order.__init__" (.ref 77) from TF.fns 38 _ rfl) rfl H R (fun _ _ _ _ _ => hb _ _ _ _ rfl _ _ _ _ _) (by rfl) (by decide) rfl rfl rfl ?_
  clear H R
  intro cdv L' s H back R
  iterate 6 walk_at "init"
  refine wpAny_execs_nil ?_
  obtain ⟨g', k, hg, H'⟩ := At.freeze (mu := mu) ((back _ _ _ _ _ H).perm (List.perm_append_comm (l₁ := [_])))
  refine h g' _ k ⟨dx, _, _, k _ _ hx, hg _ (.head _), fun a i e => ?_⟩ H'
  clear h H H' back R hg
  unfold Ord.get at e
  dsimp only at e
  split at e
  · rename_i q; cases e; obtain rfl := eq_of_beq q; exact ⟨_, rfl⟩
  split at e
  · rename_i q; cases e; obtain rfl := eq_of_beq q; exact ⟨_, rfl⟩
  split at e
  · rename_i q; cases e; obtain rfl := eq_of_beq q; exact ⟨_, rfl⟩
  split at e
  · rename_i q; cases e; obtain rfl := eq_of_beq q; exact ⟨_, rfl⟩
  split at e
  · rename_i q; cases e; obtain rfl := eq_of_beq q; exact ⟨_, rfl⟩
  split at e
  · rename_i q; cases e; obtain rfl := eq_of_beq q; exact ⟨_, rfl⟩
  · cases e

theorem Order_spec5 {code dst src off imm : Int} {t1 t2 t3 t4 t5 : Tok} {Q : Value → Shared → Prop} (TF : TopF K T) (H : At T Z g L m mu s) (R : Room A 2)
    (h : ∀ x g' s', g.StaysIn g' → IsOrder g' x ⟨code, dst, src, off, imm, 0⟩ → At T Z g' L m mu s' → Q (.ref x) s') : wpAny (model prog w) A (call (.ref 94) [.int code t1, .int dst t2, .int src t3, .int off t4, .int imm t5]) Q E s := by
  refine r_new (n := 1) TF TF.order H R fun A' x dx g' s' R' k hx H' => ?_
  obtain ⟨o, n, t, hl, hd⟩ := TF.dfl.2.1
  refine Order_init6 (t1 := t1) (t2 := t2) (t3 := t3) (t4 := t4) (t5 := t5) (t6 := t) (more := 0) TF H' R' hx (fun name params bd scope e doc pm an cdv ct => ?_) fun g'' s'' k' O H'' => ⟨rfl, h _ _ _ (stays_trans k k') O H''⟩
  cases e
  exact dfl_int (items := #[.int 0 t]) TF H' rfl ⟨o, n, hl, hd⟩ rfl rfl

theorem Order_spec6 {code dst src off imm more : Int} {t1 t2 t3 t4 t5 t6 : Tok} {Q : Value → Shared → Prop} (TF : TopF K T) (H : At T Z g L m mu s) (R : Room A 2)
    (h : ∀ x g' s', g.StaysIn g' → IsOrder g' x ⟨code, dst, src, off, imm, more⟩ → At T Z g' L m mu s' → Q (.ref x) s') : wpAny (model prog w) A (call (.ref 94) [.int code t1, .int dst t2, .int src t3, .int off t4, .int imm t5, .int more t6]) Q E s := by
  refine r_new (n := 1) TF TF.order H R fun A' x dx g' s' R' k hx H' => ?_
  refine Order_init6 (t1 := t1) (t2 := t2) (t3 := t3) (t4 := t4) (t5 := t5) (t6 := t6) TF H' R' hx (fun name params bd scope e doc pm an cdv ct => ?_) fun g'' s'' k' O H'' => ⟨rfl, h _ _ _ (stays_trans k k') O H''⟩
  cases e
  obtain ⟨o, n, t, hl, hd⟩ := TF.dfl.2.1
  exact dfl_int (items := #[.int 0 t]) TF H' rfl ⟨o, n, hl, hd⟩ rfl rfl
end
end Mine
namespace Mine

noncomputable abbrev LO (vs : List Value) (n : Nat) : Obj := { cls := .type "list", data := .seq vs.toArray n }
noncomputable def IsListV (g : Heap) (l : Addr) (vs : List Value) : Prop := ∃ n, g.get? l = some (LO vs n)
theorem IsListV.mono {g g' : Heap} {l : Addr} {vs : List Value} (h : IsListV g l vs) (k : g.StaysIn g') : IsListV g' l vs := let ⟨n, e⟩ := h; ⟨n, k _ _ e⟩
noncomputable def IsTupV (g : Heap) (l : Addr) (vs : List Value) : Prop := ∃ n, g.get? l = some { cls := .type "tuple", data := .seq vs.toArray n }
theorem IsTupV.mono {g g' : Heap} {l : Addr} {vs : List Value} (h : IsTupV g l vs) (k : g.StaysIn g') : IsTupV g' l vs := let ⟨n, e⟩ := h; ⟨n, k _ _ e⟩

section
variable {prog : Program} {w : World} {K : Frag} {A : Around} {T : Heap} {Z : Zed} {g : Heap} {L : Addr} {m : List (Str × Value)} {mu : List (Addr × Obj)} {s : Shared} {E : Value → Shared → Prop}

/-- a list that stands, of the unchanging part or of mu -/
noncomputable def HasList (g : Heap) (mu : List (Addr × Obj)) (l : Addr) (vs : List Value) : Prop := IsListV g l vs ∨ ∃ (i : Nat) (n : Nat), mu[i]? = some (l, LO vs n)
theorem hasG {l : Addr} {vs : List Value} (h : IsListV g l vs) : HasList g mu l vs := .inl h
theorem hasM {l : Addr} {vs : List Value} {n : Nat} (i : Nat) (h : mu[i]? = some (l, LO vs n)) : HasList g mu l vs := .inr ⟨i, n, h⟩
theorem At.obj (H : At T Z g L m mu s) {l : Addr} {vs : List Value} (h : HasList g mu l vs) : ∃ n, s.heap.get? l = some (LO vs n) := by
  rcases h with ⟨n, e⟩ | ⟨i, n, e⟩
  · exact ⟨n, H.gh _ _ e⟩
  · exact ⟨n, (H.mus _ (List.mem_of_getElem? e)).1⟩
theorem At.lst (H : At T Z g L m mu s) {l : Addr} {vs : List Value} (h : HasList g mu l vs) : s.heap.IsList l vs.toArray :=
  let ⟨n, e⟩ := H.obj h; ⟨_, e, rfl, n, rfl⟩

/-- what changed is none of ours -/
theorem At.else_ (H : At T Z g L m mu s) {wr : List Addr} {h' : Heap} {t : Nat} (k : ∀ a o, a ∉ wr → s.heap.get? a = some o → h'.get? a = some o) (hw : ∀ a ∈ wr, a ≠ L ∧ a ∉ mu.map (·.1) ∧ g.get? a = none ∧ Z.b.get? a = none) :
    At T Z g L m mu { s with heap := h', toks := t } where
  ns := by
    obtain ⟨mr, ⟨o, es, ep, ho, r⟩, q⟩ := H.ns
    exact ⟨mr, ⟨o, es, ep, k _ _ (fun hm => (hw _ hm).1 rfl) ho, r⟩, q⟩
  gg := H.gg
  gh := fun a o e => k a o (fun hm => by rw [(hw _ hm).2.2.1] at e; cases e) (H.gh a o e)
  hh := fun a o e => k a o (fun hm => by rw [(hw _ hm).2.2.2] at e; cases e) (H.hh a o e)
  fr := H.fr
  tg := H.tg
  Lb := H.Lb
  Lg := H.Lg
  mus := fun p hp => ⟨k _ _ (fun hm => (hw _ hm).2.1 (List.mem_map.mpr ⟨p, hp, rfl⟩)) (H.mus p hp).1, (H.mus p hp).2⟩
  nd := H.nd
  gens := H.gens
  os := H.os

/-- a block's own keep: everything but the frame and mu -/
noncomputable def Zed.turn (L : Addr) (mu : List (Addr × Obj)) (g : Heap) (s : Shared) : Zed := ⟨hideAll s.heap (L :: mu.map (·.1)), g, s⟩
theorem At.toTurn (H : At T Z g L m mu s) : At T (Zed.turn L mu g s) g L m mu s where
  ns := H.ns
  gg := stays_refl _
  gh := H.gh
  hh := fun _ _ e => of_hideAll _ e
  fr := fun _ _ e => .inl e
  tg := H.tg
  Lb := hideAll_none _ (.head _)
  Lg := H.Lg
  mus := fun p hp => ⟨(H.mus p hp).1, (H.mus p hp).2.1, hideAll_none _ (.tail _ (List.mem_map.mpr ⟨p, hp, rfl⟩)), (H.mus p hp).2.2.2⟩
  nd := H.nd
  gens := rfl
  os := rfl
theorem At.ofTurn (H : At T Z g L m mu s) {g' : Heap} {m' : List (Str × Value)} {mu' : List (Addr × Obj)} {s' : Shared} (H' : At T (Zed.turn L mu g s) g' L m' mu' s') (ad : mu'.map (·.1) = mu.map (·.1)) : At T Z g' L m' mu' s' where
  ns := H'.ns
  gg := stays_trans H.gg H'.gg
  gh := H'.gh
  hh := fun a o e => H'.hh a o (hideAll_get _ (H.hh _ _ e) (fun hm => by
    rcases List.mem_cons.mp hm with q | q
    · rw [q, H.Lb] at e; cases e
    · obtain ⟨p, hp, rfl⟩ := List.mem_map.mp q
      rw [(H.mus p hp).2.2.1] at e; cases e))
  fr := fun a o e => by
    rcases H'.fr a o e with h | h
    · exact H.fr a o h
    · right
      cases e' : Z.b.get? a with
      | none => rfl
      | some x =>
        have hn : a ∉ L :: mu.map (·.1) := fun hm => by
          rcases List.mem_cons.mp hm with q | q
          · rw [q, H.Lb] at e'; cases e'
          · obtain ⟨p, hp, rfl⟩ := List.mem_map.mp q
            rw [(H.mus p hp).2.2.1] at e'; cases e'
        rw [show (Zed.turn L mu g s).b.get? a = some x from hideAll_get _ (H.hh _ _ e') hn] at h
        cases h
  tg := H'.tg
  Lb := H.Lb
  Lg := H'.Lg
  mus := fun p hp => by
    have h1 := H'.mus p hp
    have h2 : p.1 ∈ mu.map (·.1) := ad ▸ List.mem_map.mpr ⟨p, hp, rfl⟩
    obtain ⟨q, hq, e⟩ := List.mem_map.mp h2
    exact ⟨h1.1, h1.2.1, e ▸ (H.mus q hq).2.2.1, h1.2.2.2⟩
  nd := H'.nd
  gens := H'.gens.trans H.gens
  os := H'.os.trans H.os

/-- a turn's end -/
noncomputable def TurnEnd (T : Heap) (Z₁ : Zed) (L : Addr) (ad : List Addr) (J : Heap → List (Str × Value) → List (Addr × Obj) → Prop) (s₂ : Shared) : Prop :=
  ∃ g₂ m₂ mu₂, At T Z₁ g₂ L m₂ mu₂ s₂ ∧ mu₂.map (·.1) = ad ∧ J g₂ m₂ mu₂
noncomputable def TurnPost (T : Heap) (Z₁ : Zed) (L : Addr) (ad : List Addr) (J : Heap → List (Str × Value) → List (Addr × Obj) → Prop) (Q : Flow → Shared → Prop) (f : Flow) (s₂ : Shared) : Prop :=
  match f with
  | .ret v => Q (.ret v) s₂
  | .brk => Q .next s₂
  | _ => TurnEnd T Z₁ L ad J s₂

/-- a for over what Walks tells -/
theorem loop_walks {env : Env} {x : Str} {px : Pos} {body : List Stmt} {I : Addr} {fp wr : List Addr} {n : Nat} {P : Nat → Value → Prop} {St : Nat → Heap → Prop} {Rr : Result → Shared → Prop} {Q : Flow → Shared → Prop}
    (J : Nat → Heap → List (Str × Value) → List (Addr × Obj) → Prop) (hL : env.locals = L) (hx : env.kindOf x = some .local) (hk : env.scope.kind = .function)
    (W : Walks prog w A I fp wr n P St) (H : At T Z g L m mu s) (hst : St 0 s.heap) (live : ∀ i h, St i h → ∀ a ∈ wr, ∃ o, h.get? a = some o)
    (hw : ∀ a ∈ wr, a ≠ L ∧ a ∉ mu.map (·.1) ∧ g.get? a = none ∧ Z.b.get? a = none) (hfL : L ∉ fp) (hfm : ∀ a ∈ fp, a ∉ mu.map (·.1)) (h0 : J 0 g m mu)
    (turn : ∀ i v Z₁ g₁ m₁ mu₁ s₁, i < n → P i v → J i g₁ m₁ mu₁ → mu₁.map (·.1) = mu.map (·.1) → g.StaysIn g₁ → At T Z₁ g₁ L ((x, v) :: m₁) mu₁ s₁ →
      (∀ g₂ m₂ mu₂ s₂, At T Z₁ g₂ L m₂ mu₂ s₂ → mu₂.map (·.1) = mu.map (·.1) → At T Z g₂ L m₂ mu₂ s₂) →
      wpAny (model prog w) A (execs body env) (TurnPost T Z₁ L (mu.map (·.1)) (J (i + 1)) Q) noE s₁)
    (done : ∀ g' m' mu' s', J n g' m' mu' → mu'.map (·.1) = mu.map (·.1) → At T Z g' L m' mu' s' → Q .next s') (hR : ∀ f s', Q f s' → Rr (.ok f) s') :
    codeAny (model prog w) A (.forLoop (.Name x px) (.ref I) body [] env) Rr s := by
  subst hL
  refine codeAny_forLoop (fun k s' => ∃ i g' m' mu', At T Z g' env.locals m' mu' s' ∧ St i s'.heap ∧ J i g' m' mu' ∧ mu'.map (·.1) = mu.map (·.1) ∧ g.StaysIn g' ∧ (∀ a ∈ wr, g'.get? a = none) ∧ i ≤ n ∧ k = n + 1 - i) ?_ (n + 1)
    ⟨0, g, m, mu, H, hst, h0, rfl, stays_refl _, fun a ha => (hw a ha).2.2.1, Nat.zero_le _, rfl⟩
  rintro k s' ⟨i, g', m', mu', H', st', hJ, ad, kg, hwg, hi, rfl⟩
  have hw' : ∀ a ∈ wr, a ≠ env.locals ∧ a ∉ mu'.map (·.1) ∧ g'.get? a = none ∧ Z.b.get? a = none := fun a ha => ⟨(hw a ha).1, ad ▸ (hw a ha).2.1, hwg a ha, (hw a ha).2.2.2⟩
  by_cases hlt : i < n
  · refine W.item i _ _ _ hlt st' fun v h₁ tk₁ hP st₁ hk₁ => ?_
    have H₁ := H'.else_ (h' := h₁) (t := tk₁) (fun a o hn e => hk₁ a o hn e) hw'
    refine wpAny_assign_Name ?_
    obtain ⟨mr, hn, hr⟩ := H₁.ns
    refine wpAny_storeName_local hx hn (fun h₂ hn₂ hs₂ => ?_) (by rw [hk]; rfl)
    have H₂ := H₁.store (x := x) (v := v) (h' := h₂) (t := tk₁ + 1) (fun mr' n' => by
      have : mr' = mr := by
        obtain ⟨o, es, ep, ho, hd, hks, hf⟩ := hn
        obtain ⟨o', es', ep', ho', hd', hks', hf'⟩ := n'
        rw [ho] at ho'; cases ho'
        rw [hd] at hd'; cases hd'
        funext y
        rw [← hf y, ← hf' y]
      rw [this]; exact hn₂) hs₂
    have st₂ : St (i + 1) h₂ := W.frame _ _ _ st₁ fun b hb o e => (hs₂.2 b fun q => hfL (q ▸ hb)).trans e
    refine wpAny_mono (turn i v _ g' m' mu' _ hlt hP hJ ad kg H₂.toTurn (fun g₂ m₂ mu₂ s₂ h ad₂ => H₂.ofTurn h (ad₂.trans ad.symm))) (fun f s₂ hf => ?_) fun _ _ e => e.elim
    have fin : TurnEnd T (Zed.turn env.locals mu' g' { s' with heap := h₂, toks := tk₁ + 1 }) env.locals (mu.map (·.1)) (J (i + 1)) s₂ → ∃ k', k' < n + 1 - i ∧ ∃ i g' m' mu', At T Z g' env.locals m' mu' s₂ ∧ St i s₂.heap ∧ J i g' m' mu' ∧ mu'.map (·.1) = mu.map (·.1) ∧ g.StaysIn g' ∧ (∀ a ∈ wr, g'.get? a = none) ∧ i ≤ n ∧ k' = n + 1 - i := by
      rintro ⟨g₂, m₂, mu₂, H₃, ad₃, hJ₃⟩
      refine ⟨n + 1 - (i + 1), by omega, i + 1, g₂, m₂, mu₂, H₂.ofTurn H₃ (ad₃.trans ad.symm), W.frame _ _ _ st₂ fun b hb o e => H₃.hh b o (hideAll_get _ e fun hm => ?_), hJ₃, ad₃, stays_trans kg H₃.gg, fun a ha => ?_, hlt, rfl⟩
      · rcases List.mem_cons.mp hm with q | q
        · exact hfL (q ▸ hb)
        · exact hfm b hb (ad ▸ q)
      · cases e : g₂.get? a with
        | none => rfl
        | some y =>
          rcases H₃.fr a y e with q | q
          · have q' : g'.get? a = some y := q
            rw [hwg a ha] at q'; cases q'
          · obtain ⟨o, ho⟩ := live _ _ st₂ a ha
            have hn : a ∉ env.locals :: mu'.map (·.1) := fun hm => by
              rcases List.mem_cons.mp hm with z | z
              · exact (hw' a ha).1 z
              · exact (hw' a ha).2.1 z
            have := hideAll_get _ ho hn
            rw [show (Zed.turn env.locals mu' g' { s' with heap := h₂, toks := tk₁ + 1 }).b.get? a = some o from this] at q
            cases q
    cases f with
    | ret v => exact hR _ _ hf
    | brk => exact hR _ _ hf
    | next => exact fin hf
    | cont => exact fin hf
  · have hin : i = n := by omega
    subst hin
    refine W.done _ _ _ st' fun h₁ tk₁ hk₁ => wpAny_execs_nil ?_
    exact hR _ _ (done g' m' mu' _ hJ ad (H'.else_ (h' := h₁) (t := tk₁) (fun a o hn e => hk₁ a o hn e) hw'))

/-- «for x in xs», the list of the unchanging part -/
theorem for_list {env : Env} {x : Str} {px : Pos} {body : List Stmt} {l : Addr} {vs : List Value} {Q : Flow → Shared → Prop}
    (J : Nat → Heap → List (Str × Value) → List (Addr × Obj) → Prop) (R : Room A 0) (H : At T Z g L m mu s) (hl : IsListV g l vs) (h0 : J 0 g m mu)
    (turn : ∀ i v Z₁ g₁ m₁ mu₁ s₁, vs[i]? = some v → J i g₁ m₁ mu₁ → mu₁.map (·.1) = mu.map (·.1) → g.StaysIn g₁ → At T Z₁ g₁ L ((x, v) :: m₁) mu₁ s₁ →
      (∀ g₂ m₂ mu₂ s₂, At T Z₁ g₂ L m₂ mu₂ s₂ → mu₂.map (·.1) = mu.map (·.1) → At T Z g₂ L m₂ mu₂ s₂) →
      wpAny (model prog w) A (execs body env) (TurnPost T Z₁ L (mu.map (·.1)) (J (i + 1)) Q) noE s₁)
    (done : ∀ g' m' mu' s', J vs.length g' m' mu' → mu'.map (·.1) = mu.map (·.1) → At T Z g' L m' mu' s' → Q .next s')
    (hL : env.locals = L := by rfl) (hk : env.scope.kind = .function := by rfl) (hx : env.kindOf x = some .local := by rfl) :
    wpAny (model prog w) A (pyIter (.ref l)) (fun it s₂ => codeAny (model prog w) A (.forLoop (.Name x px) it body [] env) (fun r s' => match r with | .ok f => Q f s' | .error e => cameBackBy (model prog w) A env E e s') s₂) E s := by
  have hls := H.lst (hasG hl)
  obtain ⟨n, hn⟩ := hl
  have hsz : s.heap.get? l = some _ := H.gh _ _ hn
  have hlt := Heap.lt_size hsz
  refine wpAny_pyIter_list hls ?_
  have W := Walks.list (prog := prog) (w := w) R.handled s.heap.objs.size l (Nat.ne_of_lt hlt) vs.toArray
  have hlen : vs.toArray.size = vs.length := by simp
  rw [hlen] at W
  have fresh : ∀ (h : Heap), h.StaysIn s.heap → h.get? s.heap.objs.size = none := fun h k => by
    cases e : h.get? s.heap.objs.size with
    | none => rfl
    | some o => exact absurd (Heap.lt_size (k _ _ e)) (Nat.lt_irrefl _)
  obtain ⟨oL, hoL⟩ := H.Lsome
  refine loop_walks J hL hx hk W (H.stay (s' := { s with heap := s.heap.push _ }) (fun a o e => Heap.get?_push_of_some _ e) rfl rfl) ⟨⟨_, Heap.get?_push_size _ rfl, rfl, rfl⟩, hls.at fun o e => Heap.get?_push_of_some _ e⟩
    (fun i h st a ha => by obtain rfl := List.mem_singleton.mp ha; obtain ⟨o, ho, _⟩ := st.1; exact ⟨o, ho⟩) (fun a ha => ?_) (fun hm => ?_) (fun a ha hm => ?_) h0 (fun i v Z₁ g₁ m₁ mu₁ s₁ _ hP => turn i v Z₁ g₁ m₁ mu₁ s₁ (by simpa using hP)) done (fun f s' h => h)
  · obtain rfl := List.mem_singleton.mp ha
    refine ⟨fun q => ?_, fun hm => ?_, fresh _ H.gh, fresh _ H.hh⟩
    · rw [← q] at hoL; exact absurd (Heap.lt_size hoL) (Nat.lt_irrefl _)
    · obtain ⟨p, hp, e⟩ := List.mem_map.mp hm
      have := Heap.lt_size (H.mus p hp).1
      rw [e] at this; exact absurd this (Nat.lt_irrefl _)
  · rcases List.mem_cons.mp hm with q | q
    · rw [q] at hoL; exact absurd (Heap.lt_size hoL) (Nat.lt_irrefl _)
    · obtain rfl := List.mem_singleton.mp q
      rw [H.Lg] at hn; cases hn
  · obtain ⟨p, hp, e⟩ := List.mem_map.mp hm
    rcases List.mem_cons.mp ha with q | q
    · have := Heap.lt_size (H.mus p hp).1
      rw [e, q] at this; exact absurd this (Nat.lt_irrefl _)
    · obtain rfl := List.mem_singleton.mp q
      have := (H.mus p hp).2.2.2
      rw [e, hn] at this; cases this
end
end Mine
namespace Mine

section
variable {prog : Program} {w : World} {K : Frag} {A : Around} {T : Heap} {Z : Zed} {g : Heap} {L : Addr} {m : List (Str × Value)} {mu : List (Addr × Obj)} {s : Shared} {E : Value → Shared → Prop}

theorem At.offNew (H : At T Z g L m mu s) : s.heap.objs.size ≠ L ∧ s.heap.objs.size ∉ mu.map (·.1) ∧ g.get? s.heap.objs.size = none ∧ Z.b.get? s.heap.objs.size = none := by
  have fresh : ∀ (h : Heap), h.StaysIn s.heap → h.get? s.heap.objs.size = none := fun h k => by
    cases e : h.get? s.heap.objs.size with
    | none => rfl
    | some o => exact absurd (Heap.lt_size (k _ _ e)) (Nat.lt_irrefl _)
  refine ⟨fun q => ?_, fun hm => ?_, fresh _ H.gh, fresh _ H.hh⟩
  · obtain ⟨oL, hoL⟩ := H.Lsome
    rw [← q] at hoL; exact absurd (Heap.lt_size hoL) (Nat.lt_irrefl _)
  · obtain ⟨p, hp, e⟩ := List.mem_map.mp hm
    have := Heap.lt_size (H.mus p hp).1
    rw [e] at this; exact absurd this (Nat.lt_irrefl _)

theorem rangeSize1 {a b : Int} : Builtin.Range.rangeSize a b 1 = ((b - a).toNat : Int) := by
  unfold Builtin.Range.rangeSize
  rw [if_pos (by decide)]
  split
  · rw [Int.ediv_one]; omega
  · omega

theorem r_range1 {b : Int} {u : Tok} {Q : Value → Shared → Prop} (H : At T Z g L m mu s) (h : ∀ r t u v s', At T Z g L m mu s' → IsRange s'.heap r 0 b 1 t u v → Q (.ref r) s') : wpAny (model prog w) A (call (.type "range") [.int b u]) Q E s :=
  call_range_1 (h _ _ _ _ _ (H.stay (s' := { s with heap := s.heap.push _, toks := _ }) (fun a o e => Heap.get?_push_of_some _ e) rfl rfl) (Heap.get?_push_size _ rfl))
theorem r_range2 {a b : Int} {t u : Tok} {Q : Value → Shared → Prop} (H : At T Z g L m mu s) (h : ∀ r t u v s', At T Z g L m mu s' → IsRange s'.heap r a b 1 t u v → Q (.ref r) s') : wpAny (model prog w) A (call (.type "range") [.int a t, .int b u]) Q E s :=
  call_range_2 (h _ _ _ _ _ (H.stay (s' := { s with heap := s.heap.push _, toks := _ }) (fun a o e => Heap.get?_push_of_some _ e) rfl rfl) (Heap.get?_push_size _ rfl))

/-- «for i in range(a, b)» -/
theorem for_range {env : Env} {x : Str} {px : Pos} {body : List Stmt} {r : Addr} {a b : Int} {t u v : Tok} {Q : Flow → Shared → Prop}
    (J : Nat → Heap → List (Str × Value) → List (Addr × Obj) → Prop) (R : Room A 0) (H : At T Z g L m mu s) (hr : IsRange s.heap r a b 1 t u v) (ha : 0 ≤ a) (ha' : a < 2 ^ 62) (hb : -(2 ^ 62) ≤ b) (hb' : b < 2 ^ 62) (h0 : J 0 g m mu)
    (turn : ∀ (i : Nat) t Z₁ g₁ m₁ mu₁ s₁, (i : Int) < b - a → J i g₁ m₁ mu₁ → mu₁.map (·.1) = mu.map (·.1) → g.StaysIn g₁ → At T Z₁ g₁ L ((x, .int (a + i) t) :: m₁) mu₁ s₁ →
      (∀ g₂ m₂ mu₂ s₂, At T Z₁ g₂ L m₂ mu₂ s₂ → mu₂.map (·.1) = mu.map (·.1) → At T Z g₂ L m₂ mu₂ s₂) →
      wpAny (model prog w) A (execs body env) (TurnPost T Z₁ L (mu.map (·.1)) (J (i + 1)) Q) noE s₁)
    (done : ∀ g' m' mu' s', J (b - a).toNat g' m' mu' → mu'.map (·.1) = mu.map (·.1) → At T Z g' L m' mu' s' → Q .next s')
    (hL : env.locals = L := by rfl) (hk : env.scope.kind = .function := by rfl) (hx : env.kindOf x = some .local := by rfl) :
    wpAny (model prog w) A (pyIter (.ref r)) (fun it s₂ => codeAny (model prog w) A (.forLoop (.Name x px) it body [] env) (fun r s' => match r with | .ok f => Q f s' | .error e => cameBackBy (model prog w) A env E e s') s₂) E s := by
  refine wpAny_pyIter_range hr (small_one (by omega) ha' hb hb') ?_
  have W := Walks.range (prog := prog) (w := w) R.handled s.heap.objs.size a 1 (b - a).toNat
  have off := H.offNew
  refine loop_walks J hL hx hk W (H.stay (s' := { s with heap := s.heap.push _ }) (fun a o e => Heap.get?_push_of_some _ e) rfl rfl) (by
      show (s.heap.push _).get? _ = _
      rw [Heap.get?_push_size _ rfl, rangeSize1]
      simp [rawInt])
    (fun i h st c hc => by obtain rfl := List.mem_singleton.mp hc; exact ⟨_, st⟩) (fun c hc => by obtain rfl := List.mem_singleton.mp hc; exact off) (fun hm => ?_) (fun c hc => by obtain rfl := List.mem_singleton.mp hc; exact off.2.1) h0
    (fun i v Z₁ g₁ m₁ mu₁ s₁ hi hP hJ ad kg H₁ out => ?_) done (fun f s' h => h)
  · obtain rfl := List.mem_singleton.mp hm
    exact off.1 rfl
  · obtain ⟨t', rfl⟩ := hP
    rw [Int.mul_one] at H₁
    exact turn i t' Z₁ g₁ m₁ mu₁ s₁ (by omega) hJ ad kg H₁ out

theorem r_For {env : Env} {x : Str} {px pos : Pos} {iter : Expr} {body : List Stmt} {Q : Flow → Shared → Prop}
    (h : wpAny (model prog w) A (eval iter env) (fun xv s₁ => wpAny (model prog w) A (pyIter xv) (fun it s₂ => codeAny (model prog w) A (.forLoop (.Name x px) it body [] env) (fun r s' => match r with | .ok f => Q f s' | .error e => cameBackBy (model prog w) A env E e s') s₂) E s₁) E s)
    (hs : ∀ x, foldedSetIterable iter env x = pure x := by intro _; rfl) : wpAny (model prog w) A (exec (.For (.Name x px) iter body [] pos) env) Q E s := wpAny_For h hs

/- lists -/
theorem r_len {l : Addr} {vs : List Value} {Q : Value → Shared → Prop} (H : At T Z g L m mu s) (hl : HasList g mu l vs) (hz : vs.length ≤ 100000) (h : ∀ t s', At T Z g L m mu s' → Q (.int vs.length t) s') :
    wpAny (model prog w) A (call (.builtin "len") [.ref l]) Q E s := by
  have hls := H.lst hl
  have e : ((vs.toArray.size : Nat) : Int) = (vs.length : Int) := by simp
  refine Calls.call_len_list hls (by rw [e]; omega) ?_
  rw [e]
  exact h _ _ (H.tok _)

theorem r_newList {vs : List Value} {Q : Value → Shared → Prop} (H : At T Z g L m mu s) (hz : vs.length ≤ 100000) (h : ∀ l s', At T Z g L m (mu ++ [(l, LO vs 0)]) s' → Q (.ref l) s') : wpAny (model prog w) A (newList vs) Q E s :=
  wpAny_newList (h _ _ (H.push _ rfl)) (by show vs.length ≤ 2 ^ 24; omega)
theorem r_newTuple {vs : List Value} {Q : Value → Shared → Prop} (H : At T Z g L m mu s) (hz : vs.length ≤ 100000) (h : ∀ l s', At T Z g L m (mu ++ [(l, { cls := .type "tuple", data := .seq vs.toArray })]) s' → Q (.ref l) s') : wpAny (model prog w) A (newTuple vs) Q E s :=
  wpAny_newTuple (h _ _ (H.push _ rfl)) (by show vs.length ≤ 2 ^ 24; omega)

theorem r_append {l : Addr} {vs : List Value} {n i : Nat} {v : Value} {Q : Value → Shared → Prop} (H : At T Z g L m mu s) (hi : mu[i]? = some (l, LO vs n)) (hz : vs.length ≤ 100000)
    (h : ∀ n' s', At T Z g L m (mu.set i (l, LO (vs ++ [v]) n')) s' → Q .none s') : wpAny (model prog w) A (call (.builtin "list.append") [.ref l, v]) Q E s := by
  have hm := H.mus _ (List.mem_of_getElem? hi)
  refine wpAny_list_append_plain (l := l) (items := vs.toArray) ⟨n, hm.1⟩ (fun h' hp hs => ?_) (by show vs.toArray.size ≤ 2 ^ 24; simp; omega)
  obtain ⟨n', e⟩ := hp
  refine h n' { s with heap := h' } (H.turn (t := s.toks) hi ?_ fun a x ha e => (hs.2 a ha).trans e)
  rw [e]
  simp

theorem r_meth {l : Addr} {vs : List Value} {pl : Sem Bool} {Q : Value × List Value → Shared → Prop} (H : At T Z g L m mu s) (hl : HasList g mu l vs) (h : Q (.builtin "list.append", [.ref l]) s) :
    wpAny (model prog w) A (getMethod (.ref l) "append" pl) Q E s := by
  obtain ⟨n, e⟩ := H.obj hl
  exact Calls.getMethod_list_append e rfl rfl h

theorem r_item {value slice : Expr} {l : Addr} {vs : List Value} {k : Int} {u : Tok} {v : Value} {Q : Value → Shared → Prop} (H : At T Z g L m mu s) (hl : HasList g mu l vs) (h0 : 0 ≤ k) (hz : k ≤ 100000) (hx : vs[k.toNat]? = some v) (h : Q v s)
    (hs : subscripted slice false (.ref l) (.int k u) = operate [.ref l, .int k u] (getItem (.ref l) (.int k u)) := by with_unfolding_all rfl) :
    wpAny (model prog w) A (subscriptTail value slice (.ref l) (.int k u)) Q E s :=
  tail_any (H.lst hl).typeIs slot_list_getitem.lookup (wpAny_getItem_list (H.lst hl) h0 (by omega) (by simpa using hx) h) hs

theorem r_itemLast {value slice : Expr} {l : Addr} {vs : List Value} {u : Tok} {v : Value} {Q : Value → Shared → Prop} (H : At T Z g L m mu s) (hl : HasList g mu l (vs ++ [v])) (h : Q v s)
    (hs : subscripted slice false (.ref l) (.int (-1) u) = operate [.ref l, .int (-1) u] (getItem (.ref l) (.int (-1) u)) := by with_unfolding_all rfl) :
    wpAny (model prog w) A (subscriptTail value slice (.ref l) (.int (-1) u)) Q E s := by
  refine tail_any (H.lst hl).typeIs slot_list_getitem.lookup (wpAny_getItem_list_neg (H.lst hl) (by decide) (by simp; omega) (by decide) ?_ h) hs
  have : ((-1 : Int) + ((vs ++ [v]).toArray.size : Nat)).toNat = vs.length := by simp; omega
  rw [this]
  simp

theorem r_setItem {l : Addr} {vs : List Value} {n i : Nat} {k : Int} {u : Tok} {v : Value} {Q : Unit → Shared → Prop} (H : At T Z g L m mu s) (hi : mu[i]? = some (l, LO vs n)) (h0 : 0 ≤ k) (hk : k < vs.length) (hz : vs.length ≤ 100000)
    (h : ∀ n' s', At T Z g L m (mu.set i (l, LO (vs.set k.toNat v) n')) s' → Q () s') : wpAny (model prog w) A (setItem (.ref l) (.int k u) v) Q E s := by
  have hm := H.mus _ (List.mem_of_getElem? hi)
  refine ki_setAt (n := n) (items := vs.toArray) hm.1 h0 (by omega) (by simpa using hk) ?_
  have e : Obj.mapSeq (·.setIfInBounds k.toNat v) (LO vs n) = LO (vs.set k.toNat v) n := by
    simp [Obj.mapSeq, LO]
  refine h n _ (H.turn (t := s.toks) hi ?_ fun a x ha e => (Heap.get?_update_ne _ _ _ _ ha).trans e)
  rw [Heap.get?_update_self _ hm.1 (by rw [e]; rfl), e]
end
end Mine
namespace Mine
section
variable {prog : Program} {w : World} {K : Frag} {A : Around} {T : Heap} {Z : Zed} {g : Heap} {L : Addr} {m : List (Str × Value)} {mu : List (Addr × Obj)} {s : Shared} {E : Value → Shared → Prop}

/-- a call of a built-in function or type by its name -/
theorem r_callB {id : String} {first : List Value} {pos : Pos} {env : Env} {e : Expr} {rest : List Expr} {Q : Value → Shared → Prop}
    (h : wpAny (model prog w) A (spliced (backTo pos (starEach (e :: rest) env))) (fun vs s₁ => wpAny (model prog w) A (call (.builtin id) (first ++ vs)) Q E s₁) E s)
    (he : starEach (e :: rest) env = (false, eval e env) :: starEach rest env := by rfl) (hplain : (backTo pos (starEach rest env)).any (·.1) = false := by rfl) :
    wpAny (model prog w) A (callWith pos (.builtin id) first (backTo pos (starEach (e :: rest) env)) []) Q E s := by
  refine Calls.callWith_builtin (by rw [he]; show (false || (backTo pos (starEach rest env)).any (·.1)) = false; rw [hplain]; rfl) ?_
  rw [he] at h ⊢
  exact Calls.evalArgs_plain h
theorem r_callT {T' : String} {first : List Value} {pos : Pos} {env : Env} {e : Expr} {rest : List Expr} {Q : Value → Shared → Prop}
    (h : wpAny (model prog w) A (spliced (backTo pos (starEach (e :: rest) env))) (fun vs s₁ => wpAny (model prog w) A (call (.type T') (first ++ vs)) Q E s₁) E s)
    (he : starEach (e :: rest) env = (false, eval e env) :: starEach rest env := by rfl) (hplain : (backTo pos (starEach rest env)).any (·.1) = false := by rfl) :
    wpAny (model prog w) A (callWith pos (.type T') first (backTo pos (starEach (e :: rest) env)) []) Q E s := by
  refine PySem.callWith_type (by rw [he]; show (false || (backTo pos (starEach rest env)).any (·.1)) = false; rw [hplain]; rfl) ?_
  rw [he] at h ⊢
  exact Calls.evalArgs_plain h

/-- into a def that gives back nothing made: all that stands is known to it -/
theorem enterP {f : Addr} {name : Str} {params : Arguments} {bd : List Stmt} {scope : Scope} {od : Option DefInfo} {qual : Str} {dV : Value} {vals : List Value} (binds : List (Str × Value)) {Q : Value → Shared → Prop} {n : Nat}
    (TF : TopF K T) (FI : FnIs K f od qual dV) (hd : od = some ⟨name, params, bd, scope⟩) (H : At T Z g L m mu s) (R : Room A (n + 1))
    (hbind : ∀ doc pm an cdv ct, BindsTo s (fnOf name qual params bd scope dV .none doc pm an cdv ct) ⟨vals, []⟩ binds)
    (hloc : (binds.all fun x => decide (scope.names.lookup x.1 = some .local)) = true) (hcell : ∀ x ∈ scope.names, x.2 ≠ .cell)
    (hco : scope.isCoroutine = false) (hgen : scope.isGenerator = false) (hk : scope.kind = .function)
    (body : ∀ cdv Z' L' s₁, At T Z' s.heap L' binds.reverse [] s₁ →
      (∀ g' m' mu' s', At T Z' g' L' m' mu' s' → At T Z g L m mu s') → Room (A.deeper (envOf qual scope L' f cdv)) n →
      wpAny (model prog w) (A.deeper (envOf qual scope L' f cdv)) (execs bd (envOf qual scope L' f cdv)) (fun fl s' => Q (match fl with | .ret v => v | _ => .none) s') noE s₁) :
    wpAny (model prog w) A (call (.ref f) vals) Q E s := by
  subst hd
  obtain ⟨oc, odd, osl, doc, pm, an, cdv, ct, hl, hc⟩ := FI
  have XS := TF.inS H
  refine wpAny_call (codeAny_call_def (fd := fnOf name qual params bd scope dV .none doc pm an cdv ct) (body := bd) (binds := binds) R.lim (XS _ _ hl) rfl (TF.nolimit.keeps H.top) (codeRec_of XS hc) rfl (hbind doc pm an cdv ct) hcell (locs hloc) (fun h₁ hns hk₁ => ?_) hco hgen hk)
  have nn : s.heap.get? s.heap.objs.size = none := get_none_of_ge (Nat.le_refl _)
  have H₁ : At T ⟨s.heap, s.heap, s⟩ s.heap s.heap.objs.size binds.reverse [] { s with heap := h₁, toks := s.toks + binds.length } :=
    { ns := ⟨_, hns, fun _ _ e => e⟩, gg := stays_refl _, gh := hk₁, hh := hk₁, fr := fun a o e => .inl e, tg := H.top, Lb := nn, Lg := nn, mus := (fun _ hp => nomatch hp), nd := List.Pairwise.nil, gens := rfl, os := rfl }
  exact wpAny_mono (body cdv _ _ _ H₁ (fun g' m' mu' s' H' => H.stay H'.hh H'.gens H'.os) (R.deeper _)) (fun _ _ h => h) fun _ _ h => h.elim

theorem r_isnot_ref {a : Addr} {Q : Value → Shared → Prop} (h : Q (.bool true) s) : wpAny (model prog w) A (compareOp .IsNot (.ref a) .none) Q E s := isNot_none h
theorem r_isnot_none {Q : Value → Shared → Prop} (h : Q (.bool false) s) : wpAny (model prog w) A (compareOp .IsNot .none .none) Q E s := isNot_none h
theorem r_is_ref {a : Addr} {Q : Value → Shared → Prop} (h : Q (.bool false) s) : wpAny (model prog w) A (compareOp .Is (.ref a) .none) Q E s := is_none h
theorem r_is_none {Q : Value → Shared → Prop} (h : Q (.bool true) s) : wpAny (model prog w) A (compareOp .Is .none .none) Q E s := is_none h
theorem ite_T {a b : Prop} (h : a) : if true = true then a else b := by rw [if_pos rfl]; exact h
theorem ite_F {a b : Prop} (h : b) : if false = true then a else b := by rw [if_neg (by decide)]; exact h
theorem ite_NT {a b : Prop} (h : b) : if (!true) = true then a else b := by rw [if_neg (by decide)]; exact h
theorem ite_NF {a b : Prop} (h : a) : if (!false) = true then a else b := by rw [if_pos (by decide)]; exact h
section
variable {Z₁ : Zed} {ad : List Addr} {J : Heap → List (Str × Value) → List (Addr × Obj) → Prop} {Q : Flow → Shared → Prop}
theorem tp_next (h : TurnEnd T Z₁ L ad J s) : TurnPost T Z₁ L ad J Q .next s := h
theorem tp_cont (h : TurnEnd T Z₁ L ad J s) : TurnPost T Z₁ L ad J Q .cont s := h
theorem tp_ret {v : Value} (h : Q (.ret v) s) : TurnPost T Z₁ L ad J Q (.ret v) s := h
theorem tp_brk (h : Q .next s) : TurnPost T Z₁ L ad J Q .brk s := h
theorem tpn {PP : Flow → Shared → Prop} (hPP : ∀ f s, TurnPost T Z₁ L ad J Q f s → PP f s) (h : TurnEnd T Z₁ L ad J s) : PP .next s := hPP _ _ h
theorem tpc {PP : Flow → Shared → Prop} (hPP : ∀ f s, TurnPost T Z₁ L ad J Q f s → PP f s) (h : TurnEnd T Z₁ L ad J s) : PP .cont s := hPP _ _ h
theorem tpr {PP : Flow → Shared → Prop} (hPP : ∀ f s, TurnPost T Z₁ L ad J Q f s → PP f s) {v : Value} (h : Q (.ret v) s) : PP (.ret v) s := hPP _ _ h
theorem tpb {PP : Flow → Shared → Prop} (hPP : ∀ f s, TurnPost T Z₁ L ad J Q f s → PP f s) (h : Q .next s) : PP .brk s := hPP _ _ h
end
/-- the wish behind a block as a name alone: the proofs below stay small -/
theorem gen_post {t : Sem Flow} {P : Flow → Shared → Prop} (k : ∀ PP : Flow → Shared → Prop, (∀ f s, P f s → PP f s) → wpAny (model prog w) A t PP E s) : wpAny (model prog w) A t P E s := k P fun _ _ h => h
/-- behind a statement: the rest of the block, or the way out -/
noncomputable def SeqPost (M : Model) (A : Around) (rest : List Stmt) (env : Env) (Q : Flow → Shared → Prop) (E : Value → Shared → Prop) (f : Flow) (s : Shared) : Prop := match f with
  | .next => wpAny M A (execs rest env) Q E s
  | f => Q f s
theorem r_seq {st : Stmt} {rest : List Stmt} {env : Env} {Q : Flow → Shared → Prop} (k : ∀ QQ : Flow → Shared → Prop, (∀ f s, SeqPost (model prog w) A rest env Q E f s → QQ f s) → wpAny (model prog w) A (exec st env) QQ E s) : wpAny (model prog w) A (execs (st :: rest) env) Q E s :=
  wpAny_execs_cons (k _ fun f _ h => by cases f <;> exact h)
section
variable {M : Model} {rest : List Stmt} {env : Env} {Q QQ : Flow → Shared → Prop}
theorem r_sn (h : ∀ f s, SeqPost M A rest env Q E f s → QQ f s) (k : wpAny M A (execs rest env) Q E s) : QQ .next s := h _ _ k
theorem r_sr (h : ∀ f s, SeqPost M A rest env Q E f s → QQ f s) {v : Value} (k : Q (.ret v) s) : QQ (.ret v) s := h _ _ k
theorem r_sc (h : ∀ f s, SeqPost M A rest env Q E f s → QQ f s) (k : Q .cont s) : QQ .cont s := h _ _ k
theorem r_sb (h : ∀ f s, SeqPost M A rest env Q E f s → QQ f s) (k : Q .brk s) : QQ .brk s := h _ _ k
end
noncomputable abbrev Loc := List (Str × Value)
noncomputable def Knows (m : Loc) : Loc → Prop
  | [] => True
  | p :: r => m.lookup p.1 = some p.2 ∧ Knows m r
theorem At.know (H : At T Z g L m mu s) {m' : Loc} (h : Knows m m') : At T Z g L m' mu s := by
  refine H.forget (lookup_all ?_)
  clear H
  induction m' with
  | nil => exact fun _ hp => nomatch hp
  | cons p r ih =>
    intro q hq
    rcases List.mem_cons.mp hq with rfl | hq
    · exact h.1
    · exact ih h.2 q hq

/-- a list of orders, some fallen -/
noncomputable def OrdsAt (g : Heap) (vs : List Value) (os : List (Option Ord)) : Prop :=
  vs.length = os.length ∧ ∀ (i : Nat) (o : Option Ord), os[i]? = some o → match o with | none => vs[i]? = some .none | some o => ∃ x, vs[i]? = some (.ref x) ∧ IsOrder g x o
theorem OrdsAt.mono {g g' : Heap} {vs : List Value} {os : List (Option Ord)} (h : OrdsAt g vs os) (k : g.StaysIn g') : OrdsAt g' vs os := by
  refine ⟨h.1, fun i o e => ?_⟩
  have := h.2 i o e
  cases o with
  | none => exact this
  | some o => obtain ⟨x, h1, h2⟩ := this; exact ⟨x, h1, h2.mono k⟩
theorem OrdsAt.get {g : Heap} {vs : List Value} {os : List (Option Ord)} (h : OrdsAt g vs os) {i : Nat} (hi : i < os.length) :
    (os[i]? = some none ∧ vs[i]? = some .none) ∨ ∃ o x, os[i]? = some (some o) ∧ vs[i]? = some (.ref x) ∧ IsOrder g x o := by
  have e : os[i]? = some os[i] := List.getElem?_eq_getElem hi
  have := h.2 i _ e
  cases ho : os[i] with
  | none => rw [ho] at this e; exact .inl ⟨e, this⟩
  | some o => rw [ho] at this e; obtain ⟨x, h1, h2⟩ := this; exact .inr ⟨o, x, e, h1, h2⟩

/-- the first order that stays, from a place on -/
noncomputable def nextK (os : List (Option Ord)) (i : Nat) : Int := match (os.drop i).findIdx? (·.isSome) with
  | some j => ((i + j : Nat) : Int)
  | none => -1
theorem nextK_some {os : List (Option Ord)} {i j : Nat} (h1 : ∀ k, k < j → os[i + k]? = some none) {o : Ord} (h2 : os[i + j]? = some (some o)) : nextK os i = ((i + j : Nat) : Int) := by
  unfold nextK
  have : (os.drop i).findIdx? (·.isSome) = some j := by
    rw [List.findIdx?_eq_some_iff_getElem]
    have e : (os.drop i)[j]? = some (some o) := by rw [List.getElem?_drop]; exact h2
    have hl := (List.getElem?_eq_some_iff.mp e).1
    refine ⟨hl, ?_, fun k hk => ?_⟩
    · rw [(List.getElem?_eq_some_iff.mp e).2]; rfl
    · have e2 : (os.drop i)[k]? = some none := by rw [List.getElem?_drop]; exact h1 k hk
      rw [(List.getElem?_eq_some_iff.mp e2).2]; simp
  rw [this]
theorem nextK_none {os : List (Option Ord)} {i : Nat} (h1 : ∀ k, i + k < os.length → os[i + k]? = some none) : nextK os i = -1 := by
  unfold nextK
  have : (os.drop i).findIdx? (·.isSome) = none := by
    rw [List.findIdx?_eq_none_iff]
    intro x hx
    obtain ⟨k, hk⟩ := List.mem_iff_getElem?.mp hx
    rw [List.getElem?_drop] at hk
    have hl := (List.getElem?_eq_some_iff.mp hk).1
    rw [h1 k hl] at hk
    cases hk; rfl
  rw [this]
end
end Mine
namespace Mine
section
variable {prog : Program} {w : World} {K : Frag} {A : Around} {T : Heap} {Z : Zed} {g : Heap} {L : Addr} {m : List (Str × Value)} {mu : List (Addr × Obj)} {s : Shared} {E : Value → Shared → Prop}

theorem at_kept : KeptByPush (At T Z g L m mu) := fun s ob k H => H.stay (s' := { s with heap := s.heap.push ob, toks := k }) (fun a o e => Heap.get?_push_of_some _ e) rfl rfl

/-- text[lo:hi] -/
theorem r_sub_ss {env : Env} {value lo hi : Expr} {p pos : Pos} {Q : Value → Shared → Prop}
    (h : wpAny (model prog w) A (eval value env) (fun o s₁ => wpAny (model prog w) A (eval lo env) (fun a s₂ => wpAny (model prog w) A (eval hi env) (fun b s₃ =>
      wpAny (model prog w) A (subscriptTail value (.Slice (some lo) (some hi) none p) o (.ref s₃.heap.objs.size)) Q E { s₃ with heap := s₃.heap.push { cls := .type "slice", data := .fields #[a, b, .none] } }) E s₂) E s₁) E s) :
    wpAny (model prog w) A (eval (.Subscript value (.Slice (some lo) (some hi) none p) pos) env) Q E s := by
  refine Subscript_ (wpAny_mono h (fun o s₁ h₁ => wpAny_Slice ?_) fun _ _ x => x)
  rw [evalPart_some, evalPart_some, evalPart_none]
  exact wpAny_mono h₁ (fun a s₂ h₂ => wpAny_mono h₂ (fun b s₃ h₃ => wpAny_pure h₃) fun _ _ x => x) fun _ _ x => x
theorem r_sub_ns {env : Env} {value hi : Expr} {p pos : Pos} {Q : Value → Shared → Prop}
    (h : wpAny (model prog w) A (eval value env) (fun o s₁ => wpAny (model prog w) A (eval hi env) (fun b s₃ =>
      wpAny (model prog w) A (subscriptTail value (.Slice none (some hi) none p) o (.ref s₃.heap.objs.size)) Q E { s₃ with heap := s₃.heap.push { cls := .type "slice", data := .fields #[.none, b, .none] } }) E s₁) E s) :
    wpAny (model prog w) A (eval (.Subscript value (.Slice none (some hi) none p) pos) env) Q E s := by
  refine Subscript_ (wpAny_mono h (fun o s₁ h₁ => wpAny_Slice ?_) fun _ _ x => x)
  rw [evalPart_some, evalPart_none]
  exact wpAny_pure (wpAny_mono h₁ (fun b s₃ h₃ => wpAny_pure h₃) fun _ _ x => x)
theorem r_sub_sn {env : Env} {value lo : Expr} {p pos : Pos} {Q : Value → Shared → Prop}
    (h : wpAny (model prog w) A (eval value env) (fun o s₁ => wpAny (model prog w) A (eval lo env) (fun b s₃ =>
      wpAny (model prog w) A (subscriptTail value (.Slice (some lo) none none p) o (.ref s₃.heap.objs.size)) Q E { s₃ with heap := s₃.heap.push { cls := .type "slice", data := .fields #[b, .none, .none] } }) E s₁) E s) :
    wpAny (model prog w) A (eval (.Subscript value (.Slice (some lo) none none p) pos) env) Q E s := by
  refine Subscript_ (wpAny_mono h (fun o s₁ h₁ => wpAny_Slice ?_) fun _ _ x => x)
  rw [evalPart_some, evalPart_none]
  exact wpAny_mono h₁ (fun b s₃ h₃ => wpAny_pure (wpAny_pure h₃)) fun _ _ x => x

theorem r_sliceStr {value slice : Expr} {x : Str} {t : Tok} {i j : Int} {ui uj : Tok} {Q : Value → Shared → Prop} (H : At T Z g L m mu s) (hz : x.length ≤ 1000) (h : ∀ t' s', At T Z g L m mu s' → Q (.str (Txt.slice x (some i) (some j)) t') s')
    (hs : subscripted slice false (.str x t) (.ref s.heap.objs.size) = operate [.ref s.heap.objs.size, .str x t] (getItem (.str x t) (.ref s.heap.objs.size)) := by with_unfolding_all rfl)
    (ht : ∀ r, letTemporaryGo value (.str x t) r = pure () := by intro _; with_unfolding_all rfl) :
    wpAny (model prog w) A (subscriptTail value slice (.str x t) (.ref s.heap.objs.size)) Q E { s with heap := s.heap.push { cls := .type "slice", data := .fields #[.int i ui, .int j uj, .none] } } :=
  tail_of_ItemOn (SBG.sliceItem_ss at_kept H (fun s' t' H' => h t' s' H') (by rw [sizeLine_eq]; omega)) hs ht

set_option maxRecDepth 100000 in
theorem r_strip {x : Str} {pl : Sem Bool} {t : Tok} {Q : Value × List Value → Shared → Prop} (h : Q (.builtin "str.strip", [.str x t]) s) : wpAny (model prog w) A (getMethod (.str x t) "strip" pl) Q E s := GM.strip h
theorem r_strip2 {x : Str} {t : Tok} {Q : Value → Shared → Prop} (H : At T Z g L m mu s) (hz : x.length ≤ 1000) (h : ∀ t' s', At T Z g L m mu s' → Q (.str (Txt.strip x) t') s') : wpAny (model prog w) A (call (.builtin "str.strip") [.str x t]) Q E s :=
  SC.strip (fun t' k => h t' _ (H.tok _)) (by rw [sizeLine_eq]; omega)
/-- a call of a built-in without arguments of its own -/
theorem r_callB0 {id : String} {first : List Value} {pos : Pos} {env : Env} {Q : Value → Shared → Prop} (h : wpAny (model prog w) A (call (.builtin id) (first ++ [])) Q E s) :
    wpAny (model prog w) A (callWith pos (.builtin id) first (backTo pos (starEach [] env)) []) Q E s :=
  Calls.callWith_builtin rfl (evalArgs_nil3 h)

theorem r_truthyI {i : Int} {t : Tok} {Q : Bool → Shared → Prop} (h : Q (i != 0) s) : wpAny (model prog w) A (truthy (.int i t)) Q E s := truthy_int h
theorem r_mul {a b : Int} {t u : Tok} {Q : Value → Shared → Prop} (H : At T Z g L m mu s) (hm : a.natAbs < 2 ^ 60) (hb : b.natAbs < 2 ^ 60) (h : ∀ t s', At T Z g L m mu s' → Q (.int (a * b) t) s') : wpAny (model prog w) A (binaryOp .Mult (.int a t) (.int b u)) Q E s :=
  mul_int (h _ _ (H.tok _)) (IntMulOk.of_left (intBits_le_64 (by omega) (by omega)))
theorem r_shl {a n : Int} {t u : Tok} {Q : Value → Shared → Prop} (H : At T Z g L m mu s) (hn : 0 ≤ n) (hn2 : n ≤ 1000000) (ha : a.natAbs < 2 ^ 64) (h : ∀ t s', At T Z g L m mu s' → Q (.int (a * 2 ^ n.toNat) t) s') : wpAny (model prog w) A (binaryOp .LShift (.int a t) (.int n u)) Q E s :=
  lshift_int_small hn hn2 ha (h _ _ (H.tok _))
theorem r_shr {a n : Int} {t u : Tok} {Q : Value → Shared → Prop} (H : At T Z g L m mu s) (hn : 0 ≤ n) (h : ∀ t s', At T Z g L m mu s' → Q (.int (a.fdiv (2 ^ n.toNat)) t) s') : wpAny (model prog w) A (binaryOp .RShift (.int a t) (.int n u)) Q E s :=
  rshift_int hn (h _ _ (H.tok _))
end
end Mine
namespace Mine
section
variable {prog : Program} {w : World} {K : Frag} {A : Around} {T : Heap} {Z : Zed} {g : Heap} {L : Addr} {m : List (Str × Value)} {mu : List (Addr × Obj)} {s : Shared} {E : Value → Shared → Prop}

/-- a dict of ints -/
noncomputable def MapObj (o : Obj) (f : Int → Option Value) (n : Nat) : Prop := ∃ es ep, o.cls = .type "dict" ∧ o.data = .dict es ep ∧ IntKeys es ∧ (∀ k, findBy Value.isInt es k = f k) ∧ es.size ≤ n
theorem map_of {h : Heap} {d : Addr} {o : Obj} {f : Int → Option Value} {n : Nat} (e : h.get? d = some o) (M : MapObj o f n) : h.IntMap d f ∧ h.DictLe d n := by
  obtain ⟨es, ep, h1, h2, h3, h4, h5⟩ := M
  refine ⟨⟨o, es, ep, e, h1, h2, h3, h4⟩, fun o' es' ep' e' h' => ?_⟩
  rw [e] at e'; cases e'
  rw [h2] at h'; cases h'
  exact h5
theorem of_map {h : Heap} {d : Addr} {f : Int → Option Value} {n : Nat} (M : h.IntMap d f) (z : h.DictLe d n) : ∃ o, h.get? d = some o ∧ MapObj o f n := by
  obtain ⟨o, es, ep, h1, h2, h3, h4, h5⟩ := M
  exact ⟨o, h1, es, ep, h2, h3, h4, h5, z _ _ _ h1 h3⟩

theorem r_newDict {env : Env} {pos : Pos} {Q : Value → Shared → Prop} (H : At T Z g L m mu s) (h : ∀ d o s', MapObj o (fun _ => none) 0 → At T Z g L m (mu ++ [(d, o)]) s' → Q (.ref d) s') : wpAny (model prog w) A (eval (.Dict [] [] pos) env) Q E s := by
  rw [eval_Dict_empty]
  refine wpAny_bind (wpAny_standAt ?_)
  obtain ⟨o, e, M⟩ := of_map (Heap.IntMap.new s.heap) (Heap.DictLe.new s.heap)
  refine wpAny_newObj_type (h _ o { s with heap := s.heap.push _ } M (H.more (get_none_of_ge (Nat.le_refl _)) e (fun _ _ e => Heap.get?_push_of_some _ e) rfl rfl))

theorem r_setDict {d : Addr} {od : Obj} {f : Int → Option Value} {n i : Nat} {k : Int} {t : Tok} {v : Value} {Q : Unit → Shared → Prop} (H : At T Z g L m mu s) (hi : mu[i]? = some (d, od)) (M : MapObj od f n) (hn : n ≤ 100000)
    (h : ∀ o' s', MapObj o' (fun x => if x = k then some v else f x) (n + 1) → At T Z g L m (mu.set i (d, o')) s' → Q () s') : wpAny (model prog w) A (setItem (.ref d) (.int k t) v) Q E s := by
  have hm := H.mus _ (List.mem_of_getElem? hi)
  obtain ⟨h1, h2⟩ := map_of hm.1 M
  refine wpAny_setItem_intMap_le h1 h2 (by rw [sizeLine_eq]; omega) fun h' a1 a2 a3 => ?_
  obtain ⟨o', e, M'⟩ := of_map a1 a2
  exact h o' { s with heap := h', toks := s.toks + 1 } M' (H.turn hi e fun a x ha e => (a3.2 a ha).trans e)

theorem r_getDict {value slice : Expr} {d : Addr} {od : Obj} {f : Int → Option Value} {n : Nat} {k : Int} {t : Tok} {v : Value} {Q : Value → Shared → Prop} (H : At T Z g L m mu s) (hd : s.heap.get? d = some od) (M : MapObj od f n) (hv : f k = some v) (h : ∀ s', At T Z g L m mu s' → Q v s')
    (hs : subscripted slice false (.ref d) (.int k t) = operate [.ref d, .int k t] (getItem (.ref d) (.int k t)) := by with_unfolding_all rfl) : wpAny (model prog w) A (subscriptTail value slice (.ref d) (.int k t)) Q E s :=
  tail_any (map_of hd M).1.typeIs slot_dict_getitem.lookup (wpAny_getItem_intMap (map_of hd M).1 hv (h _ (H.tok _))) hs
theorem r_inDict {d : Addr} {od : Obj} {f : Int → Option Value} {n : Nat} {k : Int} {t : Tok} {Q : Value → Shared → Prop} (H : At T Z g L m mu s) (hd : s.heap.get? d = some od) (M : MapObj od f n) (h : ∀ s', At T Z g L m mu s' → Q (.bool (f k).isSome) s') :
    wpAny (model prog w) A (compareOp .In (.int k t) (.ref d)) Q E s := wpAny_in_intMap (map_of hd M).1 (h _ (H.tok _))

theorem r_callK1 {f : Addr} {first : List Value} {pos : Pos} {env : Env} {e : Expr} {rest : List Expr} {Q : Value → Shared → Prop} (TF : TopF K T) (hk : keepIn K (.ref f) = true)
    (h : wpAny (model prog w) A (spliced (backTo pos (starEach (e :: rest) env))) (fun vs s₁ => T.StaysIn s₁.heap ∧ wpAny (model prog w) A (call (.ref f) (first ++ vs)) Q E s₁) E s)
    (he : starEach (e :: rest) env = (false, eval e env) :: starEach rest env := by rfl) (hplain : (backTo pos (starEach rest env)).any (·.1) = false := by rfl) :
    wpAny (model prog w) A (callWith pos (.ref f) first (backTo pos (starEach (e :: rest) env)) []) Q E s :=
  callWith_K (h₀ := T) TF.X hk (wpAny_mono h (fun _ _ h₁ => ⟨TF.X.keeps h₁.1, h₁.2⟩) fun _ _ x => x) he hplain
theorem r_callK0 {f : Addr} {first : List Value} {pos : Pos} {env : Env} {Q : Value → Shared → Prop} (TF : TopF K T) (H : At T Z g L m mu s) (hk : keepIn K (.ref f) = true)
    (h : wpAny (model prog w) A (call (.ref f) (first ++ [])) Q E s) : wpAny (model prog w) A (callWith pos (.ref f) first (backTo pos (starEach [] env)) []) Q E s := callWith_K0 (TF.inS H) hk h

/-- the place of an order in slots -/
noncomputable def placeOf (os : List Ord) (i : Nat) : Int := ((os.take i).map Ord.slots).sum
noncomputable def goalSlot (os : List Ord) (i : Nat) : Int := placeOf os i + 1 + (os[i]?.map Ord.dist).getD 0
/-- a program at x -/
noncomputable def ProgH (h : Heap) (x : Addr) (os : List Ord) : Prop :=
  ∃ dx es n ol sl bd ovs svs bo fb nb tm, h.get? x = some (instObj 348 dx) ∧ h.get? dx = some (dictOf es n) ∧ getL "orders" es = some (some (.ref ol)) ∧ getL "slots" es = some (some (.ref sl)) ∧ getL "by_slot" es = some (some (.ref bd)) ∧
    getL "many_slots" es = some (some (.int (placeOf os os.length) tm)) ∧ (getL "goal_slot" es = some none ∧ getL "target" es = some none ∧ getL "count" es = some none) ∧ IsListV h ol ovs ∧ OrdsAt h ovs (os.map some) ∧
    IsListV h sl svs ∧ IntsAre svs ((List.range os.length).map (placeOf os)) ∧ h.get? bd = some bo ∧ MapObj bo fb nb ∧ (∀ i, i < os.length → ∃ t, fb (placeOf os i) = some (.int i t)) ∧ ∀ k v, fb k = some v → ∃ (i : Nat) (t : Tok), i < os.length ∧ v = .int i t
theorem ProgH.mono {h h' : Heap} {x : Addr} {os : List Ord} (P : ProgH h x os) (k : h.StaysIn h') : ProgH h' x os := by
  obtain ⟨dx, es, n, ol, sl, bd, ovs, svs, bo, fb, nb, tm, h1, h2, h3, h4, h5, h6, h7, h8, h9, h10, h11, h12, h13⟩ := P
  exact ⟨dx, es, n, ol, sl, bd, ovs, svs, bo, fb, nb, tm, k _ _ h1, k _ _ h2, h3, h4, h5, h6, h7, h8.mono k, h9.mono k, h10.mono k, h11, k _ _ h12, h13⟩

/-- an attribute of an object, whoever keeps it -/
noncomputable def HasAttr (h : Heap) (C x : Addr) (a : Str) (v : Value) : Prop := ∃ dx es n, h.get? x = some (instObj C dx) ∧ h.get? dx = some (dictOf es n) ∧ getL a es = some (some v)
theorem HasAttr.mono {h h' : Heap} {C x : Addr} {a : Str} {v : Value} (A : HasAttr h C x a v) (k : h.StaysIn h') : HasAttr h' C x a v := let ⟨dx, es, n, h1, h2, h3⟩ := A; ⟨dx, es, n, k _ _ h1, k _ _ h2, h3⟩
theorem r_attrH {C fI : Addr} {attrs : List Str} {meths : List (Str × Addr)} {x : Addr} {name : Str} {v : Value} {expr : Bool} {Q : Value → Shared → Prop} (TF : TopF K T) (CF : ClsF K C fI attrs meths) (H : At T Z g L m mu s) (O : HasAttr s.heap C x name v) (hm : name ∈ attrs) (hh : handedIn v = true)
    (h : ∀ s', At T Z g L m mu s' → Q v s') : wpAny (model prog w) A (getAttr (.ref x) name expr) Q E s := by
  obtain ⟨dx, es, n, h1, h2, h3⟩ := O
  have I : InstAt s.heap x (instObj C dx) C (some (dictOf es n)) := ⟨h1, rfl, rfl, h2⟩
  exact get_value (TF.inS H) I (plainGet_of CF.get).1 (findObj_own CF.dic (CF.at_ _ hm) rfl h3) hh (h _ (H.tok _))
theorem r_methH {C fI : Addr} {attrs : List Str} {meths : List (Str × Addr)} {x dx f : Addr} {es : List DictEntry} {n : Nat} {name : Str} {pl : Sem Bool} {Q : Value × List Value → Shared → Prop} (TF : TopF K T) (CF : ClsF K C fI attrs meths) (H : At T Z g L m mu s)
    (h1 : s.heap.get? x = some (instObj C dx)) (h2 : s.heap.get? dx = some (dictOf es n)) (hm : (name, f) ∈ meths) (hl : getL name es = some none) (h : Q (.ref f, [.ref x]) s) : wpAny (model prog w) A (getMethod (.ref x) name pl) Q E s := by
  have I : InstAt s.heap x (instObj C dx) C (some (dictOf es n)) := ⟨h1, rfl, rfl, h2⟩
  obtain ⟨hf, ht⟩ := CF.me _ hm
  exact method_fn (TF.inS H) I (plainGet_of CF.get).1 (plainGet_of CF.get).2 hf (beq_iff_eq.mp ht) (by show (lookIn name (dictOf es n)).map _ = _; rw [lookIn_dict, hl]; rfl) h
end
end Mine
namespace Mine
/-- a removal of an idle jump; tgt tells where the jump at a place leads -/
noncomputable def IdleAt (tgt : Nat → Nat) (c : List (Option Ord)) (i : Nat) : Prop := ∃ o, c[i]? = some (some o) ∧ o.isJump = true ∧ nextK c (tgt i) = nextK c (i + 1)
inductive Rem (tgt : Nat → Nat) : List (Option Ord) → List (Option Ord) → Prop
  | refl (c) : Rem tgt c c
  | step {a c} {i : Nat} : Rem tgt a c → IdleAt tgt c i → Rem tgt a (c.set i none)
noncomputable def stays (c : List (Option Ord)) : Nat := (c.filter (·.isSome)).length
theorem stays_set : ∀ {c : List (Option Ord)} {i : Nat} {o : Ord}, c[i]? = some (some o) → stays (c.set i none) < stays c
  | a :: r, 0, o, h => by
    simp only [List.getElem?_cons_zero, Option.some.injEq] at h
    subst h
    simp [stays]
  | a :: r, i + 1, o, h => by
    simp only [List.getElem?_cons_succ] at h
    have := stays_set (c := r) h
    unfold stays at *
    cases a <;> simp_all
section
variable {prog : Program} {w : World} {K : Frag} {A : Around} {T : Heap} {Z : Zed} {g : Heap} {L : Addr} {m : List (Str × Value)} {mu : List (Addr × Obj)} {s : Shared} {E : Value → Shared → Prop}

noncomputable def WhilePost (T : Heap) (Z : Zed) (L : Addr) (ad : List Addr) (J : Nat → Heap → Loc → List (Addr × Obj) → Prop) (k : Nat) (Q : Flow → Shared → Prop) (f : Flow) (s₂ : Shared) : Prop :=
  match f with
  | .ret v => Q (.ret v) s₂
  | .brk => Q .next s₂
  | _ => ∃ k', k' < k ∧ ∃ g₂ m₂ mu₂, At T Z g₂ L m₂ mu₂ s₂ ∧ mu₂.map (·.1) = ad ∧ J k' g₂ m₂ mu₂
theorem r_While {env : Env} {test : Expr} {body : List Stmt} {pos : Pos} {Q : Flow → Shared → Prop} (J : Nat → Heap → Loc → List (Addr × Obj) → Prop) (n : Nat) (H : At T Z g L m mu s) (h0 : J n g m mu)
    (turn : ∀ k g₁ m₁ mu₁ s₁, J k g₁ m₁ mu₁ → mu₁.map (·.1) = mu.map (·.1) → At T Z g₁ L m₁ mu₁ s₁ →
      wpAny (model prog w) A (isTrue test env (eval test env)) (fun b s₂ => if b = true then wpAny (model prog w) A (execs body env) (WhilePost T Z L (mu.map (·.1)) J k Q) noE s₂ else Q .next s₂) noE s₁) :
    wpAny (model prog w) A (exec (.While test body [] pos) env) Q E s := by
  refine wpAny_While (codeAny_whileLoop (fun k s' => ∃ g₁ m₁ mu₁, J k g₁ m₁ mu₁ ∧ mu₁.map (·.1) = mu.map (·.1) ∧ At T Z g₁ L m₁ mu₁ s') ?_ n ⟨g, m, mu, h0, rfl, H⟩)
  rintro k s' ⟨g₁, m₁, mu₁, hJ, ad, H₁⟩
  refine wpAny_mono (turn k g₁ m₁ mu₁ s' hJ ad H₁) (fun b s₂ hb => ?_) fun _ _ e => e.elim
  cases b with
  | false =>
    simp only [Bool.false_eq_true, if_false] at hb ⊢
    exact wpAny_execs_nil hb
  | true =>
    simp only [if_true] at hb ⊢
    refine wpAny_mono hb (fun f s₃ hf => ?_) fun _ _ e => e.elim
    cases f with
    | ret v => exact hf
    | brk => exact hf
    | next => obtain ⟨k', hk, g₂, m₂, mu₂, H₂, a, j⟩ := hf; exact ⟨k', hk, g₂, m₂, mu₂, j, a, H₂⟩
    | cont => obtain ⟨k', hk, g₂, m₂, mu₂, H₂, a, j⟩ := hf; exact ⟨k', hk, g₂, m₂, mu₂, j, a, H₂⟩

theorem r_list {l : Addr} {vs : List Value} {Q : Value → Shared → Prop} (H : At T Z g L m mu s) (hl : HasList g mu l vs) (hz : vs.length ≤ 100000) (h : ∀ l' n s', At T Z g L m (mu ++ [(l', LO vs n)]) s' → Q (.ref l') s') :
    wpAny (model prog w) A (call (.type "list") [.ref l]) Q E s := by
  obtain ⟨n, e⟩ := H.obj hl
  refine call_list_seq l (.inl rfl) e rfl rfl (fun h' c' k e' => ?_) (by simp only [List.size_toArray]; rw [sizeLine_eq]; omega)
  exact h _ c' { s with heap := h' } (H.more (get_none_of_ge (Nat.le_refl _)) e' k rfl rfl)

/-- «for i in range(b)» -/
theorem for_range0 {env : Env} {x : Str} {px : Pos} {body : List Stmt} {r : Addr} {b : Int} {t u v : Tok} {Q : Flow → Shared → Prop}
    (J : Nat → Heap → List (Str × Value) → List (Addr × Obj) → Prop) (R : Room A 0) (H : At T Z g L m mu s) (hr : IsRange s.heap r 0 b 1 t u v) (hb : -(2 ^ 62) ≤ b) (hb' : b < 2 ^ 62) (h0 : J 0 g m mu)
    (turn : ∀ (i : Nat) t Z₁ g₁ m₁ mu₁ s₁, (i : Int) < b → J i g₁ m₁ mu₁ → mu₁.map (·.1) = mu.map (·.1) → g.StaysIn g₁ → At T Z₁ g₁ L ((x, .int i t) :: m₁) mu₁ s₁ →
      (∀ g₂ m₂ mu₂ s₂, At T Z₁ g₂ L m₂ mu₂ s₂ → mu₂.map (·.1) = mu.map (·.1) → At T Z g₂ L m₂ mu₂ s₂) →
      wpAny (model prog w) A (execs body env) (TurnPost T Z₁ L (mu.map (·.1)) (J (i + 1)) Q) noE s₁)
    (done : ∀ g' m' mu' s', J b.toNat g' m' mu' → mu'.map (·.1) = mu.map (·.1) → At T Z g' L m' mu' s' → Q .next s')
    (hL : env.locals = L := by rfl) (hk : env.scope.kind = .function := by rfl) (hx : env.kindOf x = some .local := by rfl) :
    wpAny (model prog w) A (pyIter (.ref r)) (fun it s₂ => codeAny (model prog w) A (.forLoop (.Name x px) it body [] env) (fun r s' => match r with | .ok f => Q f s' | .error e => cameBackBy (model prog w) A env E e s') s₂) E s :=
  for_range J R H hr (by decide) (by decide) hb hb' h0 (fun i t Z₁ g₁ m₁ mu₁ s₁ hi hJ ad kg H₁ out => turn i t Z₁ g₁ m₁ mu₁ s₁ (by omega) hJ ad kg (by rwa [Int.zero_add] at H₁) out) (fun g' m' mu' s' hJ => done g' m' mu' s' (by rwa [Int.sub_zero] at hJ)) hL hk hx
end
end Mine
set_option hygiene false in
local macro_rules | `(tactic| walk_at "z") => `(tactic| first
  | (with_reducible refine r_seq ?_; intro QQ hQQ)
  | with_reducible refine wpAny_execs_nil ?_
  | ((with_reducible show wpAny _ _ (eval (.Name _ _) _) _ _ _); first
      | refine r_loc H rfl ?_
      | refine r_glob TF H rfl ?_
      | refine r_blt TF H rfl ?_)
  | ((with_reducible show wpAny _ _ (eval _ _) _ _ _); first
      | ((with_reducible refine r_int H ?_); clear H; intro t s H)
      | ((with_reducible refine r_str H ?_); clear H; intro t s H)
      | with_reducible refine r_none ?_
      | with_reducible refine r_bool ?_
      | ((with_reducible show wpAny _ _ (eval (.Attribute _ _ _) _) _ _ _); refine Attribute_any_ ?_)
      | with_reducible refine wpAny_BinOp ?_
      | ((with_reducible show wpAny _ _ (eval (.Compare _ [_] [_] _) _) _ _ _); refine wpAny_Compare1 ?_)
      | with_reducible refine BoolOp_or ?_
      | with_reducible refine BoolOp_and ?_
      | with_reducible refine BoolOp_one ?_
      | with_reducible refine UnaryOp_ ?_
      | with_reducible refine IfExp_ ?_
      | with_reducible refine r_sub_ss ?_
      | with_reducible refine r_sub_ns ?_
      | with_reducible refine r_sub_sn ?_
      | ((with_reducible show wpAny _ _ (eval (.Subscript _ _ _) _) _ _ _); refine Subscript_ ?_)
      | ((with_reducible show wpAny _ _ (eval (.Call (.Attribute _ _ _) _ [] _) _) _ _ _); refine MethodCall_ ?_)
      | ((with_reducible show wpAny _ _ (eval (.Call _ _ [] _) _) _ _ _); refine Call_ ?_))
  | ((with_reducible show wpAny _ _ (exec _ _) _ _ _); first
      | ((with_reducible show wpAny _ _ (exec (.Assign [.Name _ _] _ _) _) _ _ _); refine wpAny_Assign_Name ?_)
      | with_reducible refine wpAny_Return_some ?_
      | ((with_reducible show wpAny _ _ (exec (.Assign [.Subscript _ _ _] _ _) _) _ _ _); refine wpAny_Assign_Subscript ?_)
      | with_reducible refine wpAny_If ?_
      | ((with_reducible show wpAny _ _ (exec (.For (.Name _ _) _ _ [] _) _) _ _ _); refine r_For ?_)
      | ((with_reducible show wpAny _ _ (exec (.Expr _ _) _) _ _ _); refine wpAny_Expr_any ?_)
      | with_reducible refine wpAny_Continue ?_
      | with_reducible refine wpAny_Break ?_)
  | ((with_reducible show wpAny _ _ (storeName _ _ _) _ _ _); refine r_store H ?_; clear H; intro s H; try dsimp only)
  | ((with_reducible show wpAny _ _ (isTrue _ _ _) _ _ _); first
      | with_reducible refine isTrue_not ?_
      | with_reducible refine isTrue_and ?_
      | with_reducible refine isTrue_or ?_
      | with_reducible refine isTrue_and_nil ?_
      | with_reducible refine isTrue_or_nil ?_
      | ((with_reducible show wpAny _ _ (isTrue (.Compare _ [_] [_] _) _ _) _ _ _); refine wpAny_isTrue_Compare1 ?_)
      | refine isTrue_plain ?_)
  | with_reducible refine r_truthy ?_
  | with_reducible refine r_truthyI ?_
  | ((with_reducible show wpAny _ _ (getMethod (.str _ _) _ _) _ _ _); refine r_strip ?_; try dsimp only)
  | ((with_reducible show wpAny _ _ (compareOp _ _ _) _ _ _); first
      | with_reducible refine eq_int ?_
      | with_reducible refine r_isnot_ref ?_
      | with_reducible refine r_isnot_none ?_
      | with_reducible refine r_is_ref ?_
      | with_reducible refine r_is_none ?_
      | with_reducible refine ne_int ?_
      | with_reducible refine lt_int ?_
      | with_reducible refine le_int ?_
      | with_reducible refine gt_int ?_
      | with_reducible refine ge_int ?_
      | with_reducible refine eq_str ?_
      | with_reducible refine ne_str ?_)
  | ((with_reducible show wpAny _ _ (binaryOp _ _ _) _ _ _); first
      | ((with_reducible refine r_add H ?_); clear H; intro t s H)
      | ((with_reducible refine r_sub H ?_); clear H; intro t s H)
      | ((with_reducible refine r_and H ?_); clear H; intro t s H))
  | ((with_reducible refine r_neg H ?_); clear H; intro t s H)
  | ((with_reducible show wpAny _ _ (binaryOp .LShift _ _) _ _ _); refine r_shl H (by decide) (by decide) (by decide) ?_; clear H; intro t s H)
  | ((with_reducible show wpAny _ _ (binaryOp .RShift _ _) _ _ _); refine r_shr H (by decide) ?_; clear H; intro t s H)
  | ((with_reducible show wpAny _ _ (binaryOp .Mult _ _) _ _ _); refine r_mul H (by omega) (by omega) ?_; clear H; intro t s H)
  | (with_reducible refine r_not ?_)
  | ((with_reducible show wpAny _ _ (getAttr _ _ _) _ _ _); refine r_attr TF H (by assumption) rfl (by decide) ?_; clear H; intro t s H)
  | ((with_reducible show wpAny _ _ (callWith _ (Value.builtin _) _ _ _) _ _ _); first
      | (refine r_callB ?_)
      | (refine r_callB0 ?_; try simp only [List.append_nil]))
  | ((with_reducible show wpAny _ _ (callWith _ (Value.type _) _ _ _) _ _ _); refine r_callT ?_)
  | ((with_reducible show wpAny _ _ (callWith _ _ _ _ _) _ _ _); first
      | (refine r_callK TF (keep_any TF (by rfl)) ?_)
      | (refine r_callK TF (ClsF.keep (TopF.order TF)) ?_)
      | (refine r_callK TF (ClsF.keep (TopF.program TF)) ?_)
      | (refine r_callK1 TF (keep_any TF (by rfl)) ?_)
      | (refine r_callK0 TF H (keep_any TF (by rfl)) ?_; try simp only [List.append_nil]))
  | ((with_reducible show wpAny _ _ (spliced _) _ _ _); first
      | (refine args_cons ?_)
      | (refine args_nil ⟨H.top, ?_⟩)
      | (refine args_nil ?_; try simp only [List.cons_append, List.nil_append]))
  | (with_reducible refine ite_T ?_)
  | (with_reducible refine ite_F ?_)
  | (with_reducible refine ite_NT ?_)
  | (with_reducible refine ite_NF ?_)
  | (refine ite_pos (by decide) ?_)
  | (refine ite_neg (by decide) ?_)
  | (with_reducible refine ite_both ?_ ?_ <;> intro hc)
  | ((fail_if_success (with_reducible show wpAny _ _ _ _ _ _)); first
      | with_reducible refine r_sn (by assumption) ?_
      | with_reducible refine r_sr (by assumption) ?_
      | with_reducible refine r_sc (by assumption) ?_
      | with_reducible refine r_sb (by assumption) ?_
      | dsimp only)
  )

local macro_rules | `(tactic| walk_at "k") => `(tactic| (repeat' (first | exact trivial | refine And.intro rfl ?_)))
namespace Mine
section
variable {prog : Program} {w : World} {K : Frag} {A : Around} {T : Heap} {Z : Zed} {g : Heap} {L : Addr} {m : List (Str × Value)} {mu : List (Addr × Obj)} {s : Shared} {E : Value → Shared → Prop}
set_option maxHeartbeats 1000000
set_option maxRecDepth 100000

theorem is_jumping_spec {x : Addr} {o : Ord} {Q : Value → Shared → Prop} (TF : TopF K T) (H : At T Z g L m mu s) (R : Room A 1) (O : IsOrder g x o)
    (h : ∀ s', At T Z g L m mu s' → Q (.bool o.jumping) s') : wpAny (model prog w) A (call (.ref 112) [.ref x]) Q E s := by
  refine enter0 [("order", .ref x)] TF (show FnIs K 112 (defAt 19) "is_jumping" .none from TF.fns 2 _ rfl) rfl H R (fun _ _ _ _ _ => BindsTo.of_eq rfl) (by rfl) (by decide) rfl rfl rfl ?_
  clear H R
  intro cdv L' s H back R
  repeat' walk_at "z"
  all_goals exact q_bool (h _ (back _ _ _ _ H)) (by clear h back R H; simp_all [Ord.jumping])

theorem alu_size_spec {x : Addr} {o : Ord} {Q : Value → Shared → Prop} (TF : TopF K T) (H : At T Z g L m mu s) (R : Room A 1) (O : IsOrder g x o)
    (h : ∀ t s', At T Z g L m mu s' → Q (.int o.size t) s') : wpAny (model prog w) A (call (.ref 119) [.ref x]) Q E s := by
  refine enter0 [("order", .ref x)] TF (show FnIs K 119 (defAt 20) "alu_size" .none from TF.fns 3 _ rfl) rfl H R (fun _ _ _ _ _ => BindsTo.of_eq rfl) (by rfl) (by decide) rfl rfl rfl ?_
  clear H R
  intro cdv L' s H back R
  repeat' walk_at "z"
  all_goals exact q_int (h _ _ (back _ _ _ _ H)) (by clear h back R H; simp_all [Ord.size])

theorem is_wide_spec {x : Addr} {o : Ord} {Q : Value → Shared → Prop} (TF : TopF K T) (H : At T Z g L m mu s) (R : Room A 1) (O : IsOrder g x o)
    (h : ∀ s', At T Z g L m mu s' → Q (.bool o.isWide) s') : wpAny (model prog w) A (call (.ref 126) [.ref x]) Q E s := by
  refine enter0 [("order", .ref x)] TF (show FnIs K 126 (defAt 21) "is_wide" .none from TF.fns 4 _ rfl) rfl H R (fun _ _ _ _ _ => BindsTo.of_eq rfl) (by rfl) (by decide) rfl rfl rfl ?_
  clear H R
  intro cdv L' s H back R
  repeat' walk_at "z"
  all_goals exact q_bool (h _ (back _ _ _ _ H)) (by clear h back R H; simp_all [Ord.isWide])

theorem is_jump_spec {x : Addr} {o : Ord} {Q : Value → Shared → Prop} (TF : TopF K T) (H : At T Z g L m mu s) (R : Room A 2) (O : IsOrder g x o)
    (h : ∀ s', At T Z g L m mu s' → Q (.bool o.isJump) s') : wpAny (model prog w) A (call (.ref 133) [.ref x]) Q E s := by
  refine enter0 [("order", .ref x)] TF (show FnIs K 133 (defAt 22) "is_jump" .none from TF.fns 5 _ rfl) rfl H R (fun _ _ _ _ _ => BindsTo.of_eq rfl) (by rfl) (by decide) rfl rfl rfl ?_
  clear H R
  intro cdv L' s H back R
  repeat' first | walk_at "z" | ((with_reducible show wpAny _ _ (call _ _) _ _ _); refine is_jumping_spec TF H (R.less (by decide)) (by assumption) ?_; clear H; intro s H)
  all_goals exact q_bool (h _ (back _ _ _ _ H)) (by clear h back R H; simp_all [Ord.isJump])

theorem is_call_spec {x : Addr} {o : Ord} {Q : Value → Shared → Prop} (TF : TopF K T) (H : At T Z g L m mu s) (R : Room A 1) (O : IsOrder g x o)
    (h : ∀ s', At T Z g L m mu s' → Q (.bool o.isCall) s') : wpAny (model prog w) A (call (.ref 140) [.ref x]) Q E s := by
  refine enter0 [("order", .ref x)] TF (show FnIs K 140 (defAt 23) "is_call" .none from TF.fns 6 _ rfl) rfl H R (fun _ _ _ _ _ => BindsTo.of_eq rfl) (by rfl) (by decide) rfl rfl rfl ?_
  clear H R
  intro cdv L' s H back R
  repeat' walk_at "z"
  all_goals exact q_bool (h _ (back _ _ _ _ H)) (by clear h back R H; simp_all [Ord.isCall])

theorem is_local_call_spec {x : Addr} {o : Ord} {Q : Value → Shared → Prop} (TF : TopF K T) (H : At T Z g L m mu s) (R : Room A 1) (O : IsOrder g x o)
    (h : ∀ s', At T Z g L m mu s' → Q (.bool o.isLCall) s') : wpAny (model prog w) A (call (.ref 147) [.ref x]) Q E s := by
  refine enter0 [("order", .ref x)] TF (show FnIs K 147 (defAt 24) "is_local_call" .none from TF.fns 7 _ rfl) rfl H R (fun _ _ _ _ _ => BindsTo.of_eq rfl) (by rfl) (by decide) rfl rfl rfl ?_
  clear H R
  intro cdv L' s H back R
  repeat' walk_at "z"
  all_goals exact q_bool (h _ (back _ _ _ _ H)) (by clear h back R H; simp_all [Ord.isLCall])

theorem is_exit_spec {x : Addr} {o : Ord} {Q : Value → Shared → Prop} (TF : TopF K T) (H : At T Z g L m mu s) (R : Room A 1) (O : IsOrder g x o)
    (h : ∀ s', At T Z g L m mu s' → Q (.bool o.isExit) s') : wpAny (model prog w) A (call (.ref 154) [.ref x]) Q E s := by
  refine enter0 [("order", .ref x)] TF (show FnIs K 154 (defAt 25) "is_exit" .none from TF.fns 8 _ rfl) rfl H R (fun _ _ _ _ _ => BindsTo.of_eq rfl) (by rfl) (by decide) rfl rfl rfl ?_
  clear H R
  intro cdv L' s H back R
  repeat' walk_at "z"
  all_goals exact q_bool (h _ (back _ _ _ _ H)) (by clear h back R H; simp_all [Ord.isExit])

theorem is_branch_spec {x : Addr} {o : Ord} {Q : Value → Shared → Prop} (TF : TopF K T) (H : At T Z g L m mu s) (R : Room A 3) (O : IsOrder g x o)
    (h : ∀ s', At T Z g L m mu s' → Q (.bool o.isBranch) s') : wpAny (model prog w) A (call (.ref 161) [.ref x]) Q E s := by
  refine enter0 [("order", .ref x)] TF (show FnIs K 161 (defAt 26) "is_branch" .none from TF.fns 9 _ rfl) rfl H R (fun _ _ _ _ _ => BindsTo.of_eq rfl) (by rfl) (by decide) rfl rfl rfl ?_
  clear H R
  intro cdv L' s H back R
  repeat' first | walk_at "z" | ((with_reducible show wpAny _ _ (call _ _) _ _ _); refine is_jumping_spec TF H (R.less (by decide)) (by assumption) ?_; clear H; intro s H) | ((with_reducible show wpAny _ _ (call _ _) _ _ _); refine is_jump_spec TF H (R.less (by decide)) (by assumption) ?_; clear H; intro s H) | ((with_reducible show wpAny _ _ (call _ _) _ _ _); refine is_call_spec TF H (R.less (by decide)) (by assumption) ?_; clear H; intro s H) | ((with_reducible show wpAny _ _ (call _ _) _ _ _); refine is_exit_spec TF H (R.less (by decide)) (by assumption) ?_; clear H; intro s H)
  all_goals exact q_bool (h _ (back _ _ _ _ H)) (by clear h back R H; simp_all [Ord.isBranch])

theorem slots_of_spec {x : Addr} {o : Ord} {Q : Value → Shared → Prop} (TF : TopF K T) (H : At T Z g L m mu s) (R : Room A 1) (O : IsOrder g x o)
    (h : ∀ t s', At T Z g L m mu s' → Q (.int o.slots t) s') : wpAny (model prog w) A (call (.ref 168) [.ref x]) Q E s := by
  refine enter0 [("order", .ref x)] TF (show FnIs K 168 (defAt 27) "slots_of" .none from TF.fns 10 _ rfl) rfl H R (fun _ _ _ _ _ => BindsTo.of_eq rfl) (by rfl) (by decide) rfl rfl rfl ?_
  clear H R
  intro cdv L' s H back R
  repeat' walk_at "z"
  all_goals exact q_int (h _ _ (back _ _ _ _ H)) (by clear h back R H; simp_all [Ord.slots])

theorem distance_spec {x : Addr} {o : Ord} {Q : Value → Shared → Prop} (TF : TopF K T) (H : At T Z g L m mu s) (R : Room A 2) (O : IsOrder g x o)
    (h : ∀ t s', At T Z g L m mu s' → Q (.int o.dist t) s') : wpAny (model prog w) A (call (.ref 175) [.ref x]) Q E s := by
  refine enter0 [("order", .ref x)] TF (show FnIs K 175 (defAt 28) "distance" .none from TF.fns 11 _ rfl) rfl H R (fun _ _ _ _ _ => BindsTo.of_eq rfl) (by rfl) (by decide) rfl rfl rfl ?_
  clear H R
  intro cdv L' s H back R
  repeat' first | walk_at "z" | ((with_reducible show wpAny _ _ (call _ _) _ _ _); refine is_local_call_spec TF H (R.less (by decide)) (by assumption) ?_; clear H; intro s H)
  all_goals exact q_int (h _ _ (back _ _ _ _ H)) (by clear h back R H; simp_all [Ord.dist])

end
end Mine
namespace Mine
section
variable {prog : Program} {w : World} {K : Frag} {A : Around} {T : Heap} {Z : Zed} {g : Heap} {L : Addr} {m : List (Str × Value)} {mu : List (Addr × Obj)} {s : Shared} {E : Value → Shared → Prop}
set_option maxHeartbeats 1000000
set_option maxRecDepth 100000
theorem next_kept_spec {kl : Addr} {vs : List Value} {os : List (Option Ord)} {i : Nat} {ti : Tok} {Q : Value → Shared → Prop} (TF : TopF K T) (H : At T Z g L m mu s) (R : Room A 1) (hl : HasList g mu kl vs) (hv : OrdsAt g vs os) (hz : os.length ≤ 1000) (hi : i ≤ 1000)
    (h : ∀ t s', At T Z g L m mu s' → Q (.int (nextK os i) t) s') : wpAny (model prog w) A (call (.ref 254) [.ref kl, .int i ti]) Q E s := by
  have hl' : IsListV s.heap kl vs := H.obj hl
  have hv' := hv.mono H.gh
  refine enterP [("kept", .ref kl), ("at", .int i ti)] TF (show FnIs K 254 (defAt 40) "next_kept" .none from TF.fns 22 _ rfl) rfl H R (fun _ _ _ _ _ => BindsTo.of_eq rfl) (by rfl) (by decide) rfl rfl rfl ?_
  clear H R hl hv
  generalize s.heap = g₀ at *
  intro cdv Z' L' s H back R
  repeat' walk_at "z"
  refine r_len H (hasG hl') (by rw [hv'.1]; omega) ?_
  clear H; intro t s H
  repeat' walk_at "z"
  refine r_range2 H ?_
  clear H; intro r t1 t2 t3 s H hr
  have hlen := hv'.1
  refine for_range (fun j g₁ m₁ mu₁ => m₁ = ([("kept", .ref kl), ("at", .int i ti)] : Loc) ∧ mu₁ = [] ∧ ∀ k, k < j → os[i + k]? = some none) (R.less (by decide)) (H.know (by walk_at "k")) hr (by omega) (by omega) (by omega) (by omega) ⟨rfl, rfl, fun _ h => nomatch h⟩ ?_ ?_
  · clear H hr
    rintro j t Z₁ g₁ m₁ mu₁ s hj ⟨rfl, rfl, hJ⟩ _ kg H out
    refine gen_post fun PP hPP => ?_
    have hv'' := hv'.mono kg
    have hl'' := hl'.mono kg
    repeat' walk_at "z"
    rcases hv''.get (i := i + j) (by omega) with ⟨e, ev⟩ | ⟨o, x, e, ev, ho⟩
    · refine r_item H (hasG hl'') (by omega) (by omega) (v := .none) (by rw [← ev]; congr 1) ?_
      repeat' walk_at "z"
      refine tpn hPP ⟨_, _, _, H.know (m' := [("kept", .ref kl), ("at", .int i ti)]) (by walk_at "k"), rfl, rfl, rfl, fun k hk => ?_⟩
      rcases Nat.lt_or_eq_of_le (Nat.le_of_lt_succ hk) with hk | rfl
      · exact hJ k hk
      · exact e
    · refine r_item H (hasG hl'') (by omega) (by omega) (v := .ref x) (by rw [← ev]; congr 1) ?_
      repeat' walk_at "z"
      refine tpr hPP ?_
      repeat' walk_at "z"
      refine q_int (h _ _ (back _ _ _ _ (out _ _ _ _ H rfl))) ?_
      rw [nextK_some hJ e]; push_cast; rfl
  · rintro g' m' mu' s ⟨rfl, rfl, hJ⟩ _ H
    try dsimp only
    repeat' walk_at "z"
    exact q_int (h _ _ (back _ _ _ _ H)) (nextK_none fun k hk => hJ k (by omega))
end
end Mine
namespace Mine
section
variable {prog : Program} {w : World} {K : Frag} {A : Around} {T : Heap} {Z : Zed} {g : Heap} {L : Addr} {m : List (Str × Value)} {mu : List (Addr × Obj)} {s : Shared} {E : Value → Shared → Prop}
set_option maxHeartbeats 1000000
set_option maxRecDepth 100000
noncomputable def spotAt (names : Str) (k : Nat) : Str := Txt.strip (Txt.slice names (some (4 * k)) (some (4 * k + 4)))
theorem spot_of_spec {names name : Str} {t1 t2 : Tok} {j : Nat} {Q : Value → Shared → Prop} (TF : TopF K T) (H : At T Z g L m mu s) (R : Room A 1) (hz : names.length ≤ 1000) (hj : j < 14)
    (h1 : ∀ k, k < j → (spotAt names k == name) = false) (h2 : (spotAt names j == name) = true) (h : ∀ t s', At T Z g L m mu s' → Q (.int j t) s') : wpAny (model prog w) A (call (.ref 182) [.str names t1, .str name t2]) Q E s := by
  refine enterP [("names", .str names t1), ("name", .str name t2)] TF (show FnIs K 182 (defAt 29) "spot_of" .none from TF.fns 12 _ rfl) rfl H R (fun _ _ _ _ _ => BindsTo.of_eq rfl) (by rfl) (by decide) rfl rfl rfl ?_
  clear H R
  intro cdv Z' L' s H back R
  repeat' walk_at "z"
  refine r_range1 H ?_
  clear H; intro r t3 t4 t5 s H hr
  refine for_range (fun i g₁ m₁ mu₁ => m₁ = ([("names", .str names t1), ("name", .str name t2)] : Loc) ∧ mu₁ = [] ∧ i ≤ j) (R.less (by decide)) (H.know (by walk_at "k")) hr (by omega) (by omega) (by omega) (by omega) ⟨rfl, rfl, Nat.zero_le _⟩ ?_ ?_
  · clear H hr
    rintro i t Z₁ g₁ m₁ mu₁ s hi ⟨rfl, rfl, hJ⟩ _ kg H out
    refine gen_post fun PP hPP => ?_
    repeat' walk_at "z"
    refine r_sliceStr H hz ?_
    clear H; intro t s H
    repeat' walk_at "z"
    refine r_strip2 H (Nat.le_trans (Txt.slice_le _ _ _) hz) ?_
    clear H; intro t s H
    repeat' walk_at "z"
    · have e : (spotAt names i == name) = true := by unfold spotAt; simpa using hc
      rcases Nat.lt_or_eq_of_le hJ with hJ | rfl
      · rw [h1 i hJ] at e; cases e
      · refine tpr hPP ?_
        repeat' walk_at "z"
        exact q_int (h _ _ (back _ _ _ _ (out _ _ _ _ H rfl))) (by omega)
    · have e : (spotAt names i == name) = false := by unfold spotAt; simpa using hc
      refine tpn hPP ⟨_, _, _, H.know (m' := [("names", .str names t1), ("name", .str name t2)]) (by walk_at "k"), rfl, rfl, rfl, ?_⟩
      rcases Nat.lt_or_eq_of_le hJ with hJ | rfl
      · exact hJ
      · rw [h2] at e; cases e
  · rintro g' m' mu' s ⟨rfl, rfl, hJ⟩ _ H
    exact absurd hJ (by omega)
end
end Mine
namespace Mine
section
variable {prog : Program} {w : World} {K : Frag} {A : Around} {T : Heap} {Z : Zed} {g : Heap} {L : Addr} {m : List (Str × Value)} {mu : List (Addr × Obj)} {s : Shared} {E : Value → Shared → Prop}
set_option maxHeartbeats 1000000
set_option maxRecDepth 100000
noncomputable abbrev DEEDS : Str := "add sub mul div or  and lsh rsh neg mod xor mov arshend "
noncomputable abbrev JUMPS : Str := "ja  eq  gt  ge  set ne  sgt sge callexitlt  le  slt sle "
theorem deeds_len : (DEEDS).length ≤ 1000 := by decide +kernel
theorem jumps_len : (JUMPS).length ≤ 1000 := by decide +kernel
theorem deeds_no : ∀ k, k < 11 → (spotAt DEEDS k == ("mov" : Str)) = false := by decide +kernel
theorem deeds_yes : (spotAt DEEDS 11 == ("mov" : Str)) = true := by decide +kernel
theorem jumps_no : ∀ k, k < 6 → (spotAt JUMPS k == ("sgt" : Str)) = false := by decide +kernel
theorem jumps_yes : (spotAt JUMPS 6 == ("sgt" : Str)) = true := by decide +kernel

theorem deed_mov {t1 t2 : Tok} {Q : Value → Shared → Prop} (TF : TopF K T) (H : At T Z g L m mu s) (R : Room A 2)
    (h : ∀ t s', At T Z g L m mu s' → Q (.int 183 t) s') : wpAny (model prog w) A (call (.ref 189) [.str "mov" t1, .int 64 t2]) Q E s := by
  refine enterP [("name", .str "mov" t1), ("size", .int 64 t2)] TF (show FnIs K 189 (defAt 30) "deed_code" .none from TF.fns 13 _ rfl) rfl H R (fun _ _ _ _ _ => BindsTo.of_eq rfl) (by rfl) (by decide) rfl rfl rfl ?_
  clear H R
  intro cdv Z L s H back R
  repeat' walk_at "z"
  refine spot_of_spec (j := 11) TF H (R.less (by decide)) deeds_len (by decide) deeds_no deeds_yes ?_
  clear H; intro t s H
  repeat' walk_at "z"
  exact h _ _ (back _ _ _ _ H)

theorem branch_sgt {t1 t2 : Tok} {Q : Value → Shared → Prop} (TF : TopF K T) (H : At T Z g L m mu s) (R : Room A 2)
    (h : ∀ t s', At T Z g L m mu s' → Q (.int 101 t) s') : wpAny (model prog w) A (call (.ref 196) [.str "sgt" t1, .int 64 t2]) Q E s := by
  refine enterP [("name", .str "sgt" t1), ("size", .int 64 t2)] TF (show FnIs K 196 (defAt 31) "branch_code" .none from TF.fns 14 _ rfl) rfl H R (fun _ _ _ _ _ => BindsTo.of_eq rfl) (by rfl) (by decide) rfl rfl rfl ?_
  clear H R
  intro cdv Z L s H back R
  repeat' walk_at "z"
  refine spot_of_spec (j := 6) TF H (R.less (by decide)) jumps_len (by decide) jumps_no jumps_yes ?_
  clear H; intro t s H
  repeat' walk_at "z"
  exact h _ _ (back _ _ _ _ H)

theorem alu_mov {dst imm : Int} {t1 t2 t3 : Tok} {Q : Value → Shared → Prop} (TF : TopF K T) (H : At T Z g L m mu s) (R : Room A 4)
    (h : ∀ x g' s', g.StaysIn g' → IsOrder g' x ⟨183, dst, 0, 0, imm, 0⟩ → At T Z g' L m mu s' → Q (.ref x) s') : wpAny (model prog w) A (call (.ref 204) [.str "mov" t1, .int dst t2, .int imm t3]) Q E s := by
  obtain ⟨o9, n9, t9, hl9, hd9⟩ := TF.dfl.2.2.1
  refine enter0 [("op", .str "mov" t1), ("dst", .int dst t2), ("imm", .int imm t3), ("size", .int 64 t9)] TF (show FnIs K 204 (defAt 32) "alu_imm" (.ref 197) from TF.fns 15 _ rfl) rfl H R (fun _ _ _ _ _ => dfl_int (items := #[.int 64 t9]) TF H rfl ⟨o9, n9, hl9, hd9⟩ rfl rfl) (by rfl) (by decide) rfl rfl rfl ?_
  clear H R
  intro cdv L s H back R
  repeat' walk_at "z"
  refine deed_mov TF H (R.less (by decide)) ?_
  clear H; intro t s H
  repeat' walk_at "z"
  refine Order_spec5 TF H (R.less (by decide)) fun x g' s' k O H' => ?_
  repeat' walk_at "z"
  exact h x g' s' k O (back _ _ _ _ H')

theorem jump_spec {away : Int} {t1 : Tok} {Q : Value → Shared → Prop} (TF : TopF K T) (H : At T Z g L m mu s) (R : Room A 3)
    (h : ∀ x g' s', g.StaysIn g' → IsOrder g' x ⟨5, 0, 0, away, 0, 0⟩ → At T Z g' L m mu s' → Q (.ref x) s') : wpAny (model prog w) A (call (.ref 211) [.int away t1]) Q E s := by
  refine enter0 [("away", .int away t1)] TF (show FnIs K 211 (defAt 33) "jump" .none from TF.fns 16 _ rfl) rfl H R (fun _ _ _ _ _ => BindsTo.of_eq rfl) (by rfl) (by decide) rfl rfl rfl ?_
  clear H R
  intro cdv L s H back R
  repeat' walk_at "z"
  refine Order_spec5 TF H (R.less (by decide)) fun x g' s' k O H' => ?_
  repeat' walk_at "z"
  exact h x g' s' k O (back _ _ _ _ H')

theorem far_jump_spec {away : Int} {t1 : Tok} {Q : Value → Shared → Prop} (TF : TopF K T) (H : At T Z g L m mu s) (R : Room A 3)
    (h : ∀ x g' s', g.StaysIn g' → IsOrder g' x ⟨6, 0, 0, 0, away, 0⟩ → At T Z g' L m mu s' → Q (.ref x) s') : wpAny (model prog w) A (call (.ref 218) [.int away t1]) Q E s := by
  refine enter0 [("away", .int away t1)] TF (show FnIs K 218 (defAt 34) "far_jump" .none from TF.fns 17 _ rfl) rfl H R (fun _ _ _ _ _ => BindsTo.of_eq rfl) (by rfl) (by decide) rfl rfl rfl ?_
  clear H R
  intro cdv L s H back R
  repeat' walk_at "z"
  refine Order_spec5 TF H (R.less (by decide)) fun x g' s' k O H' => ?_
  repeat' walk_at "z"
  exact h x g' s' k O (back _ _ _ _ H')

theorem branch_spec {dst imm away : Int} {t1 t2 t3 t4 : Tok} {Q : Value → Shared → Prop} (TF : TopF K T) (H : At T Z g L m mu s) (R : Room A 4)
    (h : ∀ x g' s', g.StaysIn g' → IsOrder g' x ⟨101, dst, 0, away, imm, 0⟩ → At T Z g' L m mu s' → Q (.ref x) s') : wpAny (model prog w) A (call (.ref 226) [.str "sgt" t1, .int dst t2, .int imm t3, .int away t4]) Q E s := by
  obtain ⟨o9, n9, t9, hl9, hd9⟩ := TF.dfl.2.2.2
  refine enter0 [("op", .str "sgt" t1), ("dst", .int dst t2), ("imm", .int imm t3), ("away", .int away t4), ("size", .int 64 t9)] TF (show FnIs K 226 (defAt 35) "branch_imm" (.ref 219) from TF.fns 18 _ rfl) rfl H R (fun _ _ _ _ _ => dfl_int (items := #[.int 64 t9]) TF H rfl ⟨o9, n9, hl9, hd9⟩ rfl rfl) (by rfl) (by decide) rfl rfl rfl ?_
  clear H R
  intro cdv L s H back R
  repeat' walk_at "z"
  refine branch_sgt TF H (R.less (by decide)) ?_
  clear H; intro t s H
  repeat' walk_at "z"
  refine Order_spec5 TF H (R.less (by decide)) fun x g' s' k O H' => ?_
  repeat' walk_at "z"
  exact h x g' s' k O (back _ _ _ _ H')

theorem local_call_spec {away : Int} {t1 : Tok} {Q : Value → Shared → Prop} (TF : TopF K T) (H : At T Z g L m mu s) (R : Room A 3)
    (h : ∀ x g' s', g.StaysIn g' → IsOrder g' x ⟨133, 0, 1, 0, away, 0⟩ → At T Z g' L m mu s' → Q (.ref x) s') : wpAny (model prog w) A (call (.ref 240) [.int away t1]) Q E s := by
  refine enter0 [("away", .int away t1)] TF (show FnIs K 240 (defAt 37) "local_call" .none from TF.fns 20 _ rfl) rfl H R (fun _ _ _ _ _ => BindsTo.of_eq rfl) (by rfl) (by decide) rfl rfl rfl ?_
  clear H R
  intro cdv L s H back R
  repeat' walk_at "z"
  refine Order_spec5 TF H (R.less (by decide)) fun x g' s' k O H' => ?_
  repeat' walk_at "z"
  exact h x g' s' k O (back _ _ _ _ H')

theorem leave_spec  {Q : Value → Shared → Prop} (TF : TopF K T) (H : At T Z g L m mu s) (R : Room A 3)
    (h : ∀ x g' s', g.StaysIn g' → IsOrder g' x ⟨149, 0, 0, 0, 0, 0⟩ → At T Z g' L m mu s' → Q (.ref x) s') : wpAny (model prog w) A (call (.ref 247) []) Q E s := by
  refine enter0 [] TF (show FnIs K 247 (defAt 38) "leave" .none from TF.fns 21 _ rfl) rfl H R (fun _ _ _ _ _ => BindsTo.of_eq rfl) (by rfl) (by decide) rfl rfl rfl ?_
  clear H R
  intro cdv L s H back R
  repeat' walk_at "z"
  refine Order_spec5 TF H (R.less (by decide)) fun x g' s' k O H' => ?_
  repeat' walk_at "z"
  exact h x g' s' k O (back _ _ _ _ H')

noncomputable def Ord.moved (o : Ord) (away : Int) : Ord := if o.isLCall || (o.isJump && o.size == 32) then ⟨o.code, o.dst, o.src, o.off, away, 0⟩ else ⟨o.code, o.dst, o.src, away, o.imm, 0⟩

theorem iso_eq {g : Heap} {x : Addr} {o o' : Ord} (h : IsOrder g x o) (e : o = o') : IsOrder g x o' := e ▸ h
theorem at_distance_spec {x : Addr} {o : Ord} {away : Int} {t1 : Tok} {Q : Value → Shared → Prop} (TF : TopF K T) (H : At T Z g L m mu s) (R : Room A 4) (O : IsOrder g x o)
    (h : ∀ x g' s', g.StaysIn g' → IsOrder g' x (o.moved away) → At T Z g' L m mu s' → Q (.ref x) s') : wpAny (model prog w) A (call (.ref 268) [.ref x, .int away t1]) Q E s := by
  refine enter0 [("order", .ref x), ("away", .int away t1)] TF (show FnIs K 268 (defAt 42) "at_distance" .none from TF.fns 24 _ rfl) rfl H R (fun _ _ _ _ _ => BindsTo.of_eq rfl) (by rfl) (by decide) rfl rfl rfl ?_
  clear H R
  intro cdv L s H back R
  have O' := O
  repeat' first | walk_at "z" | ((with_reducible show wpAny _ _ (call (.ref 147) _) _ _ _); refine is_local_call_spec TF H (R.less (by decide)) (by assumption) ?_; clear H; intro s H) | ((with_reducible show wpAny _ _ (call (.ref 133) _) _ _ _); refine is_jump_spec TF H (R.less (by decide)) (by assumption) ?_; clear H; intro s H) | ((with_reducible show wpAny _ _ (call (.ref 119) _) _ _ _); refine alu_size_spec TF H (R.less (by decide)) (by assumption) ?_; clear H; intro t s H)
  all_goals
    refine Order_spec5 TF H (R.less (by decide)) fun x g' s' k O2 H' => ?_
    repeat' walk_at "z"
    refine h x g' s' k (iso_eq O2 ?_) (back _ _ _ _ H')
    clear h back R H O2 H' k
    unfold Ord.moved
    simp_all
end
end Mine
namespace Mine
section
variable {prog : Program} {w : World} {K : Frag} {A : Around} {T : Heap} {Z : Zed} {g : Heap} {L : Addr} {m : List (Str × Value)} {mu : List (Addr × Obj)} {s : Shared} {E : Value → Shared → Prop}
set_option maxHeartbeats 1000000
set_option maxRecDepth 100000
noncomputable def sgn (v : Int) : Int := if (Builtin.bitAnd v (1 * 2 ^ (32 : Int).toNat - 1)).fdiv (2 ^ ((32 : Int) - 1).toNat) != 0 then Builtin.bitAnd v (1 * 2 ^ (32 : Int).toNat - 1) - 1 * 2 ^ (32 : Int).toNat else Builtin.bitAnd v (1 * 2 ^ (32 : Int).toNat - 1)
theorem sgn_low : ∀ a : Nat, a < 100 → sgn ((a : Int) + 2 ^ 40) = a := by decide +kernel
theorem sgn_high : ∀ a : Nat, a < 100 → sgn (((a : Int) + 2 ^ 40).fdiv (2 ^ (32 : Int).toNat)) = 256 := by decide +kernel
theorem signed_spec {v : Int} {t1 t2 : Tok} {Q : Value → Shared → Prop} (TF : TopF K T) (H : At T Z g L m mu s) (R : Room A 1)
    (h : ∀ t s', At T Z g L m mu s' → Q (.int (sgn v) t) s') : wpAny (model prog w) A (call (.ref 69) [.int v t1, .int 32 t2]) Q E s := by
  obtain ⟨o9, n9, t9, hl9, hd9⟩ := TF.dfl.1
  refine enterP [("worth", .int v t1), ("size", .int 32 t2)] TF (show FnIs K 69 (defAt 4) "signed" (.ref 62) from TF.fns 0 _ rfl) rfl H R (fun _ _ _ _ _ => dfl_int (items := #[.int 64 t9]) TF H rfl ⟨o9, n9, hl9, hd9⟩ rfl rfl) (by rfl) (by decide) rfl rfl rfl ?_
  clear H R
  intro cdv Z L s H back R
  repeat' first | walk_at "z"
  · exact q_int (h _ _ (back _ _ _ _ H)) (by unfold sgn; rw [if_pos hc])
  · exact q_int (h _ _ (back _ _ _ _ H)) (by unfold sgn; rw [if_neg hc])
theorem wide_spec {dst : Int} {a : Nat} {t1 t2 : Tok} {Q : Value → Shared → Prop} (TF : TopF K T) (H : At T Z g L m mu s) (R : Room A 3) (ha : a < 100)
    (h : ∀ x g' s', g.StaysIn g' → IsOrder g' x ⟨24, dst, 0, 0, a, 256⟩ → At T Z g' L m mu s' → Q (.ref x) s') : wpAny (model prog w) A (call (.ref 233) [.int dst t1, .int ((a : Int) + 2 ^ 40) t2]) Q E s := by
  refine enter0 [("dst", .int dst t1), ("worth", .int ((a : Int) + 2 ^ 40) t2)] TF (show FnIs K 233 (defAt 36) "wide" .none from TF.fns 19 _ rfl) rfl H R (fun _ _ _ _ _ => BindsTo.of_eq rfl) (by rfl) (by decide) rfl rfl rfl ?_
  clear H R
  intro cdv L s H back R
  repeat' first | walk_at "z" | ((with_reducible show wpAny _ _ (call (.ref 69) _) _ _ _); refine signed_spec TF H (R.less (by decide)) ?_; clear H; intro t s H)
  rw [sgn_low a ha, sgn_high a ha]
  refine Order_spec6 TF H (R.less (by decide)) fun x g' s' k O H' => ?_
  repeat' walk_at "z"
  exact h x g' s' k O (back _ _ _ _ H')
theorem class_of_spec {x : Addr} {o : Ord} {Q : Value → Shared → Prop} (TF : TopF K T) (H : At T Z g L m mu s) (R : Room A 1) (O : IsOrder g x o) (hk : 0 ≤ o.kind ∧ o.kind ≤ 7)
    (h : ∀ t s', At T Z g L m mu s' → Q (.str (Txt.strip (Txt.slice "ld   ldx  st   stx  alu  jmp  jmp32alu64" (some (5 * o.kind)) (some (5 * o.kind + 5)))) t) s') : wpAny (model prog w) A (call (.ref 105) [.ref x]) Q E s := by
  refine enter0 [("order", .ref x)] TF (show FnIs K 105 (defAt 18) "class_of" .none from TF.fns 1 _ rfl) rfl H R (fun _ _ _ _ _ => BindsTo.of_eq rfl) (by rfl) (by decide) rfl rfl rfl ?_
  clear H R
  have hk' : 0 ≤ Builtin.bitAnd o.code 7 ∧ Builtin.bitAnd o.code 7 ≤ 7 := hk
  intro cdv L s H back R
  repeat' walk_at "z"
  have hz : (("ld   ldx  st   stx  alu  jmp  jmp32alu64" : Str)).length ≤ 1000 := by decide +kernel
  refine r_sliceStr H hz ?_
  clear H; intro t s H
  repeat' walk_at "z"
  refine r_strip2 H (Nat.le_trans (Txt.slice_le _ _ _) hz) ?_
  clear H; intro t s H
  repeat' walk_at "z"
  exact h _ _ (back _ _ _ _ H)
end
end Mine
namespace Mine
section
variable {prog : Program} {w : World} {K : Frag} {A : Around} {T : Heap} {Z : Zed} {g : Heap} {L : Addr} {m : List (Str × Value)} {mu : List (Addr × Obj)} {s : Shared} {E : Value → Shared → Prop}
set_option maxHeartbeats 1000000
set_option maxRecDepth 100000
theorem ints_at {vs : List Value} {ns : List Int} (h : IntsAre vs ns) {i : Nat} {n : Int} (e : ns[i]? = some n) : ∃ t, vs[i]? = some (.int n t) := h.get i n e
theorem goal_slot_spec {x : Addr} {os : List Ord} {i : Nat} {ti : Tok} {Q : Value → Shared → Prop} (TF : TopF K T) (H : At T Z g L m mu s) (R : Room A 3) (P : ProgH s.heap x os) (hi : i < os.length) (hz : os.length ≤ 1000)
    (h : ∀ t s', At T Z g L m mu s' → Q (.int (goalSlot os i) t) s') : wpAny (model prog w) A (call (.ref 317) [.ref x, .int i ti]) Q E s := by
  refine enterP [("self", .ref x), ("at", .int i ti)] TF (show FnIs K 317 (methAt 47 2) "Program.goal_slot" .none from TF.fns 41 _ rfl) rfl H R (fun _ _ _ _ _ => BindsTo.of_eq rfl) (by rfl) (by decide) rfl rfl rfl ?_
  clear H R
  generalize s.heap = g₀ at *
  obtain ⟨dx, es, n, ol, sl, bd, ovs, svs, bo, fb, nb, tm, h1, h2, h3, h4, h5, h6, h7, h8, h9, h10, h11, h12, h13⟩ := P
  obtain ⟨ts, hs⟩ := ints_at h11 (i := i) (n := placeOf os i) (by simp [hi])
  obtain ⟨o, xo, ho, hov, hO⟩ : ∃ o x, os[i]? = some o ∧ ovs[i]? = some (.ref x) ∧ IsOrder g₀ x o := by
    have e : os[i]? = some os[i] := List.getElem?_eq_getElem hi
    obtain ⟨y, hy⟩ := h9.2 i (some os[i]) (by simp [e])
    exact ⟨_, y, e, hy⟩
  intro cdv Z L s H back R
  repeat' walk_at "z"
  refine r_attrH TF TF.program H ⟨dx, es, n, H.gh _ _ h1, H.gh _ _ h2, h4⟩ (by decide) rfl ?_
  clear H; intro s H
  repeat' walk_at "z"
  refine r_item H (hasG h10) (by omega) (by omega) (v := .int (placeOf os i) ts) (by simpa using hs) ?_
  repeat' walk_at "z"
  refine r_attrH TF TF.program H ⟨dx, es, n, H.gh _ _ h1, H.gh _ _ h2, h3⟩ (by decide) rfl ?_
  clear H; intro s H
  repeat' walk_at "z"
  refine r_item H (hasG h8) (by omega) (by omega) (v := .ref xo) (by simpa using hov) ?_
  repeat' walk_at "z"
  refine distance_spec TF H (R.less (by decide)) hO ?_
  clear H; intro t s H
  repeat' walk_at "z"
  exact q_int (h _ _ (back _ _ _ _ H)) (by unfold goalSlot; rw [ho]; rfl)

theorem target_spec {x : Addr} {os : List Ord} {i j : Nat} {ti : Tok} {Q : Value → Shared → Prop} (TF : TopF K T) (H : At T Z g L m mu s) (R : Room A 4) (P : ProgH s.heap x os) (hi : i < os.length) (hz : os.length ≤ 1000) (hj : j < os.length) (e : goalSlot os i = placeOf os j)
    (h : ∀ t s', At T Z g L m mu s' → Q (.int j t) s') : wpAny (model prog w) A (call (.ref 324) [.ref x, .int i ti]) Q E s := by
  refine enterP [("self", .ref x), ("at", .int i ti)] TF (show FnIs K 324 (methAt 47 3) "Program.target" .none from TF.fns 42 _ rfl) rfl H R (fun _ _ _ _ _ => BindsTo.of_eq rfl) (by rfl) (by decide) rfl rfl rfl ?_
  clear H R
  generalize s.heap = g₀ at *
  have P' := P
  obtain ⟨dx, es, n, ol, sl, bd, ovs, svs, bo, fb, nb, tm, h1, h2, h3, h4, h5, h6, h7, h8, h9, h10, h11, h12, h13, h14, h15⟩ := P
  intro cdv Z L s H back R
  repeat' walk_at "z"
  refine r_attrH TF TF.program H ⟨dx, es, n, H.gh _ _ h1, H.gh _ _ h2, h5⟩ (by decide) rfl ?_
  clear H; intro s H
  repeat' walk_at "z"
  refine r_methH TF TF.program H (H.gh _ _ h1) (H.gh _ _ h2) (f := 317) (by decide) h7.1 ?_
  dsimp only
  repeat' walk_at "z"
  refine goal_slot_spec TF H (R.less (by decide)) (P'.mono H.gh) hi hz ?_
  clear H; intro t s H
  repeat' walk_at "z"
  obtain ⟨tj, hj'⟩ := h14 j hj
  refine r_getDict H (H.gh _ _ h12) h13 (by rw [e]; exact hj') ?_
  clear H; intro s H
  repeat' walk_at "z"
  exact h _ _ (back _ _ _ _ H)

theorem count_spec {x : Addr} {os : List Ord} {Q : Value → Shared → Prop} (TF : TopF K T) (H : At T Z g L m mu s) (R : Room A 1) (P : ProgH s.heap x os) (hz : os.length ≤ 1000)
    (h : ∀ t s', At T Z g L m mu s' → Q (.int os.length t) s') : wpAny (model prog w) A (call (.ref 310) [.ref x]) Q E s := by
  refine enterP [("self", .ref x)] TF (show FnIs K 310 (methAt 47 1) "Program.count" .none from TF.fns 40 _ rfl) rfl H R (fun _ _ _ _ _ => BindsTo.of_eq rfl) (by rfl) (by decide) rfl rfl rfl ?_
  clear H R
  generalize s.heap = g₀ at *
  obtain ⟨dx, es, n, ol, sl, bd, ovs, svs, bo, fb, nb, tm, h1, h2, h3, h4, h5, h6, h7, h8, h9, h10, h11, h12, h13, h14, h15⟩ := P
  intro cdv Z L s H back R
  have hlen := h9.1
  rw [List.length_map] at hlen
  repeat' walk_at "z"
  refine r_attrH TF TF.program H ⟨dx, es, n, H.gh _ _ h1, H.gh _ _ h2, h3⟩ (by decide) rfl ?_
  clear H; intro s H
  repeat' walk_at "z"
  refine r_len H (hasG h8) (by omega) ?_
  clear H; intro t s H
  repeat' walk_at "z"
  exact q_int (h _ _ (back _ _ _ _ H)) (by rw [hlen])
end
end Mine
namespace Mine
section
variable {prog : Program} {w : World} {K : Frag} {A : Around} {T : Heap} {Z : Zed} {g : Heap} {L : Addr} {m : List (Str × Value)} {mu : List (Addr × Obj)} {s : Shared} {E : Value → Shared → Prop}
set_option maxHeartbeats 1000000
set_option maxRecDepth 100000
theorem OrdsAt.set {g : Heap} {vs : List Value} {os : List (Option Ord)} (h : OrdsAt g vs os) (i : Nat) : OrdsAt g (vs.set i .none) (os.set i none) := by
  refine ⟨by simp [h.1], fun j o e => ?_⟩
  by_cases hij : i = j
  · subst hij
    have hl : i < os.length := by
      have := (List.getElem?_eq_some_iff.mp e).1
      simpa using this
    rw [List.getElem?_set_self hl] at e
    cases e
    exact List.getElem?_set_self (by rw [h.1]; exact hl)
  · rw [List.getElem?_set_ne hij] at e
    have := h.2 j o e
    cases o with
    | none => dsimp only at this ⊢; rw [List.getElem?_set_ne hij]; exact this
    | some o => dsimp only at this ⊢; rw [List.getElem?_set_ne hij]; exact this

/-- what the goals of the jumps that stay are -/
noncomputable def Goals (orig : List Ord) (tgt : Nat → Nat) (os : List (Option Ord)) : Prop := ∀ (i : Nat) (o : Ord), os[i]? = some (some o) → o.isJump = true → tgt i < orig.length ∧ goalSlot orig i = placeOf orig (tgt i)
theorem Rem.some_of {tgt : Nat → Nat} {a c : List (Option Ord)} (h : Rem tgt a c) : a.length = c.length ∧ ∀ (i : Nat) (o : Ord), c[i]? = some (some o) → a[i]? = some (some o) := by
  induction h with
  | refl => exact ⟨rfl, fun _ _ e => e⟩
  | step h hi ih =>
    rename_i c k
    refine ⟨by simp [ih.1], fun i o e => ?_⟩
    by_cases hk : k = i
    · subst hk
      have hl := (List.getElem?_eq_some_iff.mp e).1
      rw [List.getElem?_set_self (by simpa using hl)] at e
      cases e
    · rw [List.getElem?_set_ne hk] at e
      exact ih.2 i o e

theorem without_spec {px kl : Addr} {orig : List Ord} {os : List (Option Ord)} {kvs : List Value} {tgt : Nat → Nat} {Q : Value → Shared → Prop} (TF : TopF K T) (H : At T Z g L m mu s) (R : Room A 6) (P : ProgH g px orig) (hk : IsListV g kl kvs) (hv : OrdsAt g kvs os)
    (hz : orig.length ≤ 900) (hlen : os.length = orig.length) (hg : Goals orig tgt os)
    (h : ∀ fl g' s' c vs, g.StaysIn g' → IsListV g' fl vs → OrdsAt g' vs c → Rem tgt os c → (∀ i, ¬ IdleAt tgt c i) → At T Z g' L m mu s' → Q (.ref fl) s') :
    wpAny (model prog w) A (call (.ref 261) [.ref px, .ref kl]) Q E s := by
  refine enter0 [("program", .ref px), ("kept", .ref kl)] TF (show FnIs K 261 (defAt 41) "without_idle_jumps" .none from TF.fns 23 _ rfl) rfl H R (fun _ _ _ _ _ => BindsTo.of_eq rfl) (by rfl) (by decide) rfl rfl rfl ?_
  clear H R
  have hvl := hv.1
  intro cdv L s H back R
  generalize Zed.into [] g _ = Z' at *
  repeat' walk_at "z"
  refine r_list H (hasG hk) (by omega) ?_
  clear H; intro fl n0 s H
  repeat' walk_at "z"
  refine r_While (fun k g₁ m₁ mu₁ => ∃ b vs n c, m₁ = ([("program", .ref px), ("kept", .ref kl), ("found", .ref fl), ("is_changed", .bool b)] : Loc) ∧ mu₁ = [(fl, LO vs n)] ∧ g = g₁ ∧ OrdsAt g vs c ∧ Rem tgt os c ∧
      (b = true → k = stays c + 1) ∧ (b = false → k = 0 ∧ ∀ i, i < c.length → ¬ IdleAt tgt c i)) (stays os + 1) (H.know (by walk_at "k")) ⟨true, kvs, n0, os, rfl, rfl, rfl, hv, .refl _, fun _ => rfl, fun e => by cases e⟩ ?_
  clear H
  rintro k g₁ m₁ mu₁ s ⟨b, vs, n1, c, rfl, rfl, rfl, hcv, hr, hb1, hb2⟩ _ H
  have hcl := hr.some_of.1
  repeat' walk_at "z"
  · obtain rfl := hb1 hc
    subst hc
    refine r_len H (hasM 0 rfl) (by rw [hcv.1]; omega) ?_
    clear H; intro t s H
    repeat' walk_at "z"
    refine r_range1 H ?_
    clear H; intro r t1 t2 t3 s H hrng
    refine for_range0 (fun i g₁ m₁ mu₁ => ∃ b vs' n' c', m₁ = ([("program", .ref px), ("kept", .ref kl), ("found", .ref fl), ("is_changed", .bool b)] : Loc) ∧ mu₁ = [(fl, LO vs' n')] ∧ g = g₁ ∧ OrdsAt g vs' c' ∧ Rem tgt os c' ∧
      (b = true → stays c' < stays c) ∧ (b = false → c' = c ∧ ∀ j, j < i → ¬ IdleAt tgt c j)) (R.less (by decide)) (H.know (by walk_at "k")) hrng (by omega) (by rw [hcv.1]; omega) ⟨false, vs, n1, c, rfl, rfl, rfl, hcv, hr, (fun e => by cases e), fun _ => ⟨rfl, fun _ h => nomatch h⟩⟩ ?_ ?_
    · clear H hrng
      rintro i t Z₁ g₁ m₁ mu₁ s hi ⟨b, vs', n', c', rfl, rfl, rfl, hcv', hr', hx1, hx2⟩ _ kg H out
      refine gen_post fun PP hPP => ?_
      have hcl' := hr'.some_of.1
      have hil : i < c'.length := by have := hcv.1; omega
      repeat' walk_at "z"
      rcases hcv'.get hil with ⟨e, ev⟩ | ⟨o, x, e, ev, hO⟩
      · refine r_item H (hasM 0 rfl) (by omega) (by omega) (v := .none) (by simpa using ev) ?_
        repeat' walk_at "z"
        refine tpn hPP ⟨_, _, _, H.know (m' := [("program", .ref px), ("kept", .ref kl), ("found", .ref fl), ("is_changed", .bool b)]) (by walk_at "k"), rfl, b, vs', n', c', rfl, rfl, rfl, hcv', hr', hx1, fun eb => ?_⟩
        obtain ⟨rfl, hno⟩ := hx2 eb
        refine ⟨rfl, fun j hj => ?_⟩
        rcases Nat.lt_or_eq_of_le (Nat.le_of_lt_succ hj) with hj | rfl
        · exact hno j hj
        · rintro ⟨o, eo, _⟩
          rw [e] at eo; cases eo
      · refine r_item H (hasM 0 rfl) (by omega) (by omega) (v := .ref x) (by simpa using ev) ?_
        repeat' walk_at "z"
        refine r_item H (hasM 0 rfl) (by omega) (by omega) (v := .ref x) (by simpa using ev) ?_
        repeat' walk_at "z"
        refine is_jump_spec TF H (R.less (by decide)) hO ?_
        clear H; intro s H
        repeat' walk_at "z"
        · have hj := hc
          have htg := hg i o (hr'.some_of.2 _ _ e) hj
          have P' := P
          obtain ⟨dx, es, n, ol, sl, bd, ovs, svs, bo, fb, nb, tm, h1, h2, h3, h4, h5, h6, h7, h8⟩ := P'
          refine r_methH TF TF.program H (H.gh _ _ h1) (H.gh _ _ h2) (f := 324) (by decide) h7.2.1 ?_
          dsimp only
          repeat' walk_at "z"
          refine target_spec (j := tgt i) TF H (R.less (by decide)) (P.mono H.gh) (by omega) (by omega) htg.1 htg.2 ?_
          clear H; intro t s H
          repeat' walk_at "z"
          refine next_kept_spec TF H (R.less (by decide)) (hasM 0 rfl) hcv' (by omega) (by omega) ?_
          clear H; intro t s H
          repeat' walk_at "z"
          rw [show ((i : Int) + 1) = ((i + 1 : Nat) : Int) from by push_cast; rfl]
          refine next_kept_spec TF H (R.less (by decide)) (hasM 0 rfl) hcv' (by omega) (by omega) ?_
          clear H; intro t s H
          repeat' walk_at "z"
          · have hid : IdleAt tgt c' i := ⟨o, e, hj, by simpa using hc⟩
            refine r_setItem (i := 0) H rfl (by omega) (by have := hcv'.1; omega) (by have := hcv'.1; omega) ?_
            clear H; intro n2 s H
            simp only [List.set_cons_zero, Int.toNat_natCast] at H
            repeat' walk_at "z"
            refine tpn hPP ⟨_, _, _, H.know (m' := [("program", .ref px), ("kept", .ref kl), ("found", .ref fl), ("is_changed", .bool true)]) (by walk_at "k"), rfl, true, _, n2, c'.set i none, rfl, rfl, rfl, hcv'.set i, .step hr' hid, fun _ => ?_, fun e => by cases e⟩
            have h1 := stays_set e
            cases hb : b with
            | true => have := hx1 hb; omega
            | false => obtain ⟨rfl, _⟩ := hx2 hb; exact h1
          · refine tpn hPP ⟨_, _, _, H.know (m' := [("program", .ref px), ("kept", .ref kl), ("found", .ref fl), ("is_changed", .bool b)]) (by walk_at "k"), rfl, b, vs', n', c', rfl, rfl, rfl, hcv', hr', hx1, fun eb => ?_⟩
            obtain ⟨rfl, hno⟩ := hx2 eb
            refine ⟨rfl, fun j hj' => ?_⟩
            rcases Nat.lt_or_eq_of_le (Nat.le_of_lt_succ hj') with hj' | rfl
            · exact hno j hj'
            · rintro ⟨o', eo, _, q⟩
              exact hc (by simpa using q)
        · refine tpn hPP ⟨_, _, _, H.know (m' := [("program", .ref px), ("kept", .ref kl), ("found", .ref fl), ("is_changed", .bool b)]) (by walk_at "k"), rfl, b, vs', n', c', rfl, rfl, rfl, hcv', hr', hx1, fun eb => ?_⟩
          obtain ⟨rfl, hno⟩ := hx2 eb
          refine ⟨rfl, fun j hj' => ?_⟩
          rcases Nat.lt_or_eq_of_le (Nat.le_of_lt_succ hj') with hj' | rfl
          · exact hno j hj'
          · rintro ⟨o', eo, hj, q⟩
            rw [e] at eo; cases eo
            exact hc hj
    · rintro g' m' mu' s ⟨b, vs', n', c', rfl, rfl, rfl, hcv', hr', hx1, hx2⟩ _ H
      have hcl' := hr'.some_of.1
      repeat' walk_at "z"
      cases b with
      | true => exact ⟨stays c' + 1, by have := hx1 rfl; omega, _, _, _, H, rfl, true, vs', n', c', rfl, rfl, rfl, hcv', hr', fun _ => rfl, fun e => by cases e⟩
      | false =>
        obtain ⟨rfl, hno⟩ := hx2 rfl
        refine ⟨0, by omega, _, _, _, H, rfl, false, vs', n', _, rfl, rfl, rfl, hcv', hr', fun e => (by cases e), fun _ => ⟨rfl, fun i hi => hno i ?_⟩⟩
        have := hcv.1
        omega
  · have hb : b = false := by simpa using hc
    obtain ⟨g', k', hg', H'⟩ := At.freeze (mu := []) H
    refine h fl g' s c vs k' ⟨n1, hg' _ (.head _)⟩ (hcv.mono k') hr (fun i => ?_) (back _ _ _ _ H')
    by_cases hi : i < c.length
    · exact (hb2 hb).2 i hi
    · rintro ⟨o, eo, _⟩
      exact hi (List.getElem?_eq_some_iff.mp eo).1
end
end Mine
namespace Mine
section
variable {prog : Program} {w : World} {K : Frag} {A : Around} {T : Heap} {Z : Zed} {g : Heap} {L : Addr} {m : List (Str × Value)} {mu : List (Addr × Obj)} {s : Shared} {E : Value → Shared → Prop}
theorem IsTupV.isTup {h h' : Heap} {t : Addr} {vs : List Value} (x : IsTupV h t vs) (k : h.StaysIn h') : IsTup h' t vs.toArray := let ⟨n, e⟩ := x; ⟨_, k _ _ e, rfl, n, rfl⟩
theorem At.extBut (H : At T Z g L m mu s) {h' : Heap} (k : Heap.ExtBut s.heap.objs.size s.heap h') : At T Z g L m mu { s with heap := h' } :=
  H.stay (fun a o e => k a o (Nat.ne_of_lt (Heap.lt_size e)) e) rfl rfl
/-- a tuple that is unpacked at once -/
theorem r_newUnpack {vs : List Value} {n : Nat} {Q : List Value → Shared → Prop} (R : Room A 0) (H : At T Z g L m mu s) (hn : n = vs.length) (hz : vs.length ≤ 100000) (h : ∀ s', At T Z g L m mu s' → Q vs s') :
    wpAny (model prog w) A (newTuple vs) (fun v s₁ => wpAny (model prog w) A (unpackItems v n none) Q E s₁) E s := by
  refine r_newTuple H hz fun t s' H' => ?_
  have M := H'.mus (t, _) (List.mem_append_right _ (.head _))
  subst hn
  have hx := unpackItems_tuple (prog := prog) (w := w) (A := A) (E := E) (s := s') (t := t) (items := vs.toArray) (Q := Q) R.handled ⟨_, M.1, rfl, _, rfl⟩ fun h' k => h _ ((H'.drop).extBut k)
  simpa using hx
theorem r_assignTup {env : Env} {elts : List Expr} {k : Nat} {pos : Pos} {t : Addr} {vs : List Value} {Q : Unit → Shared → Prop} (R : Room A 0) (H : At T Z g L m mu s) (ht : IsTup s.heap t vs.toArray)
    (hn : (assignEach elts env).length = vs.length) (hstar : (assignEach elts env).findIdx? (·.1) = none)
    (h : ∀ s', At T Z g L m mu s' → wpAny (model prog w) A (assignInOrder ((assignEach elts env).map (·.2)) vs) Q E s') : wpAny (model prog w) A (assign (.Tuple elts k pos) env (.ref t)) Q E s :=
  assign_Tuple_tuple R.handled ht (by simpa using hn) hstar fun h' k => by simpa using h _ (H.extBut k)
end
end Mine
set_option hygiene false in
local macro_rules | `(tactic| walk_at "y") => `(tactic| first
  | walk_at "z"
  | with_reducible refine r_toInt ?_
  | ((with_reducible show wpAny _ _ (eval (.List _ _) _) _ _ _); refine List_ ?_)
  | ((with_reducible show wpAny _ _ (eval (.Tuple _ _ _) _) _ _ _); refine Tuple_ ?_)
  | ((with_reducible show wpAny _ _ (exec (.Assign [.Tuple _ _ _] (.Tuple _ _ _) _) _) _ _ _); refine Assign_Tuple_swapped ?_)
  | ((with_reducible show wpAny _ _ (exec (.For (.Tuple _ _ _) _ _ [] _) _) _ _ _); refine r_ForT ?_)
  | ((with_reducible show wpAny _ _ (assignInOrder _ _) _ _ _); first | refine assignInOrder_cons (bindName_ ?_) | refine assignInOrder_nil ?_)
  | ((with_reducible show wpAny _ _ (call (.ref _) [_]) _ _ _); first
      | (refine is_jumping_spec TF H (R.less (by decide)) (by assumption) ?_; clear H; intro s H)
      | (refine is_jump_spec TF H (R.less (by decide)) (by assumption) ?_; clear H; intro s H)
      | (refine is_branch_spec TF H (R.less (by decide)) (by assumption) ?_; clear H; intro s H)
      | (refine is_local_call_spec TF H (R.less (by decide)) (by assumption) ?_; clear H; intro s H)
      | (refine is_call_spec TF H (R.less (by decide)) (by assumption) ?_; clear H; intro s H)
      | (refine is_exit_spec TF H (R.less (by decide)) (by assumption) ?_; clear H; intro s H)
      | (refine is_wide_spec TF H (R.less (by decide)) (by assumption) ?_; clear H; intro s H)
      | (refine alu_size_spec TF H (R.less (by decide)) (by assumption) ?_; clear H; intro t s H)
      | (refine slots_of_spec TF H (R.less (by decide)) (by assumption) ?_; clear H; intro t s H)
      | (refine distance_spec TF H (R.less (by decide)) (by assumption) ?_; clear H; intro t s H)))
set_option hygiene false in
local macro_rules | `(tactic| walk_at "yif") => `(tactic| ((fail_if_success (with_reducible show wpAny _ _ (execs (Stmt.If _ _ _ _ :: _) _) _ _ _)); walk_at "y"))
set_option hygiene false in
local macro_rules | `(tactic| walk_at "yfor") => `(tactic| ((fail_if_success (with_reducible show wpAny _ _ (execs (Stmt.For _ _ _ _ _ :: _) _) _ _ _)); walk_at "y"))
namespace Mine
noncomputable def jumpy (o : Ord) : Bool := o.isJump || (o.isBranch || o.isLCall)
noncomputable def slotK (c : List (Option Ord)) (i : Nat) : Int := ((c.take i).map fun o => (o.map Ord.slots).getD 0).sum
noncomputable def newOrd (c : List (Option Ord)) (tgt : Nat → Nat) (i : Nat) (o : Ord) : Ord := if jumpy o then o.moved (slotK c (nextK c (tgt i)).toNat - slotK c i - 1) else o
noncomputable def laidL (c : List (Option Ord)) (tgt : Nat → Nat) (n : Nat) : List Ord := (List.range n).filterMap fun i => (c[i]?.join).map (newOrd c tgt i)
theorem slotK_succ {c : List (Option Ord)} {i : Nat} {o : Option Ord} (h : c[i]? = some o) : slotK c (i + 1) = slotK c i + (o.map Ord.slots).getD 0 := by
  unfold slotK
  rw [List.take_add_one, h]
  simp
theorem nextK_lt {c : List (Option Ord)} {i : Nat} : nextK c i < c.length ∨ c.length = 0 := by
  unfold nextK
  cases h : (c.drop i).findIdx? (·.isSome) with
  | none => dsimp only; omega
  | some j =>
    rw [List.findIdx?_eq_some_iff_getElem] at h
    obtain ⟨hj, _⟩ := h
    rw [List.length_drop] at hj
    left; dsimp only; omega
theorem laidL_none {c : List (Option Ord)} {tgt : Nat → Nat} {i : Nat} (h : c[i]? = some none) : laidL c tgt (i + 1) = laidL c tgt i := by
  unfold laidL
  rw [List.range_succ, List.filterMap_append]
  simp [h]
theorem laidL_some {c : List (Option Ord)} {tgt : Nat → Nat} {i : Nat} {o : Ord} (h : c[i]? = some (some o)) : laidL c tgt (i + 1) = laidL c tgt i ++ [newOrd c tgt i o] := by
  unfold laidL
  rw [List.range_succ, List.filterMap_append]
  simp [h]
theorem OrdsAt.snoc {g : Heap} {vs : List Value} {os : List Ord} {x : Addr} {o : Ord} (h : OrdsAt g vs (os.map some)) (hx : IsOrder g x o) : OrdsAt g (vs ++ [.ref x]) ((os ++ [o]).map some) := by
  have hl : vs.length = os.length := by simpa using h.1
  refine ⟨by simp [hl], fun i q e => ?_⟩
  rw [List.map_append] at e
  by_cases hi : i < os.length
  · rw [List.getElem?_append_left (by simpa using hi)] at e
    have := h.2 i q e
    cases q with
    | none => dsimp only at this ⊢; rw [List.getElem?_append_left (by omega)]; exact this
    | some q => dsimp only at this ⊢; rw [List.getElem?_append_left (by omega)]; exact this
  · rw [List.getElem?_append_right (by simpa using hi)] at e
    have hi' : i = os.length := by
      have := (List.getElem?_eq_some_iff.mp e).1
      simp at this; omega
    subst hi'
    simp at e
    subst e
    dsimp only
    exact ⟨x, by rw [← hl]; simp, hx⟩
theorem ints_snoc {vs : List Value} {ns : List Int} {n : Int} {t : Tok} (h : IntsAre vs ns) : IntsAre (vs ++ [.int n t]) (ns ++ [n]) := h.append (.cons n t .nil)
section
variable {prog : Program} {w : World} {K : Frag} {A : Around} {T : Heap} {Z : Zed} {g : Heap} {L : Addr} {m : List (Str × Value)} {mu : List (Addr × Obj)} {s : Shared} {E : Value → Shared → Prop}
set_option maxHeartbeats 1000000
set_option maxRecDepth 100000
theorem laid_out_spec {px kl : Addr} {orig : List Ord} {os : List (Option Ord)} {kvs : List Value} {tgt : Nat → Nat} {Q : Value → Shared → Prop} (TF : TopF K T) (H : At T Z g L m mu s) (R : Room A 7) (P : ProgH g px orig) (hk : IsListV g kl kvs) (hv : OrdsAt g kvs os)
    (hz : orig.length ≤ 900) (hlen : os.length = orig.length) (hg : ∀ (i : Nat) (o : Ord), os[i]? = some (some o) → jumpy o = true → tgt i < orig.length ∧ goalSlot orig i = placeOf orig (tgt i))
    (hn : ∀ c, Rem tgt os c → (∀ i, ¬ IdleAt tgt c i) → ∀ (i : Nat) (o : Ord), c[i]? = some (some o) → jumpy o = true → 0 ≤ nextK c (tgt i))
    (h : ∀ fl g' s' c vs, g.StaysIn g' → IsListV g' fl vs → OrdsAt g' vs ((laidL c tgt orig.length).map some) → Rem tgt os c → (∀ i, ¬ IdleAt tgt c i) → At T Z g' L m mu s' → Q (.ref fl) s') :
    wpAny (model prog w) A (call (.ref 275) [.ref px, .ref kl]) Q E s := by
  refine enter0 [("program", .ref px), ("kept", .ref kl)] TF (show FnIs K 275 (defAt 43) "laid_out" .none from TF.fns 25 _ rfl) rfl H R (fun _ _ _ _ _ => BindsTo.of_eq rfl) (by rfl) (by decide) rfl rfl rfl ?_
  clear H R
  intro cdv L s H back R
  generalize Zed.into [] g _ = Z' at *
  repeat' walk_at "y"
  refine without_spec TF H (R.less (by decide)) P hk hv hz hlen (fun i o e hj => hg i o e (by simp [jumpy, hj])) ?_
  clear H
  intro fl g₂ s c vs kg hfl hcv hr hno H
  have hcl := hr.some_of.1
  have hvl := hcv.1
  replace hn := hn c hr hno
  replace h := fun fl' g' s' vs' k1 k2 k3 k4 => h fl' g' s' c vs' k1 k2 k3 hr hno k4
  replace hg := fun i o (e : c[i]? = some (some o)) => hg i o (hr.some_of.2 _ _ e)
  repeat' walk_at "y"
  refine r_newList H (by decide) ?_
  clear H; intro sl s H
  repeat' walk_at "y"
  refine r_newUnpack (R.less (by decide)) H rfl (Nat.le_of_ble_eq_true rfl) ?_
  clear H; intro s H
  repeat' walk_at "y"
  refine for_list (fun i g₁ m₁ mu₁ => ∃ n' svs t, m₁ = ([("stays", .ref fl), ("program", .ref px), ("slots", .ref sl), ("slot", .int (slotK c i) t)] : Loc) ∧ mu₁ = [(sl, LO svs n')] ∧ g₂ = g₁ ∧ IntsAre svs ((List.range i).map (slotK c))) (R.less (by decide)) (H.know (m' := [("stays", .ref fl), ("program", .ref px), ("slots", .ref sl), ("slot", .int 0 _)]) (by walk_at "k")) hfl ⟨_, _, _, rfl, rfl, rfl, .nil⟩ ?_ ?_
  · clear H
    rintro i v Z₁ g₁ m₁ mu₁ s hi ⟨n', svs, t, rfl, rfl, rfl, hsv⟩ _ kg' H out
    refine gen_post fun PP hPP => ?_
    have hil : i < c.length := by rw [← hvl]; exact (List.getElem?_eq_some_iff.mp hi).1
    have hsl := hsv.length
    simp at hsl
    repeat' walk_at "y"
    refine r_meth H (hasM 0 rfl) ?_
    dsimp only
    repeat' walk_at "y"
    refine r_append (i := 0) H rfl (by omega) ?_
    clear H; intro n'' s H
    simp only [List.set_cons_zero] at H
    repeat' walk_at "y"
    have hfin : ∀ (o : Option Ord), c[i]? = some o → IntsAre (svs ++ [.int (slotK c i) t]) ((List.range (i + 1)).map (slotK c)) := fun o _ => by
      rw [List.range_succ, List.map_append]; exact ints_snoc hsv
    rcases hcv.get hil with ⟨e, ev⟩ | ⟨o, x, e, ev, hO⟩
    · rw [ev] at hi; cases hi
      repeat' walk_at "y"
      refine tpn hPP ⟨_, _, _, H.know (m' := [("stays", .ref fl), ("program", .ref px), ("slots", .ref sl), ("slot", .int (slotK c i + 0) _)]) (by walk_at "k"), rfl, _, _, _, by rw [slotK_succ e]; rfl, rfl, rfl, hfin _ e⟩
    · rw [ev] at hi; cases hi
      repeat' walk_at "y"
      refine tpn hPP ⟨_, _, _, H.know (m' := [("stays", .ref fl), ("program", .ref px), ("slots", .ref sl), ("slot", .int (slotK c i + o.slots) _)]) (by walk_at "k"), rfl, _, _, _, by rw [slotK_succ e]; rfl, rfl, rfl, hfin _ e⟩
  rintro g₁ m₁ mu₁ s ⟨n', svs, t, rfl, rfl, rfl, hsv⟩ _ H
  rw [hvl] at hsv
  obtain ⟨g₃, kg₃, hsl₃, H⟩ := At.freeze (mu := []) H
  have hsl : IsListV g₃ sl svs := ⟨n', hsl₃ _ (.head _)⟩
  repeat' walk_at "y"
  refine r_newList H (by decide) ?_
  clear H; intro ll s H
  simp only [List.nil_append] at H
  repeat' walk_at "y"
  refine r_len H (hasG (hfl.mono kg₃)) (by omega) ?_
  clear H; intro t s H
  repeat' walk_at "y"
  refine r_range1 H ?_
  clear H; intro r t1 t2 t3 s H hrng
  refine for_range0 (fun i g₁ m₁ mu₁ => ∃ n' lvs, m₁ = ([("stays", .ref fl), ("program", .ref px), ("slots", .ref sl), ("found", .ref ll)] : Loc) ∧ mu₁ = [(ll, LO lvs n')] ∧ g₃.StaysIn g₁ ∧ OrdsAt g₁ lvs ((laidL c tgt i).map some)) (R.less (by decide)) (H.know (by walk_at "k")) hrng (by omega) (by omega) ⟨_, _, rfl, rfl, stays_refl _, ⟨rfl, fun i o e => by simp [laidL] at e⟩⟩ ?_ ?_
  · clear H hrng
    rintro i t Z₁ g₁ m₁ mu₁ s hi ⟨n', lvs, rfl, rfl, kg₁, hlv⟩ _ kg' H out
    refine gen_post fun PP hPP => ?_
    have hil : i < c.length := by omega
    have hllen : lvs.length ≤ 900 := by
      rw [hlv.1, List.length_map]
      refine Nat.le_trans (List.length_filterMap_le _ _) ?_
      simp; omega
    repeat' walk_at "y"
    have hfl₁ := (hfl.mono kg₃).mono kg₁
    have hcv₁ := (hcv.mono kg₃).mono kg₁
    have kgg : g.StaysIn g₁ := stays_trans (stays_trans kg kg₃) kg₁
    rcases hcv₁.get hil with ⟨e, ev⟩ | ⟨o, x, e, ev, hO⟩
    · refine r_item H (hasG hfl₁) (by omega) (by omega) (v := .none) (by simpa using ev) ?_
      repeat' walk_at "y"
      refine tpc hPP ⟨_, _, _, H.know (m' := [("stays", .ref fl), ("program", .ref px), ("slots", .ref sl), ("found", .ref ll)]) (by walk_at "k"), rfl, _, _, rfl, rfl, kg₁, ?_⟩
      rw [laidL_none e]; exact hlv
    · refine r_item H (hasG hfl₁) (by omega) (by omega) (v := .ref x) (by simpa using ev) ?_
      repeat' walk_at "y"
      rotate_right 1
      · have hj : jumpy o = false := by simp_all [jumpy]
        refine r_meth H (hasM 0 rfl) ?_
        dsimp only
        repeat' walk_at "y"
        refine r_append (i := 0) H rfl (by omega) ?_
        clear H; intro n'' s H
        simp only [List.set_cons_zero] at H
        repeat' walk_at "y"
        refine tpn hPP ⟨_, _, _, H.know (m' := [("stays", .ref fl), ("program", .ref px), ("slots", .ref sl), ("found", .ref ll)]) (by walk_at "k"), rfl, _, _, rfl, rfl, kg₁, ?_⟩
        rw [laidL_some e, newOrd, if_neg (by rw [hj]; decide)]; exact hlv.snoc hO
      all_goals
        have hj : jumpy o = true := by simp [jumpy, hc]
        clear hc
        have htg := hg i o e hj
        have hnn := hn i o e hj
        have hnl := nextK_lt (c := c) (i := tgt i)
        have P₁ := P.mono kgg
        have P' := P₁
        obtain ⟨dx, es, n, ol, sl', bd, ovs, svs', bo, fb, nb, tm, h1, h2, h3, h4, h5, h6, h7, h8⟩ := P'
        refine r_methH TF TF.program H (H.gh _ _ h1) (H.gh _ _ h2) (f := 324) (by decide) h7.2.1 ?_
        dsimp only
        repeat' walk_at "y"
        refine target_spec (j := tgt i) TF H (R.less (by decide)) (P₁.mono H.gh) (by omega) (by omega) htg.1 htg.2 ?_
        clear H; intro t s H
        repeat' walk_at "y"
        refine next_kept_spec TF H (R.less (by decide)) (hasG hfl₁) hcv₁ (by omega) (by omega) ?_
        clear H; intro t s H
        repeat' walk_at "y"
        obtain ⟨tg, hgo⟩ := ints_at hsv (i := (nextK c (tgt i)).toNat) (n := slotK c (nextK c (tgt i)).toNat) (by rw [List.getElem?_map, List.getElem?_range (by omega)]; rfl)
        refine r_item H (hasG (hsl.mono kg₁)) hnn (by omega) hgo ?_
        repeat' walk_at "y"
        obtain ⟨ta, hat⟩ := ints_at hsv (i := i) (n := slotK c i) (by rw [List.getElem?_map, List.getElem?_range (by omega)]; rfl)
        refine r_item H (hasG (hsl.mono kg₁)) (by omega) (by omega) (v := .int (slotK c i) ta) (by simpa using hat) ?_
        repeat' walk_at "y"
        refine at_distance_spec TF H (R.less (by decide)) hO ?_
        clear H; intro x' g₄ s kg₄ hO' H
        repeat' walk_at "y"
        refine r_meth H (hasM 0 rfl) ?_
        dsimp only
        repeat' walk_at "y"
        refine r_append (i := 0) H rfl (by omega) ?_
        clear H; intro n'' s H
        simp only [List.set_cons_zero] at H
        repeat' walk_at "y"
        refine tpn hPP ⟨_, _, _, H.know (m' := [("stays", .ref fl), ("program", .ref px), ("slots", .ref sl), ("found", .ref ll)]) (by walk_at "k"), rfl, _, _, rfl, rfl, stays_trans kg₁ kg₄, ?_⟩
        rw [laidL_some e, newOrd, if_pos hj]; exact (hlv.mono kg₄).snoc hO'
  · rintro g' m' mu' s ⟨n', lvs, rfl, rfl, kg₁, hlv⟩ _ H
    obtain ⟨g₅, kg₅, hl₅, H⟩ := At.freeze (mu := []) H
    repeat' walk_at "y"
    refine h ll g₅ s lvs (stays_trans (stays_trans (stays_trans kg kg₃) kg₁) kg₅) ⟨n', hl₅ _ (.head _)⟩ ?_ (back _ _ _ _ H)
    have : ((vs.length : Nat) : Int).toNat = orig.length := by omega
    rw [this] at hlv
    exact hlv.mono kg₅
end
end Mine
namespace Mine
section
open PySem
set_option maxRecDepth 100000
theorem slot_si_next : PySem.Slot "set_iterator" "__next__" "set_iterator.__next__" :=
  .of (owner := "set_iterator") (n := "__next__") (by rw [typeLookup_type, builtinLookup_eq_fast]; kernel_rfl) (by decide +kernel) (by decide +kernel) (by decide +kernel)
    (by first | exact .inl (by decide +kernel) | exact .inr (by decide +kernel)) (by rw [isSubtype_type]; kernel_rfl)
theorem slot_si_iter : PySem.Slot "set_iterator" "__iter__" "set_iterator.__iter__" :=
  .of (owner := "set_iterator") (n := "__iter__") (by rw [typeLookup_type, builtinLookup_eq_fast]; kernel_rfl) (by decide +kernel) (by decide +kernel) (by decide +kernel)
    (by first | exact .inl (by decide +kernel) | exact .inr (by decide +kernel)) (by rw [isSubtype_type]; kernel_rfl)
theorem entry_si_next : entryFor table "set_iterator.__next__" = some Builtin.«set_iterator.__next__» := entryFor_of_tree (by kernel_rfl)
theorem owner_si : Manifest.owners.lookup (String.ofList ['r', 'o', 't', 'a', 'r', 'e', 't', 'i', '_', 't', 'e', 's'].reverse) = some Manifest.sig_set_iterator := by kernel_rfl
theorem args_si_next (a : Value) : argsOk "set_iterator.__next__" ⟨[a], []⟩ := by
  unfold argsOk; rw [signature?_of (id := "set_iterator.__next__") (n := ['_', '_', 't', 'x', 'e', 'n', '_', '_']) (o := ['r', 'o', 't', 'a', 'r', 'e', 't', 'i', '_', 't', 'e', 's']) (by kernel_rfl) owner_si]; kernel_rfl
theorem args_si_iter (a : Value) : argsOk "set_iterator.__iter__" ⟨[a], []⟩ := by
  unfold argsOk; rw [signature?_of (id := "set_iterator.__iter__") (n := ['_', '_', 'r', 'e', 't', 'i', '_', '_']) (o := ['r', 'o', 't', 'a', 'r', 'e', 't', 'i', '_', 't', 'e', 's']) (by kernel_rfl) owner_si]; kernel_rfl
theorem entry_set_iter : entryFor table "set.__iter__" = some Builtin.«frozenset.__iter__» := entryFor_alias (id' := "frozenset.__iter__") (by kernel_rfl) rfl (by decide +kernel) (by kernel_rfl)
theorem entry_si_iter : entryFor table "set_iterator.__iter__" = some Builtin.«dict_keyiterator.__iter__» := entryFor_alias (id' := "dict_keyiterator.__iter__") (by kernel_rfl) rfl (by decide +kernel) (by kernel_rfl)

/- the table of a small set of small numbers -/
noncomputable def tabPut (t : SetTable) (n : Nat) : SetTable := match t.freeSlot (hashInt n) with | some (s, _) => (t.put s).1 | none => t
noncomputable def tabOf (l : List Nat) (led : Bool) : SetTable := l.foldl tabPut (.fresh 0 0 led)
noncomputable def slotAt (t : SetTable) (i : Nat) : Nat := if i = 0 then 0 else t.place.getD (i - 1) 0 + 1
noncomputable def walkOK (t : SetTable) : Bool := (List.range (t.place.size + 1)).all fun i => SetTable.below t.place (slotAt t i) == i
noncomputable def tabOK (l : List Nat) (led : Bool) : Bool := (tabOf l led).fits l.length && walkOK (tabOf l led) && (tabOf l led).plain && (tabOf l led).led == led && !(tabOf l led).tooFull
noncomputable def stepOK (l : List Nat) (led : Bool) (x : Nat) : Bool := (match (tabOf l led).freeSlot (hashInt x) with | some (_, d) => !d | none => false) && tabOK (l ++ [x]) led
theorem tab0 : ∀ led, tabOK [] led = true := by decide +kernel
theorem step1 : ∀ led, stepOK [] led 0 = true := by decide +kernel
theorem step2 : ∀ led, ∀ a, a < 22 → a ≠ 0 → stepOK [0] led a = true := by decide +kernel
theorem step3' : ∀ led, ((List.range 22).all fun a => (List.range 22).all fun b => a == 0 || b == 0 || b == a || stepOK [0, a] led b) = true := by decide +kernel
theorem step3 (led : Bool) (a : Nat) (ha : a < 22) (b : Nat) (hb : b < 22) (h1 : a ≠ 0) (h2 : b ≠ 0) (h3 : b ≠ a) : stepOK [0, a] led b = true := by
  have := List.all_eq_true.mp (List.all_eq_true.mp (step3' led) a (List.mem_range.mpr ha)) b (List.mem_range.mpr hb)
  simpa [h1, h2, h3] using this

/-- a set object that holds just these small numbers, laid in this order -/
noncomputable def SetN (bt : Bool) (o : Obj) (l : List Nat) : Prop :=
  ∃ es ep, o.ExactSet ∧ o.data = .set es ep (tabOf l (!bt)) ∧ (∀ e ∈ es.toList, ∃ (n : Nat) (t : Tok), n ∈ l ∧ e = (hashInt n, .int n t)) ∧ es.size = l.length ∧ ∀ n ∈ l, ∃ t, (hashInt (n : Int), Value.int (n : Int) t) ∈ es.toList
section
variable {prog : Program} {w : World} {A : Around} {E : Value → Shared → Prop} {s : Shared}
theorem fits_of_ok {l : List Nat} {led : Bool} (h : tabOK l led = true) : (tabOf l led).fits l.length = true := by
  simp only [tabOK, Bool.and_eq_true] at h
  exact h.1.1.1.1
theorem elems_of {bt : Bool} {l : List Nat} {es : Array (Int × Value)} (h : ∀ e ∈ es.toList, ∃ (n : Nat) (t : Tok), n ∈ l ∧ e = (hashInt n, .int n t)) : ElemsOf (intKind prog w) es.toList := fun e he => by
  obtain ⟨n, t, _, rfl⟩ := h e he
  exact ⟨⟨(n : Int), by simp [intKind, Value.isInt], rfl⟩, rfl⟩
theorem setAddHashed_small {a : Addr} {o : Obj} {l : List Nat} {bt : Bool} {x : Nat} {tx : Tok} {Q : Bool → Shared → Prop} (ho : s.heap.get? a = some o) (hS : SetN bt o l) (hok : tabOK l (!bt) = true) (hl : l.length ≤ 10)
    (hold : x ∈ l → Q false s) (hst : x ∉ l → stepOK l (!bt) x = true)
    (hnew : x ∉ l → ∀ h' o', Heap.SameBut a s.heap h' → h'.get? a = some o' → SetN bt o' (l ++ [x]) → Q true { s with heap := h' }) :
    wpAny (model prog w) A (setAddHashed a (.int x tx) (hashInt x)) Q E s := by
  obtain ⟨es, ep, hex, hd, he1, hsz, he2⟩ := hS
  have hf := fits_of_ok hok
  rw [← hsz] at hf
  have hel : ElemsOf (intKind prog w) es.toList := elems_of (bt := bt) he1
  have hkey : (intKind prog w).is (x : Int) (.int x tx) = true := by simp [intKind, Value.isInt]
  have hb : es.size + 1 < scanBound := by rw [hsz]; show _ < 4096; omega
  unfold setAddHashed setAddHashedIn
  refine wpAny_holding (wpAny_bind (wpAny_setState_of ho hd hf ?_))
  dsimp only
  rw [byScan_of (knd := intKind prog w) rfl (by omega) hel]
  simp only [↓reduceIte]
  unfold setAddByScan
  refine wpAny_bind ?_
  refine wpAny_bind (wpAny_rule ?_)
  refine wpAny_bind (wpAny_setScan_of (knd := intKind prog w) hkey ho hd hf hel ?_)
  cases hr : List.findIdx? (fun e => (intKind prog w).is (x : Int) e.2) es.toList with
  | some j =>
    dsimp only
    obtain ⟨hj, hpj, _⟩ := List.findIdx?_eq_some_iff_getElem.mp hr
    obtain ⟨n, t, hn, e⟩ := he1 _ (List.getElem_mem hj)
    rw [e] at hpj
    have : n = x := by
      have : (n : Int) = x := by simpa [intKind, Value.isInt] using hpj
      omega
    subst this
    exact wpAny_pure (wpAny_pure (hold hn))
  | none =>
    dsimp only
    have hx : x ∉ l := fun hm => by
      obtain ⟨t, ht⟩ := he2 x hm
      have := List.findIdx?_eq_none_iff.mp hr _ ht
      simp [intKind, Value.isInt] at this
    have hs := hst hx
    unfold stepOK at hs
    rw [Bool.and_eq_true] at hs
    obtain ⟨hs1, hs2⟩ := hs
    have tab1 : tabOf (l ++ [x]) (!bt) = tabPut (tabOf l (!bt)) x := by unfold tabOf; rw [List.foldl_append]; rfl
    have hf2 := fits_of_ok hs2
    have hs3 := hs2
    rw [tab1] at hf2
    unfold tabOK at hs3
    simp only [Bool.and_eq_true] at hs3
    obtain ⟨⟨⟨⟨_, _⟩, hplain⟩, _⟩, hfull⟩ := hs3
    rw [tab1] at hplain hfull
    generalize htl : tabOf l (!bt) = tl at *
    have hL : ∃ es1, layNew tl es (hashInt x) (.int x tx) = (es1, tabPut tl x, false, false) ∧ es1.size = es.size + 1 ∧ es1.toList.Perm (es.push (hashInt x, .int x tx)).toList := by
      have hp := layNew_perm tl es (hashInt x) (.int x tx)
      unfold layNew at hp ⊢
      unfold tabPut at hf2 ⊢
      cases hfs : tl.freeSlot (hashInt x) with
      | none => rw [hfs] at hs1; cases hs1
      | some q =>
        obtain ⟨sl, d⟩ := q
        rw [hfs] at hs1 hf2 hp
        have hd' : d = false := by simpa using hs1
        subst hd'
        dsimp only at hp hf2 ⊢
        have hsz1 : (SetTable.insertAt es (tl.put sl).2 (hashInt ↑x, Value.int (↑x) tx)).size = es.size + 1 := by
          rw [← Array.length_toList, hp.length_eq]; simp
        have hf3 : (tl.put sl).1.fits (es.size + 1) = true := by rw [hsz]; simpa using hf2
        refine ⟨_, ?_, hsz1, hp⟩
        unfold SetTable.orStandIn
        rw [hsz1, hf3]
        rfl
    obtain ⟨es1, hL, hsz1, hperm⟩ := hL
    rw [hL]
    dsimp only
    refine wpAny_bind (wpAny_pure ?_)
    rw [if_pos hplain]
    refine wpAny_bind ?_
    rw [hashByValue_scannable 8 rfl]
    refine wpAny_pure ?_
    rw [if_pos (show plainKind (.int x tx) = true from rfl)]
    refine wpAny_bind (wpAny_storeSet_of ho hd ?_ (fits_of_scanBound (by rw [hsz1]; exact hb)))
    rw [if_neg (by simpa using hfull)]
    have ho1 : (s.heap.update a (Obj.putSet es1 (tabPut tl x))).get? a = some { o with data := .set es1 (ep + 1) (tabPut tl x) } := by
      have := Heap.get?_update_self (Obj.putSet es1 (tabPut tl x)) ho (by rw [putSet_of es1 _ hd]; rfl)
      rw [putSet_of es1 _ hd] at this; exact this
    refine wpAny_pure (wpAny_pure (hnew hx _ _ (Heap.SameBut.update s.heap a _) ho1 ⟨es1, ep + 1, hex, by rw [tab1], fun e he => ?_, by rw [hsz1, hsz]; simp, fun n hn => ?_⟩))
    · have := hperm.mem_iff.mp he
      rw [Array.toList_push] at this
      rcases List.mem_append.mp this with h1 | h1
      · obtain ⟨n, t, hn, e⟩ := he1 e h1
        exact ⟨n, t, List.mem_append_left _ hn, e⟩
      · exact ⟨x, tx, by simp, by simpa using h1⟩
    · rcases List.mem_append.mp hn with h1 | h1
      · obtain ⟨t, ht⟩ := he2 n h1
        exact ⟨t, hperm.mem_iff.mpr (by rw [Array.toList_push]; exact List.mem_append_left _ ht)⟩
      · obtain rfl := List.mem_singleton.mp h1
        exact ⟨tx, hperm.mem_iff.mpr (by rw [Array.toList_push]; simp)⟩
end
end
end Mine
namespace Mine
section
open PySem
set_option maxRecDepth 100000
/-- an iterator over a set -/
noncomputable def IsSetIter (h : Heap) (it a : Addr) (sl i n ep : Nat) : Prop := ∃ o, h.get? it = some o ∧ o.cls = .type "set_iterator" ∧ o.data = .fields #[.int sl 0, .int i 0, .ref a, .int n 0, .int ep 0]
theorem IsSetIter.at {h h' : Heap} {it a : Addr} {sl i n ep : Nat} (x : IsSetIter h it a sl i n ep) (e : ∀ o, h.get? it = some o → h'.get? it = some o) : IsSetIter h' it a sl i n ep := let ⟨o, ho, r⟩ := x; ⟨o, e _ ho, r⟩
theorem IsSetIter.typeIs {s : Shared} {it a : Addr} {sl i n ep : Nat} (x : IsSetIter s.heap it a sl i n ep) : s.TypeIs (.ref it) "set_iterator" := let ⟨o, ho, hc, _⟩ := x; ⟨o, ho, hc⟩

theorem pick_size {α : Type} (f : Nat → Nat) (xs : Array α) : (pickOrder f xs).size = xs.size ∧ ∀ x ∈ (pickOrder f xs).toList, x ∈ xs.toList := by
  have go : ∀ (fuel k : Nat) (l : List α) (out : Array α), fuel = l.length → (pickOrder.go f fuel k l out).size = out.size + l.length ∧ ∀ x ∈ (pickOrder.go f fuel k l out).toList, x ∈ out.toList ∨ x ∈ l := by
    intro fuel
    induction fuel with
    | zero => intro k l out h; unfold pickOrder.go; exact ⟨by omega, fun x hx => .inl hx⟩
    | succ n ih =>
      intro k l out h
      unfold pickOrder.go
      have hlt : f k % l.length < l.length := Nat.mod_lt _ (by omega)
      rw [List.getElem?_eq_getElem hlt]
      dsimp only
      have := ih (k + 1) (l.eraseIdx (f k % l.length)) (out.push l[f k % l.length]) (by rw [List.length_eraseIdx_of_lt hlt]; omega)
      refine ⟨by rw [this.1, List.length_eraseIdx_of_lt hlt]; simp; omega, fun x hx => ?_⟩
      rcases this.2 x hx with h1 | h1
      · rw [Array.toList_push] at h1
        rcases List.mem_append.mp h1 with h2 | h2
        · exact .inl h2
        · rw [List.mem_singleton] at h2; subst h2; exact .inr (List.getElem_mem hlt)
      · exact .inr (List.mem_of_mem_eraseIdx h1)
  have := go xs.size 0 xs.toList #[] (by simp)
  unfold pickOrder
  exact ⟨by rw [this.1]; simp, fun x hx => (this.2 x hx).resolve_left (by simp)⟩

section
variable {prog : Program} {w : World} {A : Around} {E : Value → Shared → Prop} {s : Shared}
theorem setsByText_ {Q : Bool → Shared → Prop} (h : Q (w.params.followText "set-order") s) : wpAny (model prog w) A setsByText Q E s := by
  unfold setsByText
  exact wpAny_bind (wpAny_askSetting (wpAny_pure h))

theorem call_add_small {a : Addr} {o : Obj} {l : List Nat} {bt : Bool} {x : Nat} {tx : Tok} {Q : Value → Shared → Prop} (ho : s.heap.get? a = some o) (hS : SetN bt o l) (hok : tabOK l (!bt) = true) (hl : l.length ≤ 10)
    (hold : x ∈ l → Q .none { s with toks := s.toks + 1 }) (hst : x ∉ l → stepOK l (!bt) x = true)
    (hnew : x ∉ l → ∀ h' o', Heap.SameBut a s.heap h' → h'.get? a = some o' → SetN bt o' (l ++ [x]) → Q .none { s with heap := h', toks := s.toks + 1 }) :
    wpAny (model prog w) A (call (.builtin "set.add") [.ref a, .int x tx]) Q E s := by
  have hT : s.TypeIs (.ref a) "set" := by obtain ⟨es, ep, hex, _⟩ := hS; exact ⟨o, ho, hex.1⟩
  refine wpAny_call_entry F.slot_set_add hT F.entry_set_add ?_ (F.args_set_add_2 _ _)
  unfold Builtin.«set.add» Builtin.Frozenset.oneOther
  simp only [List.isEmpty_nil, bind_assoc]
  unfold Builtin.Frozenset.addrOf setAdd
  refine wpAny_bind (wpAny_pure ?_)
  try dsimp only
  refine wpAny_bind (wpAny_pure ?_)
  try dsimp only
  refine wpAny_bind ?_
  refine wpAny_holding ?_
  refine wpAny_bind ((intKind prog w).pyHash (k := (x : Int)) (by simp [intKind, Value.isInt]) ?_)
  refine setAddHashed_small (s := { s with toks := s.toks + 1 }) ho hS hok hl (fun hx => ?_) hst fun hx h' o' hsb ho' hS' => ?_
  · exact wpAny_pure ⟨_, rfl, hold hx⟩
  · exact wpAny_pure ⟨_, rfl, hnew hx h' o' hsb ho' hS'⟩

theorem setDrawn_ {a : Addr} {o : Obj} {es : Array (Int × Value)} {ep : Nat} {t : SetTable} {Q : Bool → Shared → Prop} (ho : s.heap.get? a = some o) (hd : o.data = .set es ep t) (hf : t.fits es.size = true) (hp : t.plain = true) (h : Q false s) :
    wpAny (model prog w) A (setDrawn a) Q E s := by
  unfold setDrawn
  refine wpAny_bind (wpAny_setState_of ho hd hf ?_)
  refine wpAny_bind (setsByText_ ?_)
  refine wpAny_pure ?_
  obtain ⟨m, p, d, f, le, mo, pl⟩ := t
  dsimp only at hp
  subst hp
  generalize w.params.followText "set-order" = b
  cases b <;> exact h
theorem pyIter_set {a : Addr} {o : Obj} {es : Array (Int × Value)} {ep : Nat} {t : SetTable} {Q : Value → Shared → Prop} (ho : s.heap.get? a = some o) (hex : o.ExactSet) (hd : o.data = .set es ep t) (hf : t.fits es.size = true) (hp : t.plain = true)
    (hQ : Q (.ref s.heap.objs.size) { s with heap := s.heap.push { cls := .type "set_iterator", data := .fields #[.int 0 0, .int 0 0, .ref a, .int es.size 0, .int ep 0] } }) :
    wpAny (model prog w) A (pyIter (.ref a)) Q E s := by
  have hT : s.TypeIs (.ref a) "set" := ⟨o, ho, hex.1⟩
  refine wpAny_pyIter_slot hT F.slot_set_iter (wpAny_call_entry F.slot_set_iter hT entry_set_iter ?_ (F.args_set_iter_1 _))
  unfold Builtin.«frozenset.__iter__» Builtin.Frozenset.slot0 slotArgs
  simp only [List.isEmpty_nil, Bool.not_true, Bool.false_eq_true, ↓reduceIte, bind_assoc, List.length_nil, bne_self_eq_false]
  unfold Builtin.Frozenset.addrOf Builtin.Frozenset.sizeOf
  refine wpAny_bind (wpAny_pure ?_)
  try dsimp only
  refine wpAny_bind (wpAny_pure ?_)
  refine wpAny_bind (wpAny_bind (wpAny_setEntries_of ho hd hf (wpAny_pure ?_)))
  refine wpAny_bind (setDrawn_ ho hd hf hp ?_)
  simp only [Bool.false_eq_true, ↓reduceIte]
  refine wpAny_bind (wpAny_pure ?_)
  refine wpAny_bind (wpAny_setEpoch_of ho hd hf ?_)
  refine wpAny_bind ?_
  refine wpAny_newObj_type ?_ (by size_fits)
  refine wpAny_pure ⟨_, rfl, "set_iterator", _, ⟨_, Heap.get?_push_size _ rfl, rfl⟩, slot_si_next.lookup, ?_⟩
  simpa [rawInt] using hQ

theorem pyNext_set_item {it a : Addr} {o : Obj} {es : Array (Int × Value)} {ep sl i : Nat} {t : SetTable} (RR : Value → Nat → Prop) {Q : Option Value → Shared → Prop} (hit : IsSetIter s.heap it a sl i es.size ep) (ho : s.heap.get? a = some o) (hd : o.data = .set es ep t) (hf : t.fits es.size = true)
    (hnx : ∀ (A : Around) (E : Value → Shared → Prop) (s' : Shared) (Q : Option (Value × Nat) → Shared → Prop), s'.heap.get? a = some o → (∀ x sl', RR x sl' → Q (some (x, sl')) s') → wpAny (model prog w) A (setNext a sl i ep) Q E s')
    (hQ : ∀ x sl' h', RR x sl' → IsSetIter h' it a sl' (i + 1) es.size ep → Heap.SameBut it s.heap h' → Q (some x) { s with heap := h' }) : wpAny (model prog w) A (pyNext (.ref it)) Q E s := by
  obtain ⟨oi, hoi, hci, hdi⟩ := id hit
  unfold pyNext
  refine wpAny_bind (wpAny_attempt (wpAny_callSpecial?_slot (name := Str.ofString "__next__") hit.typeIs slot_si_next
    (wpAny_call_entry slot_si_next hit.typeIs entry_si_next ?_ (args_si_next _))))
  unfold Builtin.«set_iterator.__next__»
  refine wpAny_bind (wpAny_pure ?_)
  refine wpAny_bind (wpAny_fieldsOf hoi hdi ?_)
  dsimp only
  refine wpAny_bind (wpAny_setEntries_of ho hd hf ?_)
  rw [if_neg (by simp)]
  refine wpAny_bind (hnx _ _ _ _ ho fun x sl' hR => ?_)
  dsimp only
  refine wpAny_bind (wpAny_setField hoi hdi (by simp) ?_)
  have hg1 := Heap.get?_update_self (h := s.heap) (Obj.mapFields (·.setIfInBounds 0 (rawInt (sl' : Int)))) hoi (Obj.isFreed_of_fields (Obj.data_mapFields hdi _))
  have hd1 := Obj.data_mapFields hdi (·.setIfInBounds 0 (rawInt (sl' : Int)))
  have hc1 := Obj.cls_mapFields oi (·.setIfInBounds 0 (rawInt (sl' : Int)))
  refine wpAny_bind (wpAny_setField (s := { s with heap := s.heap.update it (Obj.mapFields (·.setIfInBounds 0 (rawInt (sl' : Int)))) }) hg1 hd1 (by simp) ?_)
  have hg2 := Heap.get?_update_self (Obj.mapFields (·.setIfInBounds 1 (rawInt ((i : Int) + 1)))) hg1 (Obj.isFreed_of_fields (Obj.data_mapFields hd1 _))
  have hit' : IsSetIter ((s.heap.update it (Obj.mapFields (·.setIfInBounds 0 (rawInt (sl' : Int))))).update it (Obj.mapFields (·.setIfInBounds 1 (rawInt ((i : Int) + 1))))) it a sl' (i + 1) es.size ep :=
    ⟨_, hg2, (Obj.cls_mapFields ..).trans (hc1.trans hci), by rw [Obj.data_mapFields hd1]; simp [rawInt]⟩
  exact wpAny_pure ⟨_, rfl, wpAny_pure (hQ _ _ _ hR hit' ((Heap.SameBut.update ..).trans (Heap.SameBut.update ..)))⟩

theorem pyNext_set_end {it a : Addr} {o : Obj} {es : Array (Int × Value)} {ep sl i : Nat} {t : SetTable} {Q : Option Value → Shared → Prop} (hh : A.handled = none) (hit : IsSetIter s.heap it a sl i es.size ep) (ho : s.heap.get? a = some o) (hd : o.data = .set es ep t) (hf : t.fits es.size = true)
    (hnx : ∀ (A : Around) (E : Value → Shared → Prop) (s' : Shared) (Q : Option (Value × Nat) → Shared → Prop), s'.heap.get? a = some o → Q none s' → wpAny (model prog w) A (setNext a sl i ep) Q E s')
    (hQ : ∀ h', Heap.ExtBut it s.heap h' → Q none { s with heap := h' }) : wpAny (model prog w) A (pyNext (.ref it)) Q E s := by
  obtain ⟨oi, hoi, hci, hdi⟩ := id hit
  unfold pyNext
  refine wpAny_bind (wpAny_attempt (wpAny_callSpecial?_slot (name := Str.ofString "__next__") hit.typeIs slot_si_next
    (wpAny_call_entry slot_si_next hit.typeIs entry_si_next ?_ (args_si_next _))))
  unfold Builtin.«set_iterator.__next__»
  refine wpAny_bind (wpAny_pure ?_)
  refine wpAny_bind (wpAny_fieldsOf hoi hdi ?_)
  dsimp only
  refine wpAny_bind (wpAny_setEntries_of ho hd hf ?_)
  rw [if_neg (by simp)]
  refine wpAny_bind (hnx _ _ _ _ ho ?_)
  dsimp only
  refine wpAny_bind (wpAny_setField hoi hdi (by simp) ?_)
  show wpAny _ _ (newExc (.type "StopIteration") [] >>= _) _ _ _
  refine wpAny_bind ?_
  simp only [newExc, newTuple]
  refine wpAny_bind (wpAny_newObj_type ?_ (by size_fits))
  refine wpAny_bind (m := firstArgMember _ _) (wpAny_of_eq (a := Value.none) (by first | rfl | (simp only [firstArgMember]; rfl)) ?_)
  refine wpAny_newObj_type ?_ (by size_fits)
  simp only [raiseNew]
  refine wpAny_bind (wpAny_handled ?_)
  rw [show A.in1.handled = none from hh]
  refine wpAny_bind (wpAny_pure (wpAny_throw ?_))
  refine wpAny_bind (wpAny_isInstance (T := "StopIteration") (b := true) ⟨_, Heap.get?_push_size _ rfl, rfl⟩ isSubtype_stop ?_)
  exact wpAny_pure (hQ _ (((Heap.SameBut.update ..).extBut.push _).push _))

theorem pyIter_setiter {it a : Addr} {sl i n ep : Nat} {Q : Value → Shared → Prop} (hit : IsSetIter s.heap it a sl i n ep) (h : Q (.ref it) s) : wpAny (model prog w) A (pyIter (.ref it)) Q E s := by
  refine wpAny_pyIter_slot hit.typeIs slot_si_iter (wpAny_call_entry slot_si_iter hit.typeIs entry_si_iter ?_ (args_si_iter _))
  show wpAny _ _ (ret (.ref it)) _ _ s
  exact wpAny_pure ⟨_, rfl, "set_iterator", _, hit.typeIs, slot_si_next.lookup, h⟩

theorem set_hint {r : Addr} {Q : Bool → Shared → Prop} (hT : s.TypeIs (.ref r) "set") (h : Q false s) : wpAny (model prog w) A (Builtin.List.listLengthHint (.ref r)) Q E s := by
  unfold Builtin.List.listLengthHint
  refine wpAny_bind (wpAny_specialOf hT PySem.F.slot_set_len.lookup ?_)
  generalize hid : ("set.__len__" : String) = id0
  wp_delta
  rw [show splitId id0 = some ("set", "__len__") from by subst hid; decide +kernel]
  subst hid
  refine wpAny_bind (wpAny_isInstance (T := "set") (b := true) hT (by rw [isSubtype_type]; kernel_rfl) ?_)
  refine wpAny_ite_split (fun hab => absurd hab (by decide)) (fun _ => ?_)
  refine wpAny_ite_split (fun _ => ?_) (fun hab => absurd (by decide +kernel) hab)
  refine wpAny_bind (wpAny_typeOf hT ?_)
  exact wpAny_pure h
end
end
end Mine
namespace Mine
section
open PySem
set_option maxRecDepth 100000
noncomputable abbrev bt (w : World) : Bool := w.params.followText "set-order"
section
variable {prog : Program} {w : World} {A : Around} {E : Value → Shared → Prop} {s : Shared}
/-- where the walk of a set stands -/
noncomputable def SlotIs (w : World) (t : SetTable) (i sl : Nat) : Prop := bt w = true ∨ sl = slotAt t i
theorem below_of {t : SetTable} (h : walkOK t = true) {i : Nat} (hi : i ≤ t.place.size) : SetTable.below t.place (slotAt t i) = i := by
  have := List.all_eq_true.mp h i (List.mem_range.mpr (by omega))
  simpa using this
theorem setNext_some {a : Addr} {o : Obj} {es : Array (Int × Value)} {ep sl i : Nat} {t : SetTable} {l : List Nat} {Q : Option (Value × Nat) → Shared → Prop} (ho : s.heap.get? a = some o) (hd : o.data = .set es ep t) (hf : t.fits es.size = true) (hp : t.plain = true) (hw : walkOK t = true) (hled : t.led = !bt w)
    (hes : ∀ e ∈ es.toList, ∃ (n : Nat) (u : Tok), n ∈ l ∧ e = (hashInt n, .int n u)) (hi : i < es.size) (hsl : SlotIs w t i sl)
    (h : ∀ (n : Nat) u sl', n ∈ l → SlotIs w t (i + 1) sl' → Q (some (.int n u, sl')) s) : wpAny (model prog w) A (setNext a sl i ep) Q E s := by
  unfold setNext
  refine wpAny_bind (wpAny_setState_of ho hd hf ?_)
  dsimp only
  refine wpAny_bind (setsByText_ ?_)
  cases hb : w.params.followText "set-order" with
  | true =>
    rw [if_pos rfl, if_neg (by simp)]
    unfold setWalk
    refine wpAny_bind (wpAny_bind (wpAny_setState_of ho hd hf ?_))
    dsimp only
    refine wpAny_bind (setsByText_ ?_)
    rw [hb, if_pos rfl]
    refine wpAny_bind (wpAny_askSetting (wpAny_pure ?_))
    refine wpAny_pure ?_
    have hpk := pick_size (w.params.setOrder a ep) es
    have hlt : i < (pickOrder (w.params.setOrder a ep) es).size := by rw [hpk.1]; exact hi
    show Q (Option.map _ (pickOrder (w.params.setOrder a ep) es)[i]?) s
    rw [Array.getElem?_eq_getElem hlt]
    have hmem := hpk.2 _ (List.getElem_mem (l := (pickOrder (w.params.setOrder a ep) es).toList) (n := i) (by simpa using hlt))
    obtain ⟨n, u, hn, e⟩ := hes _ hmem
    rw [Array.getElem_toList] at e
    rw [e]
    exact h n u sl hn (.inl hb)
  | false =>
    rw [if_neg (by decide)]
    have hsl' : sl = slotAt t i := hsl.resolve_left (by rw [show bt w = false from hb]; decide)
    have hps : t.place.size = es.size := by simp only [SetTable.fits, Bool.and_eq_true, beq_iff_eq] at hf; exact hf.1
    have hbl := below_of hw (i := i) (by omega)
    rw [← hsl'] at hbl
    have hmem := List.getElem_mem (l := es.toList) (n := i) (by simpa using hi)
    obtain ⟨n, u, hn, e⟩ := hes _ hmem
    rw [Array.getElem_toList] at e
    have hnxt := h n u (t.place.getD i 0 + 1) hn (.inr (by simp [slotAt]))
    have hpl : t.place[i]? = some (t.place.getD i 0) := by
      rw [Array.getD_eq_getD_getElem?, Array.getElem?_eq_getElem (by omega)]; rfl
    have hle : t.led = true := by rw [hled, show bt w = false from hb]; rfl
    clear hled hw hf hd h
    obtain ⟨m, p, d, f, le, mo, pl⟩ := t
    dsimp only at hp hle hpl hbl hnxt
    subst hp hle
    refine wpAny_ite_split (fun hab => absurd hab ?_) (fun _ => ?_)
    · exact Bool.false_ne_true
    refine wpAny_bind (m := _) (show wpAny _ _ (pure PUnit.unit) _ _ _ from wpAny_pure ?_)
    dsimp only
    rw [hbl, hpl, Array.getElem?_eq_getElem hi, e]
    exact wpAny_pure hnxt
theorem setNext_none {a : Addr} {o : Obj} {es : Array (Int × Value)} {ep sl i : Nat} {t : SetTable} {Q : Option (Value × Nat) → Shared → Prop} (ho : s.heap.get? a = some o) (hd : o.data = .set es ep t) (hf : t.fits es.size = true) (hp : t.plain = true) (hw : walkOK t = true) (hled : t.led = !bt w)
    (hi : i = es.size) (hsl : SlotIs w t i sl) (h : Q none s) : wpAny (model prog w) A (setNext a sl i ep) Q E s := by
  unfold setNext
  refine wpAny_bind (wpAny_setState_of ho hd hf ?_)
  dsimp only
  refine wpAny_bind (setsByText_ ?_)
  cases hb : w.params.followText "set-order" with
  | true =>
    rw [if_pos rfl, if_neg (by simp)]
    unfold setWalk
    refine wpAny_bind (wpAny_bind (wpAny_setState_of ho hd hf ?_))
    dsimp only
    refine wpAny_bind (setsByText_ ?_)
    rw [hb, if_pos rfl]
    refine wpAny_bind (wpAny_askSetting (wpAny_pure ?_))
    refine wpAny_pure ?_
    have hpk := pick_size (w.params.setOrder a ep) es
    show Q (Option.map _ (pickOrder (w.params.setOrder a ep) es)[i]?) s
    rw [Array.getElem?_eq_none (by rw [hpk.1]; omega)]
    exact h
  | false =>
    rw [if_neg (by decide)]
    have hsl' : sl = slotAt t i := hsl.resolve_left (by rw [show bt w = false from hb]; decide)
    have hps : t.place.size = es.size := by simp only [SetTable.fits, Bool.and_eq_true, beq_iff_eq] at hf; exact hf.1
    have hbl := below_of hw (i := i) (by omega)
    rw [← hsl'] at hbl
    have hle : t.led = true := by rw [hled, show bt w = false from hb]; rfl
    clear hled hw hf hd
    obtain ⟨m, p, d, f, le, mo, pl⟩ := t
    dsimp only at hp hle hbl
    subst hp hle
    refine wpAny_ite_split (fun hab => absurd hab ?_) (fun _ => ?_)
    · exact Bool.false_ne_true
    refine wpAny_bind (m := _) (show wpAny _ _ (pure PUnit.unit) _ _ _ from wpAny_pure ?_)
    dsimp only
    rw [hbl, Array.getElem?_eq_none (by omega)]
    exact wpAny_pure h

theorem set_walks {I a : Addr} (hh : A.handled = none) (hne : a ≠ I) {o : Obj} {es : Array (Int × Value)} {ep : Nat} {t : SetTable} {l : List Nat} (hd : o.data = .set es ep t) (hf : t.fits es.size = true) (hp : t.plain = true) (hw : walkOK t = true) (hled : t.led = !bt w)
    (hes : ∀ e ∈ es.toList, ∃ (n : Nat) (u : Tok), n ∈ l ∧ e = (hashInt n, .int n u)) :
    Walks prog w A I [I, a] [I] es.size (fun _ v => ∃ (n : Nat) (u : Tok), n ∈ l ∧ v = .int n u) (fun i h => (∃ sl, IsSetIter h I a sl i es.size ep ∧ SlotIs w t i sl) ∧ h.get? a = some o) where
  sub := fun b hb => by simp at hb; simp [hb]
  frame := fun _ _ _ st hk => by
    obtain ⟨⟨sl, h1, h2⟩, h3⟩ := st
    exact ⟨⟨sl, h1.at fun o e => hk I (by simp) o e, h2⟩, hk a (by simp) _ h3⟩
  item := fun i s Q E hi st hQ => by
    obtain ⟨⟨sl, h1, h2⟩, h3⟩ := st
    refine pyNext_set_item (fun x sl' => (∃ (n : Nat) (u : Tok), n ∈ l ∧ x = .int n u) ∧ SlotIs w t (i + 1) sl') h1 h3 hd hf (fun A E s' Q' ho' hq => setNext_some ho' hd hf hp hw hled hes hi h2 fun n u sl' hn hs' => hq _ _ ⟨⟨n, u, hn, rfl⟩, hs'⟩) fun x sl' h' hR hit' hs' => ?_
    exact hQ x h' s.toks hR.1 ⟨⟨sl', hit', hR.2⟩, hs'.extBut _ _ hne h3⟩ fun b o hb e => hs'.extBut b o (fun h => hb (by simp [h])) e
  done := fun s Q E st hQ => by
    obtain ⟨⟨sl, h1, h2⟩, h3⟩ := st
    exact pyNext_set_end hh h1 h3 hd hf (fun A E s' Q' ho' hq => setNext_none ho' hd hf hp hw hled rfl h2 hq) fun h' he' => hQ h' s.toks fun b o hb e => he' b o (fun h => hb (by simp [h])) e
  self := fun _ _ _ _ st hQ => let ⟨_, h1, _⟩ := st.1; pyIter_setiter h1 hQ
theorem set_src {a : Addr} {o : Obj} {es : Array (Int × Value)} {ep : Nat} {t : SetTable} {l : List Nat} (hex : o.ExactSet) (hd : o.data = .set es ep t) (hf : t.fits es.size = true) (hp : t.plain = true) (hw : walkOK t = true) (hled : t.led = !bt w)
    (hes : ∀ e ∈ es.toList, ∃ (n : Nat) (u : Tok), n ∈ l ∧ e = (hashInt n, .int n u)) : KdlSrc prog w "set" a a es.size (fun _ v => ∃ (n : Nat) (u : Tok), n ∈ l ∧ v = .int n u) (fun h => h.get? a = some o) where
  type := fun _ hm => ⟨o, hm, hex.1⟩
  there := fun _ hm => ⟨Heap.lt_size hm, Heap.lt_size hm⟩
  keep := fun _ _ hm hk => hk a (.inl rfl) o hm
  notList := by decide
  notTuple := by decide
  hint := fun _ _ _ _ hm hq => set_hint ⟨o, hm, hex.1⟩ hq
  iter := fun _ s hh hm => ⟨_, _, (fun _ _ hq => pyIter_set hm hex hd hf hp hq), set_walks hh (Nat.ne_of_lt (Heap.lt_size hm)) hd hf hp hw hled hes, ⟨⟨0, ⟨_, Heap.get?_push_size _ rfl, rfl, rfl⟩, .inr rfl⟩, Heap.get?_push_of_some _ hm⟩⟩
end
end
end Mine
namespace Mine
section
open PySem PySem.Calls
set_option maxRecDepth 100000
theorem ints_ex : ∀ {vs : List Value}, (∀ v ∈ vs, ∃ (n : Int) (t : Tok), v = .int n t) → ∃ ns, IntsAre vs ns ∧ ns.length = vs.length
  | [], _ => ⟨[], .nil, rfl⟩
  | v :: r, h => by
    obtain ⟨n, t, rfl⟩ := h v (.head _)
    obtain ⟨ns, h1, h2⟩ := ints_ex (vs := r) fun x hx => h x (.tail _ hx)
    exact ⟨n :: ns, .cons n t h1, by simp [h2]⟩
section
variable {prog : Program} {w : World} {K : Frag} {A : Around} {T : Heap} {Z : Zed} {g : Heap} {L : Addr} {m : List (Str × Value)} {mu : List (Addr × Obj)} {s : Shared} {E : Value → Shared → Prop}
theorem r_sortInts {D : Addr} {vs : List Value} {ns : List Int} {n i : Nat} {Q : Value → Shared → Prop} (H : At T Z g L m mu s) (hi : mu[i]? = some (D, LO vs n)) (hI : IntsAre vs ns) (h64 : ns.length < 64)
    (h : ∀ vs' n' s', At T Z g L m (mu.set i (D, LO vs' n')) s' → Q .none s') : wpAny (model prog w) A (call (.builtin "list.sort") [.ref D]) Q E s := by
  have hm := H.mus _ (List.mem_of_getElem? hi)
  obtain ⟨mr, hn, hr⟩ := H.ns
  have F : Fr {} L s.heap mr := ⟨hn, fun b o e => by simp [Heap.get?] at e, Nat.zero_le _⟩
  have e0 : ∀ a : Addr, Heap.get? {} a = none := fun a => by simp [Heap.get?]
  have N : News {} L s.heap ((D, listOf vs.toArray n) :: objs L D s.heap) := by
    intro p hp
    rcases List.mem_cons.mp hp with rfl | hp
    · exact ⟨hm.1, hm.2.1, e0 _⟩
    · have := mem_objs.mp hp
      exact ⟨this.1, this.2.1, e0 _⟩
  refine ksk_lsort (news' := fun o => (D, o) :: objs L D s.heap) (vs := vs) F N (fun o => .head fun p hp => (mem_objs.mp hp).2.2) (by simp) hI h64 fun vs' ns' c h' F' N' _ _ _ _ _ => ?_
  refine h vs' c { s with heap := h' } (H.turn2 (t := s.toks) hi (N' _ (.head _)).1 (fun a y hL hd e => (N' (a, y) (.tail _ (mem_objs.mpr ⟨e, hL, hd⟩))).1) fun mr' hn' => ?_)
  have : mr' = mr := by
    obtain ⟨o, es, ep, ho, hd, hks, hf⟩ := hn
    obtain ⟨o', es', ep', ho', hd', hks', hf'⟩ := hn'
    rw [ho] at ho'; cases ho'
    rw [hd] at hd'; cases hd'
    funext y
    rw [← hf y, ← hf' y]
  rw [this]; exact F'.ns

theorem r_sortedSet {a : Addr} {o : Obj} {l : List Nat} {i : Nat} {Q : Value → Shared → Prop} (R : Room A 0) (H : At T Z g L m mu s) (hi : mu[i]? = some (a, o)) (hS : SetN (bt w) o l) (hok : tabOK l (!bt w) = true) (hl : l.length ≤ 10)
    (h : ∀ D vs n s', At T Z g L m (mu ++ [(D, LO vs n)]) s' → Q (.ref D) s') : wpAny (model prog w) A (call (.builtin "sorted") [.ref a]) Q E s := by
  have hm := H.mus _ (List.mem_of_getElem? hi)
  obtain ⟨es, ep, hex, hd, he1, hsz, he2⟩ := hS
  have hf := fits_of_ok hok
  rw [← hsz] at hf
  unfold tabOK at hok
  simp only [Bool.and_eq_true, beq_iff_eq] at hok
  have K := set_src (prog := prog) (w := w) (a := a) hex hd hf hok.1.1.2 hok.1.1.1.2 hok.1.2 he1
  refine call_function_entry kind_sorted plain_sorted entry_sorted (args_sorted1 _) ?_
  unfold Builtin.«sorted»
  refine wpAny_bind (m := checkCount "sorted" 1 1 _) (wpAny_pure ?_)
  refine wpAny_bind (kdu_collect (A := A.in1) K R.handled hm.1 (by rw [sizeLine_eq]; omega) fun h' tk acc hk hacc => ?_)
  have hlen : acc.toList.length = es.size := by rw [Array.length_toList]; exact hacc.1
  obtain ⟨ns, hI, hns⟩ := ints_ex (vs := acc.toList) fun v hv => by
    obtain ⟨j, hj⟩ := List.mem_iff_getElem?.mp hv
    obtain ⟨n, u, _, e⟩ := hacc.2 j v (by rw [← Array.getElem?_toList]; exact hj)
    exact ⟨n, u, e⟩
  have H1 := H.stay (s' := { s with heap := h', toks := tk }) hk rfl rfl
  refine wpAny_bind (wpAny_newList ?_ (by show _ ≤ 2 ^ 24; omega))
  have H2 := H1.push (LO acc.toList 0) rfl
  refine wpAny_bind (wpAny_holding ?_)
  refine r_sortInts (i := mu.length) (n := 0) H2 (by simp) hI (by omega) fun vs' n' s' H3 => ?_
  rw [List.set_append_right _ _ (Nat.le_refl _)] at H3
  simp only [Nat.sub_self, List.set_cons_zero] at H3
  exact wpAny_pure ⟨_, rfl, h _ _ _ _ H3⟩

theorem kds_of_codeIn {K : Frag} {cd : Value} {q : Str} (e : codeIn K cd q = true) : kdsCode K cd = true := by
  unfold codeIn at e
  unfold kdsCode
  split at e
  · split at e
    · rename_i h; simp only [h]
    · cases e
  · cases e
theorem newSet_bt {Q : Value → Shared → Prop} (H : At T Z g L m mu s) (h : ∀ d o s', SetN (bt w) o [] → At T Z g L m (mu ++ [(d, o)]) s' → Q (.ref d) s') : wpAny (model prog w) A (newSet (.type "set")) Q E s := by
  unfold newSet setsByText
  refine wpAny_bind (wpAny_bind (wpAny_askSetting (wpAny_pure ?_)))
  dsimp only
  simp only [newObj]
  exact wpAny_bind (wpAny_alloc (wpAny_pure (h _ _ _ ⟨#[], 0, ⟨rfl, rfl, rfl⟩, rfl, fun e he => by simp at he, rfl, fun n hn => by simp at hn⟩ (H.push _ rfl))))
theorem setAdd_small {a : Addr} {o : Obj} {l : List Nat} {i x : Nat} {tx : Tok} {Q : Bool → Shared → Prop} (H : At T Z g L m mu s) (hi : mu[i]? = some (a, o)) (hS : SetN (bt w) o l) (hok : tabOK l (!bt w) = true) (hl : l.length ≤ 10)
    (hold : x ∈ l → ∀ s', At T Z g L m mu s' → Q false s') (hst : x ∉ l → stepOK l (!bt w) x = true)
    (hnew : x ∉ l → ∀ o' s', SetN (bt w) o' (l ++ [x]) → At T Z g L m (mu.set i (a, o')) s' → Q true s') : wpAny (model prog w) A (setAdd a (.int x tx)) Q E s := by
  have hm := H.mus _ (List.mem_of_getElem? hi)
  unfold setAdd
  refine wpAny_holding ?_
  refine wpAny_bind ((intKind prog w).pyHash (k := (x : Int)) (by simp [intKind, Value.isInt]) ?_)
  refine setAddHashed_small (s := { s with toks := s.toks + 1 }) hm.1 hS hok hl (fun hx => hold hx _ (H.tok _)) hst fun hx h' o' hsb ho' hS' => ?_
  exact hnew hx o' _ hS' (H.turn hi ho' fun b x hb e => (hsb.2 b hb).trans e)
theorem r_addSet {a : Addr} {o : Obj} {l : List Nat} {i x : Nat} {tx : Tok} {Q : Value → Shared → Prop} (H : At T Z g L m mu s) (hi : mu[i]? = some (a, o)) (hS : SetN (bt w) o l) (hok : tabOK l (!bt w) = true) (hl : l.length ≤ 10)
    (hold : x ∈ l → ∀ s', At T Z g L m mu s' → Q .none s') (hst : x ∉ l → stepOK l (!bt w) x = true)
    (hnew : x ∉ l → ∀ o' s', SetN (bt w) o' (l ++ [x]) → At T Z g L m (mu.set i (a, o')) s' → Q .none s') : wpAny (model prog w) A (call (.builtin "set.add") [.ref a, .int x tx]) Q E s := by
  have hm := H.mus _ (List.mem_of_getElem? hi)
  refine call_add_small hm.1 hS hok hl (fun hx => hold hx _ (H.tok _)) hst fun hx h' o' hsb ho' hS' => ?_
  exact hnew hx o' _ hS' (H.turn hi ho' fun b x hb e => (hsb.2 b hb).trans e)
theorem r_setDisplay0 {env : Env} {k : Nat} {p pos : Pos} {Q : Value → Shared → Prop} (TF : TopF K T) (H : At T Z g L m mu s) (hc : kdsCode K env.code = true)
    (h : ∀ d o s', SetN (bt w) o [0] → At T Z g L m (mu ++ [(d, o)]) s' → Q (.ref d) s') : wpAny (model prog w) A (eval (.Set [.Constant (.int 0) k p] 0 pos) env) Q E s := by
  rw [arm_eval_Set]
  refine wpAny_bind (wpAny_standAt ?_)
  refine wpAny_bind (kds_main (TF.inS H) hc fun b => ?_)
  rw [kds_star _ rfl, List.map_map]
  unfold setDisplay
  rw [if_neg (show ¬ ((displayRoad 0 [Expr.Constant (Const.int 0) k p] == DisplayRoad.constants) = true) from Bool.false_ne_true)]
  refine wpAny_bind (newSet_bt H fun d o s' hS H' => ?_)
  dsimp only
  refine wpAny_bind (wpAny_holding ?_)
  refine wpAny_bind (kds_all (env := env) pos [.Constant (.int 0) k p] s' _ ?_)
  refine r_int H' fun t s1 H1 => ?_
  unfold KdsAll
  dsimp only
  refine wpAny_bind (wpAny_holding ?_)
  rw [List.forIn_cons]
  refine wpAny_bind (wpAny_bind (wpAny_bind ?_))
  have hlen : mu.length < (mu ++ [(d, o)]).length := by simp
  refine setAdd_small (i := mu.length) (x := 0) H1 (by simp) hS (tab0 _) (by simp) (fun hx => by simp at hx) (fun _ => step1 _) fun _ o' s2 hS2 H2 => ?_
  rw [List.set_append_right _ _ (Nat.le_refl _)] at H2
  simp only [Nat.sub_self, List.set_cons_zero] at H2
  refine wpAny_pure ?_
  dsimp only
  rw [List.forIn_nil]
  refine wpAny_pure ?_
  rw [if_neg (show ¬ ((displayRoad 0 [Expr.Constant (Const.int 0) k p] == DisplayRoad.unsure) = true) from Bool.false_ne_true)]
  refine wpAny_pure ?_
  refine wpAny_bind (show wpAny _ _ (pure PUnit.unit) _ _ _ from wpAny_pure ?_)
  exact wpAny_pure (wpAny_pure (h _ _ _ hS2 H2))
end
end
end Mine
namespace Mine
section
variable {prog : Program} {w : World} {K : Frag} {A : Around} {T : Heap} {Z : Zed} {g : Heap} {L : Addr} {m : List (Str × Value)} {mu : List (Addr × Obj)} {s : Shared} {E : Value → Shared → Prop}
set_option maxHeartbeats 1000000
set_option maxRecDepth 100000
theorem enterI {d : Addr} {ob : Obj} {f : Addr} {name : Str} {params : Arguments} {bd : List Stmt} {scope : Scope} {od : Option DefInfo} {qual : Str} {dV : Value} {vals : List Value} (binds : List (Str × Value)) {Rr : Result → Shared → Prop} {n : Nat}
    (TF : TopF K T) (FI : FnIs K f od qual dV) (hd : od = some ⟨name, params, bd, scope⟩) (H : At T Z g L m ((d, ob) :: mu) s) (R : Room A (n + 1))
    (hbind : ∀ doc pm an cdv ct, BindsTo s (fnOf name qual params bd scope dV .none doc pm an cdv ct) ⟨vals, []⟩ binds)
    (hloc : (binds.all fun x => decide (scope.names.lookup x.1 = some .local)) = true) (hcell : ∀ x ∈ scope.names, x.2 ≠ .cell)
    (hco : scope.isCoroutine = false) (hgen : scope.isGenerator = false) (hk : scope.kind = .function)
    (body : ∀ cdv L' s₁, kdsCode K cdv = true → At T (Zed.into [(d, ob)] g s) g L' binds.reverse [(d, ob)] s₁ →
      (∀ g' m' ob' mu' s', At T (Zed.into [(d, ob)] g s) g' L' m' ((d, ob') :: mu') s' → At T Z g' L m ((d, ob') :: mu) s') → Room (A.deeper (envOf qual scope L' f cdv)) n →
      wpAny (model prog w) (A.deeper (envOf qual scope L' f cdv)) (execs bd (envOf qual scope L' f cdv)) (fun fl s' => Rr (.ok (.ret (match fl with | .ret v => v | _ => .none))) s') noE s₁) :
    codeAny (model prog w) A (.call (.ref f) ⟨vals, []⟩) Rr s := by
  subst hd
  obtain ⟨oc, odd, osl, doc, pm, an, cdv, ct, hl, hc⟩ := FI
  have XS := TF.inS H
  refine codeAny_call_def (fd := fnOf name qual params bd scope dV .none doc pm an cdv ct) (body := bd) (binds := binds) R.lim (XS _ _ hl) rfl (TF.nolimit.keeps H.top) (codeRec_of XS hc) rfl (hbind doc pm an cdv ct) hcell (locs hloc) (fun h₁ hns hk₁ => ?_) hco hgen hk
  have H₁ := At.into (lent := [(d, ob)]) H (L' := s.heap.objs.size) (h' := h₁) (m' := binds.reverse) (t := s.toks + binds.length) (get_none_of_ge (Nat.le_refl _)) hk₁ ⟨_, hns, fun _ _ e => e⟩
  refine wpAny_mono (body cdv _ _ (kds_of_codeIn hc) H₁ (fun g' m' ob' mu' s' H' => At.back (lent := [(d, ob)]) (lent' := [(d, ob')]) H H' rfl) (R.deeper _)) (fun _ _ h => h) fun _ _ h => h.elim
theorem gen_dict {dx : Addr} {es : List DictEntry} {n : Nat} (H : At T Z g L m ((dx, dictOf es n) :: mu) s) {P : Prop} (k : ∀ es' n', es' = es → n' = n → At T Z g L m ((dx, dictOf es' n') :: mu) s → P) : P := k es n rfl rfl H
theorem At.attr0 {dx x C : Addr} {es : List DictEntry} {n : Nat} {name : Str} {v : Value} (H : At T Z g L m ((dx, dictOf es n) :: mu) s) (hx : g.get? x = some (instObj C dx)) (h : getL name es = some (some v)) : HasAttr s.heap C x name v := ⟨dx, es, n, H.gh _ _ hx, (H.mus _ (.head _)).1, h⟩
theorem placeOf_succ {os : List Ord} {i : Nat} {o : Ord} (h : os[i]? = some o) : placeOf os (i + 1) = placeOf os i + o.slots := by
  unfold placeOf
  rw [List.take_add_one, h]
  simp
theorem slots_pos (o : Ord) : 1 ≤ o.slots := by unfold Ord.slots; split <;> decide
theorem tab_of_step {l l' : List Nat} {led : Bool} {x : Nat} (h : stepOK l led x = true) (e : l ++ [x] = l') : tabOK l' led = true := by
  subst e
  unfold stepOK at h
  rw [Bool.and_eq_true] at h
  exact h.2
theorem nodup_sub : ∀ {l B : List Nat}, l.Nodup → (∀ b ∈ l, b ∈ B) → l.length ≤ B.length
  | [], _, _, _ => Nat.zero_le _
  | a :: r, B, nd, h => by
    have ha := h a (.head _)
    have := nodup_sub (l := r) (B := B.erase a) (List.nodup_cons.mp nd).2 fun b hb => by
      have hne : b ≠ a := fun e => (List.nodup_cons.mp nd).1 (e ▸ hb)
      exact (List.mem_erase_of_ne hne).mpr (h b (.tail _ hb))
    rw [List.length_erase_of_mem ha] at this
    have := List.length_pos_of_mem ha
    simp only [List.length_cons]
    omega
theorem set_facts {l B r : List Nat} (hl : l = 0 :: r) (nd : l.Nodup) (sub : ∀ b ∈ l, b ∈ B) (hB : B.length ≤ 3) (hB3 : ∀ b ∈ B, b < 22) (led : Bool) : tabOK l led = true ∧ ∀ x ∈ B, x ∉ l → stepOK l led x = true := by
  have hlen := nodup_sub nd sub
  subst hl
  cases r with
  | nil => exact ⟨tab_of_step (step1 led) rfl, fun x hx hn => step2 led x (hB3 x hx) (fun e => hn (by rw [e]; exact .head _))⟩
  | cons a r =>
    have ha3 := hB3 a (sub a (.tail _ (.head _)))
    have ha : a ≠ 0 := fun e => (List.nodup_cons.mp nd).1 (by rw [e]; exact .head _)
    cases r with
    | nil => exact ⟨tab_of_step (step2 led a ha3 ha) rfl, fun x hx hn => step3 led a ha3 x (hB3 x hx) ha (fun e => hn (by rw [e]; exact .head _)) (fun e => hn (by rw [e]; exact .tail _ (.head _)))⟩
    | cons b r =>
      have hb3 := hB3 b (sub b (.tail _ (.tail _ (.head _))))
      have hb : b ≠ 0 := fun e => (List.nodup_cons.mp nd).1 (by rw [e]; exact .tail _ (.head _))
      have hba : b ≠ a := fun e => (List.nodup_cons.mp (List.nodup_cons.mp nd).2).1 (by rw [e]; exact .head _)
      cases r with
      | nil =>
        refine ⟨tab_of_step (step3 led a ha3 b hb3 ha hb hba) rfl, fun x hx hn => ?_⟩
        have := nodup_sub (l := x :: [0, a, b]) (B := B) (List.nodup_cons.mpr ⟨hn, nd⟩) (fun y hy => by
          rcases List.mem_cons.mp hy with e | hy
          · rw [e]; exact hx
          · exact sub y hy)
        simp only [List.length_cons, List.length_nil] at this
        omega
      | cons c r => simp only [List.length_cons] at hlen; omega
theorem slots_wide {o : Ord} (h : o.isWide = true) : o.slots = 2 := by unfold Ord.slots; rw [if_pos (by simpa [Ord.isWide] using h)]
theorem slots_thin {o : Ord} (h : ¬ o.isWide = true) : o.slots = 1 := by unfold Ord.slots; rw [if_neg (by simpa [Ord.isWide] using h)]
theorem placeOf_lt {os : List Ord} {i j : Nat} (hij : i < j) (hj : j ≤ os.length) : placeOf os i < placeOf os j := by
  induction j with
  | zero => omega
  | succ j ih =>
    have e : os[j]? = some os[j] := List.getElem?_eq_getElem (by omega)
    rw [placeOf_succ e]
    have := slots_pos os[j]
    rcases Nat.lt_or_eq_of_le (Nat.le_of_lt_succ hij) with h | rfl
    · have := ih h (by omega); omega
    · omega
theorem r_methAdd {a : Addr} {o : Obj} {l : List Nat} {pl : Sem Bool} {Q : Value × List Value → Shared → Prop} (ho : s.heap.get? a = some o) (hS : SetN (bt w) o l) (hok : tabOK l (!bt w) = true) (hl : l.length ≤ 10) (h : Q (.builtin "set.add", [.ref a]) s) :
    wpAny (model prog w) A (getMethod (.ref a) "add" pl) Q E s := by
  obtain ⟨es, ep, hex, hd, he1, hsz, he2⟩ := hS
  have hf := fits_of_ok hok
  rw [← hsz] at hf
  refine getMethod_set_add (knd := intKind prog w) (S := fun k => es.toList.any fun e => (intKind prog w).is k e.2) ⟨o, es, ep, _, ho, hex, hd, elems_of (bt := bt w) he1, fun k => ?_, ?_, hf, rfl⟩ h
  · rw [List.any_eq_true]
  · show _ < 4096; omega
theorem Program_init {ol x dx : Addr} {ovs : List Value} {os : List Ord} {B : List Nat} {Rr : Result → Shared → Prop} (TF : TopF K T) (H : At T Z g L m ((dx, dictOf [] 0) :: mu) s) (R : Room A 4) (hx : g.get? x = some (instObj 348 dx)) (hl : IsListV g ol ovs) (hv : OrdsAt g ovs (os.map some))
    (hz : os.length ≤ 100) (hB : B.length ≤ 3) (hB0 : 0 ∈ B) (hB3 : ∀ b ∈ B, b < 22) (hcall : ∀ i j, i < os.length → (os[i]?.map Ord.isLCall) = some true → j < os.length → goalSlot os i = placeOf os j → j ∈ B)
    (h : ∀ g' s', g.StaysIn g' → ProgH g' x os → At T Z g' L m mu s' → Rr (.ok (.ret .none)) s') : codeAny (model prog w) A (.call (.ref 303) ⟨[.ref x, .ref ol], []⟩) Rr s := by
  refine enterI [("self", .ref x), ("orders", .ref ol)] TF (show FnIs K 303 (methAt 47 0) "Program.__init__" .none from TF.fns 39 _ rfl) rfl H R (fun _ _ _ _ _ => BindsTo.of_eq rfl) (by rfl) (by decide) rfl rfl rfl ?_
  clear H R
  intro cdv L s hcd H back R
  generalize Zed.into _ g _ = Z' at *
  have hvl := hv.1
  rw [List.length_map] at hvl
  refine wpAny_execs_cons ?_
  refine plainObj_wpAny_Assign_Attribute ?_
  repeat' walk_at "y"
  refine r_list H (hasG hl) (by omega) ?_
  clear H; intro l' n1 s H
  simp only [List.cons_append, List.nil_append] at H
  repeat' walk_at "y"
  refine r_setA (i := 0) TF TF.program H hx rfl (by decide) (by rfl) (fun _ _ => Nat.le_of_ble_eq_true rfl) ?_
  clear H; intro t s H; simp only [List.set_cons_zero] at H
  try dsimp only
  refine wpAny_execs_cons ?_
  refine plainObj_wpAny_Assign_Attribute ?_
  repeat' walk_at "y"
  refine r_newList H (by decide) ?_
  clear H; intro sl s H
  simp only [List.cons_append, List.nil_append] at H
  repeat' walk_at "y"
  refine r_setA (i := 0) TF TF.program H hx rfl (by decide) (by rfl) (fun _ _ => Nat.le_of_ble_eq_true rfl) ?_
  clear H; intro t s H; simp only [List.set_cons_zero] at H
  try dsimp only
  refine wpAny_execs_cons ?_
  refine plainObj_wpAny_Assign_Attribute ?_
  refine r_newDict H ?_
  clear H; intro bd bo s M H
  simp only [List.cons_append, List.nil_append] at H
  repeat' walk_at "y"
  refine r_setA (i := 0) TF TF.program H hx rfl (by decide) (by rfl) (fun _ _ => Nat.le_of_ble_eq_true rfl) ?_
  clear H; intro t s H; simp only [List.set_cons_zero] at H
  try dsimp only
  refine gen_dict H ?_
  clear H; intro es n he hn H
  have f1 : getL "orders" es = some (some (.ref l')) := by rw [he]; rfl
  have f2 : getL "slots" es = some (some (.ref sl)) := by rw [he]; rfl
  have f3 : getL "by_slot" es = some (some (.ref bd)) := by rw [he]; rfl
  repeat' walk_at "y"
  refine r_attrH TF TF.program H (H.attr0 hx f1) (by decide) rfl ?_
  clear H; intro s H
  repeat' walk_at "y"
  refine r_len H (hasM 1 rfl) (by omega) ?_
  clear H; intro t1 s H
  repeat' walk_at "y"
  refine r_range1 H ?_
  clear H; intro r t2 t3 t4 s H hrng
  refine for_range0 (fun i g₁ m₁ mu₁ => ∃ t svs n' bo' fb, m₁ = ([("self", .ref x), ("slot", .int (placeOf os i) t)] : Loc) ∧ mu₁ = [(dx, dictOf es n), (l', LO ovs n1), (sl, LO svs n'), (bd, bo')] ∧ g = g₁ ∧ IntsAre svs ((List.range i).map (placeOf os)) ∧ MapObj bo' fb i ∧
    (∀ k, k < i → ∃ t, fb (placeOf os k) = some (.int k t)) ∧ (∀ key v, fb key = some v → ∃ (k : Nat) (t : Tok), k < i ∧ key = placeOf os k ∧ v = .int k t)) (R.less (by decide)) (H.know (m' := [("self", .ref x), ("slot", .int 0 _)]) (by walk_at "k")) hrng (by omega) (by omega)
    ⟨_, _, _, _, _, rfl, rfl, rfl, .nil, M, (fun _ h => nomatch h), (fun _ _ h => nomatch h)⟩ ?_ ?_
  · clear H hrng M
    rintro i t5 Z₁ g₁ m₁ mu₁ s hi ⟨ts, svs, n', bo', fb, rfl, rfl, rfl, hsv, M, hfb1, hfb2⟩ _ kg H out
    refine gen_post fun PP hPP => ?_
    have hil : i < os.length := by omega
    have hsl := hsv.length
    simp at hsl
    repeat' walk_at "y"
    refine r_attrH TF TF.program H (H.attr0 hx f2) (by decide) rfl ?_
    clear H; intro s H
    repeat' walk_at "y"
    refine r_meth H (hasM 2 rfl) ?_
    try dsimp only
    repeat' walk_at "y"
    refine r_append (i := 2) H rfl (by omega) ?_
    clear H; intro n'' s H
    simp only [List.set_cons_succ, List.set_cons_zero] at H
    repeat' walk_at "y"
    refine r_attrH TF TF.program H (H.attr0 hx f3) (by decide) rfl ?_
    clear H; intro s H
    repeat' walk_at "y"
    refine r_setDict (i := 3) H rfl M (by omega) ?_
    clear H; intro bo2 s M2 H
    simp only [List.set_cons_succ, List.set_cons_zero] at H
    repeat' walk_at "y"
    refine r_attrH TF TF.program H (H.attr0 hx f1) (by decide) rfl ?_
    clear H; intro s H
    repeat' walk_at "y"
    obtain ⟨o, xo, ho, hov, hO⟩ : ∃ o y, os[i]? = some o ∧ ovs[i]? = some (.ref y) ∧ IsOrder g y o := by
      have e : os[i]? = some os[i] := List.getElem?_eq_getElem hil
      obtain ⟨y, hy⟩ := hv.2 i (some os[i]) (by simp [e])
      exact ⟨_, y, e, hy⟩
    refine r_item H (hasM 1 rfl) (by omega) (by omega) (v := .ref xo) (by simpa using hov) ?_
    repeat' walk_at "y"
    all_goals
      first
      | rw [show placeOf os i + 2 = placeOf os (i + 1) from by rw [placeOf_succ ho, slots_wide hc]] at H
      | rw [show placeOf os i + 1 = placeOf os (i + 1) from by rw [placeOf_succ ho, slots_thin hc]] at H
      refine tpn hPP ⟨_, _, _, H.know (m' := [("self", .ref x), ("slot", .int _ _)]) (by walk_at "k"), rfl, _, _, _, _, _, rfl, rfl, rfl, ?_, M2, ?_, ?_⟩
      · rw [List.range_succ, List.map_append]; exact ints_snoc hsv
      · intro k hk
        rcases Nat.lt_or_eq_of_le (Nat.le_of_lt_succ hk) with hk | rfl
        · rw [if_neg (Int.ne_of_lt (placeOf_lt hk (by omega)))]; exact hfb1 k hk
        · exact ⟨_, if_pos rfl⟩
      · intro key v hkv
        try dsimp only at hkv
        split at hkv
        · rename_i hq
          cases hkv
          exact ⟨i, _, Nat.lt_succ_self _, hq, rfl⟩
        · obtain ⟨k, t, h1, h2, h3⟩ := hfb2 key v hkv
          exact ⟨k, t, by omega, h2, h3⟩
  · rintro g₁ m₁ mu₁ s ⟨ts, svs, n', bo', fb, rfl, rfl, rfl, hsv, M, hfb1, hfb2⟩ _ H
    have hln : ((ovs.length : Nat) : Int).toNat = os.length := by omega
    rw [hln] at H hsv M hfb1 hfb2
    subst he hn
    refine r_sn (by assumption) ?_
    refine wpAny_execs_cons ?_
    refine plainObj_wpAny_Assign_Attribute ?_
    repeat' walk_at "y"
    refine r_setA (i := 0) TF TF.program H hx rfl (by decide) (by rfl) (fun _ _ => Nat.le_of_ble_eq_true rfl) ?_
    clear H; intro t s H; simp only [List.set_cons_zero] at H
    try dsimp only
    refine gen_dict H ?_
    clear H; intro es n he hn H
    replace f1 : getL "orders" es = some (some (.ref l')) := by rw [he]; rfl
    replace f2 : getL "slots" es = some (some (.ref sl)) := by rw [he]; rfl
    replace f3 : getL "by_slot" es = some (some (.ref bd)) := by rw [he]; rfl
    have f4 : getL "many_slots" es = some (some (.int (placeOf os os.length) ts)) := by rw [he]; rfl
    have f5 : getL "goal_slot" es = some none ∧ getL "target" es = some none ∧ getL "count" es = some none := by rw [he]; exact ⟨rfl, rfl, rfl⟩
    have hP : ∀ {Z' g' m' mu' s'}, At T Z' g' L m' ((dx, dictOf es n) :: (l', LO ovs n1) :: (sl, LO svs n') :: (bd, bo') :: mu') s' → g.StaysIn g' → ProgH s'.heap x os := fun H' k =>
      ⟨dx, es, n, l', sl, bd, ovs, svs, bo', fb, os.length, ts, H'.gh _ _ (k _ _ hx), (H'.mus _ (.head _)).1, f1, f2, f3, f4, f5, ⟨n1, (H'.mus _ (.tail _ (.head _))).1⟩, hv.mono (stays_trans k H'.gh), ⟨n', (H'.mus _ (.tail _ (.tail _ (.head _)))).1⟩, hsv,
        (H'.mus _ (.tail _ (.tail _ (.tail _ (.head _))))).1, M, hfb1, fun key v e => by obtain ⟨k, t, h1, h2, h3⟩ := hfb2 key v e; exact ⟨k, t, h1, h3⟩⟩
    repeat' walk_at "y"
    refine r_setDisplay0 TF H hcd ?_
    clear H; intro st so s hS H
    simp only [List.cons_append, List.nil_append] at H
    repeat' walk_at "y"
    refine r_attrH TF TF.program H (H.attr0 hx f1) (by decide) rfl ?_
    clear H; intro s H
    repeat' walk_at "y"
    refine r_len H (hasM 1 rfl) (by omega) ?_
    clear H; intro t1 s H
    repeat' walk_at "y"
    refine r_range1 H ?_
    clear H; intro r t2 t3 t4 s H hrng
    refine for_range0 (fun i g₁ m₁ mu₁ => ∃ so' l, m₁ = ([("self", .ref x), ("begins", .ref st)] : Loc) ∧ mu₁ = [(dx, dictOf es n), (l', LO ovs n1), (sl, LO svs n'), (bd, bo'), (st, so')] ∧ g = g₁ ∧ SetN (bt w) so' l ∧ l.Nodup ∧ (∃ r, l = 0 :: r) ∧ (∀ b ∈ l, b ∈ B)) (R.less (by decide)) (H.know (m' := [("self", .ref x), ("begins", .ref st)]) (by walk_at "k")) hrng (by omega) (by omega)
      ⟨_, _, rfl, rfl, rfl, hS, by decide, ⟨[], rfl⟩, by simpa using hB0⟩ ?_ ?_
    · clear H hrng hS
      rintro i t5 Z₁ g₁ m₁ mu₁ s hi ⟨so', l, rfl, rfl, rfl, hS, nd, hl0, hsub⟩ _ kg H out
      refine gen_post fun PP hPP => ?_
      have hil : i < os.length := by omega
      obtain ⟨r0, hr0⟩ := hl0
      obtain ⟨hok, hstep⟩ := set_facts hr0 nd hsub hB hB3 (!bt w)
      have hll := nodup_sub nd hsub
      have keep : ∀ s, At T Z₁ g L [("self", .ref x), ("begins", .ref st)] [(dx, dictOf es n), (l', LO ovs n1), (sl, LO svs n'), (bd, bo'), (st, so')] s →
          TurnEnd T Z₁ L [dx, l', sl, bd, st] (fun g₁ m₁ mu₁ => ∃ so' l, m₁ = ([("self", .ref x), ("begins", .ref st)] : Loc) ∧ mu₁ = [(dx, dictOf es n), (l', LO ovs n1), (sl, LO svs n'), (bd, bo'), (st, so')] ∧ g = g₁ ∧ SetN (bt w) so' l ∧ l.Nodup ∧ (∃ r, l = 0 :: r) ∧ (∀ b ∈ l, b ∈ B)) s := fun s H =>
        ⟨_, _, _, H, rfl, so', l, rfl, rfl, rfl, hS, nd, ⟨r0, hr0⟩, hsub⟩
      repeat' walk_at "y"
      refine r_attrH TF TF.program H (H.attr0 hx f1) (by decide) rfl ?_
      clear H; intro s H
      repeat' walk_at "y"
      obtain ⟨o, xo, ho, hov, hO⟩ : ∃ o y, os[i]? = some o ∧ ovs[i]? = some (.ref y) ∧ IsOrder g y o := by
        have e : os[i]? = some os[i] := List.getElem?_eq_getElem hil
        obtain ⟨y, hy⟩ := hv.2 i (some os[i]) (by simp [e])
        exact ⟨_, y, e, hy⟩
      refine r_item H (hasM 1 rfl) (by omega) (by omega) (v := .ref xo) (by simpa using hov) ?_
      repeat' walk_at "y"
      · refine r_methH TF TF.program H (H.gh _ _ hx) (H.mus _ (.head _)).1 (f := 317) (by decide) f5.1 ?_
        try dsimp only
        repeat' walk_at "y"
        refine goal_slot_spec TF H (R.less (by decide)) (hP H (stays_refl _)) hil (by omega) ?_
        clear H; intro t6 s H
        repeat' walk_at "y"
        refine r_attrH TF TF.program H (H.attr0 hx f3) (by decide) rfl ?_
        clear H; intro s H
        refine r_inDict H (H.mus _ (.tail _ (.tail _ (.tail _ (.head _))))).1 M ?_
        clear H; intro s H
        repeat' walk_at "y"
        · obtain ⟨v, hv1⟩ := Option.isSome_iff_exists.mp hc
          obtain ⟨j, tj, hj, hkey, rfl⟩ := hfb2 _ _ hv1
          have hjB : j ∈ B := hcall i j hil (by rw [ho]; simp [*]) hj hkey
          refine r_methAdd (H.mus _ (.tail _ (.tail _ (.tail _ (.tail _ (.head _)))))).1 hS hok (by omega) ?_
          try dsimp only
          repeat' walk_at "y"
          refine r_attrH TF TF.program H (H.attr0 hx f3) (by decide) rfl ?_
          clear H; intro s H
          repeat' walk_at "y"
          refine r_methH TF TF.program H (H.gh _ _ hx) (H.mus _ (.head _)).1 (f := 317) (by decide) f5.1 ?_
          try dsimp only
          repeat' walk_at "y"
          refine goal_slot_spec TF H (R.less (by decide)) (hP H (stays_refl _)) hil (by omega) ?_
          clear H; intro t7 s H
          repeat' walk_at "y"
          refine r_getDict H (H.mus _ (.tail _ (.tail _ (.tail _ (.head _))))).1 M hv1 ?_
          clear H; intro s H
          repeat' walk_at "y"
          refine r_addSet (i := 4) H rfl hS hok (by omega) (fun _ => ?_) (hstep j hjB) fun hnl => ?_
          · clear H; intro s H
            repeat' walk_at "y"
            exact tpn hPP (keep _ (H.know (by walk_at "k")))
          · clear H; intro so2 s hS2 H
            simp only [List.set_cons_succ, List.set_cons_zero] at H
            repeat' walk_at "y"
            refine tpn hPP ⟨_, _, _, H.know (m' := [("self", .ref x), ("begins", .ref st)]) (by walk_at "k"), rfl, so2, l ++ [j], rfl, rfl, rfl, hS2, ?_, ⟨r0 ++ [j], by rw [hr0]; rfl⟩, ?_⟩
            · rw [List.nodup_append]
              exact ⟨nd, by simp, fun a ha b hb e => hnl (by rw [List.mem_singleton] at hb; rw [← hb, ← e]; exact ha)⟩
            · intro b hb
              rcases List.mem_append.mp hb with hb | hb
              · exact hsub b hb
              · rw [List.mem_singleton] at hb; rw [hb]; exact hjB
        · exact tpn hPP (keep _ (H.know (by walk_at "k")))
      · exact tpn hPP (keep _ (H.know (by walk_at "k")))
    · rintro g₁ m₁ mu₁ s ⟨so', l, rfl, rfl, rfl, hS, nd, ⟨r0, hr0⟩, hsub⟩ _ H
      obtain ⟨hok, hstep⟩ := set_facts hr0 nd hsub hB hB3 (!bt w)
      have hll := nodup_sub nd hsub
      subst he hn
      refine r_sn (by assumption) ?_
      refine wpAny_execs_cons ?_
      refine plainObj_wpAny_Assign_Attribute ?_
      repeat' walk_at "y"
      refine r_sortedSet (i := 4) (R.less (by decide)) H rfl hS hok (by omega) ?_
      clear H; intro sb svs2 n6 s H
      simp only [List.cons_append, List.nil_append] at H
      repeat' walk_at "y"
      refine r_setA (i := 0) TF TF.program H hx rfl (by decide) (by rfl) (fun _ _ => Nat.le_of_ble_eq_true rfl) ?_
      clear H; intro t s H; simp only [List.set_cons_zero] at H
      try dsimp only
      repeat' walk_at "y"
      obtain ⟨g1, k1, hg1, H1⟩ := At.freeze (mu := [(dx, _)]) H
      obtain ⟨g', k', hg', H'⟩ := At.freeze (mu := mu) ((back _ _ _ _ _ H1).perm (List.perm_append_comm (l₁ := [_])))
      have k2 := stays_trans k1 k'
      refine h g' _ k2 ⟨dx, _, _, l', sl, bd, ovs, svs, bo', fb, os.length, ts, k2 _ _ hx, hg' _ (.head _), rfl, rfl, rfl, rfl, ⟨rfl, rfl, rfl⟩, ⟨n1, k' _ _ (hg1 _ (.head _))⟩, hv.mono k2, ⟨n', k' _ _ (hg1 _ (.tail _ (.head _)))⟩, hsv,
        k' _ _ (hg1 _ (.tail _ (.tail _ (.head _)))), M, hfb1, fun key v e => by obtain ⟨k, t, h1, h2, h3⟩ := hfb2 key v e; exact ⟨k, t, h1, h3⟩⟩ H'
theorem Program_spec {ol : Addr} {ovs : List Value} {os : List Ord} {B : List Nat} {Q : Value → Shared → Prop} (TF : TopF K T) (H : At T Z g L m mu s) (R : Room A 5) (hl : IsListV g ol ovs) (hv : OrdsAt g ovs (os.map some))
    (hz : os.length ≤ 100) (hB : B.length ≤ 3) (hB0 : 0 ∈ B) (hB3 : ∀ b ∈ B, b < 22) (hcall : ∀ i j, i < os.length → (os[i]?.map Ord.isLCall) = some true → j < os.length → goalSlot os i = placeOf os j → j ∈ B)
    (h : ∀ x g' s', g.StaysIn g' → ProgH g' x os → At T Z g' L m mu s' → Q (.ref x) s') : wpAny (model prog w) A (call (.ref 348) [.ref ol]) Q E s := by
  refine r_new (n := 4) TF TF.program H R fun A' x dx g' s' R' k hx H' => ?_
  exact Program_init TF H' R' hx (hl.mono k) (hv.mono k) hz hB hB0 hB3 hcall fun g'' s'' k' O H'' => ⟨rfl, h _ _ _ (stays_trans k k') O H''⟩
end
end Mine
namespace Mine
section
variable {prog : Program} {w : World} {K : Frag} {A : Around} {T : Heap} {Z : Zed} {g : Heap} {L : Addr} {m : List (Str × Value)} {mu : List (Addr × Obj)} {s : Shared} {E : Value → Shared → Prop}
theorem loop_walksT {env : Env} {xi xv : Str} {pi pv pt : Pos} {kt : Nat} {body : List Stmt} {I : Addr} {fp wr : List Addr} {n : Nat} {Pt : Nat → Array Value → Prop} {St : Nat → Heap → Prop} {Mid : Nat → Addr → Heap → Prop} {Rr : Result → Shared → Prop} {Q : Flow → Shared → Prop}
    (J : Nat → Heap → List (Str × Value) → List (Addr × Obj) → Prop) (hL : env.locals = L) (hxi : env.kindOf xi = some .local) (hxv : env.kindOf xv = some .local) (hk : env.scope.kind = .function)
    (W : WalksT prog w A I fp wr n Pt St Mid) (hh : A.handled = none) (H : At T Z g L m mu s) (hst : St 0 s.heap) (live : ∀ i h, St i h → ∀ a ∈ wr, ∃ o, h.get? a = some o)
    (hw : ∀ a ∈ wr, a ≠ L ∧ a ∉ mu.map (·.1) ∧ g.get? a = none ∧ Z.b.get? a = none) (hfL : L ∉ fp) (hfm : ∀ a ∈ fp, a ∉ mu.map (·.1)) (h0 : J 0 g m mu) (h2 : ∀ i vals, Pt i vals → ∃ a b, vals = #[a, b])
    (turn : ∀ i a b Z₁ g₁ m₁ mu₁ s₁, i < n → Pt i #[a, b] → J i g₁ m₁ mu₁ → mu₁.map (·.1) = mu.map (·.1) → g.StaysIn g₁ → At T Z₁ g₁ L ((xv, b) :: (xi, a) :: m₁) mu₁ s₁ →
      (∀ g₂ m₂ mu₂ s₂, At T Z₁ g₂ L m₂ mu₂ s₂ → mu₂.map (·.1) = mu.map (·.1) → At T Z g₂ L m₂ mu₂ s₂) →
      wpAny (model prog w) A (execs body env) (TurnPost T Z₁ L (mu.map (·.1)) (J (i + 1)) Q) noE s₁)
    (done : ∀ g' m' mu' s', J n g' m' mu' → mu'.map (·.1) = mu.map (·.1) → At T Z g' L m' mu' s' → Q .next s') (hR : ∀ f s', Q f s' → Rr (.ok f) s') :
    codeAny (model prog w) A (.forLoop (.Tuple [.Name xi pi, .Name xv pv] kt pt) (.ref I) body [] env) Rr s := by
  subst hL
  refine codeAny_forLoop_any (fun k s' => ∃ i g' m' mu', At T Z g' env.locals m' mu' s' ∧ St i s'.heap ∧ J i g' m' mu' ∧ mu'.map (·.1) = mu.map (·.1) ∧ g.StaysIn g' ∧ (∀ a ∈ wr, g'.get? a = none) ∧ i ≤ n ∧ k = n + 1 - i) ?_ (n + 1)
    ⟨0, g, m, mu, H, hst, h0, rfl, stays_refl _, fun a ha => (hw a ha).2.2.1, Nat.zero_le _, rfl⟩
  rintro k s' ⟨i, g', m', mu', H', st', hJ, ad, kg, hwg, hi, rfl⟩
  have hw' : ∀ a ∈ wr, a ≠ env.locals ∧ a ∉ mu'.map (·.1) ∧ g'.get? a = none ∧ Z.b.get? a = none := fun a ha => ⟨(hw a ha).1, ad ▸ (hw a ha).2.1, hwg a ha, (hw a ha).2.2.2⟩
  by_cases hlt : i < n
  · refine W.item i _ _ _ hlt st' fun Tt vals h₁ tk₁ hP hge hT hMid hk₁ => ?_
    obtain ⟨a, b, rfl⟩ := h2 i vals hP
    have H₁ := H'.else_ (h' := h₁) (t := tk₁) (fun a o hn e => hk₁ a o hn e) hw'
    refine W.go _ _ _ i Tt _ _ _ hMid fun h₂ st₂ hk₂ => ?_
    have H₂ := H₁.else_ (h' := h₂) (t := tk₁) (fun a o hn e => hk₂ a o hn e) hw'
    have hT₂ : IsTup h₂ Tt #[a, b] := by
      obtain ⟨o, e, r⟩ := hT
      exact ⟨o, hk₂ _ _ (W.apart _ _ _ hMid) e, r⟩
    refine assign_Tuple_tuple hh hT₂ rfl rfl fun h₃ hx₃ => ?_
    have H₃ := H₂.extBut hx₃
    have st₃ : St (i + 1) h₃ := W.frame _ _ _ st₂ fun b hb o e => hx₃ b o (Nat.ne_of_lt (Heap.lt_size e)) e
    have H₃t := H₃.toTurn
    refine assignInOrder_cons (assign_Name ?_)
    refine r_store H₃t (fun s₄ H₄ => ?_) rfl hk hxi
    refine assignInOrder_cons (assign_Name ?_)
    refine r_store H₄ (fun s₅ H₅ => assignInOrder_nil ?_) rfl hk hxv
    refine wpAny_mono (turn i a b _ g' m' mu' _ hlt hP hJ ad kg H₅ (fun g₂ m₂ mu₂ s₂ h ad₂ => H₃.ofTurn h (ad₂.trans ad.symm))) (fun f s₂ hf => ?_) fun _ _ e => e.elim
    have fin : TurnEnd T (Zed.turn env.locals mu' g' { s' with heap := h₃, toks := tk₁ }) env.locals (mu.map (·.1)) (J (i + 1)) s₂ → ∃ k', k' < n + 1 - i ∧ ∃ i g' m' mu', At T Z g' env.locals m' mu' s₂ ∧ St i s₂.heap ∧ J i g' m' mu' ∧ mu'.map (·.1) = mu.map (·.1) ∧ g.StaysIn g' ∧ (∀ a ∈ wr, g'.get? a = none) ∧ i ≤ n ∧ k' = n + 1 - i := by
      rintro ⟨g₂, m₂, mu₂, H₆, ad₃, hJ₃⟩
      refine ⟨n + 1 - (i + 1), by omega, i + 1, g₂, m₂, mu₂, H₃.ofTurn H₆ (ad₃.trans ad.symm), W.frame _ _ _ st₃ fun b hb o e => H₆.hh b o (hideAll_get _ e fun hm => ?_), hJ₃, ad₃, stays_trans kg H₆.gg, fun a ha => ?_, hlt, rfl⟩
      · rcases List.mem_cons.mp hm with q | q
        · exact hfL (q ▸ hb)
        · exact hfm b hb (ad ▸ q)
      · cases e : g₂.get? a with
        | none => rfl
        | some y =>
          rcases H₆.fr a y e with q | q
          · have q' : g'.get? a = some y := q
            rw [hwg a ha] at q'; cases q'
          · obtain ⟨o, ho⟩ := live _ _ st₃ a ha
            have hn : a ∉ env.locals :: mu'.map (·.1) := fun hm => by
              rcases List.mem_cons.mp hm with z | z
              · exact (hw' a ha).1 z
              · exact (hw' a ha).2.1 z
            have := hideAll_get _ ho hn
            rw [show (Zed.turn env.locals mu' g' { s' with heap := h₃, toks := tk₁ }).b.get? a = some o from this] at q
            cases q
    cases f with
    | ret v => exact hR _ _ hf
    | brk => exact hR _ _ hf
    | next => exact fin hf
    | cont => exact fin hf
  · have hin : i = n := by omega
    subst hin
    refine W.done _ _ _ st' fun h₁ tk₁ hk₁ => wpAny_execs_nil ?_
    exact hR _ _ (done g' m' mu' _ hJ ad (H'.else_ (h' := h₁) (t := tk₁) (fun a o hn e => hk₁ a o hn e) hw'))

theorem r_ForT {env : Env} {elts : List Expr} {kt : Nat} {pt pos : Pos} {iter : Expr} {body : List Stmt} {Q : Flow → Shared → Prop}
    (h : wpAny (model prog w) A (eval iter env) (fun xv s₁ => wpAny (model prog w) A (pyIter xv) (fun it s₂ => codeAny (model prog w) A (.forLoop (.Tuple elts kt pt) it body [] env) (fun r s' => match r with | .ok f => Q f s' | .error e => cameBackBy (model prog w) A env E e s') s₂) E s₁) E s)
    (hs : ∀ x, foldedSetIterable iter env x = pure x := by intro _; rfl) : wpAny (model prog w) A (exec (.For (.Tuple elts kt pt) iter body [] pos) env) Q E s := wpAny_For h hs

/-- «for i, x in enumerate(xs)» -/
theorem for_enum {env : Env} {xi xv : Str} {pi pv pt : Pos} {kt : Nat} {body : List Stmt} {l : Addr} {vs : List Value} {Q : Flow → Shared → Prop}
    (J : Nat → Heap → List (Str × Value) → List (Addr × Obj) → Prop) (R : Room A 0) (H : At T Z g L m mu s) (hl : IsListV g l vs) (h0 : J 0 g m mu)
    (turn : ∀ (i : Nat) t v Z₁ g₁ m₁ mu₁ s₁, vs[i]? = some v → J i g₁ m₁ mu₁ → mu₁.map (·.1) = mu.map (·.1) → g.StaysIn g₁ → At T Z₁ g₁ L ((xv, v) :: (xi, .int i t) :: m₁) mu₁ s₁ →
      (∀ g₂ m₂ mu₂ s₂, At T Z₁ g₂ L m₂ mu₂ s₂ → mu₂.map (·.1) = mu.map (·.1) → At T Z g₂ L m₂ mu₂ s₂) →
      wpAny (model prog w) A (execs body env) (TurnPost T Z₁ L (mu.map (·.1)) (J (i + 1)) Q) noE s₁)
    (done : ∀ g' m' mu' s', J vs.length g' m' mu' → mu'.map (·.1) = mu.map (·.1) → At T Z g' L m' mu' s' → Q .next s')
    (hL : env.locals = L := by rfl) (hk : env.scope.kind = .function := by rfl) (hxi : env.kindOf xi = some .local := by rfl) (hxv : env.kindOf xv = some .local := by rfl) :
    wpAny (model prog w) A (call (.type "enumerate") [.ref l]) (fun xx s₁ => wpAny (model prog w) A (pyIter xx) (fun it s₂ => codeAny (model prog w) A (.forLoop (.Tuple [.Name xi pi, .Name xv pv] kt pt) it body [] env) (fun r s' => match r with | .ok f => Q f s' | .error e => cameBackBy (model prog w) A env E e s') s₂) E s₁) E s := by
  have hls := H.lst (hasG hl)
  obtain ⟨n, hn⟩ := hl
  have hsz : s.heap.get? l = some _ := H.gh _ _ hn
  have hlt := Heap.lt_size hsz
  refine call_enumerate_list hls fun h' he hit hz hk' => ?_
  refine wpAny_pyIter_enum (s := { s with heap := h' }) he ?_
  have W := WalksT.enumerate (prog := prog) (w := w) R.handled (s.heap.objs.size + 1) s.heap.objs.size l (Nat.succ_ne_self _) (Nat.ne_of_lt (Nat.lt_succ_of_lt hlt)) (Nat.ne_of_lt hlt) vs.toArray
  have hlen : vs.toArray.size = vs.length := by simp
  rw [hlen] at W
  have fresh : ∀ (h : Heap) (a : Addr), h.StaysIn s.heap → s.heap.objs.size ≤ a → h.get? a = none := fun h a k ha => by
    cases e : h.get? a with
    | none => rfl
    | some o => exact absurd (Heap.lt_size (k _ _ e)) (Nat.not_lt.mpr ha)
  obtain ⟨oL, hoL⟩ := H.Lsome
  have hLlt := Heap.lt_size hoL
  have hmem : ∀ a, s.heap.objs.size ≤ a → a ∉ mu.map (·.1) := fun a ha hm => by
    obtain ⟨p, hp, e⟩ := List.mem_map.mp hm
    have := Heap.lt_size (H.mus p hp).1
    rw [e] at this; exact absurd this (Nat.not_lt.mpr ha)
  refine loop_walksT (Q := Q) J hL hxi hxv hk W R.handled (H.stay (s' := { s with heap := h' }) hk' rfl rfl) ⟨⟨_, he⟩, hit, hls.at fun o e => hk' _ _ e⟩ (fun i h st a ha => ?_) (fun a ha => ?_) (fun hm => ?_) (fun a ha => ?_) h0 (fun i vals hP => ?_)
    (fun i a b Z₁ g₁ m₁ mu₁ s₁ hi hP => ?_) done (fun f s' h => h)
  · obtain ⟨⟨old, h1⟩, ⟨o2, h2, _⟩, _⟩ := st
    rcases List.mem_cons.mp ha with q | q
    · rw [q]; exact ⟨_, h1⟩
    · rw [List.mem_singleton.mp q]; exact ⟨_, h2⟩
  · have : s.heap.objs.size ≤ a := by
      rcases List.mem_cons.mp ha with q | q
      · rw [q]; exact Nat.le_succ _
      · rw [List.mem_singleton.mp q]; exact Nat.le_refl _
    exact ⟨fun q => absurd hLlt (Nat.not_lt.mpr (q ▸ this)), hmem a this, fresh _ a H.gh this, fresh _ a H.hh this⟩
  · rcases List.mem_cons.mp hm with q | q
    · rw [q] at hLlt; exact absurd hLlt (Nat.not_lt.mpr (Nat.le_succ _))
    · rcases List.mem_cons.mp q with q | q
      · rw [q] at hLlt; exact absurd hLlt (Nat.lt_irrefl _)
      · have := H.Lg; rw [List.mem_singleton.mp q, hn] at this; cases this
  · rcases List.mem_cons.mp ha with q | q
    · exact hmem a (by rw [q]; exact Nat.le_succ _)
    · rcases List.mem_cons.mp q with q | q
      · exact hmem a (by rw [q]; exact Nat.le_refl _)
      · rw [List.mem_singleton.mp q]
        intro hm
        obtain ⟨p, hp, e⟩ := List.mem_map.mp hm
        have := (H.mus p hp).2.2.2
        rw [e, hn] at this; cases this
  · obtain ⟨t, x, _, e⟩ := hP
    exact ⟨_, _, e⟩
  · obtain ⟨t, x, hx, e⟩ := hP
    have e' : a = .int i t ∧ b = x := by simpa using e
    obtain ⟨rfl, rfl⟩ := e'
    exact turn i t b Z₁ g₁ m₁ mu₁ s₁ (by simpa using hx)
end
end Mine
namespace Mine
/-- a list of pairs of ints -/
noncomputable def PairsAt (g : Heap) (vs : List Value) (ps : List (Int × Int)) : Prop := vs.length = ps.length ∧ ∀ (i : Nat) (p : Int × Int), ps[i]? = some p → ∃ a t u, vs[i]? = some (.ref a) ∧ IsTupV g a [.int p.1 t, .int p.2 u]
theorem PairsAt.mono {g g' : Heap} {vs : List Value} {ps : List (Int × Int)} (h : PairsAt g vs ps) (k : g.StaysIn g') : PairsAt g' vs ps := ⟨h.1, fun i p e => let ⟨a, t, u, h1, h2⟩ := h.2 i p e; ⟨a, t, u, h1, h2.mono k⟩⟩
theorem PairsAt.nil {g : Heap} : PairsAt g [] [] := ⟨rfl, fun i p e => by simp at e⟩
theorem PairsAt.snoc {g : Heap} {vs : List Value} {ps : List (Int × Int)} {a : Addr} {p : Int × Int} {t u : Tok} (h : PairsAt g vs ps) (hx : IsTupV g a [.int p.1 t, .int p.2 u]) : PairsAt g (vs ++ [.ref a]) (ps ++ [p]) := by
  refine ⟨by simp [h.1], fun i q e => ?_⟩
  by_cases hi : i < ps.length
  · rw [List.getElem?_append_left hi] at e
    obtain ⟨b, t, u, h1, h2⟩ := h.2 i q e
    exact ⟨b, t, u, by rw [List.getElem?_append_left (by rw [h.1]; exact hi)]; exact h1, h2⟩
  · rw [List.getElem?_append_right (by omega)] at e
    have hi' : i = ps.length := by
      have := (List.getElem?_eq_some_iff.mp e).1
      simp at this; omega
    subst hi'
    simp at e
    subst e
    exact ⟨a, t, u, by rw [← h.1]; simp, hx⟩
noncomputable def toldL (os : List Ord) (n : Nat) : List (Int × Int) := (List.range n).filterMap fun (i : Nat) => (os[i]?).bind fun o => if jumpy o then some ((i : Int), o.dist) else none
theorem toldL_some {os : List Ord} {i : Nat} {o : Ord} (h : os[i]? = some o) : toldL os (i + 1) = toldL os i ++ if jumpy o then [((i : Int), o.dist)] else [] := by
  unfold toldL
  rw [List.range_succ, List.filterMap_append]
  simp [h]
  split <;> simp_all
section
variable {prog : Program} {w : World} {K : Frag} {A : Around} {T : Heap} {Z : Zed} {g : Heap} {L : Addr} {m : List (Str × Value)} {mu : List (Addr × Obj)} {s : Shared} {E : Value → Shared → Prop}
set_option maxHeartbeats 1000000
set_option maxRecDepth 100000
theorem saved_spec {xa xb : Addr} {a b : List Ord} {Q : Value → Shared → Prop} (TF : TopF K T) (H : At T Z g L m mu s) (R : Room A 3) (Pa : ProgH g xa a) (Pb : ProgH g xb b) (hza : a.length ≤ 1000) (hzb : b.length ≤ 1000)
    (h : ∀ t g' s' t1 t2, g.StaysIn g' → IsTupV g' t [.int (placeOf a a.length - placeOf b b.length) t1, .int ((a.length : Int) - b.length) t2] → At T Z g' L m mu s' → Q (.ref t) s') :
    wpAny (model prog w) A (call (.ref 282) [.ref xa, .ref xb]) Q E s := by
  refine enter0 [("program", .ref xa), ("other", .ref xb)] TF (show FnIs K 282 (defAt 44) "saved" .none from TF.fns 26 _ rfl) rfl H R (fun _ _ _ _ _ => BindsTo.of_eq rfl) (by rfl) (by decide) rfl rfl rfl ?_
  clear H R
  intro cdv L s H back R
  generalize Zed.into [] g _ = Z' at *
  have Pa' := Pa
  have Pb' := Pb
  obtain ⟨dxa, esa, na, ola, sla, bda, ovsa, svsa, boa, fba, nba, tma, a1, a2, a3, a4, a5, a6, a7, a8⟩ := Pa'
  obtain ⟨dxb, esb, nb, olb, slb, bdb, ovsb, svsb, bob, fbb, nbb, tmb, b1, b2, b3, b4, b5, b6, b7, b8⟩ := Pb'
  repeat' walk_at "y"
  refine r_attrH TF TF.program H ⟨dxa, esa, na, H.gh _ _ a1, H.gh _ _ a2, a6⟩ (by decide) rfl ?_
  clear H; intro s H
  repeat' walk_at "y"
  refine r_attrH TF TF.program H ⟨dxb, esb, nb, H.gh _ _ b1, H.gh _ _ b2, b6⟩ (by decide) rfl ?_
  clear H; intro s H
  repeat' walk_at "y"
  refine r_methH TF TF.program H (H.gh _ _ a1) (H.gh _ _ a2) (f := 310) (by decide) a7.2.2 ?_
  try dsimp only
  repeat' walk_at "y"
  refine count_spec TF H (R.less (by decide)) (Pa.mono H.gh) hza ?_
  clear H; intro t s H
  repeat' walk_at "y"
  refine r_methH TF TF.program H (H.gh _ _ b1) (H.gh _ _ b2) (f := 310) (by decide) b7.2.2 ?_
  try dsimp only
  repeat' walk_at "y"
  refine count_spec TF H (R.less (by decide)) (Pb.mono H.gh) hzb ?_
  clear H; intro t s H
  repeat' walk_at "y"
  refine r_newTuple H (Nat.le_of_ble_eq_true rfl) ?_
  clear H; intro tp s H
  obtain ⟨g', k', hg', H'⟩ := At.freeze (mu := []) H
  repeat' walk_at "z"
  exact h tp g' s _ _ k' ⟨_, hg' _ (.head _)⟩ (back _ _ _ _ H')

theorem told_spec {px : Addr} {os : List Ord} {Q : Value → Shared → Prop} (TF : TopF K T) (H : At T Z g L m mu s) (R : Room A 4) (P : ProgH g px os) (hz : os.length ≤ 1000)
    (h : ∀ l g' s' vs, g.StaysIn g' → IsListV g' l vs → PairsAt g' vs (toldL os os.length) → At T Z g' L m mu s' → Q (.ref l) s') :
    wpAny (model prog w) A (call (.ref 289) [.ref px]) Q E s := by
  refine enter0 [("program", .ref px)] TF (show FnIs K 289 (defAt 45) "told_distances" .none from TF.fns 27 _ rfl) rfl H R (fun _ _ _ _ _ => BindsTo.of_eq rfl) (by rfl) (by decide) rfl rfl rfl ?_
  clear H R
  intro cdv L s H back R
  generalize Zed.into [] g _ = Z' at *
  obtain ⟨dx, es, n, ol, sl, bd, ovs, svs, bo, fb, nb, tm, h1, h2, h3, h4, h5, h6, h7, h8, h9, h10⟩ := P
  have hvl := h9.1
  rw [List.length_map] at hvl
  repeat' walk_at "y"
  refine r_newList H (by decide) ?_
  clear H; intro ll s H
  simp only [List.nil_append] at H
  repeat' walk_at "y"
  refine r_attrH TF TF.program H ⟨dx, es, n, H.gh _ _ h1, H.gh _ _ h2, h3⟩ (by decide) rfl ?_
  clear H; intro s H
  repeat' walk_at "y"
  refine for_enum (fun i g₁ m₁ mu₁ => ∃ n' lvs, m₁ = ([("found", .ref ll)] : Loc) ∧ mu₁ = [(ll, LO lvs n')] ∧ g.StaysIn g₁ ∧ PairsAt g₁ lvs (toldL os i)) (R.less (by decide)) (H.know (m' := [("found", .ref ll)]) (by walk_at "k")) h8 ⟨_, _, rfl, rfl, stays_refl _, PairsAt.nil⟩ ?_ ?_
  · clear H
    rintro i t v Z₁ g₁ m₁ mu₁ s hi ⟨n', lvs, rfl, rfl, kg₁, hlv⟩ _ kg' H out
    refine gen_post fun PP hPP => ?_
    have hil : i < os.length := by rw [← hvl]; exact (List.getElem?_eq_some_iff.mp hi).1
    have hllen : lvs.length ≤ 1000 := by
      rw [hlv.1]
      refine Nat.le_trans (List.length_filterMap_le _ _) ?_
      simp; omega
    obtain ⟨o, xo, ho, hov, hO⟩ : ∃ o y, os[i]? = some o ∧ ovs[i]? = some (.ref y) ∧ IsOrder g₁ y o := by
      have e : os[i]? = some os[i] := List.getElem?_eq_getElem hil
      obtain ⟨y, hy⟩ := h9.2 i (some os[i]) (by simp [e])
      exact ⟨_, y, e, hy.1, hy.2.mono kg₁⟩
    rw [hov] at hi; cases hi
    repeat' walk_at "y"
    rotate_right 1
    · have hj : jumpy o = false := by simp_all [jumpy]
      refine tpn hPP ⟨_, _, _, H.know (m' := [("found", .ref ll)]) (by walk_at "k"), rfl, _, _, rfl, rfl, kg₁, ?_⟩
      rw [toldL_some ho, hj]; simpa using hlv
    all_goals
      have hj : jumpy o = true := by simp [jumpy, hc]
      refine r_meth H (hasM 0 rfl) ?_
      try dsimp only
      repeat' walk_at "y"
      refine r_newTuple H (Nat.le_of_ble_eq_true rfl) ?_
      clear H; intro tp s H
      simp only [List.cons_append, List.nil_append] at H
      repeat' walk_at "y"
      refine r_append (i := 0) H rfl (by omega) ?_
      clear H; intro n'' s H
      simp only [List.set_cons_zero] at H
      repeat' walk_at "y"
      obtain ⟨g₂, k₂, hg₂, H⟩ := At.freeze (mu := [(ll, _)]) H
      refine tpn hPP ⟨_, _, _, H.know (m' := [("found", .ref ll)]) (by walk_at "k"), rfl, _, _, rfl, rfl, stays_trans kg₁ k₂, ?_⟩
      rw [toldL_some ho, if_pos hj]
      exact (hlv.mono k₂).snoc ⟨_, hg₂ _ (.head _)⟩
  · rintro g' m' mu' s ⟨n', lvs, rfl, rfl, kg₁, hlv⟩ _ H
    obtain ⟨g₅, kg₅, hl₅, H⟩ := At.freeze (mu := []) H
    repeat' walk_at "y"
    rw [hvl] at hlv
    exact h ll g₅ s lvs (stays_trans kg₁ kg₅) ⟨n', hl₅ _ (.head _)⟩ (hlv.mono kg₅) (back _ _ _ _ H)
end
end Mine
namespace Mine
section
variable {prog : Program} {w : World} {K : Frag} {A : Around} {T : Heap} {Z : Zed} {g : Heap} {L : Addr} {m : List (Str × Value)} {mu : List (Addr × Obj)} {s : Shared} {E : Value → Shared → Prop}
theorem small_div {a b : Int} (hb : b.natAbs < 2 ^ 60) : Builtin.divisionGoesByPylong a b = false := by
  unfold Builtin.divisionGoesByPylong
  dsimp only
  have : b.natAbs.log2 < 60 ∨ b = 0 := by
    by_cases h : b = 0
    · exact .inr h
    · exact .inl ((Nat.log2_lt (by omega)).mpr hb)
  have h2 : (if (b == 0) = true then 0 else b.natAbs.log2 / 30 + 1) ≤ 2 := by
    split
    · omega
    · rename_i h
      have : b ≠ 0 := by simpa using h
      omega
  rw [Bool.and_eq_false_iff]
  left
  simp only [decide_eq_false_iff_not]
  omega
theorem r_fdiv {a b : Int} {t u : Tok} {Q : Value → Shared → Prop} (H : At T Z g L m mu s) (hb : b ≠ 0) (hz : b.natAbs < 2 ^ 60) (h : ∀ t s', At T Z g L m mu s' → Q (.int (a.fdiv b) t) s') : wpAny (model prog w) A (binaryOp .FloorDiv (.int a t) (.int b u)) Q E s :=
  floordiv_int hb (h _ _ (H.tok _)) (.inl (small_div hz))
theorem r_pow {a n : Int} {t u : Tok} {Q : Value → Shared → Prop} (H : At T Z g L m mu s) (hn : 0 ≤ n) (hn2 : n ≤ 1000000) (ha : a.natAbs < 2 ^ 64) (h : ∀ t s', At T Z g L m mu s' → Q (.int (a ^ n.toNat) t) s') : wpAny (model prog w) A (binaryOp .Pow (.int a t) (.int n u)) Q E s :=
  pow_int_small hn hn2 ha (h _ _ (H.tok _))
noncomputable def MidPost (P : Shared → Prop) (Q : Flow → Shared → Prop) (f : Flow) (s : Shared) : Prop := match f with | .next => P s | f => Q f s
theorem seq_mid {st : Stmt} {rest : List Stmt} {env : Env} {Q : Flow → Shared → Prop} (P : Shared → Prop) (h1 : wpAny (model prog w) A (exec st env) (MidPost P Q) E s) (h2 : ∀ s', P s' → wpAny (model prog w) A (execs rest env) Q E s') :
    wpAny (model prog w) A (execs (st :: rest) env) Q E s :=
  wpAny_execs_cons (wpAny_mono h1 (fun f s' hf => by cases f <;> first | exact h2 s' hf | exact hf) fun _ _ x => x)
theorem r_toInt {n : Int} {u : Tok} {Q : Value → Shared → Prop} (h : Q (.int n u) s) : wpAny (model prog w) A (call (.type "int") [.int n u]) Q E s := call_int_int h
theorem r_modA {a b : Int} {t u : Tok} {Q : Value → Shared → Prop} (H : At T Z g L m mu s) (hb : 0 < b) (h : ∀ r t s', 0 ≤ r → r < b → At T Z g L m mu s' → Q (.int r t) s') : wpAny (model prog w) A (binaryOp .Mod (.int a t) (.int b u)) Q E s :=
  r_mod H (by omega) fun t s' H' => h _ t s' (Int.fmod_nonneg_of_pos _ hb) (Int.fmod_lt_of_pos _ hb) H'
theorem r_powA {a n : Int} {t u : Tok} {Q : Value → Shared → Prop} (H : At T Z g L m mu s) (hn : 0 ≤ n) (hn2 : n ≤ 1000000) (ha : a.natAbs < 2 ^ 64) (h : ∀ r t s', At T Z g L m mu s' → Q (.int r t) s') : wpAny (model prog w) A (binaryOp .Pow (.int a t) (.int n u)) Q E s :=
  r_pow H hn hn2 ha fun t s' H' => h _ t s' H'
theorem r_fdivA {a b : Int} {t u : Tok} {Q : Value → Shared → Prop} (H : At T Z g L m mu s) (hb : 0 < b) (hz : b.natAbs < 2 ^ 60) (h : ∀ r t s', (0 ≤ a → 0 ≤ r) → At T Z g L m mu s' → Q (.int r t) s') : wpAny (model prog w) A (binaryOp .FloorDiv (.int a t) (.int b u)) Q E s :=
  r_fdiv H (by omega) hz fun t s' H' => h _ t s' (fun ha => Int.fdiv_nonneg ha (by omega)) H'
theorem r_abs {n : Int} {u : Tok} {Q : Value → Shared → Prop} (H : At T Z g L m mu s) (h : ∀ t s', At T Z g L m mu s' → Q (.int (if n < 0 then -n else n) t) s') : wpAny (model prog w) A (call (.builtin "abs") [.int n u]) Q E s := call_abs_int fun _ _ => h _ _ (H.tok _)
theorem Room.u64 {n : Nat} (R : Room A n) : A.units + 64 < cLine := by have := R.units; show _ < 9900; omega
theorem r_neInts {a b : Addr} {xs ys : List Value} {ns ms : List Int} {Q : Value → Shared → Prop} (R : Room A 0) (H : At T Z g L m mu s) (ha : HasList g mu a xs) (hb : HasList g mu b ys) (hi : IntsAre xs ns) (hj : IntsAre ys ms) (h : Q (.bool (!decide (ns = ms))) s) :
    wpAny (model prog w) A (compareOp .NotEq (.ref a) (.ref b)) Q E s := ke_ne_ints (H.lst ha) (H.lst hb) hi hj R.u64 h
theorem r_eqInts {a b : Addr} {xs ys : List Value} {ns ms : List Int} {Q : Value → Shared → Prop} (R : Room A 0) (H : At T Z g L m mu s) (ha : HasList g mu a xs) (hb : HasList g mu b ys) (hi : IntsAre xs ns) (hj : IntsAre ys ms) (h : Q (.bool (decide (ns = ms))) s) :
    wpAny (model prog w) A (compareOp .Eq (.ref a) (.ref b)) Q E s := ke_eq_ints (H.lst ha) (H.lst hb) hi hj R.u64 h
end
end Mine
namespace Mine
/-- the script's copy -/
noncomputable def ScriptIs (g : Heap) (sc : Addr) : Prop := ∃ svs cs, IsListV g sc svs ∧ IntsAre svs cs ∧ svs.length ≤ 24
theorem ScriptIs.mono {g g' : Heap} {sc : Addr} (h : ScriptIs g sc) (k : g.StaysIn g') : ScriptIs g' sc := let ⟨a, b, h1, h2⟩ := h; ⟨a, b, h1.mono k, h2⟩
/-- a pen that drew at most n times -/
noncomputable def PenIs (sc : Addr) (n : Nat) (o : Obj) : Prop := ∃ (turn rest : Int) (t1 t2 : Tok) (c : Nat), o = LO [.ref sc, .int turn t1, .int rest t2] c ∧ 0 ≤ turn ∧ turn ≤ n ∧ 0 ≤ rest
theorem PenIs.more {sc : Addr} {n n' : Nat} {o : Obj} (h : PenIs sc n o) (k : n ≤ n') : PenIs sc n' o := let ⟨a, b, c, d, e, f, g1, g2, g3⟩ := h; ⟨a, b, c, d, e, f, g1, by omega, g3⟩
section
variable {prog : Program} {w : World} {K : Frag} {A : Around} {T : Heap} {Z : Zed} {g : Heap} {L : Addr} {m : List (Str × Value)} {mu : List (Addr × Obj)} {s : Shared} {E : Value → Shared → Prop}
set_option maxHeartbeats 8000000
set_option maxRecDepth 100000
theorem fmod_small {a : Int} {b : Nat} (hb : 1 ≤ b) : 0 ≤ a.fmod b ∧ a.fmod b < b := ⟨Int.fmod_nonneg_of_pos _ (by omega), Int.fmod_lt_of_pos _ (by omega)⟩
theorem mix_small {x turn : Int} (h0 : 0 ≤ x) (h1 : x < 2147483549) (t0 : 0 ≤ turn) (t1 : turn ≤ 10000) : (x + 51907 * turn + 3389).natAbs < 2 ^ 64 := by omega
theorem mix_small2 {x turn : Int} (h0 : 0 ≤ x) (h1 : x < 2147483647) (t0 : 0 ≤ turn) (t1 : turn ≤ 10000) : (x * (2 * turn + 1867) + 60493 * turn * turn + 643).natAbs < 2 ^ 64 := by
  have a1 : x * (2 * turn + 1867) ≤ 2147483647 * 21867 := Int.mul_le_mul (by omega) (by omega) (by omega) (by omega)
  have a2 : 0 ≤ x * (2 * turn + 1867) := Int.mul_nonneg h0 (by omega)
  have a3 : 60493 * turn * turn ≤ 604930000 * 10000 := Int.mul_le_mul (by omega) t1 t0 (by omega)
  have a4 : 0 ≤ 60493 * turn * turn := Int.mul_nonneg (by omega) t0
  omega
theorem draw_spec {pen sc : Addr} {po : Obj} {n many : Nat} {tm : Tok} {Q : Value → Shared → Prop} (TF : TopF K T) (H : At T Z g L m ((pen, po) :: mu) s) (R : Room A 1) (hsc : ScriptIs g sc) (hp : PenIs sc n po) (hn : n ≤ 10000) (hm : 1 ≤ many) (hm2 : many ≤ 1000)
    (h : ∀ (d : Nat) t po' s', d < many → PenIs sc (n + 1) po' → At T Z g L m ((pen, po') :: mu) s' → Q (.int d t) s') :
    wpAny (model prog w) A (call (.ref 359) [.ref pen, .int many tm]) Q E s := by
  obtain ⟨turn, rest, t1, t2, c, rfl, ht0, htn, hr0⟩ := hp
  obtain ⟨svs, cs, hl, hI, hlen⟩ := hsc
  have h' : ∀ (d : Int) t turn' rest' t1 t2 c s', 0 ≤ d → d < many → 0 ≤ turn' → turn' ≤ (n : Int) + 1 → 0 ≤ rest' → At T Z g L m ((pen, LO [.ref sc, .int turn' t1, .int rest' t2] c) :: mu) s' → Q (.int d t) s' := fun d t turn' rest' t1 t2 c s' h1 h2 h3 h4 h5 H' => by
    have := h d.toNat t _ s' (by omega) ⟨turn', rest', t1, t2, c, rfl, h3, by push_cast; omega, h5⟩ H'
    rwa [Int.toNat_of_nonneg h1] at this
  clear h
  refine enter1 [("pen", .ref pen), ("many", .int many tm)] TF (show FnIs K 359 (defAt 49) "_law_draw" .none from TF.fns 28 _ rfl) rfl H R (fun _ _ _ _ _ => BindsTo.of_eq rfl) (by rfl) (by decide) rfl rfl rfl ?_
  clear H R
  intro cdv L s H back R
  generalize Zed.into _ g _ = Z' at *
  have hmz : (many : Int) ≠ 0 := by omega
  have hmp : (0 : Int) < many := by omega
  have hma : (many : Int).natAbs < 2 ^ 60 := by omega
  repeat' walk_at "y"
  refine r_item H (hasM 0 rfl) (by decide) (by decide) rfl ?_
  repeat' walk_at "y"
  · refine r_item H (hasM 0 rfl) (by decide) (by decide) rfl ?_
    repeat' walk_at "y"
    refine r_mod H hmz ?_
    clear H; intro u1 s H
    repeat' walk_at "y"
    refine r_item H (hasM 0 rfl) (by decide) (by decide) rfl ?_
    repeat' walk_at "y"
    refine r_fdiv H hmz hma ?_
    clear H; intro u2 s H
    repeat' walk_at "y"
    refine r_setItem (i := 0) H rfl (by decide) (Int.lt_of_not_ge (by simp)) (by simp) ?_
    clear H; intro n2 s H
    simp only [List.set_cons_zero] at H
    repeat' walk_at "y"
    exact h' _ _ _ _ _ _ _ _ (fmod_small hm).1 (fmod_small hm).2 ht0 (by omega) (Int.fdiv_nonneg hr0 (by omega)) (back _ _ _ _ _ H)
  refine r_item H (hasM 0 rfl) (by decide) (by decide) rfl ?_
  repeat' walk_at "y"
  refine r_setItem (i := 0) H rfl (by decide) (Int.lt_of_not_ge (by simp)) (by simp) ?_
  clear H; intro n2 s H
  simp only [List.set_cons_zero] at H
  repeat' walk_at "yif"
  refine seq_mid (fun s' => ∃ cell tc tt, At T Z' g L [("pen", .ref pen), ("many", .int (many : Int) tm), ("turn", .int turn t1), ("cell", .int cell tc)] [(pen, LO [.ref sc, .int (turn + 1) tt, .int rest t2] n2)] s') ?_ ?_
  · repeat' walk_at "y"
    refine r_item H (hasM 0 rfl) (by decide) (by decide) rfl ?_
    repeat' walk_at "y"
    refine r_newList H (by decide) ?_
    clear H; intro el s H
    refine r_neInts (R.less (by decide)) H (hasG hl) (hasM 1 rfl) hI .nil ?_
    repeat' walk_at "y"
    · have hcs : cs ≠ [] := by simpa using hc
      have hl0 : 0 < svs.length := by rw [hI.length]; exact List.length_pos_iff.mpr hcs
      refine r_item H (hasM 0 rfl) (by decide) (by decide) rfl ?_
      repeat' walk_at "y"
      refine r_item H (hasM 0 rfl) (by decide) (by decide) rfl ?_
      repeat' walk_at "y"
      refine r_len H (hasG hl) (by omega) ?_
      clear H; intro t3 s H
      repeat' walk_at "y"
      refine r_mod H (by omega) ?_
      clear H; intro t4 s H
      have hfm := fmod_small (a := turn) (b := svs.length) hl0
      obtain ⟨tc, hcell⟩ := hI.get (turn.fmod svs.length).toNat (cs[(turn.fmod svs.length).toNat]'(by rw [← hI.length]; omega)) (List.getElem?_eq_getElem _)
      refine r_item H (hasG hl) hfm.1 (by omega) hcell ?_
      repeat' walk_at "y"
      exact ⟨_, _, _, (At.drop (mu := [_]) H).know (by walk_at "k")⟩
    · exact ⟨_, _, _, (At.drop (mu := [_]) H).know (by walk_at "k")⟩
  clear H
  rintro s ⟨cell, tc, tt, H⟩
  refine seq_mid (fun s' => At T Z' g L [("pen", .ref pen), ("many", .int (many : Int) tm), ("turn", .int turn t1), ("cell", .int cell tc)] [(pen, LO [.ref sc, .int (turn + 1) tt, .int rest t2] n2)] s') ?_ ?_
  · repeat' walk_at "y"
    refine r_item H (hasM 0 rfl) (by decide) (by decide) rfl ?_
    repeat' walk_at "y"
    refine r_len H (hasG hl) (by omega) ?_
    clear H; intro t3 s H
    repeat' walk_at "y"
    · refine r_abs H ?_
      clear H; intro t4 s H
      repeat' walk_at "y"
      refine r_pow H (by decide) (by decide) (by decide) ?_
      clear H; intro t5 s H
      repeat' walk_at "y"
      · refine r_abs H ?_
        clear H; intro t6 s H
        repeat' walk_at "y"
        refine r_pow H (by decide) (by decide) (by decide) ?_
        clear H; intro t7 s H
        repeat' walk_at "y"
        refine r_fdiv H hmz hma ?_
        clear H; intro u2 s H
        repeat' walk_at "y"
        refine r_setItem (i := 0) H rfl (by decide) (Int.lt_of_not_ge (by simp)) (by simp) ?_
        clear H; intro n3 s H
        simp only [List.set_cons_zero] at H
        repeat' walk_at "y"
        refine r_mod H hmz ?_
        clear H; intro u1 s H
        repeat' walk_at "y"
        refine h' _ _ _ _ _ _ _ _ (fmod_small hm).1 (fmod_small hm).2 (by omega) (by omega) (Int.fdiv_nonneg ?_ (by omega)) (back _ _ _ _ _ H)
        have := of_decide_eq_true (show decide _ = true from by assumption)
        omega
      · exact H.know (by walk_at "k")
    · exact H.know (by walk_at "k")
  clear H
  intro s H
  repeat' walk_at "y"
  refine r_modA H (by decide) ?_
  clear H; intro x1 u1 s f1 f1' H
  repeat' walk_at "y"
  refine r_powA H (by decide) (by decide) (mix_small f1 f1' ht0 (by omega)) ?_
  clear H; intro x2 u2 s H
  repeat' walk_at "y"
  refine r_modA H (by decide) ?_
  clear H; intro x3 u3 s f2 f2' H
  repeat' walk_at "y"
  refine r_powA H (by decide) (by decide) (mix_small2 f2 f2' ht0 (by omega)) ?_
  clear H; intro x4 u4 s H
  repeat' walk_at "y"
  refine r_modA H (by decide) ?_
  clear H; intro x5 u5 s f3 f3' H
  repeat' walk_at "y"
  refine r_fdivA H (by decide) (by decide) ?_
  clear H; intro x6 u6 s _ H
  repeat' walk_at "y"
  refine r_modA H hmp ?_
  clear H; intro x7 u7 s f4 f4' H
  repeat' walk_at "y"
  exact h' _ _ _ _ _ _ _ _ f4 f4' (by omega) (by omega) hr0 (back _ _ _ _ _ H)
end
end Mine
namespace Mine
section
variable {prog : Program} {w : World} {K : Frag} {A : Around} {T : Heap} {Z : Zed} {g : Heap} {L : Addr} {m : List (Str × Value)} {mu : List (Addr × Obj)} {s : Shared} {E : Value → Shared → Prop}
set_option maxHeartbeats 1000000
set_option maxRecDepth 100000
theorem pick_spec {pen sc l : Addr} {po : Obj} {n : Nat} {vs : List Value} {Q : Value → Shared → Prop} (TF : TopF K T) (H : At T Z g L m ((pen, po) :: mu) s) (R : Room A 2) (hsc : ScriptIs g sc) (hp : PenIs sc n po) (hn : n ≤ 10000) (hl : IsListV g l vs) (h1 : 1 ≤ vs.length) (h2 : vs.length ≤ 1000)
    (h : ∀ v po' s', v ∈ vs → PenIs sc (n + 1) po' → At T Z g L m ((pen, po') :: mu) s' → Q v s') :
    wpAny (model prog w) A (call (.ref 366) [.ref pen, .ref l]) Q E s := by
  refine enter1 [("pen", .ref pen), ("some", .ref l)] TF (show FnIs K 366 (defAt 50) "_law_pick" .none from TF.fns 29 _ rfl) rfl H R (fun _ _ _ _ _ => BindsTo.of_eq rfl) (by rfl) (by decide) rfl rfl rfl ?_
  clear H R
  intro cdv L s H back R
  generalize Zed.into _ g _ = Z' at *
  repeat' walk_at "y"
  refine r_len H (hasG hl) (by omega) ?_
  clear H; intro t s H
  repeat' walk_at "y"
  refine draw_spec TF H (R.less (by decide)) hsc hp hn h1 h2 ?_
  clear H; intro d u po' s hd hp' H
  refine r_item H (hasG hl) (by omega) (by omega) (v := vs[d]) (by simp) ?_
  repeat' walk_at "y"
  exact h _ _ _ (List.getElem_mem _) hp' (back _ _ _ _ _ H)
end
end Mine
namespace Mine
noncomputable def wBody : List Str := ["mov", "wide", "branch", "jump", "far", "call"]
noncomputable def wEnd : List Str := ["exit", "jump", "far"]
/-- words and the begins of their subs -/
structure Shape (ws : List Str) (bs : List Nat) : Prop where
  len : ws.length ≤ 7 * bs.length
  lt : ∀ b ∈ bs, b < ws.length
  nd : bs.Pairwise (· < ·)
  zero : bs ≠ [] → bs.head? = some 0
  ends : ∀ i w, ws[i]? = some w → (i + 1 ∈ bs ∨ i + 1 = ws.length) → w ∈ wEnd
  inner : ∀ i w, ws[i]? = some w → ¬ (i + 1 ∈ bs ∨ i + 1 = ws.length) → w ∈ wBody
theorem Shape.nil : Shape [] [] := ⟨Nat.le_refl _, by simp, .nil, fun h => absurd rfl h, by simp, by simp⟩
theorem Shape.add {ws : List Str} {bs : List Nat} {body : List Str} {e : Str} (S : Shape ws bs) (h1 : body.length ≤ 6) (h2 : ∀ w ∈ body, w ∈ wBody) (he : e ∈ wEnd) (hz : bs = [] → ws = []) : Shape (ws ++ body ++ [e]) (bs ++ [ws.length]) := by
  have hl : (ws ++ body ++ [e]).length = ws.length + body.length + 1 := by simp; omega
  have cases3 : ∀ (i : Nat) (w : Str), (ws ++ body ++ [e])[i]? = some w → (i < ws.length ∧ ws[i]? = some w) ∨ (ws.length ≤ i ∧ i < ws.length + body.length ∧ body[i - ws.length]? = some w) ∨ (i = ws.length + body.length ∧ w = e) := fun i w h => by
    rcases Nat.lt_or_ge i ws.length with hi | hi
    · rw [List.append_assoc, List.getElem?_append_left hi] at h; exact .inl ⟨hi, h⟩
    · rw [List.append_assoc, List.getElem?_append_right hi] at h
      rcases Nat.lt_or_ge (i - ws.length) body.length with hj | hj
      · rw [List.getElem?_append_left hj] at h; exact .inr (.inl ⟨hi, by omega, h⟩)
      · rw [List.getElem?_append_right hj] at h
        have := (List.getElem?_eq_some_iff.mp h).1
        simp at this
        refine .inr (.inr ⟨by omega, ?_⟩)
        rw [show i - ws.length - body.length = 0 from by omega] at h
        simpa using h.symm
  refine ⟨by rw [hl, List.length_append, List.length_singleton]; have := S.len; omega, fun b hb => ?_, ?_, fun _ => ?_, fun i w h q => ?_, fun i w h q => ?_⟩
  · rw [hl]
    rcases List.mem_append.mp hb with hb | hb
    · have := S.lt b hb; omega
    · rw [List.mem_singleton] at hb; omega
  · rw [List.pairwise_append]
    exact ⟨S.nd, List.pairwise_singleton _ _, fun a ha b hb => by rw [List.mem_singleton] at hb; rw [hb]; exact S.lt a ha⟩
  · cases bs with
    | nil => rw [hz rfl]; rfl
    | cons b r => have := S.zero (by simp); simpa using this
  · rw [hl] at q
    rcases cases3 i w h with ⟨hi, hw⟩ | ⟨hi, hj, hw⟩ | ⟨hi, hw⟩
    · refine S.ends i w hw ?_
      rcases q with q | q
      · rcases List.mem_append.mp q with q | q
        · exact .inl q
        · rw [List.mem_singleton] at q; exact .inr q
      · omega
    · exfalso
      rcases q with q | q
      · rcases List.mem_append.mp q with q | q
        · have := S.lt _ q; omega
        · rw [List.mem_singleton] at q; omega
      · omega
    · rw [hw]; exact he
  · rw [hl] at q
    rcases cases3 i w h with ⟨hi, hw⟩ | ⟨hi, hj, hw⟩ | ⟨hi, hw⟩
    · refine S.inner i w hw fun q' => q ?_
      rcases q' with q' | q'
      · exact .inl (List.mem_append_left _ q')
      · exact .inl (List.mem_append_right _ (by rw [q']; simp))
    · exact h2 w (List.mem_of_getElem? hw)
    · exact absurd (.inr (by omega)) q
theorem strs_mem : ∀ {vs : List Value} {ss : List Str}, StrsAre vs ss → ∀ v ∈ vs, ∃ x t, v = .str x t ∧ x ∈ ss
  | _, _, .nil, v, hv => by cases hv
  | _, _, .cons x t h, v, hv => by
    rcases List.mem_cons.mp hv with rfl | hv
    · exact ⟨x, t, rfl, .head _⟩
    · obtain ⟨y, u, h1, h2⟩ := strs_mem h v hv; exact ⟨y, u, h1, .tail _ h2⟩
section
variable {prog : Program} {w : World} {K : Frag} {A : Around} {T : Heap} {Z : Zed} {g : Heap} {L : Addr} {m : List (Str × Value)} {mu : List (Addr × Obj)} {s : Shared} {E : Value → Shared → Prop}
set_option maxHeartbeats 1000000
set_option maxRecDepth 100000
theorem words_spec {pen sc : Addr} {po : Obj} {n : Nat} {Q : Value → Shared → Prop} (TF : TopF K T) (H : At T Z g L m ((pen, po) :: mu) s) (R : Room A 3) (hsc : ScriptIs g sc) (hp : PenIs sc n po) (hn : n ≤ 5000)
    (h : ∀ t wl bl wvs bvs ws bs po' g' s', g.StaysIn g' → IsTupV g' t [.ref wl, .ref bl] → IsListV g' wl wvs → StrsAre wvs ws → IsListV g' bl bvs → IntsAre bvs (bs.map fun b : Nat => (b : Int)) → Shape ws bs → bs ≠ [] → bs.length ≤ 3 → PenIs sc (n + 30) po' → At T Z g' L m ((pen, po') :: mu) s' → Q (.ref t) s') :
    wpAny (model prog w) A (call (.ref 373) [.ref pen]) Q E s := by
  refine enter1 [("pen", .ref pen)] TF (show FnIs K 373 (defAt 51) "_law_words" .none from TF.fns 30 _ rfl) rfl H R (fun _ _ _ _ _ => BindsTo.of_eq rfl) (by rfl) (by decide) rfl rfl rfl ?_
  clear H R
  intro cdv L s H back R
  generalize Zed.into _ g _ = Z' at *
  repeat' walk_at "y"
  refine r_newList H (by decide) ?_
  clear H; intro wl s H
  repeat' walk_at "y"
  refine r_newList H (by decide) ?_
  clear H; intro bl s H
  simp only [List.cons_append, List.nil_append] at H
  repeat' walk_at "y"
  refine r_newUnpack (R.less (by decide)) H rfl (Nat.le_of_ble_eq_true rfl) ?_
  clear H; intro s H
  repeat' walk_at "y"
  refine draw_spec (many := 3) TF H (R.less (by decide)) hsc hp (by omega) (by decide) (by decide) ?_
  clear H; intro d u po1 s hd hp1 H
  repeat' walk_at "y"
  refine r_range1 H ?_
  clear H; intro r t1 t2 t3 s H hrng
  refine for_range0 (fun i g₁ m₁ mu₁ => ∃ po wvs n1 bvs n2 ws bs, m₁ = ([("pen", .ref pen), ("words", .ref wl), ("begins", .ref bl)] : Loc) ∧ mu₁ = [(pen, po), (wl, LO wvs n1), (bl, LO bvs n2)] ∧ g.StaysIn g₁ ∧ PenIs sc (n + 1 + 8 * i) po ∧ StrsAre wvs ws ∧
    IntsAre bvs (bs.map fun b : Nat => (b : Int)) ∧ Shape ws bs ∧ bs.length = i ∧ (bs = [] → ws = [])) (R.less (by decide)) (H.know (by walk_at "k")) hrng (by omega) (by omega)
    ⟨_, _, _, _, _, [], [], rfl, rfl, stays_refl _, hp1, .nil, .nil, Shape.nil, rfl, fun _ => rfl⟩ ?_ ?_
  · clear H hrng hp1 hp
    rintro i t Z₁ g₁ m₁ mu₁ s hi ⟨po, wvs, n1, bvs, n2, ws, bs, rfl, rfl, kg₁, hp, hws, hbs, hS, hbl, hbz⟩ _ kg' H out
    refine gen_post fun PP hPP => ?_
    have hwl := hws.length
    have hSl := hS.len
    have hbvl := hbs.length
    rw [List.length_map] at hbvl
    repeat' walk_at "y"
    refine r_meth H (hasM 2 rfl) ?_
    try dsimp only
    repeat' walk_at "y"
    refine r_len H (hasM 1 rfl) (by omega) ?_
    clear H; intro t4 s H
    repeat' walk_at "y"
    refine r_append (i := 2) H rfl (by omega) ?_
    clear H; intro n3 s H
    simp only [List.set_cons_succ, List.set_cons_zero] at H
    repeat' walk_at "y"
    refine draw_spec (many := 6) TF H (R.less (by decide)) (hsc.mono kg₁) hp (by omega) (by decide) (by decide) ?_
    clear H; intro d2 u2 po2 s hd2 hp2 H
    repeat' walk_at "y"
    refine r_range1 H ?_
    clear H; intro r2 t5 t6 t7 s H hrng
    refine for_range0 (fun j g₂ m₁ mu₁ => ∃ po wvs n1 body, m₁ = ([("pen", .ref pen), ("words", .ref wl), ("begins", .ref bl)] : Loc) ∧ mu₁ = [(pen, po), (wl, LO wvs n1), (bl, LO (bvs ++ [Value.int ws.length t4]) n3)] ∧ g₁.StaysIn g₂ ∧ PenIs sc (n + 2 + 8 * i + j) po ∧
      StrsAre wvs (ws ++ body) ∧ body.length = j ∧ ∀ w ∈ body, w ∈ wBody) (R.less (by decide)) (H.know (by walk_at "k")) hrng (by omega) (by omega)
      ⟨_, _, _, [], rfl, by rw [hwl], stays_refl _, hp2.more (by omega), by simpa using hws, rfl, by simp⟩ ?_ ?_
    · clear H hrng hp2 hp hws
      rintro j t8 Z₂ g₂ m₁ mu₁ s hj ⟨po, wvs, n1, body, rfl, rfl, kg₂, hp, hws, hbl2, hbody⟩ _ kg2' H out2
      refine gen_post fun PP hPP => ?_
      have hwl2 := hws.length
      rw [List.length_append] at hwl2
      repeat' walk_at "y"
      refine r_meth H (hasM 1 rfl) ?_
      try dsimp only
      repeat' walk_at "y"
      refine r_newList H (Nat.le_of_ble_eq_true rfl) ?_
      clear H; intro dl s H
      obtain ⟨g₃, k₃, hg₃, H⟩ := At.freeze (mu := [(pen, _), (wl, _), (bl, _)]) H
      repeat' walk_at "y"
      refine pick_spec TF H (R.less (by decide)) (((hsc.mono kg₁).mono kg₂).mono k₃) hp (by omega) ⟨_, hg₃ _ (.head _)⟩ (Nat.le_of_ble_eq_true rfl) (Nat.le_of_ble_eq_true rfl) ?_
      clear H; intro v po2 s hv hp2 H
      obtain ⟨wd, tw, rfl, hwd⟩ := strs_mem (ss := ["mov", "wide", "branch", "wide", "jump", "far", "call", "branch", "mov"]) (by repeat' constructor) v hv
      have hwd2 : wd ∈ wBody := (by decide +kernel : ∀ x ∈ (["mov", "wide", "branch", "wide", "jump", "far", "call", "branch", "mov"] : List Str), x ∈ wBody) wd hwd
      repeat' walk_at "y"
      refine r_append (i := 1) H rfl (by omega) ?_
      clear H; intro n4 s H
      simp only [List.set_cons_succ, List.set_cons_zero] at H
      repeat' walk_at "y"
      refine tpn hPP ⟨_, _, _, H.know (m' := [("pen", .ref pen), ("words", .ref wl), ("begins", .ref bl)]) (by walk_at "k"), rfl, po2, _, _, body ++ [wd], rfl, rfl, stays_trans kg₂ k₃, hp2.more (by omega), ?_, by simp [hbl2], ?_⟩
      · rw [← List.append_assoc]; exact hws.append' (.cons _ _ .nil)
      · intro x hx
        rcases List.mem_append.mp hx with hx | hx
        · exact hbody x hx
        · rw [List.mem_singleton] at hx; rw [hx]; exact hwd2
    · clear H hrng hp2 hp hws
      rintro g₂ m₁ mu₁ s ⟨po, wvs, n1, body, rfl, rfl, kg₂, hp, hws, hbl2, hbody⟩ _ H
      have hwl2 := hws.length
      rw [List.length_append] at hwl2
      repeat' walk_at "y"
      refine r_meth H (hasM 1 rfl) ?_
      try dsimp only
      repeat' walk_at "y"
      refine r_newList H (Nat.le_of_ble_eq_true rfl) ?_
      clear H; intro dl s H
      obtain ⟨g₃, k₃, hg₃, H⟩ := At.freeze (mu := [(pen, _), (wl, _), (bl, _)]) H
      repeat' walk_at "y"
      refine pick_spec TF H (R.less (by decide)) (((hsc.mono kg₁).mono kg₂).mono k₃) hp (by omega) ⟨_, hg₃ _ (.head _)⟩ (Nat.le_of_ble_eq_true rfl) (Nat.le_of_ble_eq_true rfl) ?_
      clear H; intro v po2 s hv hp2 H
      obtain ⟨wd, tw, rfl, hwd⟩ := strs_mem (ss := ["exit", "exit", "jump", "far"]) (by repeat' constructor) v hv
      have hwd2 : wd ∈ wEnd := (by decide +kernel : ∀ x ∈ (["exit", "exit", "jump", "far"] : List Str), x ∈ wEnd) wd hwd
      repeat' walk_at "y"
      refine r_append (i := 1) H rfl (by omega) ?_
      clear H; intro n4 s H
      simp only [List.set_cons_succ, List.set_cons_zero] at H
      repeat' walk_at "y"
      refine tpn hPP ⟨_, _, _, H.know (m' := [("pen", .ref pen), ("words", .ref wl), ("begins", .ref bl)]) (by walk_at "k"), rfl, po2, _, _, _, _, ws ++ body ++ [wd], bs ++ [ws.length], rfl, rfl, stays_trans (stays_trans kg₁ kg₂) k₃, hp2.more (by omega), hws.append' (.cons _ _ .nil), ?_, hS.add (by omega) hbody hwd2 hbz, by simp [hbl], by simp⟩
      rw [List.map_append]
      exact ints_snoc hbs
  · rintro g₁ m₁ mu₁ s ⟨po, wvs, n1, bvs, n2, ws, bs, rfl, rfl, kg₁, hp, hws, hbs, hS, hbl, hbz⟩ _ H
    repeat' walk_at "y"
    refine r_newTuple H (Nat.le_of_ble_eq_true rfl) ?_
    clear H; intro tp s H
    obtain ⟨g₃, k₃, hg₃, H⟩ := At.freeze (mu := [(pen, _)]) H
    repeat' walk_at "y"
    exact h tp wl bl wvs bvs ws bs po g₃ s (stays_trans kg₁ k₃) ⟨_, hg₃ _ (.tail _ (.tail _ (.head _)))⟩ ⟨n1, hg₃ _ (.head _)⟩ hws ⟨n2, hg₃ _ (.tail _ (.head _))⟩ hbs hS (fun e => by rw [e] at hbl; simp at hbl; omega) (by omega) (hp.more (by omega)) (back _ _ _ _ _ H)
end
end Mine
namespace Mine
section
variable {prog : Program} {w : World} {K : Frag} {A : Around} {T : Heap} {Z : Zed} {g : Heap} {L : Addr} {m : List (Str × Value)} {mu : List (Addr × Obj)} {s : Shared} {E : Value → Shared → Prop}
theorem codeAny_compLoop_testsT {R : Result → Shared → Prop} {elt target iter : Expr} {ifs : List Expr} {scope : Scope} {pos : Pos} {it acc : Value} {env : Env} (I : Nat → Shared → Prop)
    (turn : ∀ n s, I n s → wpAny (model prog w) A (pyNext it) (fun r s₁ => match r with
      | none => R (.ok .next) s₁
      | some v => wpAny (model prog w) A (letOwnedTupleGo target it v) (fun _ s₁' => wpAny (model prog w) A (assign target env v) (fun _ s₂ =>
          wpAny (model prog w) A (forIn ifs true fun c r => if r = true then do let ok ← isTrue c env (eval c env); pure (ForInStep.yield ok) else pure (ForInStep.yield r)) (fun ok s₃ =>
            if ok = true then wpAny (model prog w) A (eval elt env) (fun x s₄ =>
              wpAny (model prog w) A (call (.builtin "list.append") [acc, x]) (fun _ s₅ => ∃ m, m < n ∧ I m s₅) (notedBy (model prog w) A env fun e s' => R (.error e) s') s₄) (notedBy (model prog w) A env fun e s' => R (.error e) s') s₃
            else ∃ m, m < n ∧ I m s₃) (notedBy (model prog w) A env fun e s' => R (.error e) s') s₂) (notedBy (model prog w) A env fun e s' => R (.error e) s') s₁') (notedBy (model prog w) A env fun e s' => R (.error e) s') s₁) (notedBy (model prog w) A env fun e s' => R (.error e) s') s)
    (n : Nat) (h : I n s) :
    codeAny (model prog w) A (.compLoop (.ListComp elt [⟨target, iter, ifs, 0⟩] scope pos) 0 it acc env) R s := by
  refine codeAny_loop rfl I (fun n s hI => ?_) n h
  show wpAny _ A ((compTurn (.ListComp elt [⟨target, iter, ifs, 0⟩] scope pos) 0 it acc env).onRaise (fun x => do noteFrame x env; theTreesLotGoes x)) _ _ s
  refine wpAny_noted ?_
  rw [compTurn_list]
  refine wpAny_bind (wpAny_standAt (wpAny_bind (wpAny_mono (turn n s hI) (fun r s₁ h₁ => ?_) fun _ _ h' => h')))
  cases r with
  | none => exact wpAny_pure h₁
  | some v =>
    refine wpAny_bind (wpAny_mono h₁ (fun _ s₁' h₁' => ?_) fun _ _ h' => h')
    refine wpAny_bind (wpAny_mono h₁' (fun _ s₂ h₂ => wpAny_bind (wpAny_mono h₂ (fun ok s₃ h₃ => ?_) fun _ _ h' => h')) fun _ _ h' => h')
    cases ok with
    | false => exact wpAny_pure ⟨rfl, h₃⟩
    | true =>
      exact wpAny_bind (wpAny_bind (wpAny_mono h₃ (fun x s₄ h₄ => wpAny_bind (wpAny_mono h₄ (fun _ s₅ h₅ => wpAny_pure (wpAny_pure ⟨rfl, h₅⟩)) fun _ _ h' => h')) fun _ _ h' => h'))

noncomputable def CompEnd (T : Heap) (Z : Zed) (L D : Addr) (ad : List Addr) (J : Heap → Loc → List (Addr × Obj) → List Value → Prop) (ys y : List Value) (s : Shared) : Prop :=
  ∃ g₂ m₂ mu₂ n₂, At T Z g₂ L m₂ ((D, LO ys n₂) :: mu₂) s ∧ mu₂.map (·.1) = ad ∧ J g₂ m₂ mu₂ (ys ++ y)
noncomputable abbrev Tests (prog : Program) (w : World) (A : Around) (ifs : List Expr) (env : Env) (Q : Bool → Shared → Prop) (E : Value → Shared → Prop) (s : Shared) : Prop :=
  wpAny (model prog w) A (forIn ifs true fun c r => if r = true then do let ok ← isTrue c env (eval c env); pure (ForInStep.yield ok) else pure (ForInStep.yield r)) Q E s
theorem gen_comp {elt : Expr} {ifs : List Expr} {cenv : Env} {D : Addr} {ad : List Addr} {J : Heap → Loc → List (Addr × Obj) → List Value → Prop} {ys : List Value}
    (k : ∀ CE : List Value → Shared → Prop, (∀ y s, CompEnd T Z L D ad J ys y s → CE y s) → Tests prog w A ifs cenv (fun ok s₂ => if ok = true then wpAny (model prog w) A (eval elt cenv) (fun y s₃ => CE [y] s₃) noE s₂ else CE [] s₂) noE s) :
    Tests prog w A ifs cenv (fun ok s₂ => if ok = true then wpAny (model prog w) A (eval elt cenv) (fun y s₃ => CompEnd T Z L D ad J ys [y] s₃) noE s₂ else CompEnd T Z L D ad J ys [] s₂) noE s := k _ fun _ _ h => h
theorem At.zturn (H : At T Z g L m mu s) : Z.b.StaysIn (Zed.turn L mu g s).b := fun a o e => hideAll_get _ (H.hh a o e) fun hm => by
  rcases List.mem_cons.mp hm with q | q
  · rw [q, H.Lb] at e; cases e
  · obtain ⟨p, hp, rfl⟩ := List.mem_map.mp q
    rw [(H.mus p hp).2.2.1] at e; cases e
theorem comp_walks {cenv : Env} {x : Str} {px : Pos} {elt iter : Expr} {ifs : List Expr} {scope : Scope} {pos : Pos} {I D : Addr} {fp wr : List Addr} {n : Nat} {P : Nat → Value → Prop} {St : Nat → Heap → Prop} {Rr : Result → Shared → Prop}
    (J : Nat → Heap → Loc → List (Addr × Obj) → List Value → Prop) (hL : cenv.locals = L) (hx : cenv.kindOf x = some .local) (hk : cenv.scope.kind = .function)
    (W : Walks prog w A I fp wr n P St) (H : At T Z g L m ((D, LO [] 0) :: mu) s) (hst : St 0 s.heap) (live : ∀ i h, St i h → ∀ a ∈ wr, ∃ o, h.get? a = some o)
    (hw : ∀ a ∈ wr, a ≠ L ∧ a ∉ D :: mu.map (·.1) ∧ g.get? a = none ∧ Z.b.get? a = none) (hfL : L ∉ fp) (hfm : ∀ a ∈ fp, a ∉ D :: mu.map (·.1)) (h0 : J 0 g m mu []) (hn : n ≤ 100000)
    (turn : ∀ i v Z₁ g₁ m₁ mu₁ ys n₁ s₁, i < n → P i v → J i g₁ m₁ mu₁ ys → mu₁.map (·.1) = mu.map (·.1) → g.StaysIn g₁ → Z.b.StaysIn Z₁.b → At T Z₁ g₁ L ((x, v) :: m₁) ((D, LO ys n₁) :: mu₁) s₁ →
      Tests prog w A ifs cenv (fun ok s₂ => if ok = true then wpAny (model prog w) A (eval elt cenv) (fun y s₃ => CompEnd T Z₁ L D (mu.map (·.1)) (J (i + 1)) ys [y] s₃) noE s₂ else CompEnd T Z₁ L D (mu.map (·.1)) (J (i + 1)) ys [] s₂) noE s₁)
    (done : ∀ g' m' mu' ys n' s', J n g' m' mu' ys → mu'.map (·.1) = mu.map (·.1) → At T Z g' L m' ((D, LO ys n') :: mu') s' → Rr (.ok .next) s') :
    codeAny (model prog w) A (.compLoop (.ListComp elt [⟨.Name x px, iter, ifs, 0⟩] scope pos) 0 (.ref I) (.ref D) cenv) Rr s := by
  subst hL
  refine codeAny_compLoop_testsT (fun k s' => ∃ i g' m' mu' ys n', At T Z g' cenv.locals m' ((D, LO ys n') :: mu') s' ∧ St i s'.heap ∧ J i g' m' mu' ys ∧ mu'.map (·.1) = mu.map (·.1) ∧ g.StaysIn g' ∧ (∀ a ∈ wr, g'.get? a = none) ∧ ys.length ≤ i ∧ i ≤ n ∧ k = n + 1 - i) ?_ (n + 1)
    ⟨0, g, m, mu, [], 0, H, hst, h0, rfl, stays_refl _, fun a ha => (hw a ha).2.2.1, Nat.le_refl _, Nat.zero_le _, rfl⟩
  rintro k s' ⟨i, g', m', mu', ys, n', H', st', hJ, ad, kg, hwg, hyl, hi, rfl⟩
  have ad' : ((D, LO ys n') :: mu').map (·.1) = D :: mu.map (·.1) := by rw [List.map_cons, ad]
  have hw' : ∀ a ∈ wr, a ≠ cenv.locals ∧ a ∉ ((D, LO ys n') :: mu').map (·.1) ∧ g'.get? a = none ∧ Z.b.get? a = none := fun a ha => ⟨(hw a ha).1, ad' ▸ (hw a ha).2.1, hwg a ha, (hw a ha).2.2.2⟩
  by_cases hlt : i < n
  · refine W.item i _ _ _ hlt st' fun v h₁ tk₁ hP st₁ hk₁ => ?_
    have H₁ := H'.else_ (h' := h₁) (t := tk₁) (fun a o hn e => hk₁ a o hn e) hw'
    refine (show wpAny _ _ (pure ()) _ _ _ from wpAny_pure ?_)
    have H₁t := H₁.toTurn
    refine assign_Name ?_
    refine r_store H₁t (fun s₂ H₂ => ?_) rfl hk hx
    have kz : Z.b.StaysIn (Zed.turn cenv.locals ((D, LO ys n') :: mu') g' { s' with heap := h₁, toks := tk₁ }).b := H₁.zturn
    have fin : ∀ s₃ ys' n₂ g₂ m₂ mu₂, At T (Zed.turn cenv.locals ((D, LO ys n') :: mu') g' { s' with heap := h₁, toks := tk₁ }) g₂ cenv.locals m₂ ((D, LO ys' n₂) :: mu₂) s₃ → mu₂.map (·.1) = mu.map (·.1) → J (i + 1) g₂ m₂ mu₂ ys' → ys'.length ≤ i + 1 →
        ∃ k', k' < n + 1 - i ∧ ∃ i g' m' mu' ys n', At T Z g' cenv.locals m' ((D, LO ys n') :: mu') s₃ ∧ St i s₃.heap ∧ J i g' m' mu' ys ∧ mu'.map (·.1) = mu.map (·.1) ∧ g.StaysIn g' ∧ (∀ a ∈ wr, g'.get? a = none) ∧ ys.length ≤ i ∧ i ≤ n ∧ k' = n + 1 - i := by
      intro s₃ ys' n₂ g₂ m₂ mu₂ H₃ ad₃ hJ₃ hyl'
      have ad3' : ((D, LO ys' n₂) :: mu₂).map (·.1) = ((D, LO ys n') :: mu').map (·.1) := by rw [ad', List.map_cons, ad₃]
      refine ⟨n + 1 - (i + 1), by omega, i + 1, g₂, m₂, mu₂, ys', n₂, H₁.ofTurn H₃ ad3', W.frame _ _ _ st₁ fun b hb o e => H₃.hh b o (hideAll_get _ e fun hm => ?_), hJ₃, ad₃, stays_trans kg H₃.gg, fun a ha => ?_, hyl', hlt, rfl⟩
      · rcases List.mem_cons.mp hm with q | q
        · exact hfL (q ▸ hb)
        · exact hfm b hb (ad' ▸ q)
      · cases e : g₂.get? a with
        | none => rfl
        | some y =>
          rcases H₃.fr a y e with q | q
          · have q' : g'.get? a = some y := q
            rw [hwg a ha] at q'; cases q'
          · obtain ⟨o, ho⟩ := live _ _ st₁ a ha
            have hn : a ∉ cenv.locals :: ((D, LO ys n') :: mu').map (·.1) := fun hm => by
              rcases List.mem_cons.mp hm with z | z
              · exact (hw' a ha).1 z
              · exact (hw' a ha).2.1 z
            have := hideAll_get _ ho hn
            rw [show (Zed.turn cenv.locals ((D, LO ys n') :: mu') g' { s' with heap := h₁, toks := tk₁ }).b.get? a = some o from this] at q
            cases q
    refine wpAny_mono (turn i v _ g' m' mu' ys n' _ hlt hP hJ ad kg kz H₂) (fun ok s₃ hf => ?_) fun _ _ e => e.elim
    cases ok with
    | false =>
      simp only [Bool.false_eq_true, if_false] at hf ⊢
      obtain ⟨g₂, m₂, mu₂, n₂, H₃, ad₃, hJ₃⟩ := hf
      rw [List.append_nil] at hJ₃
      exact fin _ _ _ _ _ _ H₃ ad₃ hJ₃ (by omega)
    | true =>
      simp only [if_true] at hf ⊢
      refine wpAny_mono hf (fun y s₄ hy => ?_) fun _ _ e => e.elim
      obtain ⟨g₂, m₂, mu₂, n₂, H₃, ad₃, hJ₃⟩ := hy
      refine r_append (i := 0) H₃ rfl (by omega) fun n₃ s₅ H₅ => ?_
      simp only [List.set_cons_zero] at H₅
      exact fin _ _ _ _ _ _ H₅ ad₃ hJ₃ (by simp; omega)
  · have hin : i = n := by omega
    subst hin
    refine W.done _ _ _ st' fun h₁ tk₁ hk₁ => ?_
    exact done g' m' mu' ys n' _ hJ ad (H'.else_ (h' := h₁) (t := tk₁) (fun a o hn e => hk₁ a o hn e) hw')
end
end Mine
namespace Mine
section
variable {prog : Program} {w : World} {K : Frag} {A : Around} {T : Heap} {Z : Zed} {g : Heap} {L : Addr} {m : List (Str × Value)} {mu : List (Addr × Obj)} {s : Shared} {E : Value → Shared → Prop}
theorem At.adopt {D : Addr} {o : Obj} (H : At T Z g L m mu s) (hD : s.heap.get? D = some o) (h1 : D ≠ L) (h2 : Z.b.get? D = none) (h3 : g.get? D = none) (h4 : D ∉ mu.map (·.1)) : At T Z g L m ((D, o) :: mu) s :=
  { H with
    mus := fun p hp => by
      rcases List.mem_cons.mp hp with rfl | hp
      · exact ⟨hD, h1, h2, h3⟩
      · exact H.mus p hp
    nd := List.nodup_cons.mpr ⟨h4, H.nd⟩ }
theorem r_LC {elt target iter : Expr} {ifs : List Expr} {scope : Scope} {pos : Pos} {env : Env} {cl : List (Str × Addr)} {Q : Value → Shared → Prop} (hclos : closureFor scope env = pure cl)
    (h : wpAny (model prog w) A (eval iter env) (fun x s₁ => wpAny (model prog w) A (pyIter x) (fun it s₂ => wpAny (model prog w) A (newList []) (fun acc s₃ =>
      wpAny (model prog w) A (newFunctionEnv scope env.globals cl [] env.qual none .none (some env)) (fun cenv s₄ =>
        codeAny (model prog w) A (.compStart (.ListComp elt [⟨target, iter, ifs, 0⟩] scope pos) 0 it acc { cenv with scope := relabel scope env }) (compPost (model prog w) A E none Q acc cenv.locals) s₄) E s₃) E s₂) E s₁) E s)
    (hkind : scope.kind = .function := by rfl) (hnames : ∀ x ∈ scope.names, x.2 = .local → scope.names.lookup x.1 = some .local := by decide) (hs : ∀ x, foldedSetIterable iter env x = pure x := by intro _; rfl) :
    wpAny (model prog w) A (eval (.ListComp elt [⟨target, iter, ifs, 0⟩] scope pos) env) Q E s := by
  rw [eval_ListComp]; exact wpAny_comprehension_free rfl hs hclos hkind hnames h

theorem comp_block {env : Env} {cl : List (Str × Addr)} {target elt iter : Expr} {ifs : List Expr} {scope : Scope} {pos : Pos} {I : Addr} {fp wr : List Addr} {lent : List (Addr × Obj)} {Q : Value → Shared → Prop} {h₁ : Heap} {tk₁ : Nat} (JN : Heap → Loc → List (Addr × Obj) → List Value → Prop)
    (H : At T Z g L m (lent ++ mu) s) (k₁ : s.heap.StaysIn h₁) (hsz : s.heap.objs.size ≤ h₁.objs.size) (hfp : ∀ b ∈ fp, b < h₁.objs.size) (hwr : ∀ a ∈ wr, a ∈ fp ∧ s.heap.get? a = none)
    (hfm : ∀ a ∈ fp, a ∉ lent.map (·.1)) (hcell : ∀ y ∈ scope.names, y.2 ≠ .cell) (hkind : scope.kind = .function)
    (self : ∀ h' tk (Q' : Value → Shared → Prop) (E' : Value → Shared → Prop), h₁.StaysIn h' → Q' (.ref I) { s with heap := h', toks := tk } → wpAny (model prog w) A (pyIter (.ref I)) Q' E' { s with heap := h', toks := tk })
    (loop : ∀ (D C : Addr) s₄, D ≠ C → h₁.StaysIn s₄.heap → At T (Zed.into lent g s) g C [] ((D, LO [] 0) :: lent) s₄ → (∀ a ∈ wr, a ≠ C ∧ a ∉ D :: lent.map (·.1) ∧ g.get? a = none ∧ (Zed.into lent g s).b.get? a = none) → C ∉ fp → (∀ a ∈ fp, a ∉ D :: lent.map (·.1)) →
      ∀ Rr : Result → Shared → Prop, (∀ g' m' lent' ys n' s', JN g' m' lent' ys → lent'.map (·.1) = lent.map (·.1) → At T (Zed.into lent g s) g' C m' ((D, LO ys n') :: lent') s' → Rr (.ok .next) s') →
      codeAny (model prog w) A (.compLoop (.ListComp elt [⟨target, iter, ifs, 0⟩] scope pos) 0 (.ref I) (.ref D) (compEnvC scope cl C env)) Rr s₄)
    (done : ∀ D g₁ m₁ lent' ys g' s', JN g₁ m₁ lent' ys → g₁.StaysIn g' → IsListV g' D ys → lent'.map (·.1) = lent.map (·.1) → At T Z g' L m (lent' ++ mu) s' → Q (.ref D) s') :
    wpAny (model prog w) A (newList []) (fun acc s₃ => wpAny (model prog w) A (newFunctionEnv scope env.globals cl [] env.qual none .none (some env)) (fun cenv s₄ =>
        codeAny (model prog w) A (.compStart (.ListComp elt [⟨target, iter, ifs, 0⟩] scope pos) 0 (.ref I) acc { cenv with scope := relabel scope env }) (compPost (model prog w) A E none Q acc cenv.locals) s₄) E s₃) E { s with heap := h₁, toks := tk₁ } := by
  refine wpAny_newObj_type (wpAny_newFunctionEnv hcell (by intro y hy; simp at hy) (fun h₂ hns₂ hsb₂ => ?_) hkind)
  dsimp only at hns₂ hsb₂ ⊢
  generalize hH2 : h₁.push { cls := .type "list", dict := none, data := .seq ([] : List Value).toArray } = H2 at hns₂ hsb₂ ⊢
  have hC : H2.objs.size = h₁.objs.size + 1 := by rw [← hH2, Heap.size_push]
  have hDC : h₁.objs.size ≠ H2.objs.size := by rw [hC]; exact Nat.ne_of_lt (Nat.lt_succ_self _)
  have old : h₁.StaysIn h₂ := fun b o e => hsb₂.extBut b o (by rw [hC]; exact Nat.ne_of_lt (Nat.lt_succ_of_lt (Heap.lt_size e))) (Heap.get?_push_of_some _ (hH2 ▸ Heap.get?_push_of_some _ e))
  have hDo : h₂.get? h₁.objs.size = some (LO [] 0) := hsb₂.extBut _ _ hDC (Heap.get?_push_of_some _ (hH2 ▸ Heap.get?_push_size _ rfl))
  have fresh : ∀ a, h₁.objs.size ≤ a → s.heap.get? a = none := fun a ha => get_none_of_ge (Nat.le_trans hsz ha)
  have hCf : s.heap.get? H2.objs.size = none := fresh _ (by rw [hC]; exact Nat.le_succ _)
  have hDf : s.heap.get? h₁.objs.size = none := fresh _ (Nat.le_refl _)
  have zb : ∀ a, s.heap.get? a = none → (Zed.into lent g s).b.get? a = none := fun a e => by
    cases q : (Zed.into lent g s).b.get? a with
    | none => rfl
    | some o => have := of_hideAll _ q; rw [e] at this; cases this
  have zg : ∀ a, s.heap.get? a = none → g.get? a = none := fun a e => by
    cases q : g.get? a with
    | none => rfl
    | some o => have := H.gh _ _ q; rw [e] at this; cases this
  have zl : ∀ a, s.heap.get? a = none → a ∉ lent.map (·.1) := fun a e hm => by
    obtain ⟨p, hp, rfl⟩ := List.mem_map.mp hm
    have := (H.mus p (List.mem_append_left _ hp)).1
    rw [e] at this; cases this
  have H₂ := H.into (L' := H2.objs.size) (h' := h₂) (m' := []) (t := tk₁ + ([] : List (Str × Value)).length) hCf (stays_trans k₁ old) ⟨_, hns₂, fun x v e => by cases e⟩
  have H₃ := H₂.adopt (D := h₁.objs.size) hDo hDC (zb _ hDf) (zg _ hDf) (zl _ hDf)
  have go : codeAny (model prog w) A (.compLoop (.ListComp elt [⟨target, iter, ifs, 0⟩] scope pos) 0 (.ref I) (.ref h₁.objs.size) (compEnvC scope cl H2.objs.size env)) (compPost (model prog w) A E none Q (.ref h₁.objs.size) H2.objs.size) { s with heap := h₂, toks := tk₁ + ([] : List (Str × Value)).length } := by
    refine loop _ _ _ hDC old H₃ (fun a ha => ?_) (fun hm => ?_) (fun a ha hm => ?_) _ fun g' m' lent' ys n' s' hJ ad H' => ?_
    · have h1 := hwr a ha
      have h2 := hfp a h1.1
      refine ⟨fun e => ?_, fun hm => ?_, zg _ h1.2, zb _ h1.2⟩
      · rw [e, hC] at h2; exact absurd h2 (Nat.not_lt.mpr (Nat.le_succ _))
      · rcases List.mem_cons.mp hm with q | q
        · rw [q] at h2; exact absurd h2 (Nat.lt_irrefl _)
        · exact zl _ h1.2 q
    · have := hfp _ hm; rw [hC] at this; exact absurd this (Nat.not_lt.mpr (Nat.le_succ _))
    · rcases List.mem_cons.mp hm with q | q
      · have := hfp a ha; rw [q] at this; exact absurd this (Nat.lt_irrefl _)
      · exact hfm a ha q
    · obtain ⟨mr, hmr, _⟩ := H'.ns
      refine ⟨mr, hmr, fun h' hsb' => ?_⟩
      obtain ⟨g'', k'', hg'', H''⟩ := At.freeze (mu := lent') (H'.perm (List.perm_append_comm (l₁ := [_])))
      have HB := At.back (mu' := []) H (H''.perm (by rw [List.append_nil])) ad
      refine done _ g' m' lent' ys g'' _ hJ k'' ⟨n', hg'' _ (.head _)⟩ ad ?_
      refine HB.else_ (wr := [H2.objs.size]) (h' := h') (t := s'.toks) (fun a o hn e => hsb'.extBut a o (fun q => hn (by simp [q])) e) fun a ha => ?_
      obtain rfl := List.mem_singleton.mp ha
      refine ⟨fun q => ?_, fun hm => ?_, H''.Lg, ?_⟩
      · obtain ⟨oL, hoL⟩ := H.Lsome
        rw [q, hoL] at hCf; cases hCf
      · rw [List.map_append, List.mem_append] at hm
        rcases hm with hm | hm
        · rw [ad] at hm; exact zl _ hCf hm
        · obtain ⟨p, hp, q⟩ := List.mem_map.mp hm
          have := (H.mus p (List.mem_append_right _ hp)).1
          rw [q, hCf] at this; cases this
      · cases q : Z.b.get? H2.objs.size with
        | none => rfl
        | some o => have := H.hh _ _ q; rw [hCf] at this; cases this
  exact codeAny_compStart_list go (self _ _ _ _ old go)
end
end Mine
namespace Mine
section
variable {prog : Program} {w : World} {K : Frag} {A : Around} {T : Heap} {Z : Zed} {g : Heap} {L : Addr} {m : List (Str × Value)} {mu : List (Addr × Obj)} {s : Shared} {E : Value → Shared → Prop}
/-- «[.. for x in xs ..]», xs a list of the unchanging part -/
theorem comp_list {env : Env} {cl : List (Str × Addr)} {x : Str} {px : Pos} {elt iter : Expr} {ifs : List Expr} {scope : Scope} {pos : Pos} {l : Addr} {vs : List Value} (lent : List (Addr × Obj)) {Q : Value → Shared → Prop}
    (J : Nat → Heap → Loc → List (Addr × Obj) → List Value → Prop) (R : Room A 0) (H : At T Z g L m (lent ++ mu) s) (hl : IsListV g l vs) (hz : vs.length ≤ 100000) (h0 : J 0 g [] lent [])
    (turn : ∀ i v C Z₁ g₁ m₁ lent₁ D ys n₁ s₁, vs[i]? = some v → J i g₁ m₁ lent₁ ys → lent₁.map (·.1) = lent.map (·.1) → g.StaysIn g₁ → (Zed.into lent g s).b.StaysIn Z₁.b → At T Z₁ g₁ C ((x, v) :: m₁) ((D, LO ys n₁) :: lent₁) s₁ →
      Tests prog w A ifs (compEnvC scope cl C env) (fun ok s₂ => if ok = true then wpAny (model prog w) A (eval elt (compEnvC scope cl C env)) (fun y s₃ => CompEnd T Z₁ C D (lent.map (·.1)) (J (i + 1)) ys [y] s₃) noE s₂ else CompEnd T Z₁ C D (lent.map (·.1)) (J (i + 1)) ys [] s₂) noE s₁)
    (done : ∀ D g₁ m₁ lent' ys g' s', J vs.length g₁ m₁ lent' ys → g₁.StaysIn g' → IsListV g' D ys → lent'.map (·.1) = lent.map (·.1) → At T Z g' L m (lent' ++ mu) s' → Q (.ref D) s')
    (hcell : ∀ y ∈ scope.names, y.2 ≠ .cell := by decide) (hkind : scope.kind = .function := by rfl) (hx : scope.names.lookup x = some .local := by rfl) :
    wpAny (model prog w) A (pyIter (.ref l)) (fun it s₂ => wpAny (model prog w) A (newList []) (fun acc s₃ => wpAny (model prog w) A (newFunctionEnv scope env.globals cl [] env.qual none .none (some env)) (fun cenv s₄ =>
        codeAny (model prog w) A (.compStart (.ListComp elt [⟨.Name x px, iter, ifs, 0⟩] scope pos) 0 it acc { cenv with scope := relabel scope env }) (compPost (model prog w) A E none Q acc cenv.locals) s₄) E s₃) E s₂) E s := by
  have hls := H.lst (hasG hl)
  obtain ⟨n, hn⟩ := hl
  have hsz : s.heap.get? l = some _ := H.gh _ _ hn
  have hlt := Heap.lt_size hsz
  refine wpAny_pyIter_list hls ?_
  have W := Walks.list (prog := prog) (w := w) R.handled s.heap.objs.size l (Nat.ne_of_lt hlt) vs.toArray
  have hlen : vs.toArray.size = vs.length := by simp
  rw [hlen] at W
  have hpz : (s.heap.push { cls := .type "list_iterator", data := .fields #[.ref l, .int 0 0] }).objs.size = s.heap.objs.size + 1 := Heap.size_push _ _
  have hmem : ∀ a, s.heap.objs.size ≤ a → a ∉ lent.map (·.1) := fun a ha hm => by
    obtain ⟨p, hp, e⟩ := List.mem_map.mp hm
    have := Heap.lt_size (H.mus p (List.mem_append_left _ hp)).1
    rw [e] at this; exact absurd this (Nat.not_lt.mpr ha)
  have hml : l ∉ lent.map (·.1) := fun hm => by
    obtain ⟨p, hp, e⟩ := List.mem_map.mp hm
    have := (H.mus p (List.mem_append_left _ hp)).2.2.2
    rw [e, hn] at this; cases this
  have st0 : ∀ h', (s.heap.push { cls := .type "list_iterator", data := .fields #[.ref l, .int 0 0] }).StaysIn h' → h'.IsListIter s.heap.objs.size l 0 ∧ h'.IsList l vs.toArray := fun h' k =>
    ⟨⟨_, k _ _ (Heap.get?_push_size _ rfl), rfl, rfl⟩, hls.at fun o e => k _ _ (Heap.get?_push_of_some _ e)⟩
  refine comp_block (fp := [s.heap.objs.size, l]) (wr := [s.heap.objs.size]) (J vs.length) H (fun a o e => Heap.get?_push_of_some _ e) (by rw [hpz]; exact Nat.le_succ _) (fun b hb => ?_) (fun a ha => ?_) (fun a ha => ?_) hcell hkind
    (fun h' tk Q' E' k hq => W.self 0 { s with heap := h', toks := tk } _ _ (st0 h' k) hq) (fun D C s₄ hDC k H₄ hw hCf hfm Rr hR => ?_) done
  · rw [hpz]
    rcases List.mem_cons.mp hb with q | q
    · rw [q]; exact Nat.lt_succ_self _
    · rw [List.mem_singleton.mp q]; exact Nat.lt_succ_of_lt hlt
  · obtain rfl := List.mem_singleton.mp ha
    exact ⟨.head _, get_none_of_ge (Nat.le_refl _)⟩
  · rcases List.mem_cons.mp ha with q | q
    · rw [q]; exact hmem _ (Nat.le_refl _)
    · rw [List.mem_singleton.mp q]; exact hml
  · refine comp_walks (cenv := compEnvC scope cl C env) J rfl (lookup_relabel_local hx) (by show scope.kind = _; exact hkind) W H₄ (st0 _ k) (fun i h st a ha => ?_) hw hCf hfm h0 hz (fun i v Z₁ g₁ m₁ mu₁ ys n₁ s₁ _ hP hJ ad kg kz H₁ => ?_) hR
    · obtain rfl := List.mem_singleton.mp ha; obtain ⟨o, ho, _⟩ := st.1; exact ⟨o, ho⟩
    · exact turn i v C Z₁ g₁ m₁ mu₁ D ys n₁ s₁ (by simpa using hP) hJ ad kg kz H₁

/-- «[.. for x in range(b) ..]» -/
theorem comp_range {env : Env} {cl : List (Str × Addr)} {x : Str} {px : Pos} {elt iter : Expr} {ifs : List Expr} {scope : Scope} {pos : Pos} {r : Addr} {b : Nat} {t u v : Tok} (lent : List (Addr × Obj)) {Q : Value → Shared → Prop}
    (J : Nat → Heap → Loc → List (Addr × Obj) → List Value → Prop) (R : Room A 0) (H : At T Z g L m (lent ++ mu) s) (hr : IsRange s.heap r 0 b 1 t u v) (hz : b ≤ 100000) (h0 : J 0 g [] lent [])
    (turn : ∀ (i : Nat) t C Z₁ g₁ m₁ lent₁ D ys n₁ s₁, i < b → J i g₁ m₁ lent₁ ys → lent₁.map (·.1) = lent.map (·.1) → g.StaysIn g₁ → (Zed.into lent g s).b.StaysIn Z₁.b → At T Z₁ g₁ C ((x, .int i t) :: m₁) ((D, LO ys n₁) :: lent₁) s₁ →
      Tests prog w A ifs (compEnvC scope cl C env) (fun ok s₂ => if ok = true then wpAny (model prog w) A (eval elt (compEnvC scope cl C env)) (fun y s₃ => CompEnd T Z₁ C D (lent.map (·.1)) (J (i + 1)) ys [y] s₃) noE s₂ else CompEnd T Z₁ C D (lent.map (·.1)) (J (i + 1)) ys [] s₂) noE s₁)
    (done : ∀ D g₁ m₁ lent' ys g' s', J b g₁ m₁ lent' ys → g₁.StaysIn g' → IsListV g' D ys → lent'.map (·.1) = lent.map (·.1) → At T Z g' L m (lent' ++ mu) s' → Q (.ref D) s')
    (hcell : ∀ y ∈ scope.names, y.2 ≠ .cell := by decide) (hkind : scope.kind = .function := by rfl) (hx : scope.names.lookup x = some .local := by rfl) :
    wpAny (model prog w) A (pyIter (.ref r)) (fun it s₂ => wpAny (model prog w) A (newList []) (fun acc s₃ => wpAny (model prog w) A (newFunctionEnv scope env.globals cl [] env.qual none .none (some env)) (fun cenv s₄ =>
        codeAny (model prog w) A (.compStart (.ListComp elt [⟨.Name x px, iter, ifs, 0⟩] scope pos) 0 it acc { cenv with scope := relabel scope env }) (compPost (model prog w) A E none Q acc cenv.locals) s₄) E s₃) E s₂) E s := by
  refine wpAny_pyIter_range hr (small_one (by omega) (by omega) (by omega) (by omega)) ?_
  have W := Walks.range (prog := prog) (w := w) R.handled s.heap.objs.size 0 1 b
  have hmem : ∀ a, s.heap.objs.size ≤ a → a ∉ lent.map (·.1) := fun a ha hm => by
    obtain ⟨p, hp, e⟩ := List.mem_map.mp hm
    have := Heap.lt_size (H.mus p (List.mem_append_left _ hp)).1
    rw [e] at this; exact absurd this (Nat.not_lt.mpr ha)
  refine comp_block (I := s.heap.objs.size) (fp := [s.heap.objs.size]) (wr := [s.heap.objs.size]) (J b) H (fun a o e => Heap.get?_push_of_some _ e) (by rw [Heap.size_push]; exact Nat.le_succ _) (fun c hb => ?_) (fun a ha => ?_) (fun a ha => ?_) hcell hkind
    (fun h' tk Q' E' k hq => W.self 0 { s with heap := h', toks := tk } _ _ (by have := k _ _ (Heap.get?_push_size _ rfl); show h'.get? _ = _; rw [this, rangeSize1]; simp [rawInt]) hq) (fun D C s₄ hDC k H₄ hw hCf hfm Rr hR => ?_) done
  · rw [List.mem_singleton.mp hb, Heap.size_push]; exact Nat.lt_succ_self _
  · obtain rfl := List.mem_singleton.mp ha
    exact ⟨.head _, get_none_of_ge (Nat.le_refl _)⟩
  · obtain rfl := List.mem_singleton.mp ha
    exact hmem _ (Nat.le_refl _)
  · refine comp_walks (cenv := compEnvC scope cl C env) J rfl (lookup_relabel_local hx) (by show scope.kind = _; exact hkind) W H₄ (by have := k _ _ (Heap.get?_push_size _ rfl); show s₄.heap.get? _ = _; rw [this, rangeSize1]; simp [rawInt])
      (fun i h st a ha => ?_) hw hCf hfm h0 hz (fun i v Z₁ g₁ m₁ mu₁ ys n₁ s₁ hi hP hJ ad kg kz H₁ => ?_) hR
    · obtain rfl := List.mem_singleton.mp ha; exact ⟨_, st⟩
    · obtain ⟨t', rfl⟩ := hP
      rw [Int.mul_one, Int.zero_add] at H₁
      exact turn i t' C Z₁ g₁ m₁ mu₁ D ys n₁ s₁ hi hJ ad kg kz H₁
end
end Mine
namespace Mine
section
variable {prog : Program} {w : World} {K : Frag} {A : Around} {T : Heap} {Z : Zed} {g : Heap} {L : Addr} {m : List (Str × Value)} {mu : List (Addr × Obj)} {s : Shared} {E : Value → Shared → Prop}
theorem comp_walksT {cenv : Env} {xi xv : Str} {pi pv pt : Pos} {kt : Nat} {elt iter : Expr} {ifs : List Expr} {scope : Scope} {pos : Pos} {I D : Addr} {fp wr : List Addr} {n : Nat} {Pt : Nat → Array Value → Prop} {St : Nat → Heap → Prop} {Mid : Nat → Addr → Heap → Prop} {Rr : Result → Shared → Prop}
    (J : Nat → Heap → Loc → List (Addr × Obj) → List Value → Prop) (hL : cenv.locals = L) (hxi : cenv.kindOf xi = some .local) (hxv : cenv.kindOf xv = some .local) (hk : cenv.scope.kind = .function)
    (W : WalksT prog w A I fp wr n Pt St Mid) (hh : A.handled = none) (H : At T Z g L m ((D, LO [] 0) :: mu) s) (hst : St 0 s.heap) (live : ∀ i h, St i h → ∀ a ∈ wr, ∃ o, h.get? a = some o)
    (hw : ∀ a ∈ wr, a ≠ L ∧ a ∉ D :: mu.map (·.1) ∧ g.get? a = none ∧ Z.b.get? a = none) (hfL : L ∉ fp) (hfm : ∀ a ∈ fp, a ∉ D :: mu.map (·.1)) (h0 : J 0 g m mu []) (hn : n ≤ 100000) (h2 : ∀ i vals, Pt i vals → ∃ a b, vals = #[a, b])
    (turn : ∀ i a b Z₁ g₁ m₁ mu₁ ys n₁ s₁, i < n → Pt i #[a, b] → J i g₁ m₁ mu₁ ys → mu₁.map (·.1) = mu.map (·.1) → g.StaysIn g₁ → Z.b.StaysIn Z₁.b → At T Z₁ g₁ L ((xv, b) :: (xi, a) :: m₁) ((D, LO ys n₁) :: mu₁) s₁ →
      Tests prog w A ifs cenv (fun ok s₂ => if ok = true then wpAny (model prog w) A (eval elt cenv) (fun y s₃ => CompEnd T Z₁ L D (mu.map (·.1)) (J (i + 1)) ys [y] s₃) noE s₂ else CompEnd T Z₁ L D (mu.map (·.1)) (J (i + 1)) ys [] s₂) noE s₁)
    (done : ∀ g' m' mu' ys n' s', J n g' m' mu' ys → mu'.map (·.1) = mu.map (·.1) → At T Z g' L m' ((D, LO ys n') :: mu') s' → Rr (.ok .next) s') :
    codeAny (model prog w) A (.compLoop (.ListComp elt [⟨.Tuple [.Name xi pi, .Name xv pv] kt pt, iter, ifs, 0⟩] scope pos) 0 (.ref I) (.ref D) cenv) Rr s := by
  subst hL
  refine codeAny_compLoop_testsT (fun k s' => ∃ i g' m' mu' ys n', At T Z g' cenv.locals m' ((D, LO ys n') :: mu') s' ∧ St i s'.heap ∧ J i g' m' mu' ys ∧ mu'.map (·.1) = mu.map (·.1) ∧ g.StaysIn g' ∧ (∀ a ∈ wr, g'.get? a = none) ∧ ys.length ≤ i ∧ i ≤ n ∧ k = n + 1 - i) ?_ (n + 1)
    ⟨0, g, m, mu, [], 0, H, hst, h0, rfl, stays_refl _, fun a ha => (hw a ha).2.2.1, Nat.le_refl _, Nat.zero_le _, rfl⟩
  rintro k s' ⟨i, g', m', mu', ys, n', H', st', hJ, ad, kg, hwg, hyl, hi, rfl⟩
  have ad' : ((D, LO ys n') :: mu').map (·.1) = D :: mu.map (·.1) := by rw [List.map_cons, ad]
  have hw' : ∀ a ∈ wr, a ≠ cenv.locals ∧ a ∉ ((D, LO ys n') :: mu').map (·.1) ∧ g'.get? a = none ∧ Z.b.get? a = none := fun a ha => ⟨(hw a ha).1, ad' ▸ (hw a ha).2.1, hwg a ha, (hw a ha).2.2.2⟩
  by_cases hlt : i < n
  · refine W.item i _ _ _ hlt st' fun Tt vals h₁ tk₁ hP hge hT hMid hk₁ => ?_
    obtain ⟨a, b, rfl⟩ := h2 i vals hP
    have H₁ := H'.else_ (h' := h₁) (t := tk₁) (fun a o hn e => hk₁ a o hn e) hw'
    refine W.go _ _ _ i Tt _ _ _ hMid fun h₂ st₂ hk₂ => ?_
    have H₂ := H₁.else_ (h' := h₂) (t := tk₁) (fun a o hn e => hk₂ a o hn e) hw'
    have hT₂ : IsTup h₂ Tt #[a, b] := by
      obtain ⟨o, e, r⟩ := hT
      exact ⟨o, hk₂ _ _ (W.apart _ _ _ hMid) e, r⟩
    refine assign_Tuple_tuple hh hT₂ rfl rfl fun h₃ hx₃ => ?_
    have H₃ := H₂.extBut hx₃
    have st₃ : St (i + 1) h₃ := W.frame _ _ _ st₂ fun b hb o e => hx₃ b o (Nat.ne_of_lt (Heap.lt_size e)) e
    have H₃t := H₃.toTurn
    refine assignInOrder_cons (assign_Name ?_)
    refine r_store H₃t (fun s₄ H₄ => ?_) rfl hk hxi
    refine assignInOrder_cons (assign_Name ?_)
    refine r_store H₄ (fun s₅ H₅ => assignInOrder_nil ?_) rfl hk hxv
    have kz : Z.b.StaysIn (Zed.turn cenv.locals ((D, LO ys n') :: mu') g' { s' with heap := h₃, toks := tk₁ }).b := H₃.zturn
    have fin : ∀ s₃ ys' n₂ g₂ m₂ mu₂, At T (Zed.turn cenv.locals ((D, LO ys n') :: mu') g' { s' with heap := h₃, toks := tk₁ }) g₂ cenv.locals m₂ ((D, LO ys' n₂) :: mu₂) s₃ → mu₂.map (·.1) = mu.map (·.1) → J (i + 1) g₂ m₂ mu₂ ys' → ys'.length ≤ i + 1 →
        ∃ k', k' < n + 1 - i ∧ ∃ i g' m' mu' ys n', At T Z g' cenv.locals m' ((D, LO ys n') :: mu') s₃ ∧ St i s₃.heap ∧ J i g' m' mu' ys ∧ mu'.map (·.1) = mu.map (·.1) ∧ g.StaysIn g' ∧ (∀ a ∈ wr, g'.get? a = none) ∧ ys.length ≤ i ∧ i ≤ n ∧ k' = n + 1 - i := by
      intro s₃ ys' n₂ g₂ m₂ mu₂ H₆ ad₃ hJ₃ hyl'
      have ad3' : ((D, LO ys' n₂) :: mu₂).map (·.1) = ((D, LO ys n') :: mu').map (·.1) := by rw [ad', List.map_cons, ad₃]
      refine ⟨n + 1 - (i + 1), by omega, i + 1, g₂, m₂, mu₂, ys', n₂, H₃.ofTurn H₆ ad3', W.frame _ _ _ st₃ fun b hb o e => H₆.hh b o (hideAll_get _ e fun hm => ?_), hJ₃, ad₃, stays_trans kg H₆.gg, fun a ha => ?_, hyl', hlt, rfl⟩
      · rcases List.mem_cons.mp hm with q | q
        · exact hfL (q ▸ hb)
        · exact hfm b hb (ad' ▸ q)
      · cases e : g₂.get? a with
        | none => rfl
        | some y =>
          rcases H₆.fr a y e with q | q
          · have q' : g'.get? a = some y := q
            rw [hwg a ha] at q'; cases q'
          · obtain ⟨o, ho⟩ := live _ _ st₃ a ha
            have hn : a ∉ cenv.locals :: ((D, LO ys n') :: mu').map (·.1) := fun hm => by
              rcases List.mem_cons.mp hm with z | z
              · exact (hw' a ha).1 z
              · exact (hw' a ha).2.1 z
            have := hideAll_get _ ho hn
            rw [show (Zed.turn cenv.locals ((D, LO ys n') :: mu') g' { s' with heap := h₃, toks := tk₁ }).b.get? a = some o from this] at q
            cases q
    refine wpAny_mono (turn i a b _ g' m' mu' ys n' _ hlt hP hJ ad kg kz H₅) (fun ok s₃ hf => ?_) fun _ _ e => e.elim
    cases ok with
    | false =>
      simp only [Bool.false_eq_true, if_false] at hf ⊢
      obtain ⟨g₂, m₂, mu₂, n₂, H₆, ad₃, hJ₃⟩ := hf
      rw [List.append_nil] at hJ₃
      exact fin _ _ _ _ _ _ H₆ ad₃ hJ₃ (by omega)
    | true =>
      simp only [if_true] at hf ⊢
      refine wpAny_mono hf (fun y s₄ hy => ?_) fun _ _ e => e.elim
      obtain ⟨g₂, m₂, mu₂, n₂, H₆, ad₃, hJ₃⟩ := hy
      refine r_append (i := 0) H₆ rfl (by omega) fun n₃ s₅ H₇ => ?_
      simp only [List.set_cons_zero] at H₇
      exact fin _ _ _ _ _ _ H₇ ad₃ hJ₃ (by simp; omega)
  · have hin : i = n := by omega
    subst hin
    refine W.done _ _ _ st' fun h₁ tk₁ hk₁ => ?_
    exact done g' m' mu' ys n' _ hJ ad (H'.else_ (h' := h₁) (t := tk₁) (fun a o hn e => hk₁ a o hn e) hw')
/-- «[.. for i, x in enumerate(xs) ..]» -/
theorem comp_enum {env : Env} {cl : List (Str × Addr)} {xi xv : Str} {pi pv pt : Pos} {kt : Nat} {elt iter : Expr} {ifs : List Expr} {scope : Scope} {pos : Pos} {l : Addr} {vs : List Value} (lent : List (Addr × Obj)) {Q : Value → Shared → Prop}
    (J : Nat → Heap → Loc → List (Addr × Obj) → List Value → Prop) (R : Room A 0) (H : At T Z g L m (lent ++ mu) s) (hl : IsListV g l vs) (hz : vs.length ≤ 100000) (h0 : J 0 g [] lent [])
    (turn : ∀ (i : Nat) t v C Z₁ g₁ m₁ lent₁ D ys n₁ s₁, vs[i]? = some v → J i g₁ m₁ lent₁ ys → lent₁.map (·.1) = lent.map (·.1) → g.StaysIn g₁ → (Zed.into lent g s).b.StaysIn Z₁.b → At T Z₁ g₁ C ((xv, v) :: (xi, .int i t) :: m₁) ((D, LO ys n₁) :: lent₁) s₁ →
      Tests prog w A ifs (compEnvC scope cl C env) (fun ok s₂ => if ok = true then wpAny (model prog w) A (eval elt (compEnvC scope cl C env)) (fun y s₃ => CompEnd T Z₁ C D (lent.map (·.1)) (J (i + 1)) ys [y] s₃) noE s₂ else CompEnd T Z₁ C D (lent.map (·.1)) (J (i + 1)) ys [] s₂) noE s₁)
    (done : ∀ D g₁ m₁ lent' ys g' s', J vs.length g₁ m₁ lent' ys → g₁.StaysIn g' → IsListV g' D ys → lent'.map (·.1) = lent.map (·.1) → At T Z g' L m (lent' ++ mu) s' → Q (.ref D) s')
    (hcell : ∀ y ∈ scope.names, y.2 ≠ .cell := by decide) (hkind : scope.kind = .function := by rfl) (hxi : scope.names.lookup xi = some .local := by rfl) (hxv : scope.names.lookup xv = some .local := by rfl) :
    wpAny (model prog w) A (call (.type "enumerate") [.ref l]) (fun xx s₁ => wpAny (model prog w) A (pyIter xx) (fun it s₂ => wpAny (model prog w) A (newList []) (fun acc s₃ => wpAny (model prog w) A (newFunctionEnv scope env.globals cl [] env.qual none .none (some env)) (fun cenv s₄ =>
        codeAny (model prog w) A (.compStart (.ListComp elt [⟨.Tuple [.Name xi pi, .Name xv pv] kt pt, iter, ifs, 0⟩] scope pos) 0 it acc { cenv with scope := relabel scope env }) (compPost (model prog w) A E none Q acc cenv.locals) s₄) E s₃) E s₂) E s₁) E s := by
  have hls := H.lst (hasG hl)
  obtain ⟨n, hn⟩ := hl
  have hsz : s.heap.get? l = some _ := H.gh _ _ hn
  have hlt := Heap.lt_size hsz
  refine call_enumerate_list hls fun h' he hit hz' hk' => ?_
  refine wpAny_pyIter_enum (s := { s with heap := h' }) he ?_
  have W := WalksT.enumerate (prog := prog) (w := w) R.handled (s.heap.objs.size + 1) s.heap.objs.size l (Nat.succ_ne_self _) (Nat.ne_of_lt (Nat.lt_succ_of_lt hlt)) (Nat.ne_of_lt hlt) vs.toArray
  have hlen : vs.toArray.size = vs.length := by simp
  rw [hlen] at W
  have hmem : ∀ a, s.heap.objs.size ≤ a → a ∉ lent.map (·.1) := fun a ha hm => by
    obtain ⟨p, hp, e⟩ := List.mem_map.mp hm
    have := Heap.lt_size (H.mus p (List.mem_append_left _ hp)).1
    rw [e] at this; exact absurd this (Nat.not_lt.mpr ha)
  have hml : l ∉ lent.map (·.1) := fun hm => by
    obtain ⟨p, hp, e⟩ := List.mem_map.mp hm
    have := (H.mus p (List.mem_append_left _ hp)).2.2.2
    rw [e, hn] at this; cases this
  have st0 : ∀ h'', h'.StaysIn h'' → (∃ old, IsEnum h'' (s.heap.objs.size + 1) s.heap.objs.size ((0 : Nat) : Int) old) ∧ h''.IsListIter s.heap.objs.size l 0 ∧ h''.IsList l vs.toArray := fun h'' k =>
    ⟨⟨_, k _ _ he⟩, hit.at fun o e => k _ _ e, hls.at fun o e => k _ _ (hk' _ _ e)⟩
  refine comp_block (fp := [s.heap.objs.size + 1, s.heap.objs.size, l]) (wr := [s.heap.objs.size + 1, s.heap.objs.size]) (J vs.length) H hk' (by rw [hz']; exact Nat.le_add_right _ _) (fun b hb => ?_) (fun a ha => ?_) (fun a ha => ?_) hcell hkind
    (fun h'' tk Q' E' k hq => W.self 0 { s with heap := h'', toks := tk } _ _ (st0 h'' k) hq) (fun D C s₄ hDC k H₄ hw hCf hfm Rr hR => ?_) done
  · rw [hz']
    rcases List.mem_cons.mp hb with q | q
    · rw [q]; exact Nat.lt_succ_self _
    · rcases List.mem_cons.mp q with q | q
      · rw [q]; exact Nat.lt_succ_of_lt (Nat.lt_succ_self _)
      · rw [List.mem_singleton.mp q]; exact Nat.lt_succ_of_lt (Nat.lt_succ_of_lt hlt)
  · rcases List.mem_cons.mp ha with q | q
    · rw [q]; exact ⟨.head _, get_none_of_ge (Nat.le_succ _)⟩
    · rw [List.mem_singleton.mp q]; exact ⟨.tail _ (.head _), get_none_of_ge (Nat.le_refl _)⟩
  · rcases List.mem_cons.mp ha with q | q
    · rw [q]; exact hmem _ (Nat.le_succ _)
    · rcases List.mem_cons.mp q with q | q
      · rw [q]; exact hmem _ (Nat.le_refl _)
      · rw [List.mem_singleton.mp q]; exact hml
  · refine comp_walksT (cenv := compEnvC scope cl C env) J rfl (lookup_relabel_local hxi) (lookup_relabel_local hxv) (by show scope.kind = _; exact hkind) W R.handled H₄ (st0 _ k) (fun i h st a ha => ?_) hw hCf hfm h0 hz (fun i vals hP => ?_) (fun i a b Z₁ g₁ m₁ mu₁ ys n₁ s₁ _ hP hJ ad kg kz H₁ => ?_) hR
    · obtain ⟨⟨old, h1⟩, ⟨o2, h2, _⟩, _⟩ := st
      rcases List.mem_cons.mp ha with q | q
      · rw [q]; exact ⟨_, h1⟩
      · rw [List.mem_singleton.mp q]; exact ⟨_, h2⟩
    · obtain ⟨t, x, _, e⟩ := hP
      exact ⟨_, _, e⟩
    · obtain ⟨t, x, hx, e⟩ := hP
      have e' : a = .int i t ∧ b = x := by simpa using e
      obtain ⟨rfl, rfl⟩ := e'
      exact turn i t b C Z₁ g₁ m₁ mu₁ D ys n₁ s₁ (by simpa using hx) hJ ad kg kz H₁
end
end Mine
namespace Mine
noncomputable def KnowsF (f : Str → Option Value) : Loc → Prop
  | [] => True
  | p :: r => f p.1 = some p.2 ∧ KnowsF f r
theorem KnowsF.look {f : Str → Option Value} : ∀ {m : Loc}, KnowsF f m → ∀ x v, m.lookup x = some v → f x = some v
  | [], _, x, v, e => by cases e
  | (y, u) :: r, h, x, v, e => by
    rw [List.lookup_cons] at e
    cases hb : (x == y) with
    | true => rw [hb] at e; cases e; rw [eq_of_beq hb]; exact h.1
    | false => rw [hb] at e; exact h.2.look x v e
theorem cellsAre_addrs {cm : Str → Option Value} : ∀ {cs : List (Str × Addr)} {cells : List (Addr × Obj)}, CellsAre cm cs cells → cells.map (·.1) = cs.map (·.2)
  | _, _, .nil => rfl
  | _, _, .cons _ h => by rw [List.map_cons, List.map_cons, cellsAre_addrs h]
section
variable {prog : Program} {w : World} {K : Frag} {A : Around} {T : Heap} {Z : Zed} {g : Heap} {L : Addr} {m : List (Str × Value)} {mu : List (Addr × Obj)} {s : Shared} {E : Value → Shared → Prop}
theorem At.adopts {cells : List (Addr × Obj)} (H : At T Z g L m mu s) (h : ∀ p ∈ cells, s.heap.get? p.1 = some p.2 ∧ p.1 ≠ L ∧ Z.b.get? p.1 = none ∧ g.get? p.1 = none ∧ p.1 ∉ mu.map (·.1)) (nd : (cells.map (·.1)).Nodup) : At T Z g L m (mu ++ cells) s :=
  { H with
    mus := fun p hp => by
      rcases List.mem_append.mp hp with hp | hp
      · exact H.mus p hp
      · have := h p hp; exact ⟨this.1, this.2.1, this.2.2.1, this.2.2.2.1⟩
    nd := by
      rw [List.map_append, List.nodup_append]
      refine ⟨H.nd, nd, fun a ha b hb e => ?_⟩
      obtain ⟨p, hp, rfl⟩ := List.mem_map.mp hb
      exact (h p hp).2.2.2.2 (e ▸ ha) }

/-- into a def whose frame has cells -/
theorem enterX {lent : List (Addr × Obj)} {f : Addr} {name : Str} {params : Arguments} {bd : List Stmt} {scope : Scope} {od : Option DefInfo} {qual : Str} {dV : Value} {vals : List Value} (binds : List (Str × Value)) (m' : Loc) {Q : Value → Shared → Prop} {n : Nat}
    (TF : TopF K T) (FI : FnIs K f od qual dV) (hd : od = some ⟨name, params, bd, scope⟩) (H : At T Z g L m (lent ++ mu) s) (R : Room A (n + 1))
    (hbind : ∀ doc pm an cdv ct, BindsTo s (fnOf name qual params bd scope dV .none doc pm an cdv ct) ⟨vals, []⟩ binds)
    (hkind : ∀ n, ∀ x ∈ binds, scope.names.lookup x.1 = some .local ∨ (scope.names.lookup x.1 = some .cell ∧ ((cellsFrom n scope.names []).lookup x.1).isSome = true))
    (hnd : ((cellsFrom 0 scope.names []).map (·.1)).Nodup) (hna : ∀ L : Nat, ((cellsFrom (L + 1) scope.names []).map (·.2)).Nodup)
    (hm : ∀ L cd, KnowsF (bindL (envOfC qual scope L f cd).kindOf binds fun _ => none) m')
    (hco : scope.isCoroutine = false) (hgen : scope.isGenerator = false) (hk : scope.kind = .function)
    (body : ∀ cdv L' cells s₁, CellsAre (bindC (envOfC qual scope L' f cdv).kindOf binds fun _ => none) (cellsFrom (L' + 1) scope.names []) cells → At T (Zed.into lent g s) g L' m' (lent ++ cells) s₁ →
      (∀ g' m' lent' mu' s', lent'.map (·.1) = lent.map (·.1) → At T (Zed.into lent g s) g' L' m' (lent' ++ mu') s' → At T Z g' L m (lent' ++ mu) s') →
      Room (A.deeper (envOfC qual scope L' f cdv)) n →
      wpAny (model prog w) (A.deeper (envOfC qual scope L' f cdv)) (execs bd (envOfC qual scope L' f cdv)) (fun fl s' => Q (match fl with | .ret v => v | _ => .none) s') noE s₁) :
    wpAny (model prog w) A (call (.ref f) vals) Q E s := by
  subst hd
  obtain ⟨oc, odd, osl, doc, pm, an, cdv, ct, hl, hc⟩ := FI
  have XS := TF.inS H
  refine wpAny_call ?_
  refine codeAny_call_function R.lim (XS _ _ hl) rfl hco hgen rfl (codeRec_of XS hc) (hbind doc pm an cdv ct _ _ _ _ ?_)
  refine wpAny_newFunctionEnv_cells hk (hkind _) fun env' he s' x => ?_
  subst he
  refine ⟨(TF.nolimit.keeps H.top).keeps x.toInCall.keep, codeAny_func ?_⟩
  obtain ⟨h₁, tk, rfl, _⟩ := x.done
  have hk₁ := x.toInCall.keep
  obtain ⟨cells, NC, Y⟩ := Cl.news (h₀ := s.heap) (Nat.le_refl _) fun n c hm => ⟨x.cell n c (lookup_of_mem_nodup (cellsFrom_names scope.names 0 (s.heap.objs.size + 1) [] [] rfl ▸ hnd) hm), x.above n c hm⟩
  have H₁ := H.into (L' := s.heap.objs.size) (h' := h₁) (m' := m') (t := tk) (get_none_of_ge (Nat.le_refl _)) hk₁ ⟨_, x.toInCall.ns, KnowsF.look (hm _ cdv)⟩
  have zb : ∀ a, s.heap.get? a = none → (Zed.into lent g s).b.get? a = none := fun a e => by
    cases q : (Zed.into lent g s).b.get? a with
    | none => rfl
    | some o => have := of_hideAll _ q; rw [e] at this; cases this
  have zg : ∀ a, s.heap.get? a = none → g.get? a = none := fun a e => by
    cases q : g.get? a with
    | none => rfl
    | some o => have := H.gh _ _ q; rw [e] at this; cases this
  have H₂ := H₁.adopts (cells := cells) (fun p hp => ?_) (by rw [cellsAre_addrs Y]; exact hna _)
  · exact wpAny_mono (body cdv _ cells _ Y H₂ (fun g' m' lent' mu' s' ad H' => H.back H' ad) (R.deeper _)) (fun _ _ h => h) fun _ _ h => h.elim
  · obtain ⟨h1, h2, h3⟩ := NC p hp
    refine ⟨h1, h2, zb _ h3, zg _ h3, fun hm => ?_⟩
    obtain ⟨q, hq, e⟩ := List.mem_map.mp hm
    have := (H.mus q (List.mem_append_left _ hq)).1
    rw [e, h3] at this; cases this

/-- a cell that holds a value -/
noncomputable def CellIs (o : Obj) (v : Value) : Prop := o.data = .cell (some v)
theorem r_cell {env : Env} {x : Str} {pos : Pos} {c : Addr} {o : Obj} {v : Value} {Q : Value → Shared → Prop} (hc : env.cells.lookup x = some c) (ho : s.heap.get? c = some o) (hv : CellIs o v) (h : Q v s)
    (hk : env.scope.kind = .function := by rfl) (hl : env.kindOf x = some .cell := by rfl) (hd : (x == ("__debug__" : Str)) = false := by decide) : wpAny (model prog w) A (eval (.Name x pos) env) Q E s :=
  wpAny_Name (wpAny_loadName_cell hk hl hc ⟨o, ho, hv⟩ h) hd
theorem r_free {env : Env} {x : Str} {pos : Pos} {c : Addr} {o : Obj} {v : Value} {Q : Value → Shared → Prop} (hc : env.cells.lookup x = some c) (ho : s.heap.get? c = some o) (hv : CellIs o v) (h : Q v s)
    (hk : env.scope.kind = .function := by rfl) (hl : env.kindOf x = some .free := by rfl) (hd : (x == ("__debug__" : Str)) = false := by decide) (hn : (x == ("__classdict__" : Str)) = false := by decide) : wpAny (model prog w) A (eval (.Name x pos) env) Q E s :=
  wpAny_Name (wpAny_loadName_free hk hl hc ⟨o, ho, hv⟩ h hn) hd
theorem r_storeCell {env : Env} {x : Str} {c : Addr} {o : Obj} {v₀ : Option Value} {v : Value} {i : Nat} {Q : Unit → Shared → Prop} (H : At T Z g L m mu s) (hc : env.cells.lookup x = some c) (hi : mu[i]? = some (c, o)) (ho : o.data = .cell v₀)
    (h : ∀ o' s', CellIs o' v → At T Z g L m (mu.set i (c, o')) s' → Q () s') (hk : env.scope.kind = .function := by rfl) (hl : env.kindOf x = some .cell := by rfl) : wpAny (model prog w) A (storeName env x v) Q E s := by
  have hm := H.mus _ (List.mem_of_getElem? hi)
  refine wpAny_storeName_cell hk hl hc ⟨o, hm.1, ho⟩ fun h' hv hs => ?_
  obtain ⟨o', ho', hd'⟩ := hv
  exact h o' { s with heap := h' } hd' (H.turn (t := s.toks) hi ho' fun a x ha e => (hs.2 a ha).trans e)
end
end Mine
namespace Mine
section
variable {prog : Program} {w : World} {K : Frag} {A : Around} {T : Heap} {Z : Zed} {g : Heap} {L : Addr} {m : List (Str × Value)} {mu : List (Addr × Obj)} {s : Shared} {E : Value → Shared → Prop}
theorem loop_walksC {env : Env} {xi xv : Str} {pi pv pt : Pos} {kt : Nat} {body : List Stmt} {I : Addr} {fp wr : List Addr} {n : Nat} {Pt : Nat → Array Value → Prop} {St : Nat → Heap → Prop} {Mid : Nat → Addr → Heap → Prop} {Rr : Result → Shared → Prop} {Q : Flow → Shared → Prop}
    (J : Nat → Heap → List (Str × Value) → List (Addr × Obj) → Prop) (hL : env.locals = L) (c : Addr) (kc : Nat) (hxi : env.kindOf xi = some .cell) (hcl : env.cells.lookup xi = some c) (hxv : env.kindOf xv = some .local) (hk : env.scope.kind = .function)
    (W : WalksT prog w A I fp wr n Pt St Mid) (hh : A.handled = none) (H : At T Z g L m mu s) (hst : St 0 s.heap) (live : ∀ i h, St i h → ∀ a ∈ wr, ∃ o, h.get? a = some o)
    (hw : ∀ a ∈ wr, a ≠ L ∧ a ∉ mu.map (·.1) ∧ g.get? a = none ∧ Z.b.get? a = none) (hfL : L ∉ fp) (hfm : ∀ a ∈ fp, a ∉ mu.map (·.1)) (h0 : J 0 g m mu) (hJc : ∀ i g m mu, J i g m mu → ∃ o v₀, mu[kc]? = some (c, o) ∧ o.data = .cell v₀) (h2 : ∀ i vals, Pt i vals → ∃ a b, vals = #[a, b])
    (turn : ∀ i a b Z₁ g₁ m₁ mu₁ s₁, i < n → Pt i #[a, b] → J i g₁ m₁ mu₁ → mu₁.map (·.1) = mu.map (·.1) → g.StaysIn g₁ → ∀ oc, CellIs oc a → At T Z₁ g₁ L ((xv, b) :: m₁) (mu₁.set kc (c, oc)) s₁ →
      (∀ g₂ m₂ mu₂ s₂, At T Z₁ g₂ L m₂ mu₂ s₂ → mu₂.map (·.1) = mu.map (·.1) → At T Z g₂ L m₂ mu₂ s₂) →
      wpAny (model prog w) A (execs body env) (TurnPost T Z₁ L (mu.map (·.1)) (J (i + 1)) Q) noE s₁)
    (done : ∀ g' m' mu' s', J n g' m' mu' → mu'.map (·.1) = mu.map (·.1) → At T Z g' L m' mu' s' → Q .next s') (hR : ∀ f s', Q f s' → Rr (.ok f) s') :
    codeAny (model prog w) A (.forLoop (.Tuple [.Name xi pi, .Name xv pv] kt pt) (.ref I) body [] env) Rr s := by
  subst hL
  refine codeAny_forLoop_any (fun k s' => ∃ i g' m' mu', At T Z g' env.locals m' mu' s' ∧ St i s'.heap ∧ J i g' m' mu' ∧ mu'.map (·.1) = mu.map (·.1) ∧ g.StaysIn g' ∧ (∀ a ∈ wr, g'.get? a = none) ∧ i ≤ n ∧ k = n + 1 - i) ?_ (n + 1)
    ⟨0, g, m, mu, H, hst, h0, rfl, stays_refl _, fun a ha => (hw a ha).2.2.1, Nat.zero_le _, rfl⟩
  rintro k s' ⟨i, g', m', mu', H', st', hJ, ad, kg, hwg, hi, rfl⟩
  have hw' : ∀ a ∈ wr, a ≠ env.locals ∧ a ∉ mu'.map (·.1) ∧ g'.get? a = none ∧ Z.b.get? a = none := fun a ha => ⟨(hw a ha).1, ad ▸ (hw a ha).2.1, hwg a ha, (hw a ha).2.2.2⟩
  by_cases hlt : i < n
  · refine W.item i _ _ _ hlt st' fun Tt vals h₁ tk₁ hP hge hT hMid hk₁ => ?_
    obtain ⟨a, b, rfl⟩ := h2 i vals hP
    have H₁ := H'.else_ (h' := h₁) (t := tk₁) (fun a o hn e => hk₁ a o hn e) hw'
    refine W.go _ _ _ i Tt _ _ _ hMid fun h₂ st₂ hk₂ => ?_
    have H₂ := H₁.else_ (h' := h₂) (t := tk₁) (fun a o hn e => hk₂ a o hn e) hw'
    have hT₂ : IsTup h₂ Tt #[a, b] := by
      obtain ⟨o, e, r⟩ := hT
      exact ⟨o, hk₂ _ _ (W.apart _ _ _ hMid) e, r⟩
    refine assign_Tuple_tuple hh hT₂ rfl rfl fun h₃ hx₃ => ?_
    have H₃ := H₂.extBut hx₃
    have st₃ : St (i + 1) h₃ := W.frame _ _ _ st₂ fun b hb o e => hx₃ b o (Nat.ne_of_lt (Heap.lt_size e)) e
    have H₃t := H₃.toTurn
    refine assignInOrder_cons (assign_Name ?_)
    obtain ⟨oc₀, v₀, hkc, hcd⟩ := hJc _ _ _ _ hJ
    refine r_storeCell H₃t hcl hkc hcd (fun oc s₄ hoc H₄ => ?_) hk hxi
    refine assignInOrder_cons (assign_Name ?_)
    refine r_store H₄ (fun s₅ H₅ => assignInOrder_nil ?_) rfl hk hxv
    refine wpAny_mono (turn i a b _ g' m' mu' _ hlt hP hJ ad kg oc hoc H₅ (fun g₂ m₂ mu₂ s₂ h ad₂ => H₃.ofTurn h (ad₂.trans ad.symm))) (fun f s₂ hf => ?_) fun _ _ e => e.elim
    have fin : TurnEnd T (Zed.turn env.locals mu' g' { s' with heap := h₃, toks := tk₁ }) env.locals (mu.map (·.1)) (J (i + 1)) s₂ → ∃ k', k' < n + 1 - i ∧ ∃ i g' m' mu', At T Z g' env.locals m' mu' s₂ ∧ St i s₂.heap ∧ J i g' m' mu' ∧ mu'.map (·.1) = mu.map (·.1) ∧ g.StaysIn g' ∧ (∀ a ∈ wr, g'.get? a = none) ∧ i ≤ n ∧ k' = n + 1 - i := by
      rintro ⟨g₂, m₂, mu₂, H₆, ad₃, hJ₃⟩
      refine ⟨n + 1 - (i + 1), by omega, i + 1, g₂, m₂, mu₂, H₃.ofTurn H₆ (ad₃.trans ad.symm), W.frame _ _ _ st₃ fun b hb o e => H₆.hh b o (hideAll_get _ e fun hm => ?_), hJ₃, ad₃, stays_trans kg H₆.gg, fun a ha => ?_, hlt, rfl⟩
      · rcases List.mem_cons.mp hm with q | q
        · exact hfL (q ▸ hb)
        · exact hfm b hb (ad ▸ q)
      · cases e : g₂.get? a with
        | none => rfl
        | some y =>
          rcases H₆.fr a y e with q | q
          · have q' : g'.get? a = some y := q
            rw [hwg a ha] at q'; cases q'
          · obtain ⟨o, ho⟩ := live _ _ st₃ a ha
            have hn : a ∉ env.locals :: mu'.map (·.1) := fun hm => by
              rcases List.mem_cons.mp hm with z | z
              · exact (hw' a ha).1 z
              · exact (hw' a ha).2.1 z
            have := hideAll_get _ ho hn
            rw [show (Zed.turn env.locals mu' g' { s' with heap := h₃, toks := tk₁ }).b.get? a = some o from this] at q
            cases q
    cases f with
    | ret v => exact hR _ _ hf
    | brk => exact hR _ _ hf
    | next => exact fin hf
    | cont => exact fin hf
  · have hin : i = n := by omega
    subst hin
    refine W.done _ _ _ st' fun h₁ tk₁ hk₁ => wpAny_execs_nil ?_
    exact hR _ _ (done g' m' mu' _ hJ ad (H'.else_ (h' := h₁) (t := tk₁) (fun a o hn e => hk₁ a o hn e) hw'))

/-- «for i, x in enumerate(xs)» -/
theorem for_enumC {env : Env} {xi xv : Str} {pi pv pt : Pos} {kt : Nat} {body : List Stmt} {l : Addr} {vs : List Value} {Q : Flow → Shared → Prop}
    (c : Addr) (kc : Nat) (J : Nat → Heap → List (Str × Value) → List (Addr × Obj) → Prop) (hcl : env.cells.lookup xi = some c) (hJc : ∀ i g m mu, J i g m mu → ∃ o v₀, mu[kc]? = some (c, o) ∧ o.data = .cell v₀) (R : Room A 0) (H : At T Z g L m mu s) (hl : IsListV g l vs) (h0 : J 0 g m mu)
    (turn : ∀ (i : Nat) t v Z₁ g₁ m₁ mu₁ s₁, vs[i]? = some v → J i g₁ m₁ mu₁ → mu₁.map (·.1) = mu.map (·.1) → g.StaysIn g₁ → ∀ oc, CellIs oc (.int i t) → At T Z₁ g₁ L ((xv, v) :: m₁) (mu₁.set kc (c, oc)) s₁ →
      (∀ g₂ m₂ mu₂ s₂, At T Z₁ g₂ L m₂ mu₂ s₂ → mu₂.map (·.1) = mu.map (·.1) → At T Z g₂ L m₂ mu₂ s₂) →
      wpAny (model prog w) A (execs body env) (TurnPost T Z₁ L (mu.map (·.1)) (J (i + 1)) Q) noE s₁)
    (done : ∀ g' m' mu' s', J vs.length g' m' mu' → mu'.map (·.1) = mu.map (·.1) → At T Z g' L m' mu' s' → Q .next s')
    (hL : env.locals = L := by rfl) (hk : env.scope.kind = .function := by rfl) (hxi : env.kindOf xi = some .cell := by rfl) (hxv : env.kindOf xv = some .local := by rfl) :
    wpAny (model prog w) A (call (.type "enumerate") [.ref l]) (fun xx s₁ => wpAny (model prog w) A (pyIter xx) (fun it s₂ => codeAny (model prog w) A (.forLoop (.Tuple [.Name xi pi, .Name xv pv] kt pt) it body [] env) (fun r s' => match r with | .ok f => Q f s' | .error e => cameBackBy (model prog w) A env E e s') s₂) E s₁) E s := by
  have hls := H.lst (hasG hl)
  obtain ⟨n, hn⟩ := hl
  have hsz : s.heap.get? l = some _ := H.gh _ _ hn
  have hlt := Heap.lt_size hsz
  refine call_enumerate_list hls fun h' he hit hz hk' => ?_
  refine wpAny_pyIter_enum (s := { s with heap := h' }) he ?_
  have W := WalksT.enumerate (prog := prog) (w := w) R.handled (s.heap.objs.size + 1) s.heap.objs.size l (Nat.succ_ne_self _) (Nat.ne_of_lt (Nat.lt_succ_of_lt hlt)) (Nat.ne_of_lt hlt) vs.toArray
  have hlen : vs.toArray.size = vs.length := by simp
  rw [hlen] at W
  have fresh : ∀ (h : Heap) (a : Addr), h.StaysIn s.heap → s.heap.objs.size ≤ a → h.get? a = none := fun h a k ha => by
    cases e : h.get? a with
    | none => rfl
    | some o => exact absurd (Heap.lt_size (k _ _ e)) (Nat.not_lt.mpr ha)
  obtain ⟨oL, hoL⟩ := H.Lsome
  have hLlt := Heap.lt_size hoL
  have hmem : ∀ a, s.heap.objs.size ≤ a → a ∉ mu.map (·.1) := fun a ha hm => by
    obtain ⟨p, hp, e⟩ := List.mem_map.mp hm
    have := Heap.lt_size (H.mus p hp).1
    rw [e] at this; exact absurd this (Nat.not_lt.mpr ha)
  refine loop_walksC (Q := Q) J hL c kc hxi hcl hxv hk W R.handled (H.stay (s' := { s with heap := h' }) hk' rfl rfl) ⟨⟨_, he⟩, hit, hls.at fun o e => hk' _ _ e⟩ (fun i h st a ha => ?_) (fun a ha => ?_) (fun hm => ?_) (fun a ha => ?_) h0 hJc (fun i vals hP => ?_)
    (fun i a b Z₁ g₁ m₁ mu₁ s₁ hi hP => ?_) done (fun f s' h => h)
  · obtain ⟨⟨old, h1⟩, ⟨o2, h2, _⟩, _⟩ := st
    rcases List.mem_cons.mp ha with q | q
    · rw [q]; exact ⟨_, h1⟩
    · rw [List.mem_singleton.mp q]; exact ⟨_, h2⟩
  · have : s.heap.objs.size ≤ a := by
      rcases List.mem_cons.mp ha with q | q
      · rw [q]; exact Nat.le_succ _
      · rw [List.mem_singleton.mp q]; exact Nat.le_refl _
    exact ⟨fun q => absurd hLlt (Nat.not_lt.mpr (q ▸ this)), hmem a this, fresh _ a H.gh this, fresh _ a H.hh this⟩
  · rcases List.mem_cons.mp hm with q | q
    · rw [q] at hLlt; exact absurd hLlt (Nat.not_lt.mpr (Nat.le_succ _))
    · rcases List.mem_cons.mp q with q | q
      · rw [q] at hLlt; exact absurd hLlt (Nat.lt_irrefl _)
      · have := H.Lg; rw [List.mem_singleton.mp q, hn] at this; cases this
  · rcases List.mem_cons.mp ha with q | q
    · exact hmem a (by rw [q]; exact Nat.le_succ _)
    · rcases List.mem_cons.mp q with q | q
      · exact hmem a (by rw [q]; exact Nat.le_refl _)
      · rw [List.mem_singleton.mp q]
        intro hm
        obtain ⟨p, hp, e⟩ := List.mem_map.mp hm
        have := (H.mus p hp).2.2.2
        rw [e, hn] at this; cases this
  · obtain ⟨t, x, _, e⟩ := hP
    exact ⟨_, _, e⟩
  · obtain ⟨t, x, hx, e⟩ := hP
    have e' : a = .int i t ∧ b = x := by simpa using e
    obtain ⟨rfl, rfl⟩ := e'
    exact turn i t b Z₁ g₁ m₁ mu₁ s₁ (by simpa using hx)
end
end Mine
namespace Mine
section
variable {prog : Program} {w : World} {K : Frag} {A : Around} {T : Heap} {Z : Zed} {g : Heap} {L : Addr} {m : List (Str × Value)} {mu : List (Addr × Obj)} {s : Shared} {E : Value → Shared → Prop}
theorem At.viaN (H : At T Z g L m mu s) : ∃ mr, Fr {} L s.heap mr ∧ News {} L s.heap (objs L L s.heap) ∧ ∀ h' tk, Fr {} L h' mr → News {} L h' (objs L L s.heap) → At T Z g L m mu { s with heap := h', toks := tk } := by
  obtain ⟨mr, hn, hr⟩ := H.ns
  have e0 : ∀ a : Addr, Heap.get? {} a = none := fun a => by simp [Heap.get?]
  refine ⟨mr, ⟨hn, fun b o e => by simp [Heap.get?] at e, Nat.zero_le _⟩, fun p hp => ?_, fun h' tk F' N' => ?_⟩
  · have := mem_objs.mp (show (p.1, p.2) ∈ _ from hp)
    exact ⟨this.1, this.2.1, e0 _⟩
  · exact H.step (fun a o hL _ e => (N' (a, o) (mem_objs.mpr ⟨e, hL, hL⟩)).1) ⟨mr, F'.ns, hr⟩ rfl (fun p hp => (N' (p.1, p.2) (mem_objs.mpr ⟨(H.mus p hp).1, (H.mus p hp).2.1, (H.mus p hp).2.1⟩)).1) rfl rfl
theorem r_max {l : Addr} {vs : List Value} {ns : List Int} {Q : Value → Shared → Prop} (R : Room A 0) (H : At T Z g L m mu s) (hl : HasList g mu l vs) (hi : IntsAre vs ns) (hne : ns ≠ []) (h : ∀ M t s', At T Z g L m mu s' → M ∈ ns → (∀ a ∈ ns, a ≤ M) → Q (.int M t) s') :
    wpAny (model prog w) A (call (.builtin "max") [.ref l]) Q E s := by
  obtain ⟨mr, F, N, back⟩ := H.viaN
  exact kso_max F N (H.lst hl) hi (List.length_pos_iff.mpr hne) R.handled fun h' M t tk F' N' h1 h2 => h M t _ (back h' tk F' N') h1 h2
theorem r_min {l : Addr} {vs : List Value} {ns : List Int} {Q : Value → Shared → Prop} (R : Room A 0) (H : At T Z g L m mu s) (hl : HasList g mu l vs) (hi : IntsAre vs ns) (hne : ns ≠ []) (h : ∀ M t s', At T Z g L m mu s' → M ∈ ns → (∀ a ∈ ns, M ≤ a) → Q (.int M t) s') :
    wpAny (model prog w) A (call (.builtin "min") [.ref l]) Q E s := by
  obtain ⟨mr, F, N, back⟩ := H.viaN
  exact kso_min F N (H.lst hl) hi (List.length_pos_iff.mpr hne) R.handled fun h' M t tk F' N' h1 h2 => h M t _ (back h' tk F' N') h1 h2
theorem r_addList {a b : Addr} {xs ys : List Value} {Q : Value → Shared → Prop} (H : At T Z g L m mu s) (ha : HasList g mu a xs) (hb : HasList g mu b ys) (hz : xs.length + ys.length ≤ 100000) (h : ∀ D s', At T Z g L m (mu ++ [(D, LO (xs ++ ys) 0)]) s' → Q (.ref D) s') :
    wpAny (model prog w) A (binaryOp .Add (.ref a) (.ref b)) Q E s := by
  obtain ⟨mr, F, N, back⟩ := H.viaN
  refine kmk_add_lit F N (H.lst ha) (H.lst hb) (zs := xs ++ ys) (by simp) (fun D h' F' N' hD => ?_) (by simp only [List.size_toArray, Array.length_toList]; rw [sizeLine_eq]; omega)
  have H' := back h' s.toks F' (fun p hp => N' p (.tail _ hp))
  have hd := N' _ (.head _)
  have hn : s.heap.get? D = none := by
    cases e : s.heap.get? D with
    | none => rfl
    | some o => exact absurd (hD (D, o) (mem_objs.mpr ⟨e, hd.2.1, hd.2.1⟩)) (Nat.lt_irrefl _)
  refine h D _ ((H'.adopt (D := D) hd.1 hd.2.1 ?_ ?_ fun hm => ?_).perm (List.perm_append_comm (l₁ := [_])))
  · cases q : Z.b.get? D with
    | none => rfl
    | some o => have := H.hh _ _ q; rw [hn] at this; cases this
  · cases q : g.get? D with
    | none => rfl
    | some o => have := H.gh _ _ q; rw [hn] at this; cases this
  · obtain ⟨p, hp, e⟩ := List.mem_map.mp hm
    have := (H.mus p hp).1
    rw [e, hn] at this; cases this
theorem r_inTupStrs {vs : List Value} {ss : List Str} {x : Str} {u : Tok} {Q : Value → Shared → Prop} (H : At T Z g L m mu s) (hz : vs.length ≤ 100000) (hS : StrsAre vs ss) (h : ∀ s', At T Z g L m mu s' → Q (.bool (ss.any (· == x))) s') :
    wpAny (model prog w) A (newTuple vs) (fun b s₂ => wpAny (model prog w) A (compareOp .In (.str x u) b) Q E s₂) E s := by
  refine r_newTuple H hz fun tp s' H' => ?_
  exact in_tuple_strs ⟨_, (H'.mus (tp, _) (List.mem_append_right _ (.head _))).1, rfl, _, rfl⟩ (by simpa using hS) (h _ H'.drop)
theorem r_inInts {l : Addr} {vs : List Value} {ns : List Int} {k : Int} {u : Tok} {Q : Value → Shared → Prop} (H : At T Z g L m mu s) (hl : HasList g mu l vs) (hi : IntsAre vs ns) (h : Q (.bool (ns.any (· == k))) s) : wpAny (model prog w) A (compareOp .In (.int k u) (.ref l)) Q E s :=
  in_list_ints (H.lst hl) hi h
end
end Mine
namespace Mine
/-- a goal fits the word at i: within its own sub, or a begin for a call -/
noncomputable def GoalOK (ws : List Str) (bs : List Nat) (i : Nat) (wd : Str) (x : Int) : Prop :=
  (wd = "call" → ∃ b ∈ bs, x = (b : Int)) ∧
  (wd ∈ (["branch", "jump", "far"] : List Str) → ∃ low high y : Nat, x = (y : Int) ∧ low ∈ bs ∧ low ≤ i ∧ i < high ∧ (high ∈ bs ∨ high = ws.length) ∧ (∀ b ∈ bs, b ≤ low ∨ high ≤ b) ∧ low ≤ y ∧ y < high) ∧
  (wd ∉ (["call", "branch", "jump", "far"] : List Str) → x = -1)
section
variable {prog : Program} {w : World} {K : Frag} {A : Around} {T : Heap} {Z : Zed} {g : Heap} {L : Addr} {m : List (Str × Value)} {mu : List (Addr × Obj)} {s : Shared} {E : Value → Shared → Prop}
set_option maxHeartbeats 1000000
set_option maxRecDepth 100000
theorem goals_spec {pen sc wl bl : Addr} {po : Obj} {n : Nat} {wvs bvs : List Value} {ws : List Str} {bs : List Nat} {Q : Value → Shared → Prop} (TF : TopF K T) (H : At T Z g L m ((pen, po) :: mu) s) (R : Room A 3) (hsc : ScriptIs g sc) (hp : PenIs sc n po) (hn : n ≤ 5000)
    (hwl : IsListV g wl wvs) (hws : StrsAre wvs ws) (hbl : IsListV g bl bvs) (hbs : IntsAre bvs (bs.map fun b : Nat => (b : Int))) (S : Shape ws bs) (hb0 : bs ≠ []) (hb3 : bs.length ≤ 3)
    (h : ∀ gl gvs gs po' g' s', g.StaysIn g' → IsListV g' gl gvs → IntsAre gvs gs → gs.length = ws.length → (∀ i w x, ws[i]? = some w → gs[i]? = some x → GoalOK ws bs i w x) → PenIs sc (n + ws.length) po' → At T Z g' L m ((pen, po') :: mu) s' → Q (.ref gl) s') :
    wpAny (model prog w) A (call (.ref 378) [.ref pen, .ref wl, .ref bl]) Q E s := by
  refine enterX (lent := [(pen, po)]) [("pen", .ref pen), ("words", .ref wl), ("begins", .ref bl)] [("pen", .ref pen), ("words", .ref wl), ("begins", .ref bl)] TF (show FnIs K 378 (defAt 52) "_law_goals" .none from TF.fns 31 _ rfl) rfl H R (fun _ _ _ _ _ => BindsTo.of_eq rfl)
    (by intro n x hx; rcases List.mem_cons.mp hx with rfl | hx; exact .inl rfl; rcases List.mem_cons.mp hx with rfl | hx; exact .inl rfl; rcases List.mem_cons.mp hx with rfl | hx; exact .inl rfl; cases hx) (by decide) (fun L => by show [L + 1].Nodup; simp) (fun L cd => ⟨rfl, rfl, rfl, trivial⟩) rfl rfl rfl ?_
  clear H R
  intro cdv L cells s Y H back R
  obtain ⟨oc, rfl, hoc⟩ := CellsAre.one Y
  generalize Zed.into _ g _ = Z' at *
  have hwl' := hws.length
  have hSl := S.len
  have hbvl := hbs.length
  rw [List.length_map] at hbvl
  simp only [List.cons_append, List.nil_append] at H
  repeat' walk_at "y"
  refine r_newList H (by decide) ?_
  clear H; intro gl s H
  simp only [List.cons_append, List.nil_append] at H
  repeat' walk_at "y"
  refine for_enumC (L + 1) 1 (fun i g₁ m₁ mu₁ => ∃ po oc v₀ gvs n' gs, m₁ = ([("pen", .ref pen), ("words", .ref wl), ("begins", .ref bl), ("goals", .ref gl)] : Loc) ∧ mu₁ = [(pen, po), (L + 1, oc), (gl, LO gvs n')] ∧ g.StaysIn g₁ ∧ oc.data = .cell v₀ ∧ PenIs sc (n + i) po ∧ IntsAre gvs gs ∧ gs.length = i ∧
      (∀ j w x, ws[j]? = some w → gs[j]? = some x → GoalOK ws bs j w x)) rfl (fun i g₁ m₁ mu₁ hJ => ?_) (R.less (by decide)) (H.know (by walk_at "k")) hwl ⟨po, oc, _, [], _, [], rfl, rfl, stays_refl _, hoc, hp, .nil, rfl, fun j w x _ e => by simp at e⟩ ?_ ?_
  · obtain ⟨po, oc, v₀, gvs, n', gs, _, rfl, _, h1, _⟩ := hJ
    exact ⟨oc, v₀, rfl, h1⟩
  · clear H hp hoc
    rintro i t v Z₁ g₁ m₁ mu₁ s hi ⟨po, oc0, v₀, gvs, n', gs, rfl, rfl, kg₁, _, hp, hgs, hgl, hok⟩ _ kg' oc hoc H out
    refine gen_post fun PP hPP => ?_
    have hil : i < ws.length := by rw [← hwl']; exact (List.getElem?_eq_some_iff.mp hi).1
    obtain ⟨tw, hwv⟩ := hws.get i ws[i] (List.getElem?_eq_getElem hil)
    rw [hwv] at hi; cases hi
    have hwd : ws[i]? = some ws[i] := List.getElem?_eq_getElem hil
    generalize ws[i] = wd at *
    simp only [List.set_cons_succ, List.set_cons_zero] at H
    repeat' walk_at "y"
    refine r_LC (cl := [("at", L + 1)]) rfl ?_
    repeat' walk_at "y"
    have hcl := (H.mus _ (.tail _ (.head _))).1
    refine comp_list (lent := []) (fun j g₂ m₂ lent ys => g₁ = g₂ ∧ m₂ = [] ∧ lent = [] ∧ IntsAre ys (((bs.take j).filter fun b => decide (b ≤ i)).map fun b : Nat => (b : Int))) (R.less (by decide)) H (hbl.mono kg₁) (by omega) ⟨rfl, rfl, rfl, .nil⟩ ?_ ?_
    · clear H
      rintro j v C Z₂ g₂ m₂ lent₂ D ys n₁ s hj ⟨rfl, rfl, rfl, hys⟩ _ kg₂ kz H
      refine gen_comp fun CE hCE => ?_
      obtain ⟨bj, tj, rfl, hbj⟩ := hbs.at j v hj
      rw [List.getElem?_map, Option.map_eq_some_iff] at hbj
      obtain ⟨b, hb, rfl⟩ := hbj
      have htk : bs.take (j + 1) = bs.take j ++ [b] := by rw [List.take_add_one, hb]; rfl
      refine wpAny_tests_one ?_
      repeat' walk_at "y"
      refine r_cell (c := L + 1) rfl (H.hh _ _ (kz _ _ (hideAll_get _ hcl (by simp)))) hoc ?_
      repeat' walk_at "y"
      · have hle : b ≤ i := by simpa using hc
        refine hCE _ _ ⟨_, [], [], _, H.know trivial, rfl, rfl, rfl, rfl, ?_⟩
        rw [htk, List.filter_append, List.map_append, List.filter_cons_of_pos (by simpa using hle)]
        exact hys.append (.cons _ _ .nil)
      · have hle : ¬ b ≤ i := by simpa using hc
        refine hCE _ _ ⟨_, [], [], _, H.know trivial, rfl, rfl, rfl, rfl, ?_⟩
        rw [htk, List.filter_append, List.map_append, List.filter_cons_of_neg (by simpa using hle)]
        simpa using hys
    · clear H
      rintro D g₂ m₂ lent' ys g₃ s ⟨rfl, _, rfl, hys⟩ kg₃ hD _ H
      rw [hbvl, List.take_length] at hys
      simp only [List.nil_append] at H
      repeat' walk_at "y"
      have hb00 : 0 ∈ bs := by
        have := S.zero hb0
        cases bs with
        | nil => cases this
        | cons a r => cases this; exact .head _
      refine r_max (R.less (by decide)) H (hasG hD) hys (fun e => ?_) ?_
      · have : 0 ∈ bs.filter fun b => decide (b ≤ i) := List.mem_filter.mpr ⟨hb00, by simp⟩
        rw [List.map_eq_nil_iff.mp e] at this; cases this
      clear H; intro M tM s H hM hM2
      obtain ⟨low, hlow, rfl⟩ := List.mem_map.mp hM
      rw [List.mem_filter] at hlow
      have hlow2 : low ≤ i := by simpa using hlow.2
      have hmax : ∀ b ∈ bs, b ≤ i → b ≤ low := fun b hb hbi => by
        have := hM2 b (List.mem_map.mpr ⟨b, List.mem_filter.mpr ⟨hb, by simpa using hbi⟩, rfl⟩)
        omega
      repeat' walk_at "y"
      refine r_LC (cl := [("at", L + 1)]) rfl ?_
      repeat' walk_at "y"
      have hcl := (H.mus _ (.tail _ (.head _))).1
      refine comp_list (lent := []) (fun j g₂ m₂ lent ys => g₃ = g₂ ∧ m₂ = [] ∧ lent = [] ∧ IntsAre ys (((bs.take j).filter fun b => decide (i < b)).map fun b : Nat => (b : Int))) (R.less (by decide)) H ((hbl.mono kg₁).mono kg₃) (by omega) ⟨rfl, rfl, rfl, .nil⟩ ?_ ?_
      · clear H hys
        rintro j v C Z₂ g₂ m₂ lent₂ D ys n₁ s hj ⟨rfl, rfl, rfl, hys⟩ _ kg₂ kz H
        refine gen_comp fun CE hCE => ?_
        obtain ⟨bj, tj, rfl, hbj⟩ := hbs.at j v hj
        rw [List.getElem?_map, Option.map_eq_some_iff] at hbj
        obtain ⟨b, hb, rfl⟩ := hbj
        have htk : bs.take (j + 1) = bs.take j ++ [b] := by rw [List.take_add_one, hb]; rfl
        refine wpAny_tests_one ?_
        repeat' walk_at "y"
        refine r_cell (c := L + 1) rfl (H.hh _ _ (kz _ _ (hideAll_get _ hcl (by simp)))) hoc ?_
        repeat' walk_at "y"
        · have hle : i < b := by simpa using hc
          refine hCE _ _ ⟨_, [], [], _, H.know trivial, rfl, rfl, rfl, rfl, ?_⟩
          rw [htk, List.filter_append, List.map_append, List.filter_cons_of_pos (by simpa using hle)]
          exact hys.append (.cons _ _ .nil)
        · have hle : ¬ i < b := by simpa using hc
          refine hCE _ _ ⟨_, [], [], _, H.know trivial, rfl, rfl, rfl, rfl, ?_⟩
          rw [htk, List.filter_append, List.map_append, List.filter_cons_of_neg (by simpa using hle)]
          simpa using hys
      · clear H hys hD
        rintro D g₂ m₂ lent' ys g₄ s ⟨rfl, _, rfl, hys⟩ kg₄ hD _ H
        rw [hbvl, List.take_length] at hys
        have hysl := hys.length
        have hysl2 : ((bs.filter fun b => decide (i < b)).map fun b : Nat => (b : Int)).length ≤ 3 := by rw [List.length_map]; exact Nat.le_trans (List.length_filter_le _ _) hb3
        simp only [List.nil_append] at H
        have kg14 : g.StaysIn g₄ := stays_trans (stays_trans kg₁ kg₃) kg₄
        repeat' walk_at "y"
        refine r_len H (hasG (hwl.mono kg14)) (by omega) ?_
        clear H; intro t5 s H
        repeat' walk_at "y"
        refine r_newList H (Nat.le_of_ble_eq_true rfl) ?_
        clear H; intro el s H
        simp only [List.cons_append, List.nil_append] at H
        refine r_addList H (hasG hD) (hasM 3 rfl) (by simp; omega) ?_
        clear H; intro D3 s H
        simp only [List.cons_append, List.nil_append] at H
        repeat' walk_at "y"
        refine r_min (R.less (by decide)) H (hasM 4 rfl) (hys.append (.cons _ _ .nil)) (by simp) ?_
        clear H; intro M2 tM2 s H hM3 hM4
        obtain ⟨high, hM2e, hhi1, hhi2, hhi3⟩ : ∃ high : Nat, M2 = (high : Int) ∧ i < high ∧ (high ∈ bs ∨ high = ws.length) ∧ ∀ b ∈ bs, i < b → high ≤ b := by
          have hall : ∀ b ∈ bs, i < b → M2 ≤ (b : Int) := fun b hb hbi => hM4 b (List.mem_append_left _ (List.mem_map.mpr ⟨b, List.mem_filter.mpr ⟨hb, by simpa using hbi⟩, rfl⟩))
          rcases List.mem_append.mp hM3 with q | q
          · obtain ⟨high, hh, rfl⟩ := List.mem_map.mp q
            rw [List.mem_filter] at hh
            exact ⟨high, rfl, by simpa using hh.2, .inl hh.1, fun b hb hbi => by have := hall b hb hbi; omega⟩
          · rw [List.mem_singleton] at q
            exact ⟨ws.length, by rw [q, hwl'], hil, .inr rfl, fun b hb hbi => by have := hall b hb hbi; omega⟩
        clear hM3 hM4
        subst hM2e
        have hsub : ∀ b ∈ bs, b ≤ low ∨ high ≤ b := fun b hb => by
          rcases Nat.lt_or_ge i b with q | q
          · exact .inr (hhi3 b hb q)
          · exact .inl (hmax b hb q)
        have hhw : high ≤ ws.length := by
          rcases hhi2 with q | q
          · exact Nat.le_of_lt (S.lt _ q)
          · omega
        have fin : ∀ x po' g₅ gvs' s tx n₅ m₅ jk, g₄.StaysIn g₅ → PenIs sc (n + (i + 1)) po' → gvs' = gvs ++ [.int x tx] → GoalOK ws bs i wd x → At T Z₁ g₅ L m₅ ([(pen, po'), (L + 1, oc), (gl, LO gvs' n₅)] ++ jk) s → Knows m₅ [("pen", .ref pen), ("words", .ref wl), ("begins", .ref bl), ("goals", .ref gl)] →
            TurnEnd T Z₁ L [pen, L + 1, gl] (fun g₁ m₁ mu₁ => ∃ po oc v₀ gvs n' gs, m₁ = ([("pen", .ref pen), ("words", .ref wl), ("begins", .ref bl), ("goals", .ref gl)] : Loc) ∧ mu₁ = [(pen, po), (L + 1, oc), (gl, LO gvs n')] ∧ g.StaysIn g₁ ∧ oc.data = .cell v₀ ∧ PenIs sc (n + (i + 1)) po ∧ IntsAre gvs gs ∧ gs.length = i + 1 ∧
              (∀ j w x, ws[j]? = some w → gs[j]? = some x → GoalOK ws bs j w x)) s := by
          rintro x po' g₅ gvs' s tx n₅ m₅ jk k5 hp5 rfl hok5 H5 hkn
          refine ⟨_, _, _, (H5.drop).know hkn, rfl, po', oc, _, _, _, gs ++ [x], rfl, rfl, stays_trans kg14 k5, hoc, hp5, ints_snoc hgs, by simp [hgl], fun j w' x' e1 e2 => ?_⟩
          rcases Nat.lt_or_ge j i with hj | hj
          · rw [List.getElem?_append_left (by omega)] at e2; exact hok j w' x' e1 e2
          · rw [List.getElem?_append_right (by omega)] at e2
            have hji : j = i := by have := (List.getElem?_eq_some_iff.mp e2).1; simp at this; omega
            subst hji
            rw [hwd] at e1; cases e1
            rw [hgl, Nat.sub_self] at e2
            have : x = x' := by simpa using e2
            rw [← this]; exact hok5
        repeat' walk_at "y"
        · have hw : wd = "call" := by simpa using hc
          refine r_meth H (hasM 2 rfl) ?_
          try dsimp only
          repeat' walk_at "y"
          refine pick_spec TF H (R.less (by decide)) (hsc.mono kg14) hp (by omega) (hbl.mono kg14) (by rw [hbvl]; exact List.length_pos_iff.mpr hb0) (by omega) ?_
          clear H; intro v po2 s hv hp2 H
          obtain ⟨jj, hj⟩ := List.mem_iff_getElem?.mp hv
          obtain ⟨bj, tj, rfl, hbj⟩ := hbs.at jj v hj
          rw [List.getElem?_map, Option.map_eq_some_iff] at hbj
          obtain ⟨b, hb, rfl⟩ := hbj
          repeat' walk_at "y"
          refine r_append (i := 2) H rfl (by have := hgs.length; omega) ?_
          clear H; intro n3 s H
          simp only [List.set_cons_succ, List.set_cons_zero] at H
          repeat' walk_at "y"
          refine tpn hPP (fin b po2 g₄ _ s tj n3 _ [_, _] (stays_refl _) (hp2.more (by omega)) rfl ⟨fun _ => ⟨b, List.mem_of_getElem? hb, rfl⟩, fun hin => ?_, fun hn => ?_⟩ H (by walk_at "k"))
          · rw [hw] at hin; exact absurd hin (by decide +kernel)
          · rw [hw] at hn; exact absurd (by decide +kernel) hn
        · have hw : wd ≠ "call" := by simpa using hc
          refine r_inTupStrs H (Nat.le_of_ble_eq_true rfl) (.cons _ _ (.cons _ _ (.cons _ _ .nil))) ?_
          clear H; intro s H
          repeat' walk_at "y"
          · have hin : wd ∈ (["branch", "jump", "far"] : List Str) := by
              obtain ⟨y, hy, e⟩ := List.any_eq_true.mp hc
              have : y = wd := by simpa using e
              rw [← this]; exact hy
            refine r_meth H (hasM 2 rfl) ?_
            try dsimp only
            repeat' walk_at "y"
            rw [show ((high : Int) - (low : Int)) = ((high - low : Nat) : Int) from by omega]
            refine draw_spec TF H (R.less (by decide)) (hsc.mono kg14) hp (by omega) (by omega) (by omega) ?_
            clear H; intro d u po2 s hd hp2 H
            repeat' walk_at "y"
            refine r_append (i := 2) H rfl (by have := hgs.length; omega) ?_
            clear H; intro n3 s H
            simp only [List.set_cons_succ, List.set_cons_zero] at H
            repeat' walk_at "y"
            refine tpn hPP (fin (low + d) po2 g₄ _ s _ n3 _ [_, _] (stays_refl _) (hp2.more (by omega)) rfl ⟨fun e => absurd e hw, fun _ => ⟨low, high, low + d, by push_cast; rfl, hlow.1, hlow2, hhi1, hhi2, hsub, by omega, by omega⟩, fun hn => absurd (.tail _ hin) hn⟩ H (by walk_at "k"))
          · have hin : wd ∉ (["branch", "jump", "far"] : List Str) := fun hin => hc (List.any_eq_true.mpr ⟨wd, hin, by simp⟩)
            refine r_meth H (hasM 2 rfl) ?_
            try dsimp only
            repeat' walk_at "y"
            refine r_append (i := 2) H rfl (by have := hgs.length; omega) ?_
            clear H; intro n3 s H
            simp only [List.set_cons_succ, List.set_cons_zero] at H
            repeat' walk_at "y"
            refine tpn hPP (fin (-1) po g₄ _ s _ n3 _ [_, _] (stays_refl _) (hp.more (by omega)) rfl ⟨fun e => absurd e hw, fun q => absurd q hin, fun _ => rfl⟩ H (by walk_at "k"))
  · rintro g₁ m₁ mu₁ s ⟨po, oc, v₀, gvs, n', gs, rfl, rfl, kg₁, _, hp, hgs, hgl, hok⟩ _ H
    repeat' walk_at "y"
    obtain ⟨g₂, k₂, hg₂, H⟩ := At.freeze (mu := [(pen, po)]) H
    rw [hwl'] at hgl hp
    repeat' walk_at "y"
    exact h gl gvs gs po g₂ s (stays_trans kg₁ k₂) ⟨n', hg₂ _ (.tail _ (.head _))⟩ hgs hgl hok hp (back _ _ [(pen, po)] _ _ rfl H)
end
end Mine
namespace Mine
noncomputable def mkOrd (wd : Str) (a : Nat) (away : Int) : Ord :=
  if wd = "mov" then ⟨183, (a : Int).fmod 10, 0, 0, a, 0⟩ else if wd = "wide" then ⟨24, (a : Int).fmod 10, 0, 0, a, 256⟩ else if wd = "branch" then ⟨101, (a : Int).fmod 10, 0, away, a, 0⟩
  else if wd = "jump" then ⟨5, 0, 0, away, 0, 0⟩ else if wd = "far" then ⟨6, 0, 0, 0, away, 0⟩ else if wd = "call" then ⟨133, 0, 1, 0, away, 0⟩ else ⟨149, 0, 0, 0, 0, 0⟩
section
variable {prog : Program} {w : World} {K : Frag} {A : Around} {T : Heap} {Z : Zed} {g : Heap} {L : Addr} {m : List (Str × Value)} {mu : List (Addr × Obj)} {s : Shared} {E : Value → Shared → Prop}
set_option maxHeartbeats 1000000
set_option maxRecDepth 100000
theorem order_spec {wd : Str} {a : Nat} {away : Int} {t1 t2 t3 : Tok} {Q : Value → Shared → Prop} (TF : TopF K T) (H : At T Z g L m mu s) (R : Room A 5) (ha : a < 100)
    (h : ∀ x g' s', g.StaysIn g' → IsOrder g' x (mkOrd wd a away) → At T Z g' L m mu s' → Q (.ref x) s') : wpAny (model prog w) A (call (.ref 385) [.str wd t1, .int a t2, .int away t3]) Q E s := by
  refine enter0 [("word", .str wd t1), ("at", .int a t2), ("away", .int away t3)] TF (show FnIs K 385 (defAt 53) "_law_order" .none from TF.fns 32 _ rfl) rfl H R (fun _ _ _ _ _ => BindsTo.of_eq rfl) (by rfl) (by decide) rfl rfl rfl ?_
  clear H R
  intro cdv L s H back R
  generalize Zed.into _ g _ = Z' at *
  repeat' walk_at "y"
  · have hw : wd = "mov" := by simpa using hc
    refine r_mod H (by decide) ?_
    clear H; intro t4 s H
    repeat' walk_at "y"
    refine alu_mov TF H (R.less (by decide)) ?_
    clear H; intro x g' s k O H
    repeat' walk_at "y"
    exact h x g' s k (iso_eq O (by rw [mkOrd, if_pos hw])) (back _ _ _ _ H)
  · refine r_mod H (by decide) ?_
    clear H; intro t4 s H
    repeat' walk_at "y"
    refine r_pow H (by decide) (by decide) (by decide) ?_
    clear H; intro t5 s H
    repeat' walk_at "y"
    refine wide_spec TF H (R.less (by decide)) ha ?_
    clear H; intro x g' s k O H
    repeat' walk_at "y"
    exact h x g' s k (iso_eq O (by clear h back R H O TF k; simp_all [mkOrd])) (back _ _ _ _ H)
  · refine r_mod H (by decide) ?_
    clear H; intro t4 s H
    repeat' walk_at "y"
    refine branch_spec TF H (R.less (by decide)) ?_
    clear H; intro x g' s k O H
    repeat' walk_at "y"
    exact h x g' s k (iso_eq O (by clear h back R H O TF k; simp_all [mkOrd])) (back _ _ _ _ H)
  · refine jump_spec TF H (R.less (by decide)) ?_
    clear H; intro x g' s k O H
    repeat' walk_at "y"
    exact h x g' s k (iso_eq O (by clear h back R H O TF k; simp_all [mkOrd])) (back _ _ _ _ H)
  · refine far_jump_spec TF H (R.less (by decide)) ?_
    clear H; intro x g' s k O H
    repeat' walk_at "y"
    exact h x g' s k (iso_eq O (by clear h back R H O TF k; simp_all [mkOrd])) (back _ _ _ _ H)
  · refine local_call_spec TF H (R.less (by decide)) ?_
    clear H; intro x g' s k O H
    repeat' walk_at "y"
    exact h x g' s k (iso_eq O (by clear h back R H O TF k; simp_all [mkOrd])) (back _ _ _ _ H)
  · refine leave_spec TF H (R.less (by decide)) ?_
    clear H; intro x g' s k O H
    repeat' walk_at "y"
    exact h x g' s k (iso_eq O (by clear h back R H O TF k; simp_all [mkOrd])) (back _ _ _ _ H)

theorem places_spec {l : Addr} {vs : List Value} {os : List Ord} {Q : Value → Shared → Prop} (TF : TopF K T) (H : At T Z g L m mu s) (R : Room A 3) (hl : IsListV g l vs) (hv : OrdsAt g vs (os.map some)) (hz : os.length ≤ 1000)
    (h : ∀ fl g' s' fvs, g.StaysIn g' → IsListV g' fl fvs → IntsAre fvs ((List.range (os.length + 1)).map (placeOf os)) → At T Z g' L m mu s' → Q (.ref fl) s') : wpAny (model prog w) A (call (.ref 392) [.ref l]) Q E s := by
  refine enter0 [("orders", .ref l)] TF (show FnIs K 392 (defAt 54) "_law_places" .none from TF.fns 33 _ rfl) rfl H R (fun _ _ _ _ _ => BindsTo.of_eq rfl) (by rfl) (by decide) rfl rfl rfl ?_
  clear H R
  intro cdv L s H back R
  generalize Zed.into _ g _ = Z' at *
  have hvl := hv.1
  rw [List.length_map] at hvl
  repeat' walk_at "y"
  refine r_newList H (Nat.le_of_ble_eq_true rfl) ?_
  clear H; intro fl s H
  simp only [List.nil_append] at H
  repeat' walk_at "y"
  refine for_list (fun i g₁ m₁ mu₁ => ∃ fvs n', m₁ = ([("orders", .ref l), ("found", .ref fl)] : Loc) ∧ mu₁ = [(fl, LO fvs n')] ∧ g = g₁ ∧ IntsAre fvs ((List.range (i + 1)).map (placeOf os))) (R.less (by decide)) (H.know (m' := [("orders", .ref l), ("found", .ref fl)]) (by walk_at "k")) hl ⟨_, _, rfl, rfl, rfl, .cons _ _ .nil⟩ ?_ ?_
  · clear H
    rintro i v Z₁ g₁ m₁ mu₁ s hi ⟨fvs, n', rfl, rfl, rfl, hf⟩ _ kg H out
    refine gen_post fun PP hPP => ?_
    have hil : i < os.length := by rw [← hvl]; exact (List.getElem?_eq_some_iff.mp hi).1
    obtain ⟨o, xo, ho, hov, hO⟩ : ∃ o y, os[i]? = some o ∧ vs[i]? = some (.ref y) ∧ IsOrder g y o := by
      have e : os[i]? = some os[i] := List.getElem?_eq_getElem hil
      obtain ⟨y, hy⟩ := hv.2 i (some os[i]) (by simp [e])
      exact ⟨_, y, e, hy⟩
    rw [hov] at hi; cases hi
    have hfl := hf.length
    rw [List.length_map, List.length_range] at hfl
    obtain ⟨fv0, tl, rfl⟩ : ∃ fv0 tl, fvs = fv0 ++ [.int (placeOf os i) tl] := by
      obtain ⟨t, ht⟩ := hf.get i (placeOf os i) (by rw [List.getElem?_map, List.getElem?_range (by omega)]; rfl)
      refine ⟨fvs.take i, t, ?_⟩
      have := List.take_append_drop i fvs
      rw [List.drop_eq_getElem_cons (by omega), List.drop_eq_nil_of_le (by omega)] at this
      rw [(List.getElem?_eq_some_iff.mp ht).2] at this
      exact this.symm
    repeat' walk_at "y"
    refine r_meth H (hasM 0 rfl) ?_
    try dsimp only
    repeat' walk_at "y"
    refine r_itemLast H (hasM 0 rfl) ?_
    repeat' walk_at "y"
    all_goals
      refine r_append (i := 0) H rfl (by omega) ?_
      clear H; intro n3 s H
      simp only [List.set_cons_zero] at H
      repeat' walk_at "y"
      refine tpn hPP ⟨_, _, _, H.know (m' := [("orders", .ref l), ("found", .ref fl)]) (by walk_at "k"), rfl, _, _, rfl, rfl, rfl, ?_⟩
      rw [List.range_succ, List.map_append, List.map_singleton, placeOf_succ ho]
      first
      | rw [slots_wide hc]; exact ints_snoc hf
      | rw [slots_thin hc]; exact ints_snoc hf
  · rintro g' m' mu' s ⟨fvs, n', rfl, rfl, rfl, hf⟩ _ H
    repeat' walk_at "y"
    obtain ⟨g₅, kg₅, hl₅, H⟩ := At.freeze (mu := []) H
    rw [hvl] at hf
    repeat' walk_at "y"
    exact h fl g₅ s fvs kg₅ ⟨n', hl₅ _ (.head _)⟩ hf (back _ _ _ _ H)
end
end Mine
namespace Mine
/-- all that stands in a heap -/
noncomputable def allIn (h : Heap) : List (Addr × Obj) := (List.range h.objs.size).filterMap fun a => (h.get? a).map fun o => (a, o)
theorem mem_allIn {h : Heap} {a : Addr} {o : Obj} : (a, o) ∈ allIn h ↔ h.get? a = some o := by
  unfold allIn
  rw [List.mem_filterMap]
  constructor
  · rintro ⟨b, _, e⟩
    obtain ⟨x, hx, e2⟩ := Option.map_eq_some_iff.mp e
    cases e2
    exact hx
  · intro e
    exact ⟨a, List.mem_range.mpr (Heap.lt_size e), by rw [e]; rfl⟩
noncomputable abbrev VD (g : Heap) (v : Value) (d : Dat) : Prop := DatIn (allIn g) v d
noncomputable abbrev VDs (g : Heap) (vs : List Value) (ds : List Dat) : Prop := DatAll (allIn g) vs ds
theorem allIn_mono {g g' : Heap} (k : g.StaysIn g') : ∀ p ∈ allIn g, p ∈ allIn g' := fun p hp => mem_allIn.mpr (k _ _ (mem_allIn.mp (show (p.1, p.2) ∈ _ from hp)))
theorem VD.mono {g g' : Heap} {v : Value} {d : Dat} (h : VD g v d) (k : g.StaysIn g') : VD g' v d := DatIn.mono (allIn_mono k) h
theorem VDs.mono {g g' : Heap} {v : List Value} {d : List Dat} (h : VDs g v d) (k : g.StaysIn g') : VDs g' v d := DatAll.mono (allIn_mono k) h
theorem VDs.snoc {g : Heap} : ∀ {vs : List Value} {ds : List Dat} {v : Value} {d : Dat}, VDs g vs ds → VD g v d → VDs g (vs ++ [v]) (ds ++ [d])
  | _, _, _, _, .nil, h => .cons h .nil
  | _, _, _, _, .cons h1 h2, h => .cons h1 (VDs.snoc h2 h)
theorem VDs.take {g : Heap} : ∀ {vs : List Value} {ds : List Dat} (n : Nat), VDs g vs ds → VDs g (vs.take n) (ds.take n)
  | _, _, 0, _ => .nil
  | _, _, _ + 1, .nil => .nil
  | _, _, n + 1, .cons h1 h2 => .cons h1 (VDs.take n h2)
theorem VDs.length {g : Heap} : ∀ {vs : List Value} {ds : List Dat}, VDs g vs ds → vs.length = ds.length
  | _, _, .nil => rfl
  | _, _, .cons _ h => by simp [VDs.length h]
/-- what a row shows -/
noncomputable def shownD (o : Ord) : Option Dat := if o.isJump then none else if o.isLCall then some (.tuple [.str "call"]) else some (.tuple [.int o.code, .int o.dst, .int o.imm, .int o.more])
noncomputable def ShownV (g : Heap) (v : Value) : Option Dat → Prop
  | none => v = .none
  | some d => ∃ a, v = .ref a ∧ VD g v d
theorem shown_ok {o : Ord} {d : Dat} (h : shownD o = some d) : kqdOk 8 d = true := by
  unfold shownD at h
  split at h
  · cases h
  · split at h
    · cases h; decide +kernel
    · cases h; rfl
section
variable {prog : Program} {w : World} {K : Frag} {A : Around} {T : Heap} {Z : Zed} {g : Heap} {L : Addr} {m : List (Str × Value)} {mu : List (Addr × Obj)} {s : Shared} {E : Value → Shared → Prop}
set_option maxHeartbeats 1000000
set_option maxRecDepth 100000
theorem shown_spec {x : Addr} {o : Ord} {Q : Value → Shared → Prop} (TF : TopF K T) (H : At T Z g L m mu s) (R : Room A 4) (O : IsOrder g x o)
    (h : ∀ v g' s', g.StaysIn g' → ShownV g' v (shownD o) → At T Z g' L m mu s' → Q v s') : wpAny (model prog w) A (call (.ref 399) [.ref x]) Q E s := by
  refine enter0 [("order", .ref x)] TF (show FnIs K 399 (defAt 55) "_law_shown" .none from TF.fns 34 _ rfl) rfl H R (fun _ _ _ _ _ => BindsTo.of_eq rfl) (by rfl) (by decide) rfl rfl rfl ?_
  clear H R
  intro cdv L s H back R
  generalize Zed.into _ g _ = Z' at *
  repeat' walk_at "y"
  · repeat' walk_at "y"
    exact h _ _ _ (stays_refl _) (by unfold shownD; rw [if_pos hc]; rfl) (back _ _ _ _ H)
  · refine r_newTuple H (Nat.le_of_ble_eq_true rfl) ?_
    clear H; intro tp s H
    obtain ⟨g₂, k₂, hg₂, H⟩ := At.freeze (mu := []) H
    repeat' walk_at "y"
    refine h _ _ _ k₂ ?_ (back _ _ _ _ H)
    unfold shownD
    rw [if_neg (by assumption), if_pos hc]
    exact ⟨tp, rfl, .tuple (mem_allIn.mpr (hg₂ _ (.head _))) (.cons (.str _ _) .nil)⟩
  · refine r_newTuple H (Nat.le_of_ble_eq_true rfl) ?_
    clear H; intro tp s H
    obtain ⟨g₂, k₂, hg₂, H⟩ := At.freeze (mu := []) H
    repeat' walk_at "y"
    refine h _ _ _ k₂ ?_ (back _ _ _ _ H)
    unfold shownD
    rw [if_neg (by assumption), if_neg (by assumption)]
    exact ⟨tp, rfl, .tuple (mem_allIn.mpr (hg₂ _ (.head _))) (.cons (.int _ _) (.cons (.int _ _) (.cons (.int _ _) (.cons (.int _ _) .nil))))⟩
theorem r_eqD {a b : Addr} {xs ys : List Value} {ds es : List Dat} {Q : Value → Shared → Prop} (R : Room A 0) (H : At T Z g L m mu s) (ha : IsListV g a xs) (hb : IsListV g b ys) (da : VDs g xs ds) (db : VDs g ys es) (oa : ∀ d ∈ ds, kqdOk 8 d = true) (ob : ∀ d ∈ es, kqdOk 8 d = true)
    (he : ds = es) (h : Q (.bool true) s) : wpAny (model prog w) A (compareOp .Eq (.ref a) (.ref b)) Q E s := by
  obtain ⟨mr, F, N, back⟩ := H.viaN
  obtain ⟨na, ha⟩ := ha
  obtain ⟨nb, hb⟩ := hb
  have hL : ∀ p ∈ allIn g, p ∈ objs L L s.heap := fun p hp => by
    have e := mem_allIn.mp (show (p.1, p.2) ∈ _ from hp)
    have : p.1 ≠ L := fun q => by rw [q, H.Lg] at e; cases e
    exact mem_objs.mpr ⟨H.gh _ _ e, this, this⟩
  exact kqd_eq N (hL _ (mem_allIn.mpr ha)) rfl rfl da hL (hL _ (mem_allIn.mpr hb)) rfl rfl db hL oa ob R.u64 (by simpa [he] using h)
theorem r_neD {a b : Addr} {xs ys : List Value} {ds es : List Dat} {Q : Value → Shared → Prop} (R : Room A 0) (H : At T Z g L m mu s) (ha : IsListV g a xs) (hb : IsListV g b ys) (da : VDs g xs ds) (db : VDs g ys es) (oa : ∀ d ∈ ds, kqdOk 8 d = true) (ob : ∀ d ∈ es, kqdOk 8 d = true)
    (he : ds = es) (h : Q (.bool false) s) : wpAny (model prog w) A (compareOp .NotEq (.ref a) (.ref b)) Q E s := by
  obtain ⟨mr, F, N, back⟩ := H.viaN
  obtain ⟨na, ha⟩ := ha
  obtain ⟨nb, hb⟩ := hb
  have hL : ∀ p ∈ allIn g, p ∈ objs L L s.heap := fun p hp => by
    have e := mem_allIn.mp (show (p.1, p.2) ∈ _ from hp)
    have : p.1 ≠ L := fun q => by rw [q, H.Lg] at e; cases e
    exact mem_objs.mpr ⟨H.gh _ _ e, this, this⟩
  exact kqd_ne N (hL _ (mem_allIn.mpr ha)) rfl rfl da hL (hL _ (mem_allIn.mpr hb)) rfl rfl db hL oa ob R.u64 (by simpa [he] using h)
end
end Mine
namespace Mine
/-- what may become of the order at i -/
noncomputable def KeptOK (ws : List Str) (os : List Ord) (es : List Int) (i : Nat) (k : Option Ord) : Prop :=
  (∃ o, os[i]? = some o ∧ k = some o) ∨ ((i : Int) ∉ es ∧ (k = none ∨ (ws[i]? = some ("wide" : Str) ∧ k = some ⟨183, (i : Int).fmod 10, 0, 0, i, 0⟩) ∨ (ws[i]? = some ("branch" : Str) ∧ ∃ o, os[i]? = some o ∧ k = some ⟨5, 0, 0, o.off, 0, 0⟩)))
theorem OrdsAt.setSome {g : Heap} {vs : List Value} {os : List (Option Ord)} (h : OrdsAt g vs os) (i : Nat) {x : Addr} {o : Ord} (hx : IsOrder g x o) : OrdsAt g (vs.set i (.ref x)) (os.set i (some o)) := by
  refine ⟨by simp [h.1], fun j q e => ?_⟩
  by_cases hij : i = j
  · subst hij
    have hl : i < os.length := by
      have := (List.getElem?_eq_some_iff.mp e).1
      simpa using this
    rw [List.getElem?_set_self hl] at e
    cases e
    exact ⟨x, List.getElem?_set_self (by rw [h.1]; exact hl), hx⟩
  · rw [List.getElem?_set_ne hij] at e
    have := h.2 j q e
    cases q with
    | none => dsimp only at this ⊢; rw [List.getElem?_set_ne hij]; exact this
    | some q => dsimp only at this ⊢; rw [List.getElem?_set_ne hij]; exact this
section
variable {prog : Program} {w : World} {K : Frag} {A : Around} {T : Heap} {Z : Zed} {g : Heap} {L : Addr} {m : List (Str × Value)} {mu : List (Addr × Obj)} {s : Shared} {E : Value → Shared → Prop}
set_option maxHeartbeats 1000000
set_option maxRecDepth 100000
theorem kept_spec {pen sc ol wl el : Addr} {po : Obj} {n : Nat} {ovs wvs evs : List Value} {os : List Ord} {ws : List Str} {es : List Int} {Q : Value → Shared → Prop} (TF : TopF K T) (H : At T Z g L m ((pen, po) :: mu) s) (R : Room A 5) (hsc : ScriptIs g sc) (hp : PenIs sc n po) (hn : n ≤ 5000)
    (hol : IsListV g ol ovs) (hos : OrdsAt g ovs (os.map some)) (hwl : IsListV g wl wvs) (hws : StrsAre wvs ws) (hel : IsListV g el evs) (hes : IntsAre evs es) (hlen : os.length = ws.length) (hz : ws.length ≤ 100)
    (h : ∀ kl kvs ks po' g' s', g.StaysIn g' → IsListV g' kl kvs → OrdsAt g' kvs ks → ks.length = ws.length → (∀ i k, ks[i]? = some k → KeptOK ws os es i k) → PenIs sc (n + ws.length) po' → At T Z g' L m ((pen, po') :: mu) s' → Q (.ref kl) s') :
    wpAny (model prog w) A (call (.ref 413) [.ref pen, .ref ol, .ref wl, .ref el]) Q E s := by
  refine enter1 [("pen", .ref pen), ("orders", .ref ol), ("words", .ref wl), ("ends", .ref el)] TF (show FnIs K 413 (defAt 57) "_law_kept" .none from TF.fns 36 _ rfl) rfl H R (fun _ _ _ _ _ => BindsTo.of_eq rfl) (by rfl) (by decide) rfl rfl rfl ?_
  clear H R
  intro cdv L s H back R
  generalize Zed.into _ g _ = Z' at *
  have hwl' := hws.length
  have hol' := hos.1
  rw [List.length_map] at hol'
  repeat' walk_at "y"
  refine r_list H (hasG hol) (by omega) ?_
  clear H; intro kl n1 s H
  simp only [List.cons_append, List.nil_append] at H
  repeat' walk_at "y"
  refine for_enum (fun i g₁ m₁ mu₁ => ∃ po kvs n' ks, m₁ = ([("pen", .ref pen), ("orders", .ref ol), ("words", .ref wl), ("ends", .ref el), ("kept", .ref kl)] : Loc) ∧ mu₁ = [(pen, po), (kl, LO kvs n')] ∧ g.StaysIn g₁ ∧ PenIs sc (n + i) po ∧ OrdsAt g₁ kvs ks ∧ ks.length = ws.length ∧
      (∀ j k, ks[j]? = some k → KeptOK ws os es j k) ∧ (∀ j, i ≤ j → ks[j]? = (os.map some)[j]?)) (R.less (by decide)) (H.know (by walk_at "k")) hwl ⟨po, _, _, os.map some, rfl, rfl, stays_refl _, hp, hos, by simp [hlen], fun j k e => ?_, fun _ _ => rfl⟩ ?_ ?_
  · rw [List.getElem?_map, Option.map_eq_some_iff] at e
    obtain ⟨o, ho, rfl⟩ := e
    exact .inl ⟨o, ho, rfl⟩
  · clear H hp
    rintro i t v Z₁ g₁ m₁ mu₁ s hi ⟨po, kvs, n', ks, rfl, rfl, kg₁, hp, hks, hkl, hok, hrest⟩ _ kg' H out
    refine gen_post fun PP hPP => ?_
    have hil : i < ws.length := by rw [← hwl']; exact (List.getElem?_eq_some_iff.mp hi).1
    obtain ⟨tw, hwv⟩ := hws.get i ws[i] (List.getElem?_eq_getElem hil)
    rw [hwv] at hi; cases hi
    have hwd : ws[i]? = some ws[i] := List.getElem?_eq_getElem hil
    generalize ws[i] = wd at *
    have hkvl := hks.1
    obtain ⟨o, xo, ho, hov, hO⟩ : ∃ o y, os[i]? = some o ∧ ovs[i]? = some (.ref y) ∧ IsOrder g₁ y o := by
      have e : os[i]? = some os[i] := List.getElem?_eq_getElem (by omega)
      obtain ⟨y, hy⟩ := hos.2 i (some os[i]) (by simp [e])
      exact ⟨_, y, e, hy.1, hy.2.mono kg₁⟩
    have same : ∀ s po', PenIs sc (n + i + 1) po' → At T Z₁ g₁ L [("pen", .ref pen), ("orders", .ref ol), ("words", .ref wl), ("ends", .ref el), ("kept", .ref kl)] [(pen, po'), (kl, LO kvs n')] s →
        TurnEnd T Z₁ L [pen, kl] (fun g₁ m₁ mu₁ => ∃ po kvs n' ks, m₁ = ([("pen", .ref pen), ("orders", .ref ol), ("words", .ref wl), ("ends", .ref el), ("kept", .ref kl)] : Loc) ∧ mu₁ = [(pen, po), (kl, LO kvs n')] ∧ g.StaysIn g₁ ∧ PenIs sc (n + (i + 1)) po ∧ OrdsAt g₁ kvs ks ∧ ks.length = ws.length ∧
          (∀ j k, ks[j]? = some k → KeptOK ws os es j k) ∧ (∀ j, i + 1 ≤ j → ks[j]? = (os.map some)[j]?)) s := fun s po' hp' H' =>
      ⟨_, _, _, H', rfl, po', kvs, n', ks, rfl, rfl, kg₁, hp', hks, hkl, hok, fun j hj => hrest j (by omega)⟩
    have turned : ∀ s po' g₂ kvs' n₂ k, g₁.StaysIn g₂ → PenIs sc (n + i + 1) po' → OrdsAt g₂ kvs' (ks.set i k) → KeptOK ws os es i k → At T Z₁ g₂ L [("pen", .ref pen), ("orders", .ref ol), ("words", .ref wl), ("ends", .ref el), ("kept", .ref kl)] [(pen, po'), (kl, LO kvs' n₂)] s →
        TurnEnd T Z₁ L [pen, kl] (fun g₁ m₁ mu₁ => ∃ po kvs n' ks, m₁ = ([("pen", .ref pen), ("orders", .ref ol), ("words", .ref wl), ("ends", .ref el), ("kept", .ref kl)] : Loc) ∧ mu₁ = [(pen, po), (kl, LO kvs n')] ∧ g.StaysIn g₁ ∧ PenIs sc (n + (i + 1)) po ∧ OrdsAt g₁ kvs ks ∧ ks.length = ws.length ∧
          (∀ j k, ks[j]? = some k → KeptOK ws os es j k) ∧ (∀ j, i + 1 ≤ j → ks[j]? = (os.map some)[j]?)) s := fun s po' g₂ kvs' n₂ k k₂ hp' hks' hk H' =>
      ⟨_, _, _, H', rfl, po', kvs', n₂, ks.set i k, rfl, rfl, stays_trans kg₁ k₂, hp', hks', by simp [hkl], fun j q e => by
        by_cases hij : i = j
        · subst hij
          rw [List.getElem?_set_self (by omega)] at e; cases e; exact hk
        · rw [List.getElem?_set_ne hij] at e; exact hok j q e, fun j hj => by rw [List.getElem?_set_ne (by omega)]; exact hrest j (by omega)⟩
    repeat' walk_at "y"
    refine draw_spec (many := 4) TF H (R.less (by decide)) (hsc.mono kg₁) hp (by omega) (by decide) (by decide) ?_
    clear H; intro d u po2 s hd hp2 H
    repeat' walk_at "y"
    refine r_inInts H (hasG (hel.mono kg₁)) hes ?_
    repeat' walk_at "y"
    · exact tpc hPP (same _ po2 hp2 (H.know (by walk_at "k")))
    · exact tpc hPP (same _ po2 hp2 (H.know (by walk_at "k")))
    all_goals
      have hne : (i : Int) ∉ es := fun hin => absurd (List.any_eq_true.mpr ⟨_, hin, by simp⟩) (show ¬ (es.any (· == (i : Int))) = true from by assumption)
    · refine r_setItem (i := 1) H rfl (by omega) (by omega) (by omega) ?_
      clear H; intro n2 s H
      simp only [List.set_cons_succ, List.set_cons_zero, Int.toNat_natCast] at H
      repeat' walk_at "y"
      exact tpn hPP (turned _ po2 g₁ _ n2 none (stays_refl _) hp2 (hks.set i) (.inr ⟨hne, .inl rfl⟩) (H.know (by walk_at "k")))
    · have hw : wd = "wide" := by simpa using hc
      refine r_mod H (by decide) ?_
      clear H; intro t4 s H
      repeat' walk_at "y"
      refine alu_mov TF H (R.less (by decide)) ?_
      clear H; intro x g₂ s k₂ O H
      repeat' walk_at "y"
      refine r_setItem (i := 1) H rfl (by omega) (by omega) (by omega) ?_
      clear H; intro n2 s H
      simp only [List.set_cons_succ, List.set_cons_zero, Int.toNat_natCast] at H
      repeat' walk_at "y"
      exact tpn hPP (turned _ po2 g₂ _ n2 _ k₂ hp2 ((hks.mono k₂).setSome i O) (.inr ⟨hne, .inr (.inl ⟨by rw [hwd, hw], rfl⟩)⟩) (H.know (by walk_at "k")))
    · have hw : wd = "branch" := by simpa using hc
      refine r_item H (hasG (hol.mono kg₁)) (by omega) (by omega) (v := .ref xo) (by simpa using hov) ?_
      repeat' walk_at "y"
      refine jump_spec TF H (R.less (by decide)) ?_
      clear H; intro x g₂ s k₂ O H
      repeat' walk_at "y"
      refine r_setItem (i := 1) H rfl (by omega) (by omega) (by omega) ?_
      clear H; intro n2 s H
      simp only [List.set_cons_succ, List.set_cons_zero, Int.toNat_natCast] at H
      repeat' walk_at "y"
      exact tpn hPP (turned _ po2 g₂ _ n2 _ k₂ hp2 ((hks.mono k₂).setSome i O) (.inr ⟨hne, .inr (.inr ⟨by rw [hwd, hw], o, ho, rfl⟩)⟩) (H.know (by walk_at "k")))
    · exact tpn hPP (same _ po2 hp2 (H.know (by walk_at "k")))
  · rintro g₁ m₁ mu₁ s ⟨po, kvs, n', ks, rfl, rfl, kg₁, hp, hks, hkl, hok, _⟩ _ H
    repeat' walk_at "y"
    obtain ⟨g₂, k₂, hg₂, H⟩ := At.freeze (mu := [(pen, po)]) H
    rw [hwl'] at hp
    repeat' walk_at "y"
    exact h kl kvs ks po g₂ s (stays_trans kg₁ k₂) ⟨n', hg₂ _ (.head _)⟩ (hks.mono k₂) hkl hok hp (back _ _ _ _ _ H)
end
end Mine
namespace Mine
section
variable {prog : Program} {w : World} {K : Frag} {A : Around} {T : Heap} {Z : Zed} {g : Heap} {L : Addr} {m : List (Str × Value)} {mu : List (Addr × Obj)} {s : Shared} {E : Value → Shared → Prop}
theorem r_sliceList {value slice : Expr} {l : Addr} {vs : List Value} {a b : Value} {lo hi : Option Int} {Q : Value → Shared → Prop} (H : At T Z g L m mu s) (hl : HasList g mu l vs) (hz : vs.length ≤ 100000) (pa : IsPart a lo) (pb : IsPart b hi)
    (h : ∀ D s', At T Z g L m (mu ++ [(D, LO (slicePick vs.toArray lo hi none).toList 0)]) s' → Q (.ref D) s')
    (hs : subscripted slice false (.ref l) (.ref s.heap.objs.size) = operate [.ref s.heap.objs.size, .ref l] (getItem (.ref l) (.ref s.heap.objs.size)) := by with_unfolding_all rfl) :
    wpAny (model prog w) A (subscriptTail value slice (.ref l) (.ref s.heap.objs.size)) Q E { s with heap := s.heap.push { cls := .type "slice", data := .fields #[a, b, .none] } } := by
  have H1 := H.stay (s' := { s with heap := s.heap.push { cls := .type "slice", data := .fields #[a, b, .none] } }) (fun _ _ e => Heap.get?_push_of_some _ e) rfl rfl
  refine tail_any (H1.lst hl).typeIs slot_list_getitem.lookup (wpAny_getItem_list_slice (H1.lst hl) ⟨_, Heap.get?_push_size _ rfl, rfl, rfl⟩ pa pb .none (by simp) ?_ (by simp; rw [sizeLine_eq]; omega)) hs
  have H2 := H1.push (LO (slicePick vs.toArray lo hi none).toList 0) rfl
  simpa using h _ _ H2
theorem r_methIndex {l : Addr} {vs : List Value} {pl : Sem Bool} {Q : Value × List Value → Shared → Prop} (H : At T Z g L m mu s) (hl : HasList g mu l vs) (h : Q (.builtin "list.index", [.ref l]) s) : wpAny (model prog w) A (getMethod (.ref l) "index" pl) Q E s := by
  obtain ⟨n, e⟩ := H.obj hl
  exact getMethod_list_of F.slot_list_index F.type_list_index (H.lst hl) ⟨_, e, rfl⟩ h
theorem r_methPop {l : Addr} {vs : List Value} {pl : Sem Bool} {Q : Value × List Value → Shared → Prop} (H : At T Z g L m mu s) (hl : HasList g mu l vs) (h : Q (.builtin "list.pop", [.ref l]) s) : wpAny (model prog w) A (getMethod (.ref l) "pop" pl) Q E s := by
  obtain ⟨n, e⟩ := H.obj hl
  exact getMethod_list_of F.slot_list_pop F.type_list_pop (H.lst hl) ⟨_, e, rfl⟩ h
theorem last_snoc : ∀ (p : List Value) (y : Value), kl_last (p ++ [y]) = some (p, y)
  | [], _ => rfl
  | x :: r, y => by rw [List.cons_append, kl_last, last_snoc r y]
theorem r_pop {D : Addr} {vs : List Value} {y : Value} {n i : Nat} {Q : Value → Shared → Prop} (H : At T Z g L m mu s) (hi : mu[i]? = some (D, LO (vs ++ [y]) n)) (hz : vs.length ≤ 100000)
    (h : ∀ n' s', At T Z g L m (mu.set i (D, LO vs n')) s' → Q y s') : wpAny (model prog w) A (call (.builtin "list.pop") [.ref D]) Q E s := by
  have hm := H.mus _ (List.mem_of_getElem? hi)
  obtain ⟨mr, hn, hr⟩ := H.ns
  have F : Fr {} L s.heap mr := ⟨hn, fun b o e => by simp [Heap.get?] at e, Nat.zero_le _⟩
  have e0 : ∀ a : Addr, Heap.get? {} a = none := fun a => by simp [Heap.get?]
  have N : News {} L s.heap ((D, listOf (vs ++ [y]).toArray n) :: objs L D s.heap) := by
    intro p hp
    rcases List.mem_cons.mp hp with rfl | hp
    · exact ⟨hm.1, hm.2.1, e0 _⟩
    · have := mem_objs.mp hp
      exact ⟨this.1, this.2.1, e0 _⟩
  refine kl_pop (p := vs) (y := y) F N (by simpa using last_snoc vs y) (.head fun p hp => (mem_objs.mp hp).2.2) (by simp; rw [sizeLine_eq]; omega) fun h' F' N' => ?_
  refine h (n + 1) { s with heap := h' } (H.turn2 (t := s.toks) hi (N' _ (.head _)).1 (fun a y hL hd e => (N' (a, y) (.tail _ (mem_objs.mpr ⟨e, hL, hd⟩))).1) fun mr' hn' => ?_)
  have : mr' = mr := by
    obtain ⟨o, es, ep, ho, hd, hks, hf⟩ := hn
    obtain ⟨o', es', ep', ho', hd', hks', hf'⟩ := hn'
    rw [ho] at ho'; cases ho'
    rw [hd] at hd'; cases hd'
    funext y
    rw [← hf y, ← hf' y]
  rw [this]; exact F'.ns
theorem r_index {l : Addr} {vs : List Value} {ns : List Int} {k : Int} {u : Tok} {Q : Value → Shared → Prop} (H : At T Z g L m mu s) (hl : HasList g mu l vs) (hi : IntsAre vs ns) (hlay : PyData.layable0 (.list (ns.map .int)) = true) (hk : k ∈ ns) (h : ∀ t s', At T Z g L m mu s' → Q (.int (ns.idxOf k : Nat) t) s') :
    wpAny (model prog w) A (call (.builtin "list.index") [.ref l, .int k u]) Q E s := index_list_ints (H.lst hl) hi hlay hk (h _ _ (H.tok _))
end
end Mine
namespace Mine
noncomputable def goalL (os : List Ord) (aim : Nat → Nat) : Nat → List Int
  | 0 => []
  | n + 1 => goalL os aim n ++ [if ((os[n]?).map jumpy).getD false then (aim n : Int) else -1]
theorem goalL_len (os : List Ord) (aim : Nat → Nat) : ∀ n, (goalL os aim n).length = n
  | 0 => rfl
  | n + 1 => by rw [goalL, List.length_append, goalL_len os aim n]; rfl
theorem lay_ints : ∀ {ns : List Int}, (∀ n ∈ ns, n.natAbs < 2 ^ 40) → PyData.canLayAll0 (ns.map .int) = true ∧ PyData.depthAll (ns.map .int) ≤ 1 ∧ PyData.weightAll (ns.map .int) ≤ 41 * ns.length
  | [], _ => ⟨rfl, Nat.zero_le _, Nat.le_refl _⟩
  | n :: r, h => by
    obtain ⟨h1, h2, h3⟩ := lay_ints (ns := r) fun x hx => h x (.tail _ hx)
    have hn := h n (.head _)
    refine ⟨by simpa [PyData.canLayAll0, PyData.canLay0] using h1, ?_, ?_⟩
    · simp only [List.map_cons, PyData.depthAll, PyData.depth]; omega
    · simp only [List.map_cons, PyData.weightAll, PyData.weight, List.length_cons]
      have : (if (n == 0) = true then 0 else n.natAbs.log2 + 1) ≤ 40 := by
        split
        · omega
        · rename_i hz
          have hz' : n ≠ 0 := by simpa using hz
          have := (Nat.log2_lt (n := n.natAbs) (k := 40) (by omega)).mpr hn
          omega
      omega
theorem lay_small {ns : List Int} (h : ∀ n ∈ ns, n.natAbs < 2 ^ 40) (hl : ns.length ≤ 1000) : PyData.layable0 (.list (ns.map .int)) = true := by
  obtain ⟨h1, h2, h3⟩ := lay_ints h
  unfold PyData.layable0
  simp only [PyData.canLay0, PyData.depth, PyData.weight, Bool.and_eq_true]
  exact ⟨⟨h1, decide_eq_true (by omega)⟩, decide_eq_true (by omega)⟩
theorem placeOf_le {os : List Ord} : ∀ {j : Nat}, j ≤ os.length → 0 ≤ placeOf os j ∧ placeOf os j ≤ 2 * j
  | 0, _ => by simp [placeOf]
  | j + 1, h => by
    have e : os[j]? = some os[j] := List.getElem?_eq_getElem (by omega)
    have := placeOf_le (os := os) (j := j) (by omega)
    have h1 := slots_pos os[j]
    have h2 : os[j].slots ≤ 2 := by unfold Ord.slots; split <;> decide
    rw [placeOf_succ e]
    omega
theorem placeOf_inj {os : List Ord} {i j : Nat} (hi : i ≤ os.length) (hj : j ≤ os.length) (e : placeOf os i = placeOf os j) : i = j := by
  rcases Nat.lt_trichotomy i j with h | h | h
  · have := placeOf_lt h hj; omega
  · exact h
  · have := placeOf_lt h hi; omega
theorem places_nth {os : List Ord} {n j : Nat} (hn : n ≤ os.length + 1) (hj : j < n) : ((List.range n).map (placeOf os))[j]? = some (placeOf os j) := by rw [List.getElem?_map, List.getElem?_range hj]; rfl
theorem places_idx {os : List Ord} {n j : Nat} (hn : n ≤ os.length + 1) (hj : j < n) : ((List.range n).map (placeOf os)).idxOf (placeOf os j) = j := by
  have nd : ((List.range n).map (placeOf os)).Nodup := by
    rw [List.nodup_iff_pairwise_ne, List.pairwise_map]
    refine List.Pairwise.imp_of_mem ?_ (List.pairwise_lt_range (n := n))
    intro a b ha hb hab e
    rw [List.mem_range] at ha hb
    have := placeOf_lt (os := os) hab (by omega)
    omega
  have hl : j < ((List.range n).map (placeOf os)).length := by simpa using hj
  have e : ((List.range n).map (placeOf os))[j] = placeOf os j := by simp
  rw [← e]
  exact nd.idxOf_getElem j hl
section
variable {prog : Program} {w : World} {K : Frag} {A : Around} {T : Heap} {Z : Zed} {g : Heap} {L : Addr} {m : List (Str × Value)} {mu : List (Addr × Obj)} {s : Shared} {E : Value → Shared → Prop}
set_option maxHeartbeats 1000000
set_option maxRecDepth 100000
theorem new_goals_spec {l : Addr} {vs : List Value} {os : List Ord} {aim : Nat → Nat} {Q : Value → Shared → Prop} (TF : TopF K T) (H : At T Z g L m mu s) (R : Room A 4) (hl : IsListV g l vs) (hv : OrdsAt g vs (os.map some)) (hz : os.length ≤ 100)
    (haim : ∀ i o, os[i]? = some o → jumpy o = true → aim i < os.length ∧ goalSlot os i = placeOf os (aim i))
    (h : ∀ fl g' s' fvs, g.StaysIn g' → IsListV g' fl fvs → IntsAre fvs (goalL os aim os.length) → At T Z g' L m mu s' → Q (.ref fl) s') : wpAny (model prog w) A (call (.ref 420) [.ref l]) Q E s := by
  refine enter0 [("rows", .ref l)] TF (show FnIs K 420 (defAt 58) "_law_new_goals" .none from TF.fns 37 _ rfl) rfl H R (fun _ _ _ _ _ => BindsTo.of_eq rfl) (by rfl) (by decide) rfl rfl rfl ?_
  clear H R
  intro cdv L s H back R
  generalize Zed.into _ g _ = Z' at *
  have hvl := hv.1
  rw [List.length_map] at hvl
  repeat' walk_at "y"
  refine places_spec TF H (R.less (by decide)) hl hv (by omega) ?_
  clear H; intro pl g₀ s pvs k₀ hpl hps H
  repeat' walk_at "y"
  refine r_newList H (by decide) ?_
  clear H; intro gl s H
  simp only [List.nil_append] at H
  repeat' walk_at "y"
  refine r_newUnpack (R.less (by decide)) H rfl (Nat.le_of_ble_eq_true rfl) ?_
  clear H; intro s H
  repeat' walk_at "y"
  have hpl' := hps.length
  rw [List.length_map, List.length_range] at hpl'
  refine for_enum (fun i g₁ m₁ mu₁ => ∃ gvs n', m₁ = ([("rows", .ref l), ("places", .ref pl), ("goals", .ref gl)] : Loc) ∧ mu₁ = [(gl, LO gvs n')] ∧ g₀ = g₁ ∧ IntsAre gvs (goalL os aim i)) (R.less (by decide)) (H.know (by walk_at "k")) (hl.mono k₀) ⟨_, _, rfl, rfl, rfl, .nil⟩ ?_ ?_
  · clear H
    rintro i t v Z₁ g₁ m₁ mu₁ s hi ⟨gvs, n', rfl, rfl, rfl, hgs⟩ _ kg H out
    refine gen_post fun PP hPP => ?_
    have hil : i < os.length := by rw [← hvl]; exact (List.getElem?_eq_some_iff.mp hi).1
    have hgl := hgs.length
    rw [goalL_len] at hgl
    obtain ⟨o, xo, ho, hov, hO⟩ : ∃ o y, os[i]? = some o ∧ vs[i]? = some (.ref y) ∧ IsOrder g₀ y o := by
      have e : os[i]? = some os[i] := List.getElem?_eq_getElem hil
      obtain ⟨y, hy⟩ := hv.2 i (some os[i]) (by simp [e])
      exact ⟨_, y, e, hy.1, hy.2.mono k₀⟩
    rw [hov] at hi; cases hi
    repeat' walk_at "y"
    rotate_right 1
    · have hj : jumpy o = false := by simp_all [jumpy]
      refine r_meth H (hasM 0 rfl) ?_
      try dsimp only
      repeat' walk_at "y"
      refine r_append (i := 0) H rfl (by omega) ?_
      clear H; intro n3 s H
      simp only [List.set_cons_zero] at H
      repeat' walk_at "y"
      refine tpn hPP ⟨_, _, _, H.know (m' := [("rows", .ref l), ("places", .ref pl), ("goals", .ref gl)]) (by walk_at "k"), rfl, _, _, rfl, rfl, rfl, ?_⟩
      rw [goalL, ho, Option.map_some, Option.getD_some, hj, if_neg (by decide)]; exact ints_snoc hgs
    all_goals
      have hj : jumpy o = true := by simp [jumpy, hc]
      clear hc
      obtain ⟨ha1, ha2⟩ := haim i o ho hj
      obtain ⟨tp, hpi⟩ := ints_at hps (places_nth (os := os) (n := os.length + 1) (j := i) (Nat.le_refl _) (by omega))
      refine r_item H (hasG hpl) (by omega) (by omega) (v := .int (placeOf os i) tp) (by simpa using hpi) ?_
      repeat' walk_at "y"
      have hgsl : placeOf os i + 1 + o.dist = placeOf os (aim i) := by rw [← ha2, goalSlot, ho]; rfl
      rw [hgsl] at H
      refine r_meth H (hasM 0 rfl) ?_
      try dsimp only
      repeat' walk_at "y"
      refine r_sliceList H (hasG hpl) (by omega) .none (.int _ _) ?_
      clear H; intro D s H
      simp only [List.cons_append, List.nil_append] at H
      have hsl := kmk_upto_neg (y := -1) hps (by decide)
      refine r_inInts H (hasM 1 rfl) hsl ?_
      have hin : ((((List.range (os.length + 1)).map (placeOf os)).take (((List.range (os.length + 1)).map (placeOf os)).length - (-(-1 : Int)).toNat)).any (· == placeOf os (aim i))) = true := by
        rw [List.any_eq_true]
        refine ⟨placeOf os (aim i), ?_, by simp⟩
        rw [List.length_map, List.length_range, show os.length + 1 - (-(-1 : Int)).toNat = os.length from by simp, ← List.map_take, List.take_range, Nat.min_eq_left (by omega)]
        exact List.mem_map.mpr ⟨aim i, List.mem_range.mpr ha1, rfl⟩
      rw [hin]
      repeat' walk_at "y"
      refine r_methIndex H (hasG hpl) ?_
      try dsimp only
      repeat' walk_at "y"
      refine r_index H (hasG hpl) hps (lay_small (fun n hn => by obtain ⟨j, hj, rfl⟩ := List.mem_map.mp hn; rw [List.mem_range] at hj; have := placeOf_le (os := os) (j := j) (by omega); omega) (by simp; omega)) (List.mem_map.mpr ⟨aim i, List.mem_range.mpr (by omega), rfl⟩) ?_
      clear H; intro t7 s H
      rw [places_idx (Nat.le_refl _) (by omega)]
      repeat' walk_at "y"
      refine r_append (i := 0) H rfl (by omega) ?_
      clear H; intro n3 s H
      simp only [List.set_cons_zero] at H
      repeat' walk_at "y"
      refine tpn hPP ⟨_, _, _, (At.drop (mu := [_]) H).know (m' := [("rows", .ref l), ("places", .ref pl), ("goals", .ref gl)]) (by walk_at "k"), rfl, _, _, rfl, rfl, rfl, ?_⟩
      rw [goalL, ho, Option.map_some, Option.getD_some, if_pos hj]; exact ints_snoc hgs
  · rintro g' m' mu' s ⟨gvs, n', rfl, rfl, rfl, hgs⟩ _ H
    repeat' walk_at "y"
    obtain ⟨g₅, kg₅, hl₅, H⟩ := At.freeze (mu := []) H
    rw [hvl] at hgs
    repeat' walk_at "y"
    exact h gl g₅ s gvs (stays_trans k₀ kg₅) ⟨n', hl₅ _ (.head _)⟩ hgs (back _ _ _ _ H)
end
end Mine
namespace Mine
structure WSt where
  at_ : Nat
  seen : List Dat
  back : List Nat
noncomputable def showTo (seen : List Dat) (o : Ord) : List Dat := match shownD o with | none => seen | some d => seen ++ [d]
noncomputable def takes (ch : List Int) (seen : List Dat) (o : Ord) : Bool := o.isJump || (o.isBranch && ch.getD (seen.length % ch.length) 0 == 1)
/-- one turn of the walk: does it go on, and where it stands then -/
noncomputable def stepW (os : List (Option Ord)) (gs : List Int) (ch : List Int) (st : WSt) : Bool × WSt :=
  if 12 < st.seen.length then (false, st) else
  match (os[st.at_]?).join with
  | none => (true, ⟨st.at_ + 1, st.seen, st.back⟩)
  | some o =>
    if o.isExit then (match st.back.getLast? with
      | none => (false, ⟨st.at_, showTo st.seen o, st.back⟩)
      | some p => (true, ⟨p, showTo st.seen o, st.back.dropLast⟩))
    else if o.isLCall then (true, ⟨(gs.getD st.at_ 0).toNat, showTo st.seen o, st.back ++ [st.at_ + 1]⟩)
    else if takes ch (showTo st.seen o) o then (true, ⟨(gs.getD st.at_ 0).toNat, showTo st.seen o, st.back⟩)
    else (true, ⟨st.at_ + 1, showTo st.seen o, st.back⟩)
noncomputable def iterW (os : List (Option Ord)) (gs : List Int) (ch : List Int) : Nat → Bool × WSt
  | 0 => (true, ⟨0, [], []⟩)
  | k + 1 => if (iterW os gs ch k).1 then stepW os gs ch (iterW os gs ch k).2 else iterW os gs ch k
noncomputable def walkD (os : List (Option Ord)) (gs : List Int) (ch : List Int) : List Dat := (iterW os gs ch 250).2.seen.take 12
theorem iterW_halt {os : List (Option Ord)} {gs ch : List Int} {k : Nat} (h : (iterW os gs ch k).1 = false) : ∀ {j : Nat}, k ≤ j → iterW os gs ch j = iterW os gs ch k := by
  intro j hj
  induction j with
  | zero => rw [Nat.le_zero.mp hj]
  | succ j ih =>
    rcases Nat.lt_or_eq_of_le hj with hj | rfl
    · have := ih (Nat.le_of_lt_succ hj)
      rw [iterW, this, h]; rfl
    · rfl
theorem showTo_len {seen : List Dat} {o : Ord} : (showTo seen o).length ≤ seen.length + 1 := by
  unfold showTo; split
  · omega
  · simp
theorem ints_split : ∀ {ns : List Int} {vs : List Value} {n : Int}, IntsAre vs (ns ++ [n]) → ∃ vs0 t, vs = vs0 ++ [.int n t] ∧ IntsAre vs0 ns
  | [], _, _, .cons n t h => by cases h; exact ⟨[], t, rfl, .nil⟩
  | _ :: r, _, n, .cons k t h => by
    obtain ⟨vs0, u, e, h'⟩ := ints_split (ns := r) h
    exact ⟨.int k t :: vs0, u, by rw [e]; rfl, .cons k t h'⟩
/-- every place of the walk stands, and every goal that is asked for -/
noncomputable def WalkSafe (os : List (Option Ord)) (gs : List Int) : Prop :=
  0 < os.length ∧ gs.length = os.length ∧ ∀ p, p < os.length → match (os[p]?).join with
    | none => p + 1 < os.length
    | some o => (jumpy o = true → ∃ x : Nat, x < os.length ∧ gs[p]? = some (x : Int)) ∧ (o.isExit = false → o.isJump = false → p + 1 < os.length)
theorem iterW_step {os : List (Option Ord)} {gs ch : List Int} {i : Nat} {st : WSt} {r : Bool × WSt} (hit : iterW os gs ch i = (true, st)) (hst : stepW os gs ch st = r) : iterW os gs ch (i + 1) = r := by rw [iterW, hit]; exact hst
theorem iterW_stop {os : List (Option Ord)} {gs ch : List Int} {i : Nat} {st st' : WSt} (hit : iterW os gs ch i = (true, st)) (hst : stepW os gs ch st = (false, st')) (hi : i < 250) : (iterW os gs ch 250).2 = st' := by
  have e1 := iterW_step hit hst
  have := iterW_halt (os := os) (gs := gs) (ch := ch) (k := i + 1) (by rw [e1]) (j := 250) (by omega)
  rw [this, e1]
theorem step_over {os : List (Option Ord)} {gs ch : List Int} {st : WSt} (h : 12 < st.seen.length) : stepW os gs ch st = (false, st) := by unfold stepW; rw [if_pos h]
theorem step_none {os : List (Option Ord)} {gs ch : List Int} {st : WSt} (h : ¬ 12 < st.seen.length) (e : os[st.at_]? = some none) : stepW os gs ch st = (true, ⟨st.at_ + 1, st.seen, st.back⟩) := by unfold stepW; rw [if_neg h, e]; rfl
theorem step_some {os : List (Option Ord)} {gs ch : List Int} {st : WSt} {o : Ord} (h : ¬ 12 < st.seen.length) (e : os[st.at_]? = some (some o)) : stepW os gs ch st = (if o.isExit then (match st.back.getLast? with
      | none => (false, ⟨st.at_, showTo st.seen o, st.back⟩)
      | some p => (true, ⟨p, showTo st.seen o, st.back.dropLast⟩))
    else if o.isLCall then (true, ⟨(gs.getD st.at_ 0).toNat, showTo st.seen o, st.back ++ [st.at_ + 1]⟩)
    else if takes ch (showTo st.seen o) o then (true, ⟨(gs.getD st.at_ 0).toNat, showTo st.seen o, st.back⟩)
    else (true, ⟨st.at_ + 1, showTo st.seen o, st.back⟩)) := by
  conv => lhs; unfold stepW
  rw [if_neg h, e]; rfl
theorem step_exit0 {os : List (Option Ord)} {gs ch : List Int} {st : WSt} {o : Ord} (h : ¬ 12 < st.seen.length) (e : os[st.at_]? = some (some o)) (hx : o.isExit = true) (hb : st.back = []) : stepW os gs ch st = (false, ⟨st.at_, showTo st.seen o, st.back⟩) := by
  rw [step_some h e, if_pos hx, hb]; rfl
theorem step_exit {os : List (Option Ord)} {gs ch : List Int} {st : WSt} {o : Ord} {b0 : List Nat} {p : Nat} (h : ¬ 12 < st.seen.length) (e : os[st.at_]? = some (some o)) (hx : o.isExit = true) (hb : st.back = b0 ++ [p]) : stepW os gs ch st = (true, ⟨p, showTo st.seen o, b0⟩) := by
  rw [step_some h e, if_pos hx, hb]; simp
theorem step_call {os : List (Option Ord)} {gs ch : List Int} {st : WSt} {o : Ord} {y : Nat} (h : ¬ 12 < st.seen.length) (e : os[st.at_]? = some (some o)) (hx : o.isExit = false) (hc : o.isLCall = true) (hy : gs[st.at_]? = some (y : Int)) : stepW os gs ch st = (true, ⟨y, showTo st.seen o, st.back ++ [st.at_ + 1]⟩) := by
  rw [step_some h e, if_neg (by simp [hx]), if_pos hc, List.getD_eq_getElem?_getD, hy]; simp
theorem step_goto {os : List (Option Ord)} {gs ch : List Int} {st : WSt} {o : Ord} {y : Nat} (h : ¬ 12 < st.seen.length) (e : os[st.at_]? = some (some o)) (hx : o.isExit = false) (hc : o.isLCall = false) (ht : takes ch (showTo st.seen o) o = true) (hy : gs[st.at_]? = some (y : Int)) : stepW os gs ch st = (true, ⟨y, showTo st.seen o, st.back⟩) := by
  rw [step_some h e, if_neg (by simp [hx]), if_neg (by simp [hc]), if_pos ht, List.getD_eq_getElem?_getD, hy]; simp
theorem step_next {os : List (Option Ord)} {gs ch : List Int} {st : WSt} {o : Ord} (h : ¬ 12 < st.seen.length) (e : os[st.at_]? = some (some o)) (hx : o.isExit = false) (hc : o.isLCall = false) (ht : takes ch (showTo st.seen o) o = false) : stepW os gs ch st = (true, ⟨st.at_ + 1, showTo st.seen o, st.back⟩) := by
  rw [step_some h e, if_neg (by simp [hx]), if_neg (by simp [hc]), if_neg (by simp [ht])]
/-- a local call is no jump -/
theorem lcall_facts {o : Ord} (h : o.isLCall = true) : o.isExit = false ∧ o.isJump = false := by
  have h1 : o.code = 133 := by unfold Ord.isLCall at h; simp at h; exact h.1
  refine ⟨by unfold Ord.isExit; rw [h1]; rfl, ?_⟩
  unfold Ord.isJump
  rw [h1, show (Builtin.bitAnd 133 240 == 0) = false from by decide +kernel, Bool.and_false]
end Mine
set_option hygiene false in
local macro_rules | `(tactic| walk_at "y") => `(tactic| ((with_reducible show wpAny _ _ (callWith _ (Value.builtin _) _ _ _) _ _ _); first
  | (refine r_callB ?_)
  | (refine r_callB0 ?_; try simp only [List.append_nil])))
namespace Mine
noncomputable def bodyOf (i : Nat) : List Stmt := match defAt i with | some d => d.body | none => []
noncomputable def scopeOf (i : Nat) : Option Scope := (defAt i).map (·.scope)
noncomputable def forBody : List Stmt → List Stmt
  | .For _ _ b _ _ :: _ => b
  | _ :: r => forBody r
  | [] => []
noncomputable abbrev wm (rl gl cl sl bl : Addr) (at_ : Nat) (t : Tok) : Loc := [("rows", .ref rl), ("goals", .ref gl), ("choices", .ref cl), ("at", .int (at_ : Nat) t), ("seen", .ref sl), ("back", .ref bl)]
section
variable {prog : Program} {w : World} {K : Frag} {A : Around} {T : Heap} {Z : Zed} {g : Heap} {L : Addr} {m : List (Str × Value)} {mu : List (Addr × Obj)} {s : Shared} {E : Value → Shared → Prop}
set_option maxHeartbeats 1000000
set_option maxRecDepth 100000
/-- behind the showing: where the walk goes on -/
theorem walk_tail {name : Str} {params : Arguments} {bd0 : List Stmt} {scope : Scope} (hd : defAt 56 = some ⟨name, params, bd0, scope⟩) {cdv : Value} {rl gl cl sl bl x : Addr} {gvs cvs svs bvs : List Value} {n1 n2 : Nat} {ta : Tok} {os : List (Option Ord)} {gs ch : List Int} {st : WSt} {o : Ord} {P : Flow → Shared → Prop}
    (TF : TopF K T) (R : Room A 4) (H : At T Z g L (("row", .ref x) :: wm rl gl cl sl bl st.at_ ta) [(sl, LO svs n1), (bl, LO bvs n2)] s) (hO : IsOrder g x o)
    (hgl : IsListV g gl gvs) (hgs : IntsAre gvs gs) (hgl' : gvs.length ≤ 1000) (hcl : IsListV g cl cvs) (hcs : IntsAre cvs ch) (hch : 0 < ch.length) (hc2 : ch.length ≤ 100)
    (hov : ¬ 12 < st.seen.length) (hat : st.at_ < os.length) (hz : os.length ≤ 1000) (e : os[st.at_]? = some (some o)) (hw1 : jumpy o = true → ∃ y : Nat, y < os.length ∧ gs[st.at_]? = some (y : Int)) (hw2 : o.isExit = false → o.isJump = false → st.at_ + 1 < os.length)
    (hbk : ∀ b ∈ st.back, b < os.length) (hsv : VDs g svs (showTo st.seen o)) (hbv : IntsAre bvs (st.back.map fun b : Nat => (b : Int))) (hbz : st.back.length ≤ 250)
    (fin : ∀ st' s m₂ bo jk, stepW os gs ch st = (false, st') → st'.seen = showTo st.seen o → At T Z g L m₂ ([(sl, LO svs n1), (bl, bo)] ++ jk) s → Knows m₂ [("seen", .ref sl)] → P .brk s)
    (go : ∀ st' s bvs' n3 t' m₂ jk, stepW os gs ch st = (true, st') → st'.seen = showTo st.seen o → IntsAre bvs' (st'.back.map fun b : Nat => (b : Int)) → st'.at_ < os.length → (∀ b ∈ st'.back, b < os.length) → st'.back.length ≤ st.back.length + 1 →
      At T Z g L m₂ ([(sl, LO svs n1), (bl, LO bvs' n3)] ++ jk) s → Knows m₂ (wm rl gl cl sl bl st'.at_ t') → P .next s) :
    wpAny (model prog w) A (execs ((forBody bd0).drop 4) (envOf "_law_walk" scope L 406 cdv)) P noE s := by
  cases (show defAt 56 = some ⟨_, _, _, _⟩ from rfl).symm.trans hd
  show wpAny _ _ (execs [Stmt.If _ _ _ _] _) _ _ _
  have hgl0 := hgs.length
  have hbv' := hbv.length
  rw [List.length_map] at hbv'
  have hsv' := hsv.length
  have hsl := showTo_len (seen := st.seen) (o := o)
  repeat' walk_at "y"
  · have hx : o.isExit = true := hc
    refine r_newList H (by decide) ?_
    clear H; intro el s H
    simp only [List.cons_append, List.nil_append] at H
    refine r_eqInts (ns := st.back.map fun b : Nat => (b : Int)) (ms := []) (xs := bvs) (ys := []) (R.less (by decide)) H (hasM 1 rfl) (hasM 2 rfl) hbv .nil ?_
    have hsp : st.back = [] ∨ ∃ b0 p, st.back = b0 ++ [p] := by
      cases hb : st.back with
      | nil => exact .inl rfl
      | cons a r => exact .inr ⟨(a :: r).dropLast, (a :: r).getLast (by simp), (List.dropLast_concat_getLast (by simp)).symm⟩
    rcases hsp with hb0 | ⟨b0, p, hbp⟩
    · rw [hb0, List.map_nil, decide_eq_true rfl]
      repeat' walk_at "y"
      exact fin _ s _ _ [(el, LO [] 0)] (step_exit0 hov e hx hb0) rfl H (by walk_at "k")
    · rw [hbp, List.map_append, List.map_singleton] at hbv
      obtain ⟨bvs0, tp, rfl, hbv0⟩ := ints_split hbv
      rw [decide_eq_false (by rw [hbp]; simp)]
      repeat' walk_at "y"
      refine r_methPop H (hasM 1 rfl) ?_
      try dsimp only
      repeat' walk_at "y"
      refine r_pop (i := 1) (vs := bvs0) (y := .int p tp) (n := n2) H rfl (by simp at hbv'; omega) ?_
      clear H; intro n3 s H
      simp only [List.set_cons_succ, List.set_cons_zero] at H
      repeat' walk_at "y"
      exact go _ s bvs0 n3 tp _ [(el, LO [] 0)] (step_exit hov e hx hbp) rfl hbv0 (hbk p (by rw [hbp]; simp)) (fun b hb => hbk b (by rw [hbp]; exact List.mem_append_left _ hb)) (by rw [hbp]; simp; omega) H (by walk_at "k")
  all_goals have hx : o.isExit = false := by simpa using (show ¬ o.isExit = true from by assumption)
  · have hlc : o.isLCall = true := hc
    obtain ⟨y, hy, hgy⟩ := hw1 (by simp [jumpy, hlc])
    obtain ⟨ty, hgv⟩ := hgs.get _ _ hgy
    refine r_meth H (hasM 1 rfl) ?_
    try dsimp only
    repeat' walk_at "y"
    refine r_append (i := 1) H rfl (by omega) ?_
    clear H; intro n3 s H
    simp only [List.set_cons_succ, List.set_cons_zero] at H
    repeat' walk_at "y"
    refine r_item H (hasG hgl) (by omega) (by omega) (v := .int y ty) (by simpa using hgv) ?_
    repeat' walk_at "y"
    refine go ⟨y, showTo st.seen o, st.back ++ [st.at_ + 1]⟩ s _ n3 ty _ [] (step_call hov e hx hlc hgy) rfl ?_ hy (fun b hb => ?_) (by simp) H (by walk_at "k")
    · rw [List.map_append]; exact hbv.append (.cons _ _ .nil)
    · rcases List.mem_append.mp hb with hb | hb
      · exact hbk b hb
      · rw [List.mem_singleton] at hb; rw [hb]; exact hw2 hx (lcall_facts hlc).2
  all_goals have hlc : o.isLCall = false := by simpa using (show ¬ o.isLCall = true from by assumption)
  · obtain ⟨y, hy, hgy⟩ := hw1 (by simp [jumpy, hc])
    obtain ⟨ty, hgv⟩ := hgs.get _ _ hgy
    refine r_item H (hasG hgl) (by omega) (by omega) (v := .int y ty) (by simpa using hgv) ?_
    repeat' walk_at "y"
    exact go ⟨y, showTo st.seen o, st.back⟩ s bvs n2 ty _ [] (step_goto hov e hx hlc (by simp [takes, hc]) hgy) rfl hbv hy hbk (Nat.le_succ _) H (by walk_at "k")
  all_goals have hnj : o.isJump = false := by simpa using (show ¬ o.isJump = true from by assumption)
  · obtain ⟨y, hy, hgy⟩ := hw1 (by simp [jumpy, hc])
    obtain ⟨ty, hgv⟩ := hgs.get _ _ hgy
    have hcl0 := hcs.length
    refine r_len H (hasM 0 rfl) (by omega) ?_
    clear H; intro t5 s H
    repeat' walk_at "y"
    refine r_len H (hasG hcl) (by omega) ?_
    clear H; intro t6 s H
    repeat' walk_at "y"
    refine r_mod H (by omega) ?_
    clear H; intro t7 s H
    have hq : (svs.length : Int).fmod (cvs.length : Int) = (((showTo st.seen o).length % ch.length : Nat) : Int) := by
      rw [hsv', hcl0, Int.fmod_eq_emod_of_nonneg _ (by omega)]; omega
    rw [hq]
    have hql : (showTo st.seen o).length % ch.length < ch.length := Nat.mod_lt _ hch
    obtain ⟨tq, hcv⟩ := hcs.get _ _ (List.getElem?_eq_getElem hql)
    refine r_item H (hasG hcl) (by omega) (by omega) (by rw [Int.toNat_natCast]; exact hcv) ?_
    have hgd : ch.getD ((showTo st.seen o).length % ch.length) 0 = ch[(showTo st.seen o).length % ch.length] := by rw [List.getD_eq_getElem?_getD, List.getElem?_eq_getElem hql]; rfl
    repeat' walk_at "y"
    · refine r_item H (hasG hgl) (by omega) (by omega) (v := .int y ty) (by simpa using hgv) ?_
      repeat' walk_at "y"
      exact go ⟨y, showTo st.seen o, st.back⟩ s bvs n2 ty _ [] (step_goto hov e hx hlc (by unfold takes; rw [hgd, hnj, show o.isBranch = true from by assumption]; exact hc) hgy) rfl hbv hy hbk (Nat.le_succ _) H (by walk_at "k")
    · exact go ⟨st.at_ + 1, showTo st.seen o, st.back⟩ s bvs n2 _ _ [] (step_next hov e hx hlc (by unfold takes; rw [hgd, hnj, show o.isBranch = true from by assumption]; simpa using hc)) rfl hbv (hw2 hx hnj) hbk (Nat.le_succ _) H (by walk_at "k")
  · exact go ⟨st.at_ + 1, showTo st.seen o, st.back⟩ s bvs n2 _ _ [] (step_next hov e hx hlc (by unfold takes; rw [hnj, show o.isBranch = false from by simpa using hc]; rfl)) rfl hbv (hw2 hx hnj) hbk (Nat.le_succ _) H (by walk_at "k")
end
end Mine
namespace Mine
/-- what holds between the turns -/
noncomputable def WJ (g : Heap) (rl gl cl sl bl : Addr) (os : List (Option Ord)) (gs ch : List Int) (i : Nat) (g₁ : Heap) (m₁ : Loc) (mu₁ : List (Addr × Obj)) : Prop :=
  ∃ st ta svs n' bvs n2, m₁ = wm rl gl cl sl bl st.at_ ta ∧ mu₁ = [(sl, LO svs n'), (bl, LO bvs n2)] ∧ g.StaysIn g₁ ∧ iterW os gs ch i = (true, st) ∧
    VDs g₁ svs st.seen ∧ IntsAre bvs (st.back.map fun b : Nat => (b : Int)) ∧ st.at_ < os.length ∧ (∀ b ∈ st.back, b < os.length) ∧ st.seen.length ≤ 14 ∧ st.back.length ≤ i
/-- how the loop ends -/
noncomputable def WEnd (T : Heap) (Z : Zed) (g : Heap) (L sl bl : Addr) (os : List (Option Ord)) (gs ch : List Int) (s : Shared) : Prop :=
  ∃ g₁ svs n' bo, At T Z g₁ L [("seen", .ref sl)] [(sl, LO svs n'), (bl, bo)] s ∧ g.StaysIn g₁ ∧ svs.length ≤ 100 ∧ VDs g₁ svs (iterW os gs ch 250).2.seen
section
variable {prog : Program} {w : World} {K : Frag} {A : Around} {T : Heap} {Z Z₁ : Zed} {g : Heap} {L : Addr} {m : List (Str × Value)} {mu : List (Addr × Obj)} {s : Shared} {E : Value → Shared → Prop}
set_option maxHeartbeats 1000000
set_option maxRecDepth 100000
theorem walk_fin {g₂ g₁ : Heap} {sl bl : Addr} {os : List (Option Ord)} {gs ch : List Int} {i : Nat} {st st' : WSt} {svs : List Value} {n : Nat} {bo : Obj} {jk : List (Addr × Obj)} {m₂ : Loc} (hi : i < 250) (hit : iterW os gs ch i = (true, st)) (hst : stepW os gs ch st = (false, st')) (kg : g.StaysIn g₁) (k₂ : g₁.StaysIn g₂)
    (hl : svs.length ≤ 100) (hv : VDs g₂ svs st'.seen) (H : At T Z g₂ L m₂ ([(sl, LO svs n), (bl, bo)] ++ jk) s) (kn : Knows m₂ [("seen", .ref sl)]) : WEnd T Z g L sl bl os gs ch s :=
  ⟨g₂, svs, n, bo, (H.drop).know kn, stays_trans kg k₂, hl, by rw [iterW_stop hit hst hi]; exact hv⟩
theorem walk_go {g₂ g₁ : Heap} {rl gl cl sl bl : Addr} {os : List (Option Ord)} {gs ch : List Int} {i : Nat} {st st' : WSt} {svs bvs : List Value} {n n3 : Nat} {t' : Tok} {jk : List (Addr × Obj)} {m₂ : Loc} (hit : iterW os gs ch i = (true, st)) (hst : stepW os gs ch st = (true, st')) (kg : g.StaysIn g₁) (k₂ : g₁.StaysIn g₂)
    (hv : VDs g₂ svs st'.seen) (hb : IntsAre bvs (st'.back.map fun b : Nat => (b : Int))) (ha : st'.at_ < os.length) (hbk : ∀ b ∈ st'.back, b < os.length) (hl1 : st'.seen.length ≤ 14) (hl2 : st'.back.length ≤ i + 1)
    (H : At T Z₁ g₂ L m₂ ([(sl, LO svs n), (bl, LO bvs n3)] ++ jk) s) (kn : Knows m₂ (wm rl gl cl sl bl st'.at_ t')) : TurnEnd T Z₁ L [sl, bl] (WJ g rl gl cl sl bl os gs ch (i + 1)) s :=
  ⟨g₂, _, [(sl, LO svs n), (bl, LO bvs n3)], (H.drop).know kn, rfl, st', t', svs, n, bvs, n3, rfl, rfl, stays_trans kg k₂, iterW_step hit hst, hv, hb, ha, hbk, hl1, hl2⟩
end
end Mine
namespace Mine
section
variable {prog : Program} {w : World} {K : Frag} {A : Around} {T : Heap} {Z Z₁ : Zed} {g : Heap} {L : Addr} {m : List (Str × Value)} {mu : List (Addr × Obj)} {s : Shared} {E : Value → Shared → Prop}
set_option maxHeartbeats 1000000
set_option maxRecDepth 100000
theorem walk_turn {name : Str} {params : Arguments} {bd0 : List Stmt} {scope : Scope} (hd : defAt 56 = some ⟨name, params, bd0, scope⟩) {cdv : Value} {g₁ : Heap} {rl gl cl sl bl : Addr} {rvs gvs cvs svs bvs : List Value} {n1 n2 : Nat} {ta tt : Tok} {os : List (Option Ord)} {gs ch : List Int} {st : WSt} {i : Nat} {Q : Flow → Shared → Prop}
    (TF : TopF K T) (R : Room A 4) (hrl : IsListV g rl rvs) (hos : OrdsAt g rvs os) (hgl : IsListV g gl gvs) (hgs : IntsAre gvs gs) (hcl : IsListV g cl cvs) (hcs : IntsAre cvs ch) (hch : 0 < ch.length) (hc2 : ch.length ≤ 100) (hz : os.length ≤ 1000) (WS : WalkSafe os gs)
    (hi : i < 250) (kg : g.StaysIn g₁) (hit : iterW os gs ch i = (true, st)) (hsv : VDs g₁ svs st.seen) (hbv : IntsAre bvs (st.back.map fun b : Nat => (b : Int))) (hat : st.at_ < os.length) (hbk : ∀ b ∈ st.back, b < os.length) (hsn : st.seen.length ≤ 14) (hbn : st.back.length ≤ i)
    (H : At T Z₁ g₁ L (("turn", .int i tt) :: wm rl gl cl sl bl st.at_ ta) [(sl, LO svs n1), (bl, LO bvs n2)] s)
    (out : ∀ g₂ m₂ mu₂ s₂, At T Z₁ g₂ L m₂ mu₂ s₂ → mu₂.map (·.1) = [sl, bl] → At T Z g₂ L m₂ mu₂ s₂) (hQ : ∀ s', WEnd T Z g L sl bl os gs ch s' → Q .next s') :
    wpAny (model prog w) A (execs (forBody bd0) (envOf "_law_walk" scope L 406 cdv)) (TurnPost T Z₁ L [sl, bl] (WJ g rl gl cl sl bl os gs ch (i + 1)) Q) noE s := by
  cases (show defAt 56 = some ⟨_, _, _, _⟩ from rfl).symm.trans hd
  show wpAny _ _ (execs (Stmt.Assign _ _ _ :: _) _) _ _ _
  refine gen_post fun PP hPP => ?_
  have hsv' := hsv.length
  have hrl' := hos.1
  have hgl' := hgs.length
  have hWS := WS.2.2 st.at_ hat
  have hgz := WS.2.1
  repeat' walk_at "yif"
  rcases (hos.mono kg).get hat with ⟨e, ev⟩ | ⟨o, x, e, ev, hO⟩
  · rw [e] at hWS
    refine r_item H (hasG (hrl.mono kg)) (by omega) (by omega) (v := .none) (by simpa using ev) ?_
    repeat' walk_at "y"
    refine r_len H (hasM 0 rfl) (by omega) ?_
    clear H; intro t5 s H
    repeat' walk_at "y"
    · have hc' : 12 < st.seen.length := by have := of_decide_eq_true hc; omega
      exact tpb hPP (hQ _ (walk_fin (jk := []) hi hit (step_over hc') kg (stays_refl _) (by omega) hsv (out _ _ _ _ H rfl) (by walk_at "k")))
    · have hc' : ¬ 12 < st.seen.length := by have : ¬ _ := fun q => hc (decide_eq_true q); omega
      exact tpc hPP (walk_go (jk := []) hit (step_none hc' e) kg (stays_refl _) hsv hbv hWS hbk (by simp only; omega) (by simp only; omega) H (by walk_at "k"))
  · rw [e] at hWS
    have hWS' : (jumpy o = true → ∃ x : Nat, x < os.length ∧ gs[st.at_]? = some (x : Int)) ∧ (o.isExit = false → o.isJump = false → st.at_ + 1 < os.length) := hWS
    refine r_item H (hasG (hrl.mono kg)) (by omega) (by omega) (v := .ref x) (by simpa using ev) ?_
    repeat' walk_at "yif"
    refine wpAny_execs_cons ?_
    repeat' walk_at "yif"
    refine r_len H (hasM 0 rfl) (by omega) ?_
    clear H; intro t5 s H
    repeat' walk_at "yif"
    · have hc' : 12 < st.seen.length := by have := of_decide_eq_true hc; omega
      exact tpb hPP (hQ _ (walk_fin (jk := []) hi hit (step_over hc') kg (stays_refl _) (by omega) hsv (out _ _ _ _ H rfl) (by walk_at "k")))
    have hc' : ¬ 12 < st.seen.length := by have : ¬ _ := fun q => hc (decide_eq_true q); omega
    clear hc
    refine wpAny_execs_cons ?_
    repeat' walk_at "yif"
    refine seq_mid (fun s' => ∃ g₂ svs' n', At T Z₁ g₂ L (("row", .ref x) :: wm rl gl cl sl bl st.at_ ta) [(sl, LO svs' n'), (bl, LO bvs n2)] s' ∧ g₁.StaysIn g₂ ∧ VDs g₂ svs' (showTo st.seen o)) ?_ ?_
    · repeat' walk_at "y"
      refine shown_spec TF H (R.less (by decide)) hO ?_
      clear H; intro v g₂ s k₂ hsh H
      cases hsd : shownD o with
      | none =>
        rw [hsd] at hsh
        obtain rfl : v = .none := hsh
        repeat' walk_at "y"
        exact ⟨g₂, svs, n1, H.know (by walk_at "k"), k₂, by unfold showTo; rw [hsd]; exact hsv.mono k₂⟩
      | some d =>
        rw [hsd] at hsh
        obtain ⟨a, rfl, hvd⟩ := hsh
        repeat' walk_at "y"
        refine r_meth H (hasM 0 rfl) ?_
        try dsimp only
        repeat' walk_at "y"
        refine shown_spec TF H (R.less (by decide)) (hO.mono k₂) ?_
        clear H; intro v g₃ s k₃ hsh H
        rw [hsd] at hsh
        obtain ⟨a, rfl, hvd⟩ := hsh
        repeat' walk_at "y"
        refine r_append (i := 0) H rfl (by omega) ?_
        clear H; intro n3 s H
        simp only [List.set_cons_zero] at H
        repeat' walk_at "y"
        exact ⟨g₃, _, _, H.know (by walk_at "k"), stays_trans k₂ k₃, by unfold showTo; rw [hsd]; exact (hsv.mono (stays_trans k₂ k₃)).snoc hvd⟩
    clear H
    rintro s ⟨g₂, svs', n₂, H, k₂, hsv2⟩
    have hsl := showTo_len (seen := st.seen) (o := o)
    have hsv2' := hsv2.length
    refine walk_tail hd (P := PP) TF R H (hO.mono k₂) ((hgl.mono kg).mono k₂) hgs (by omega) ((hcl.mono kg).mono k₂) hcs hch hc2 hc' hat hz e hWS'.1 hWS'.2 hbk hsv2 hbv (by omega) ?_ ?_
    · intro st' s m₂ bo jk hst hse H kn
      exact tpb hPP (hQ _ (walk_fin (jk := []) hi hit hst kg k₂ (by omega) (by rw [hse]; exact hsv2) (out _ _ _ _ (H.drop) rfl) kn))
    · intro st' s bvs' n3 t' m₂ jk hst hse hb' ha' hbk' hbl H kn
      exact tpn hPP (walk_go (jk := jk) hit hst kg k₂ (by rw [hse]; exact hsv2) hb' ha' hbk' (by rw [hse]; omega) (by omega) H kn)
theorem walk_spec {rl gl cl : Addr} {rvs gvs cvs : List Value} {os : List (Option Ord)} {gs ch : List Int} {Q : Value → Shared → Prop} (TF : TopF K T) (H : At T Z g L m mu s) (R : Room A 5) (hrl : IsListV g rl rvs) (hos : OrdsAt g rvs os) (hgl : IsListV g gl gvs) (hgs : IntsAre gvs gs) (hcl : IsListV g cl cvs) (hcs : IntsAre cvs ch)
    (hch : 0 < ch.length) (hc2 : ch.length ≤ 100) (hz : os.length ≤ 1000) (WS : WalkSafe os gs)
    (h : ∀ l g' s' vs, g.StaysIn g' → IsListV g' l vs → VDs g' vs (walkD os gs ch) → At T Z g' L m mu s' → Q (.ref l) s') : wpAny (model prog w) A (call (.ref 406) [.ref rl, .ref gl, .ref cl]) Q E s := by
  refine enter0 [("rows", .ref rl), ("goals", .ref gl), ("choices", .ref cl)] TF (show FnIs K 406 (defAt 56) "_law_walk" .none from TF.fns 35 _ rfl) rfl H R (fun _ _ _ _ _ => BindsTo.of_eq rfl) (by rfl) (by decide) rfl rfl rfl ?_
  clear H R
  intro cdv L s H back R
  generalize Zed.into _ g _ = Z' at *
  have hrl' := hos.1
  have hgl' := hgs.length
  have hcl' := hcs.length
  repeat' walk_at "y"
  refine r_newList H (by decide) ?_
  clear H; intro sl s H
  repeat' walk_at "y"
  refine r_newList H (by decide) ?_
  clear H; intro bl s H
  simp only [List.cons_append, List.nil_append] at H
  repeat' walk_at "y"
  refine r_newUnpack (R.less (by decide)) H rfl (Nat.le_of_ble_eq_true rfl) ?_
  clear H; intro s H
  repeat' walk_at "yfor"
  refine seq_mid (WEnd T Z' g L sl bl os gs ch) ?_ ?_
  · repeat' walk_at "y"
    refine r_range1 H ?_
    clear H; intro r t1 t2 t3 s H hrng
    refine for_range0 (WJ g rl gl cl sl bl os gs ch) (R.less (by decide))
      (H.know (m' := wm rl gl cl sl bl 0 _) (by walk_at "k")) hrng (by omega) (by omega) ⟨⟨0, [], []⟩, _, _, _, _, _, rfl, rfl, stays_refl _, rfl, .nil, .nil, WS.1, (fun _ h => nomatch h), Nat.zero_le _, Nat.zero_le _⟩ ?_ ?_
    · clear H hrng
      rintro i t Z₁ g₁ m₁ mu₁ s hi ⟨st, ta, svs, n', bvs, n2, rfl, rfl, kg₁, hit, hsv, hbv, hat, hbk, hsn, hbn⟩ _ kg H out
      exact walk_turn (Z := Z') (show defAt 56 = some ⟨_, _, _, _⟩ from rfl) TF R hrl hos hgl hgs hcl hcs hch hc2 hz WS (by omega) kg₁ hit hsv hbv hat hbk hsn hbn H out fun s' h' => h'
    · rintro g₁ m₁ mu₁ s ⟨st, ta, svs, n', bvs, n2, rfl, rfl, kg₁, hit, hsv, _, _, _, hsn, _⟩ _ H
      exact ⟨g₁, svs, n', _, H.know (by walk_at "k"), kg₁, by have := hsv.length; omega, by rw [show ((250 : Int).toNat) = 250 from rfl] at hit; rw [hit]; exact hsv⟩
  · clear H
    rintro s ⟨g₁, svs, n', bo, H, kg₁, hsl, hsv⟩
    repeat' walk_at "y"
    refine r_sliceList H (hasM 0 rfl) (by omega) .none (.int _ _) ?_
    clear H; intro D s H
    have hs12 : (slicePick svs.toArray none (some 12) none).toList = svs.take 12 := by
      rw [kmk_pick_nat (a := 0) (b := min 12 svs.length) svs.toArray (by simp [sliceBounds]; omega)]
      simp
    rw [hs12] at H
    obtain ⟨g₅, kg₅, hl₅, H⟩ := At.freeze (mu := []) H
    repeat' walk_at "y"
    exact h D g₅ s _ (stays_trans kg₁ kg₅) ⟨0, hl₅ _ (.tail _ (.tail _ (.head _)))⟩ ((hsv.take 12).mono kg₅) (back _ _ _ _ H)
end
end Mine
namespace Mine
theorem join_some {c : List (Option Ord)} {i : Nat} {o : Ord} : (c[i]?).join = some o ↔ c[i]? = some (some o) := by
  cases h : c[i]? with
  | none => simp
  | some x => cases x <;> simp
/-- the rank of a place: how many orders stay ahead of it -/
noncomputable def rk (c : List (Option Ord)) : Nat → Nat
  | 0 => 0
  | n + 1 => rk c n + (if ((c[n]?).join).isSome then 1 else 0)
theorem rk_mono {c : List (Option Ord)} {a b : Nat} (h : a ≤ b) : rk c a ≤ rk c b := by
  induction h with
  | refl => exact Nat.le_refl _
  | step _ ih => rw [rk]; omega
theorem rk_some {c : List (Option Ord)} {p : Nat} {o : Ord} (h : c[p]? = some (some o)) : rk c (p + 1) = rk c p + 1 := by rw [rk, h]; rfl
theorem rk_none {c : List (Option Ord)} {p : Nat} (h : (c[p]?).join = none) : rk c (p + 1) = rk c p := by rw [rk, h]; rfl
theorem rk_lt {c : List (Option Ord)} {p q : Nat} {o : Ord} (h : c[p]? = some (some o)) (hq : p < q) : rk c p < rk c q := by
  have := rk_some h
  have : rk c (p + 1) ≤ rk c q := rk_mono (Nat.succ_le_of_lt hq)
  omega
theorem rk_same {c : List (Option Ord)} {a b : Nat} (hab : a ≤ b) (h : ∀ p, a ≤ p → p < b → (c[p]?).join = none) : rk c a = rk c b := by
  induction b with
  | zero => rw [Nat.le_zero.mp hab]
  | succ b ih =>
    rcases Nat.lt_or_eq_of_le hab with q | q
    · rw [rk_none (h b (by omega) (by omega))]
      exact ih (by omega) fun p h1 h2 => h p h1 (by omega)
    · rw [q]
theorem rk_gap {c : List (Option Ord)} {a b : Nat} (e : rk c a = rk c b) : ∀ p, a ≤ p → p < b → (c[p]?).join = none := by
  intro p h1 h2
  cases h : (c[p]?).join with
  | none => rfl
  | some o =>
    have := rk_lt (join_some.mp h) h2
    have := rk_mono (c := c) h1
    omega
theorem rk_inj {c : List (Option Ord)} {a b : Nat} {o o' : Ord} (h : c[a]? = some (some o)) (h' : c[b]? = some (some o')) (e : rk c a = rk c b) : a = b := by
  rcases Nat.lt_trichotomy a b with q | q | q
  · have := rk_lt h q; omega
  · exact q
  · have := rk_lt h' q; omega
theorem rk_le {c : List (Option Ord)} : ∀ p, rk c p ≤ p
  | 0 => Nat.le_refl _
  | p + 1 => by have := rk_le (c := c) p; rw [rk]; split <;> omega
/-- what stays, in its turn -/
noncomputable def keptL {β : Type} (c : List (Option Ord)) (f : Nat → Ord → β) (n : Nat) : List β := (List.range n).filterMap fun i => ((c[i]?).join).map (f i)
section
variable {β : Type} {c : List (Option Ord)} {f : Nat → Ord → β} {n : Nat}
theorem keptL_none (h : (c[n]?).join = none) : keptL c f (n + 1) = keptL c f n := by
  unfold keptL
  rw [List.range_succ, List.filterMap_append, List.filterMap_cons, h]
  simp
theorem keptL_some {o : Ord} (h : c[n]? = some (some o)) : keptL c f (n + 1) = keptL c f n ++ [f n o] := by
  unfold keptL
  rw [List.range_succ, List.filterMap_append, List.filterMap_cons, h]
  simp
theorem keptL_len : ∀ n, (keptL c f n).length = rk c n
  | 0 => rfl
  | n + 1 => by
    cases h : (c[n]?).join with
    | none => rw [keptL_none h, rk_none h, keptL_len n]
    | some o =>
      have h := join_some.mp h
      rw [keptL_some h, rk_some h, List.length_append, keptL_len n]; rfl
theorem keptL_get {p : Nat} {o : Ord} (h : c[p]? = some (some o)) : ∀ {n}, p < n → (keptL c f n)[rk c p]? = some (f p o)
  | n + 1, hp => by
    rcases Nat.lt_or_eq_of_le (Nat.le_of_lt_succ hp) with q | q
    · have ih := keptL_get h q
      have hl : rk c p < (keptL c f n).length := (List.getElem?_eq_some_iff.mp ih).1
      cases hn : (c[n]?).join with
      | none => rw [keptL_none hn]; exact ih
      | some x => rw [keptL_some (join_some.mp hn), List.getElem?_append_left hl]; exact ih
    · subst q
      rw [keptL_some h, List.getElem?_append_right (by rw [keptL_len]; exact Nat.le_refl _), keptL_len, Nat.sub_self]; rfl
theorem keptL_of {q : Nat} {x : β} : ∀ {n}, (keptL c f n)[q]? = some x → ∃ p o, p < n ∧ c[p]? = some (some o) ∧ q = rk c p ∧ x = f p o
  | 0, h => by simp [keptL] at h
  | n + 1, h => by
    cases hn : (c[n]?).join with
    | none =>
      rw [keptL_none hn] at h
      obtain ⟨p, o, h1, h2⟩ := keptL_of h
      exact ⟨p, o, by omega, h2⟩
    | some o =>
      have hn := join_some.mp hn
      rw [keptL_some hn] at h
      rcases Nat.lt_or_ge q (keptL c f n).length with hq | hq
      · rw [List.getElem?_append_left hq] at h
        obtain ⟨p, o, h1, h2⟩ := keptL_of h
        exact ⟨p, o, by omega, h2⟩
      · rw [List.getElem?_append_right hq] at h
        have hq2 : q = (keptL c f n).length := by have := (List.getElem?_eq_some_iff.mp h).1; simp at this; omega
        refine ⟨n, o, by omega, hn, by rw [hq2, keptL_len], ?_⟩
        rw [hq2, Nat.sub_self] at h
        simpa using h.symm
end
theorem nextK_cases (c : List (Option Ord)) (i : Nat) : (nextK c i = -1 ∧ ∀ p, i ≤ p → (c[p]?).join = none) ∨ ∃ j o, nextK c i = ((j : Nat) : Int) ∧ i ≤ j ∧ c[j]? = some (some o) ∧ ∀ p, i ≤ p → p < j → (c[p]?).join = none := by
  unfold nextK
  cases h : (c.drop i).findIdx? (·.isSome) with
  | none =>
    refine .inl ⟨rfl, fun p hp => ?_⟩
    rw [List.findIdx?_eq_none_iff] at h
    cases hj : (c[p]?).join with
    | none => rfl
    | some o =>
      have e := join_some.mp hj
      have : (c.drop i)[p - i]? = some (some o) := by rw [List.getElem?_drop, show i + (p - i) = p from by omega]; exact e
      have := h _ (List.mem_of_getElem? this)
      cases this
  | some k =>
    right
    rw [List.findIdx?_eq_some_iff_getElem] at h
    obtain ⟨hl, h1, h2⟩ := h
    obtain ⟨o, ho⟩ := Option.isSome_iff_exists.mp h1
    have e : (c.drop i)[k]? = some (some o) := by rw [List.getElem?_eq_getElem hl, ho]
    rw [List.getElem?_drop] at e
    refine ⟨i + k, o, rfl, by omega, e, fun p hp hp2 => ?_⟩
    have h3 := h2 (p - i) (by omega)
    have hl2 : p - i < (c.drop i).length := by omega
    have e2 : (c.drop i)[p - i]? = some (c.drop i)[p - i] := List.getElem?_eq_getElem hl2
    have e3 : c[p]? = (c.drop i)[p - i]? := by rw [List.getElem?_drop, show i + (p - i) = p from by omega]
    rw [e3, e2]
    cases hx : (c.drop i)[p - i] with
    | none => rfl
    | some y => rw [hx] at h3; simp at h3
theorem nextK_of {c : List (Option Ord)} {i j : Nat} {o : Ord} (hij : i ≤ j) (h : c[j]? = some (some o)) (hn : ∀ p, i ≤ p → p < j → (c[p]?).join = none) : nextK c i = ((j : Nat) : Int) := by
  rcases nextK_cases c i with ⟨_, h1⟩ | ⟨j', o', e, h1, h2, h3⟩
  · have := h1 j hij; rw [h] at this; cases this
  · rcases Nat.lt_trichotomy j j' with q | q | q
    · have := h3 j hij q; rw [h] at this; cases this
    · rw [e, q]
    · have := hn j' h1 q; rw [h2] at this; cases this
theorem nextK_le {c : List (Option Ord)} {i e : Nat} {o : Ord} (hie : i ≤ e) (h : c[e]? = some (some o)) : ∃ j o', nextK c i = ((j : Nat) : Int) ∧ i ≤ j ∧ j ≤ e ∧ c[j]? = some (some o') ∧ ∀ p, i ≤ p → p < j → (c[p]?).join = none := by
  rcases nextK_cases c i with ⟨_, h1⟩ | ⟨j', o', q, h1, h2, h3⟩
  · have := h1 e hie; rw [h] at this; cases this
  · refine ⟨j', o', q, h1, ?_, h2, h3⟩
    rcases Nat.lt_or_ge e j' with z | z
    · have := h3 e hie z; rw [h] at this; cases this
    · exact z
/-- what is gone were jumps that led on over nothing -/
theorem Rem.gone {tgt : Nat → Nat} {a c : List (Option Ord)} (h : Rem tgt a c) : ∀ (i : Nat) (o : Ord), a[i]? = some (some o) → (c[i]?).join = none → o.isJump = true ∧ i < tgt i ∧ ∀ p, i ≤ p → p < tgt i → (c[p]?).join = none := by
  induction h with
  | refl => intro i o e1 e2; rw [e1] at e2; cases e2
  | @step c i0 hR hI ih =>
    obtain ⟨oi, h0, hj, hk⟩ := hI
    have hset : ∀ p, (c[p]?).join = none → ((c.set i0 none)[p]?).join = none := fun p hp => by
      rw [List.getElem?_set]; split
      · split <;> rfl
      · exact hp
    have hlt : i0 < c.length := (List.getElem?_eq_some_iff.mp h0).1
    have hgt : i0 < tgt i0 ∧ ∀ p, i0 + 1 ≤ p → p < tgt i0 → (c[p]?).join = none := by
      rcases Nat.lt_or_ge i0 (tgt i0) with q | q
      · refine ⟨q, fun p h1 h2 => ?_⟩
        rcases nextK_cases c (i0 + 1) with ⟨_, z⟩ | ⟨j, o', e, z1, z2, z3⟩
        · exact z p h1
        · rcases Nat.lt_or_ge p j with y | y
          · exact z3 p h1 y
          · rcases nextK_cases c (tgt i0) with ⟨x, _⟩ | ⟨j2, _, x, x1, _⟩
            · rw [hk, e] at x; omega
            · rw [hk, e] at x; omega
      · exfalso
        obtain ⟨j, o', e, z1, z2, z3⟩ := nextK_le q h0
        rcases nextK_cases c (i0 + 1) with ⟨x, _⟩ | ⟨j2, _, x, x1, _⟩
        · rw [← hk, e] at x; omega
        · rw [← hk, e] at x; omega
    intro i o e1 e2
    by_cases hi : i0 = i
    · subst hi
      have := hR.some_of.2 i0 oi h0
      rw [e1] at this; cases this
      refine ⟨hj, hgt.1, fun p h1 h2 => ?_⟩
      by_cases hp : i0 = p
      · subst hp; exact e2
      · exact hset p (hgt.2 p (by omega) h2)
    · rw [List.getElem?_set_ne hi] at e2
      obtain ⟨h1, h2, h3⟩ := ih i o e1 e2
      exact ⟨h1, h2, fun p z1 z2 => hset p (h3 p z1 z2)⟩
theorem Rem.keep {tgt : Nat → Nat} {a c : List (Option Ord)} (h : Rem tgt a c) {i : Nat} {o : Ord} (e : a[i]? = some (some o)) (hi : o.isJump = true → tgt i ≤ i) : c[i]? = some (some o) := by
  cases hc : (c[i]?).join with
  | none => have := h.gone i o e hc; have := hi this.1; omega
  | some x =>
    have hc := join_some.mp hc
    have := h.some_of.2 i x hc
    rw [e] at this; cases this; exact hc
theorem Rem.none_of {tgt : Nat → Nat} {a c : List (Option Ord)} (h : Rem tgt a c) {i : Nat} (e : (a[i]?).join = none) : (c[i]?).join = none := by
  cases hc : (c[i]?).join with
  | none => rfl
  | some x => have := h.some_of.2 i x (join_some.mp hc); rw [this] at e; cases e
/-- the slots ahead of a place, told by the rank -/
theorem place_rank {c : List (Option Ord)} {f : Nat → Ord → Ord} {n : Nat} (hf : ∀ i o, c[i]? = some (some o) → (f i o).slots = o.slots) : ∀ {p : Nat}, p ≤ n → placeOf (keptL c f n) (rk c p) = slotK c p
  | 0, _ => by simp [placeOf, slotK, rk]
  | p + 1, hp => by
    have ih := place_rank hf (n := n) (p := p) (by omega)
    cases hc : (c[p]?).join with
    | none =>
      rw [rk_none hc, ih]
      unfold slotK
      cases hx : c[p]? with
      | none => rw [List.take_of_length_le (by have := List.getElem?_eq_none_iff.mp hx; omega), List.take_of_length_le (by have := List.getElem?_eq_none_iff.mp hx; omega)]
      | some x =>
        rw [hx] at hc
        have hx' : x = none := by simpa using hc
        rw [List.take_add_one, hx, hx']; simp
    | some o =>
      have hc := join_some.mp hc
      rw [rk_some hc, placeOf_succ (keptL_get hc (by omega)), ih, hf p o hc, slotK_succ hc]; rfl
theorem slotK_same {c : List (Option Ord)} {a b : Nat} (hab : a ≤ b) (h : ∀ p, a ≤ p → p < b → (c[p]?).join = none) : slotK c a = slotK c b := by
  have e := rk_same hab h
  rw [← place_rank (c := c) (f := fun _ o => o) (n := b) (fun _ _ _ => rfl) hab, ← place_rank (c := c) (f := fun _ o => o) (n := b) (fun _ _ _ => rfl) (Nat.le_refl b), e]
end Mine
namespace Mine
/-- the sorts of orders that the law meets -/
inductive Kind : Ord → Prop
  | mov (d i : Int) : Kind ⟨183, d, 0, 0, i, 0⟩
  | wide (d i : Int) : Kind ⟨24, d, 0, 0, i, 256⟩
  | branch (d off i : Int) : Kind ⟨101, d, 0, off, i, 0⟩
  | jump (off : Int) : Kind ⟨5, 0, 0, off, 0, 0⟩
  | far (i : Int) : Kind ⟨6, 0, 0, 0, i, 0⟩
  | call (i : Int) : Kind ⟨133, 0, 1, 0, i, 0⟩
  | exit : Kind ⟨149, 0, 0, 0, 0, 0⟩
noncomputable def jmpC (k : Int) : Bool := (Builtin.bitAnd k 7 == 5 || Builtin.bitAnd k 7 == 6) && Builtin.bitAnd k 240 == 0
noncomputable def brC (k : Int) : Bool := (Builtin.bitAnd k 7 == 5 || Builtin.bitAnd k 7 == 6) && (!jmpC k && (!(k == 133) && !(k == 149)))
noncomputable def szC (k : Int) : Int := if Builtin.bitAnd k 7 == 4 || Builtin.bitAnd k 7 == 6 then 32 else 64
theorem isJump_eq (o : Ord) : o.isJump = jmpC o.code := rfl
theorem isBranch_eq (o : Ord) : o.isBranch = brC o.code := rfl
theorem size_eq (o : Ord) : o.size = szC o.code := rfl
theorem jmp_tab : jmpC 183 = false ∧ jmpC 24 = false ∧ jmpC 101 = false ∧ jmpC 5 = true ∧ jmpC 6 = true ∧ jmpC 133 = false ∧ jmpC 149 = false := by decide +kernel
theorem br_tab : brC 183 = false ∧ brC 24 = false ∧ brC 101 = true ∧ brC 5 = false ∧ brC 6 = false ∧ brC 133 = false ∧ brC 149 = false := by decide +kernel
theorem sz_tab : szC 5 = 64 ∧ szC 6 = 32 := by decide +kernel
theorem moved_code (o : Ord) (a : Int) : (o.moved a).code = o.code := by unfold Ord.moved; split <;> rfl
theorem moved_src (o : Ord) (a : Int) : (o.moved a).src = o.src := by unfold Ord.moved; split <;> rfl
theorem moved_isJump (o : Ord) (a : Int) : (o.moved a).isJump = o.isJump := by rw [isJump_eq, isJump_eq, moved_code]
theorem moved_isBranch (o : Ord) (a : Int) : (o.moved a).isBranch = o.isBranch := by rw [isBranch_eq, isBranch_eq, moved_code]
theorem moved_isLCall (o : Ord) (a : Int) : (o.moved a).isLCall = o.isLCall := by unfold Ord.isLCall; rw [moved_code, moved_src]
theorem moved_isExit (o : Ord) (a : Int) : (o.moved a).isExit = o.isExit := by unfold Ord.isExit; rw [moved_code]
theorem moved_slots (o : Ord) (a : Int) : (o.moved a).slots = o.slots := by unfold Ord.slots; rw [moved_code]
section
variable {c : List (Option Ord)} {tgt : Nat → Nat} {i : Nat} {o : Ord}
theorem new_isJump : (newOrd c tgt i o).isJump = o.isJump := by unfold newOrd; split; exact moved_isJump _ _; rfl
theorem new_isBranch : (newOrd c tgt i o).isBranch = o.isBranch := by unfold newOrd; split; exact moved_isBranch _ _; rfl
theorem new_isLCall : (newOrd c tgt i o).isLCall = o.isLCall := by unfold newOrd; split; exact moved_isLCall _ _; rfl
theorem new_isExit : (newOrd c tgt i o).isExit = o.isExit := by unfold newOrd; split; exact moved_isExit _ _; rfl
theorem new_slots : (newOrd c tgt i o).slots = o.slots := by unfold newOrd; split; exact moved_slots _ _; rfl
theorem new_jumpy : jumpy (newOrd c tgt i o) = jumpy o := by unfold jumpy; rw [new_isJump, new_isBranch, new_isLCall]
end
theorem Kind.dist {o : Ord} (K : Kind o) (hj : jumpy o = true) (a : Int) : (o.moved a).dist = a := by
  cases K <;> simp [jumpy, isJump_eq, isBranch_eq, jmp_tab, br_tab, Ord.isLCall] at hj <;> simp [Ord.moved, Ord.dist, Ord.isLCall, isJump_eq, jmp_tab, size_eq, sz_tab]
theorem Kind.shown {o : Ord} (K : Kind o) (hn : o.isJump = false) (a : Int) (hj : jumpy o = true) : shownD (o.moved a) = shownD o := by
  cases K <;> simp [jumpy, isJump_eq, isBranch_eq, jmp_tab, br_tab, Ord.isLCall] at hj hn <;> simp [Ord.moved, shownD, Ord.isLCall, isJump_eq, jmp_tab, size_eq]
theorem Kind.moved {o : Ord} (K : Kind o) (a : Int) (hj : jumpy o = true) : Kind (o.moved a) := by
  cases K <;> simp [jumpy, isJump_eq, isBranch_eq, jmp_tab, br_tab, Ord.isLCall] at hj <;> simp [Ord.moved, Ord.isLCall, isJump_eq, jmp_tab, size_eq, sz_tab]
  · exact .branch _ _ _
  · exact .jump _
  · exact .far _
  · exact .call _
theorem Kind.new {c : List (Option Ord)} {tgt : Nat → Nat} {i : Nat} {o : Ord} (K : Kind o) : Kind (newOrd c tgt i o) := by
  unfold newOrd
  split
  · exact K.moved _ (by assumption)
  · exact K
theorem shown_new {c : List (Option Ord)} {tgt : Nat → Nat} {i : Nat} {o : Ord} (K : Kind o) : shownD (newOrd c tgt i o) = shownD o := by
  unfold newOrd
  split
  · cases hj : o.isJump with
    | true => unfold shownD; rw [if_pos (by rw [moved_isJump]; exact hj), if_pos hj]
    | false => exact K.shown hj _ (by assumption)
  · rfl
noncomputable def classStr (o : Ord) : Str := Txt.strip (Txt.slice "ld   ldx  st   stx  alu  jmp  jmp32alu64" (some (5 * o.kind)) (some (5 * o.kind + 5)))
theorem class5 : ∀ k ∈ [101, 5], (Txt.strip (Txt.slice ("ld   ldx  st   stx  alu  jmp  jmp32alu64" : Str) (some (5 * Builtin.bitAnd k 7)) (some (5 * Builtin.bitAnd k 7 + 5))) == ("jmp32" : Str)) = false := by decide +kernel
theorem Kind.far_off {o : Ord} (K : Kind o) (h : (classStr o == ("jmp32" : Str)) = true) : o.off = 0 := by
  cases K with
  | branch d off i => exact absurd h (by rw [show (classStr ⟨101, d, 0, off, i, 0⟩ == ("jmp32" : Str)) = false from class5 101 (by simp)]; decide)
  | jump off => exact absurd h (by rw [show (classStr ⟨5, 0, 0, off, 0, 0⟩ == ("jmp32" : Str)) = false from class5 5 (by simp)]; decide)
  | _ => rfl
theorem kind_tab : ∀ k ∈ [183, 24, 101, 5, 6, 133, 149], 0 ≤ Builtin.bitAnd k 7 ∧ Builtin.bitAnd k 7 ≤ 7 := by decide +kernel
theorem Kind.range {o : Ord} (K : Kind o) : 0 ≤ o.kind ∧ o.kind ≤ 7 := by
  cases K <;> exact kind_tab _ (by simp)
/- words -/
theorem mk_mov {i : Nat} {a : Int} : mkOrd "mov" i a = ⟨183, (i : Int).fmod 10, 0, 0, i, 0⟩ := by unfold mkOrd; rw [if_pos rfl]
theorem mk_wide {i : Nat} {a : Int} : mkOrd "wide" i a = ⟨24, (i : Int).fmod 10, 0, 0, i, 256⟩ := by unfold mkOrd; rw [if_neg (by decide +kernel), if_pos rfl]
theorem mk_branch {i : Nat} {a : Int} : mkOrd "branch" i a = ⟨101, (i : Int).fmod 10, 0, a, i, 0⟩ := by unfold mkOrd; rw [if_neg (by decide +kernel), if_neg (by decide +kernel), if_pos rfl]
theorem mk_jump {i : Nat} {a : Int} : mkOrd "jump" i a = ⟨5, 0, 0, a, 0, 0⟩ := by unfold mkOrd; rw [if_neg (by decide +kernel), if_neg (by decide +kernel), if_neg (by decide +kernel), if_pos rfl]
theorem mk_far {i : Nat} {a : Int} : mkOrd "far" i a = ⟨6, 0, 0, 0, a, 0⟩ := by unfold mkOrd; rw [if_neg (by decide +kernel), if_neg (by decide +kernel), if_neg (by decide +kernel), if_neg (by decide +kernel), if_pos rfl]
theorem mk_call {i : Nat} {a : Int} : mkOrd "call" i a = ⟨133, 0, 1, 0, a, 0⟩ := by unfold mkOrd; rw [if_neg (by decide +kernel), if_neg (by decide +kernel), if_neg (by decide +kernel), if_neg (by decide +kernel), if_neg (by decide +kernel), if_pos rfl]
theorem mk_exit {i : Nat} {a : Int} : mkOrd "exit" i a = ⟨149, 0, 0, 0, 0, 0⟩ := by unfold mkOrd; rw [if_neg (by decide +kernel), if_neg (by decide +kernel), if_neg (by decide +kernel), if_neg (by decide +kernel), if_neg (by decide +kernel), if_neg (by decide +kernel)]
noncomputable def wslots (w : Str) : Int := if w = "wide" then 2 else 1
theorem mk_slots {w : Str} {i : Nat} {a : Int} : (mkOrd w i a).slots = wslots w := by
  unfold wslots
  by_cases hw : w = "wide"
  · rw [if_pos hw, hw, mk_wide]; rfl
  · rw [if_neg hw]
    unfold mkOrd Ord.slots
    rw [if_neg hw]
    split
    · rfl
    split
    · rfl
    split
    · rfl
    split
    · rfl
    split
    · rfl
    · rfl
noncomputable def wplace (ws : List Str) (i : Nat) : Int := ((ws.take i).map wslots).sum
theorem wplace_succ {ws : List Str} {i : Nat} {w : Str} (h : ws[i]? = some w) : wplace ws (i + 1) = wplace ws i + wslots w := by
  unfold wplace; rw [List.take_add_one, h]; simp
noncomputable def Same (bs : List Nat) (p q : Nat) : Prop := ∀ b ∈ bs, b ≤ p ↔ b ≤ q
theorem Same.trans {bs : List Nat} {p q r : Nat} (h : Same bs p q) (k : Same bs q r) : Same bs p r := fun b hb => (h b hb).trans (k b hb)
theorem Same.refl {bs : List Nat} {p : Nat} : Same bs p p := fun _ _ => Iff.rfl
noncomputable abbrev IsEnd (ws : List Str) (bs : List Nat) (i : Nat) : Prop := i + 1 ∈ bs ∨ i + 1 = ws.length
/-- what the law has built ahead of the call -/
structure Ctx (ws : List Str) (bs : List Nat) (gs : List Int) (os : List Ord) (ks : List (Option Ord)) (es : List Int) : Prop where
  S : Shape ws bs
  b0 : bs ≠ []
  b3 : bs.length ≤ 3
  gl : gs.length = ws.length
  gok : ∀ i w x, ws[i]? = some w → gs[i]? = some x → GoalOK ws bs i w x
  ol : os.length = ws.length
  oeq : ∀ (i : Nat) (w : Str) (x : Int), ws[i]? = some w → gs[i]? = some x → os[i]? = some (mkOrd w i (if x < 0 then 0 else wplace ws x.toNat - wplace ws i - 1))
  kl : ks.length = ws.length
  kok : ∀ i k, ks[i]? = some k → KeptOK ws os es i k
  es_ : ∀ i : Nat, i < ws.length → IsEnd ws bs i → (i : Int) ∈ es
section
variable {ws : List Str} {bs : List Nat} {gs : List Int} {os : List Ord} {ks : List (Option Ord)} {es : List Int}
theorem Ctx.pos (X : Ctx ws bs gs os ks es) : 0 < ws.length := by
  have := X.S.zero X.b0
  cases hb : bs with
  | nil => exact absurd hb X.b0
  | cons a r => have := X.S.lt a (by rw [hb]; exact .head _); omega
theorem Ctx.small (X : Ctx ws bs gs os ks es) : ws.length ≤ 21 := by have := X.S.len; have := X.b3; omega
theorem Ctx.at_ (X : Ctx ws bs gs os ks es) {i : Nat} (hi : i < ws.length) : ∃ w x, ws[i]? = some w ∧ gs[i]? = some x ∧ GoalOK ws bs i w x ∧ os[i]? = some (mkOrd w i (if x < 0 then 0 else wplace ws x.toNat - wplace ws i - 1)) := by
  have e1 : ws[i]? = some ws[i] := List.getElem?_eq_getElem hi
  have e2 : gs[i]? = some (gs[i]'(by rw [X.gl]; exact hi)) := List.getElem?_eq_getElem (by rw [X.gl]; exact hi)
  exact ⟨_, _, e1, e2, X.gok _ _ _ e1 e2, X.oeq _ _ _ e1 e2⟩
theorem Ctx.place (X : Ctx ws bs gs os ks es) : ∀ {i : Nat}, i ≤ ws.length → placeOf os i = wplace ws i
  | 0, _ => by simp [placeOf, wplace]
  | i + 1, hi => by
    obtain ⟨w, x, e1, e2, _, e3⟩ := X.at_ (i := i) (by omega)
    rw [placeOf_succ e3, wplace_succ e1, X.place (by omega), mk_slots]
theorem Ctx.goal (X : Ctx ws bs gs os ks es) {i : Nat} {w : Str} {x : Int} (hi : i < ws.length) (G : GoalOK ws bs i w x) (hw : w ∈ (["branch", "jump", "far"] : List Str)) : ∃ y : Nat, x = (y : Int) ∧ y < ws.length ∧ Same bs i y := by
  obtain ⟨low, high, y, hx, h1, h2, h3, h4, h5, h6, h7⟩ := G.2.1 hw
  refine ⟨y, hx, ?_, fun b hb => ?_⟩
  · rcases h4 with q | q
    · have := X.S.lt _ q; omega
    · omega
  · rcases h5 b hb with q | q
    · exact ⟨fun _ => by omega, fun _ => by omega⟩
    · exact ⟨fun z => by omega, fun z => by omega⟩
theorem Ctx.callGoal (X : Ctx ws bs gs os ks es) {i : Nat} {x : Int} (G : GoalOK ws bs i "call" x) : ∃ y : Nat, x = (y : Int) ∧ y < ws.length ∧ y ∈ bs := by
  obtain ⟨b, hb, hx⟩ := G.1 rfl
  exact ⟨b, hx, X.S.lt b hb, hb⟩
theorem Ctx.slot (X : Ctx ws bs gs os ks es) {i y : Nat} {o : Ord} {a : Int} (hi : i < ws.length) (hy : y < ws.length) (e : os[i]? = some o) (hd : o.dist = a) (ha : a = wplace ws y - wplace ws i - 1) : goalSlot os i = placeOf os y := by
  unfold goalSlot
  rw [e, X.place (Nat.le_of_lt hi), X.place (Nat.le_of_lt hy)]
  show wplace ws i + 1 + o.dist = _
  rw [hd, ha]; omega
theorem away_eq {ws : List Str} {i y : Nat} : (if ((y : Nat) : Int) < 0 then 0 else wplace ws ((y : Nat) : Int).toNat - wplace ws i - 1) = wplace ws y - wplace ws i - 1 := by
  rw [if_neg (by omega), Int.toNat_natCast]
/-- a row that stayed ahead of the call -/
theorem Ctx.kept (X : Ctx ws bs gs os ks es) {i : Nat} {o : Ord} (h : ks[i]? = some (some o)) : i < ws.length ∧ Kind o ∧
    (jumpy o = true → ∃ y : Nat, gs[i]? = some (y : Int) ∧ y < ws.length ∧ goalSlot os i = placeOf os y ∧ (o.isLCall = true → y ∈ bs) ∧ (o.isLCall = false → Same bs i y)) ∧ (IsEnd ws bs i → o.isExit = true ∨ o.isJump = true) := by
  have hi : i < ws.length := by rw [← X.kl]; exact (List.getElem?_eq_some_iff.mp h).1
  refine ⟨hi, ?_⟩
  obtain ⟨w, x, e1, e2, G, e3⟩ := X.at_ hi
  rcases X.kok i _ h with ⟨o', h1, h2⟩ | ⟨hne, h2 | ⟨h2, h3⟩ | ⟨h2, o', h3, h4⟩⟩
  · rw [e3] at h1
    cases h1
    cases h2
    have hw : w ∈ wBody ++ wEnd := by
      by_cases he : IsEnd ws bs i
      · exact List.mem_append_right _ (X.S.ends i w e1 he)
      · exact List.mem_append_left _ (X.S.inner i w e1 he)
    have hE : IsEnd ws bs i → w ∈ wEnd := X.S.ends i w e1
    simp only [wBody, wEnd, List.cons_append, List.nil_append, List.mem_cons, List.not_mem_nil, or_false] at hw
    have fin : ∀ o : Ord, Kind o → o.isJump = false → o.isBranch = false → o.isLCall = false → (IsEnd ws bs i → o.isExit = true ∨ o.isJump = true) →
        Kind o ∧ (jumpy o = true → ∃ y : Nat, gs[i]? = some (y : Int) ∧ y < ws.length ∧ goalSlot os i = placeOf os y ∧ (o.isLCall = true → y ∈ bs) ∧ (o.isLCall = false → Same bs i y)) ∧ (IsEnd ws bs i → o.isExit = true ∨ o.isJump = true) :=
      fun o K a b c d => ⟨K, fun hj => by simp [jumpy, a, b, c] at hj, d⟩
    have no : ∀ w' : Str, w = w' → w' ∉ wEnd → IsEnd ws bs i → False := fun w' e hn he => hn (e ▸ hE he)
    have far : ∀ y : Nat, x = (y : Int) → y < ws.length → ∀ o : Ord, os[i]? = some o → Kind o → (∀ z, (o.dist = z ↔ o.dist = z)) → o.dist = wplace ws y - wplace ws i - 1 → (o.isLCall = true → y ∈ bs) → (o.isLCall = false → Same bs i y) → (IsEnd ws bs i → o.isExit = true ∨ o.isJump = true) →
        Kind o ∧ (jumpy o = true → ∃ y : Nat, gs[i]? = some (y : Int) ∧ y < ws.length ∧ goalSlot os i = placeOf os y ∧ (o.isLCall = true → y ∈ bs) ∧ (o.isLCall = false → Same bs i y)) ∧ (IsEnd ws bs i → o.isExit = true ∨ o.isJump = true) :=
      fun y hx hy o ho K _ hd h1 h2 h3 => ⟨K, fun _ => ⟨y, by rw [e2, hx], hy, X.slot hi hy ho hd rfl, h1, h2⟩, h3⟩
    rcases hw with rfl | rfl | rfl | rfl | rfl | rfl | rfl | rfl | rfl
    · rw [mk_mov]; exact fin _ (.mov _ _) jmp_tab.1 br_tab.1 rfl fun he => (no _ rfl (by decide +kernel) he).elim
    · rw [mk_wide]; exact fin _ (.wide _ _) jmp_tab.2.1 br_tab.2.1 rfl fun he => (no _ rfl (by decide +kernel) he).elim
    · obtain ⟨y, rfl, hy, hs⟩ := X.goal hi G (by simp)
      rw [away_eq, mk_branch] at e3 ⊢
      exact far y rfl hy _ e3 (.branch _ _ _) (fun _ => Iff.rfl) rfl (fun q => by cases q) (fun _ => hs) fun he => (no _ rfl (by decide +kernel) he).elim
    · obtain ⟨y, rfl, hy, hs⟩ := X.goal hi G (by simp)
      rw [away_eq, mk_jump] at e3 ⊢
      exact far y rfl hy _ e3 (.jump _) (fun _ => Iff.rfl) rfl (fun q => by cases q) (fun _ => hs) fun he => .inr jmp_tab.2.2.2.1
    · obtain ⟨y, rfl, hy, hs⟩ := X.goal hi G (by simp)
      rw [away_eq, mk_far] at e3 ⊢
      exact far y rfl hy _ e3 (.far _) (fun _ => Iff.rfl) rfl (fun q => by cases q) (fun _ => hs) fun he => .inr jmp_tab.2.2.2.2.1
    · obtain ⟨y, rfl, hy, hs⟩ := X.callGoal G
      rw [away_eq, mk_call] at e3 ⊢
      exact far y rfl hy _ e3 (.call _) (fun _ => Iff.rfl) rfl (fun _ => hs) (fun q => by cases q) fun he => (no _ rfl (by decide +kernel) he).elim
    · rw [mk_exit]; exact fin _ .exit jmp_tab.2.2.2.2.2.2 br_tab.2.2.2.2.2.2 rfl fun he => .inl rfl
    · obtain ⟨y, rfl, hy, hs⟩ := X.goal hi G (by simp)
      rw [away_eq, mk_jump] at e3 ⊢
      exact far y rfl hy _ e3 (.jump _) (fun _ => Iff.rfl) rfl (fun q => by cases q) (fun _ => hs) fun he => .inr jmp_tab.2.2.2.1
    · obtain ⟨y, rfl, hy, hs⟩ := X.goal hi G (by simp)
      rw [away_eq, mk_far] at e3 ⊢
      exact far y rfl hy _ e3 (.far _) (fun _ => Iff.rfl) rfl (fun q => by cases q) (fun _ => hs) fun he => .inr jmp_tab.2.2.2.2.1
  · cases h2
  · cases h3
    refine ⟨.mov _ _, fun hj => ?_, fun he => absurd (X.es_ i hi he) hne⟩
    simp [jumpy, isJump_eq, isBranch_eq, jmp_tab, br_tab, Ord.isLCall] at hj
  · cases h4
    rw [e1] at h2
    cases h2
    obtain ⟨y, rfl, hy, hs⟩ := X.goal hi G (by simp)
    rw [away_eq, mk_branch] at e3
    rw [e3] at h3
    cases h3
    exact ⟨.jump _, fun _ => ⟨y, e2, hy, X.slot hi hy e3 rfl rfl, (fun q => by cases q), fun _ => hs⟩, fun he => absurd (X.es_ i hi he) hne⟩
theorem Ctx.fell (X : Ctx ws bs gs os ks es) {i : Nat} (hi : i < ws.length) (h : (ks[i]?).join = none) : ¬ IsEnd ws bs i := by
  intro he
  have e : ks[i]? = some (ks[i]'(by rw [X.kl]; exact hi)) := List.getElem?_eq_getElem (by rw [X.kl]; exact hi)
  rcases X.kok i _ e with ⟨o', h1, h2⟩ | ⟨hne, _⟩
  · rw [e, h2] at h; cases h
  · exact hne (X.es_ i hi he)
theorem Ctx.safe (X : Ctx ws bs gs os ks es) : WalkSafe ks gs := by
  refine ⟨by rw [X.kl]; exact X.pos, by rw [X.gl, X.kl], fun p hp => ?_⟩
  rw [X.kl] at hp ⊢
  cases h : (ks[p]?).join with
  | none => have := X.fell hp h; show p + 1 < _; rcases Nat.lt_or_eq_of_le (Nat.succ_le_of_lt hp) with q | q; exact q; exact absurd (.inr q) this
  | some o =>
    obtain ⟨_, K, h1, h2⟩ := X.kept (join_some.mp h)
    refine ⟨fun hj => let ⟨y, a, b, _⟩ := h1 hj; ⟨y, b, a⟩, fun a b => ?_⟩
    rcases Nat.lt_or_eq_of_le (Nat.succ_le_of_lt hp) with q | q
    · exact q
    · rcases h2 (.inr q) with z | z
      · rw [a] at z; cases z
      · rw [b] at z; cases z
end
end Mine
namespace Mine
noncomputable abbrev tgtOf (gs : List Int) (i : Nat) : Nat := (gs.getD i 0).toNat
theorem tgtOf_eq {gs : List Int} {i y : Nat} (h : gs[i]? = some (y : Int)) : tgtOf gs i = y := by
  unfold tgtOf; rw [List.getD_eq_getElem?_getD, h]; simp
/-- where a new order's goal lies -/
noncomputable def aimOf (c : List (Option Ord)) (gs : List Int) (n : Nat) (q : Nat) : Nat := (keptL c (fun i _ => rk c (tgtOf gs i)) n).getD q 0
theorem aim_at {c : List (Option Ord)} {gs : List Int} {n p : Nat} {o : Ord} (h : c[p]? = some (some o)) (hp : p < n) : aimOf c gs n (rk c p) = rk c (tgtOf gs p) := by
  unfold aimOf; rw [List.getD_eq_getElem?_getD, keptL_get h hp]; rfl
theorem goalL_get {os : List Ord} {aim : Nat → Nat} {i : Nat} : ∀ {n : Nat}, i < n → (goalL os aim n)[i]? = some (if ((os[i]?).map jumpy).getD false then (aim i : Int) else -1)
  | n + 1, h => by
    rcases Nat.lt_or_eq_of_le (Nat.le_of_lt_succ h) with q | q
    · rw [goalL, List.getElem?_append_left (by rw [goalL_len]; exact q), goalL_get q]
    · subst q
      rw [goalL, List.getElem?_append_right (by rw [goalL_len]; exact Nat.le_refl _), goalL_len, Nat.sub_self]; rfl
theorem filterMap_set {α β : Type} {f : α → Option β} : ∀ {l : List α} {i : Nat} {x y : α}, l[i]? = some y → f y = f x → (l.set i x).filterMap f = l.filterMap f
  | a :: r, 0, x, y, h, e => by
    simp only [List.getElem?_cons_zero, Option.some.injEq] at h
    subst h
    simp [List.filterMap_cons, e]
  | a :: r, i + 1, x, y, h, e => by
    simp only [List.getElem?_cons_succ] at h
    rw [List.set_cons_succ, List.filterMap_cons, List.filterMap_cons, filterMap_set h e]
/-- what the rows show, in their turn -/
noncomputable def shows (c : List (Option Ord)) : List Dat := c.filterMap fun r => r.bind shownD
theorem shownD_jump {o : Ord} (h : o.isJump = true) : shownD o = none := by unfold shownD; rw [if_pos h]
theorem shows_rem {tgt : Nat → Nat} {a c : List (Option Ord)} (h : Rem tgt a c) : shows c = shows a := by
  induction h with
  | refl => rfl
  | step hR hI ih =>
    obtain ⟨o, h0, hj, _⟩ := hI
    rw [← ih]
    exact filterMap_set h0 (by show shownD o = none; exact shownD_jump hj)
theorem shows_kept {c : List (Option Ord)} {f : Nat → Ord → Ord} (hf : ∀ i o, c[i]? = some (some o) → shownD (f i o) = shownD o) : ∀ n, shows ((keptL c f n).map some) = shows (c.take n)
  | 0 => by simp [keptL, shows]
  | n + 1 => by
    have ih := shows_kept hf n
    cases h : (c[n]?).join with
    | none =>
      rw [keptL_none h, ih]
      cases hx : c[n]? with
      | none => rw [List.take_of_length_le (by have := List.getElem?_eq_none_iff.mp hx; omega), List.take_of_length_le (by have := List.getElem?_eq_none_iff.mp hx; omega)]
      | some x =>
        rw [hx] at h
        have hx' : x = none := by simpa using h
        rw [List.take_add_one, hx, hx']
        simp [shows]
    | some o =>
      have h := join_some.mp h
      rw [keptL_some h, List.take_add_one, h, List.map_append]
      unfold shows at ih ⊢
      rw [List.filterMap_append, ih, List.filterMap_append]
      have e : List.filterMap (fun r : Option Ord => r.bind shownD) [some (f n o)] = List.filterMap (fun r : Option Ord => r.bind shownD) [some o] := by
        rw [List.filterMap_cons, List.filterMap_cons]
        simp only [Option.bind_some]
        rw [hf n o h]
      exact congrArg _ e
section
variable {ws : List Str} {bs : List Nat} {gs : List Int} {os : List Ord} {ks c : List (Option Ord)} {es : List Int}
theorem Ctx.hg (X : Ctx ws bs gs os ks es) : ∀ (i : Nat) (o : Ord), ks[i]? = some (some o) → jumpy o = true → tgtOf gs i < os.length ∧ goalSlot os i = placeOf os (tgtOf gs i) := by
  intro i o h hj
  obtain ⟨_, _, h1, _⟩ := X.kept h
  obtain ⟨y, e, hy, hs, _⟩ := h1 hj
  rw [tgtOf_eq e, X.ol]
  exact ⟨hy, hs⟩
theorem Ctx.last (X : Ctx ws bs gs os ks es) (hR : Rem (tgtOf gs) ks c) : ∃ o, c[ws.length - 1]? = some (some o) ∧ ks[ws.length - 1]? = some (some o) := by
  have hp := X.pos
  cases h : (ks[ws.length - 1]?).join with
  | none => exact absurd (.inr (by omega)) (X.fell (i := ws.length - 1) (by omega) h)
  | some o =>
    have h := join_some.mp h
    refine ⟨o, hR.keep h fun hj => ?_, h⟩
    obtain ⟨_, _, h1, _⟩ := X.kept h
    obtain ⟨y, e, hy, _⟩ := h1 (by simp [jumpy, hj])
    rw [tgtOf_eq e]; omega
theorem Ctx.next (X : Ctx ws bs gs os ks es) (hR : Rem (tgtOf gs) ks c) {y : Nat} (hy : y < ws.length) : ∃ j o', nextK c y = ((j : Nat) : Int) ∧ y ≤ j ∧ j < ws.length ∧ c[j]? = some (some o') ∧ rk c y = rk c j := by
  obtain ⟨o, h, _⟩ := X.last hR
  obtain ⟨j, o', e, h1, h2, h3, h4⟩ := nextK_le (i := y) (by omega) h
  exact ⟨j, o', e, h1, by omega, h3, rk_same h1 h4⟩
theorem Ctx.hn (X : Ctx ws bs gs os ks es) (hR : Rem (tgtOf gs) ks c) : ∀ (i : Nat) (o : Ord), c[i]? = some (some o) → jumpy o = true → 0 ≤ nextK c (tgtOf gs i) := by
  intro i o h hj
  have := (X.hg i o (hR.some_of.2 i o h) hj).1
  rw [X.ol] at this
  obtain ⟨j, _, e, _⟩ := X.next hR this
  rw [e]; omega
noncomputable abbrev newL (c : List (Option Ord)) (gs : List Int) (n : Nat) : List Ord := laidL c (tgtOf gs) n
theorem newL_eq {n : Nat} : newL c gs n = keptL c (newOrd c (tgtOf gs)) n := rfl
theorem newL_len {n : Nat} : (newL c gs n).length = rk c n := keptL_len n
theorem new_place {n p : Nat} (hp : p ≤ n) : placeOf (newL c gs n) (rk c p) = slotK c p := place_rank (fun _ _ _ => new_slots) hp
/-- a new order, seen from the old one -/
theorem Ctx.new_at (X : Ctx ws bs gs os ks es) (hR : Rem (tgtOf gs) ks c) {q : Nat} {x : Ord} (h : (newL c gs ws.length)[q]? = some x) : ∃ p o, p < ws.length ∧ c[p]? = some (some o) ∧ ks[p]? = some (some o) ∧ Kind o ∧ q = rk c p ∧ x = newOrd c (tgtOf gs) p o ∧
    (jumpy o = true → ∃ j o', gs[p]? = some (tgtOf gs p : Int) ∧ tgtOf gs p < ws.length ∧ nextK c (tgtOf gs p) = ((j : Nat) : Int) ∧ j < ws.length ∧ c[j]? = some (some o') ∧ rk c (tgtOf gs p) = rk c j ∧ aimOf c gs ws.length q = rk c j ∧ rk c j < (newL c gs ws.length).length ∧ x.dist = slotK c j - slotK c p - 1) := by
  obtain ⟨p, o, hp, hc, hq, hx⟩ := keptL_of h
  have hk := hR.some_of.2 p o hc
  obtain ⟨_, K, h1, _⟩ := X.kept hk
  refine ⟨p, o, hp, hc, hk, K, hq, hx, fun hj => ?_⟩
  obtain ⟨y, e, hy, _⟩ := h1 hj
  have ht := tgtOf_eq e
  obtain ⟨j, o', n1, n2, n3, n4, n5⟩ := X.next hR hy
  refine ⟨j, o', by rw [ht]; exact e, by rw [ht]; exact hy, by rw [ht]; exact n1, n3, n4, by rw [ht]; exact n5, by rw [hq, aim_at hc hp, ht, n5], by rw [newL_len]; exact rk_lt n4 n3, ?_⟩
  rw [hx]
  unfold newOrd
  rw [if_pos hj, K.dist hj, ht, n1, Int.toNat_natCast]
theorem Ctx.new_goal (X : Ctx ws bs gs os ks es) (hR : Rem (tgtOf gs) ks c) : ∀ (q : Nat) (x : Ord), (newL c gs ws.length)[q]? = some x → jumpy x = true → aimOf c gs ws.length q < (newL c gs ws.length).length ∧ goalSlot (newL c gs ws.length) q = placeOf (newL c gs ws.length) (aimOf c gs ws.length q) := by
  intro q x h hj
  obtain ⟨p, o, hp, hc, hk, K, hq, hx, hd⟩ := X.new_at hR h
  rw [hx, new_jumpy] at hj
  obtain ⟨j, o', _, _, _, j1, _, _, j2, j3, j4⟩ := hd hj
  refine ⟨by rw [j2]; exact j3, ?_⟩
  unfold goalSlot
  rw [h, j2, hq, new_place (Nat.le_of_lt hp), new_place (Nat.le_of_lt j1)]
  show slotK c p + 1 + x.dist = _
  rw [j4]; omega
theorem Ctx.new_noidle (X : Ctx ws bs gs os ks es) (hR : Rem (tgtOf gs) ks c) (hF : ∀ i, ¬ IdleAt (tgtOf gs) c i) {q : Nat} {x : Ord} (h : (newL c gs ws.length)[q]? = some x) (hj : x.isJump = true) : x.dist ≠ 0 := by
  intro h0
  obtain ⟨p, o, hp, hc, hk, K, hq, hx, hd⟩ := X.new_at hR h
  rw [hx, new_isJump] at hj
  obtain ⟨j, o', _, _, n1, j1, n4, _, j2, j3, j4⟩ := hd (by simp [jumpy, hj])
  have hs1 : o.slots = 1 := by
    cases K <;> simp [isJump_eq, jmp_tab] at hj <;> rfl
  have e1 : slotK c (p + 1) = slotK c p + 1 := by rw [slotK_succ hc]; show _ + o.slots = _; rw [hs1]
  have e2 : placeOf (newL c gs ws.length) (rk c j) = placeOf (newL c gs ws.length) (rk c (p + 1)) := by rw [new_place (Nat.le_of_lt j1), new_place hp, e1]; omega
  have e3 := placeOf_inj (by rw [newL_len]; exact rk_mono (Nat.le_of_lt j1)) (by rw [newL_len]; exact rk_mono hp) e2
  have hpj : p + 1 ≤ j := by
    rcases Nat.lt_or_ge p j with z | z
    · exact z
    · have := rk_mono (c := c) z
      rw [rk_some hc] at e3; omega
  exact hF p ⟨o, hc, hj, by rw [n1, nextK_of hpj n4 (rk_gap e3.symm)]⟩
theorem Ctx.new_small (X : Ctx ws bs gs os ks es) : (newL c gs ws.length).length ≤ 21 := by rw [newL_len]; exact Nat.le_trans (rk_le _) X.small
theorem Ctx.zero (X : Ctx ws bs gs os ks es) : 0 ∈ bs := by
  have := X.S.zero X.b0
  cases bs with
  | nil => cases this
  | cons a r => cases this; exact .head _
theorem Ctx.new_call (X : Ctx ws bs gs os ks es) (hR : Rem (tgtOf gs) ks c) : ∀ i j, i < (newL c gs ws.length).length → ((newL c gs ws.length)[i]?.map Ord.isLCall) = some true → j < (newL c gs ws.length).length → goalSlot (newL c gs ws.length) i = placeOf (newL c gs ws.length) j → j ∈ bs.map (rk c) := by
  intro i j hi hl hj e
  obtain ⟨x, hx, hl⟩ := Option.map_eq_some_iff.mp hl
  have hjx : jumpy x = true := by simp [jumpy, hl]
  obtain ⟨h1, h2⟩ := X.new_goal hR i x hx hjx
  rw [h2] at e
  have := placeOf_inj (Nat.le_of_lt h1) (Nat.le_of_lt hj) e
  obtain ⟨p, o, hp, hc, hk, K, hq, hxo, hd⟩ := X.new_at hR hx
  rw [hxo, new_isLCall] at hl
  obtain ⟨_, _, g1, _⟩ := X.kept hk
  obtain ⟨y, e1, _, _, e2, _⟩ := g1 (by simp [jumpy, hl])
  rw [← this, hq, aim_at hc hp, tgtOf_eq e1]
  exact List.mem_map.mpr ⟨y, e2 hl, rfl⟩
theorem Ctx.orig (X : Ctx ws bs gs os ks es) : Ctx ws bs gs os (os.map some) es := by
  refine ⟨X.S, X.b0, X.b3, X.gl, X.gok, X.ol, X.oeq, by rw [List.length_map, X.ol], fun i k e => ?_, X.es_⟩
  rw [List.getElem?_map, Option.map_eq_some_iff] at e
  obtain ⟨o, ho, rfl⟩ := e
  exact .inl ⟨o, ho, rfl⟩
theorem Ctx.orig_call (X : Ctx ws bs gs os ks es) : ∀ i j, i < os.length → (os[i]?.map Ord.isLCall) = some true → j < os.length → goalSlot os i = placeOf os j → j ∈ bs := by
  intro i j hi hl hj e
  obtain ⟨x, hx, hl⟩ := Option.map_eq_some_iff.mp hl
  obtain ⟨_, _, h1, _⟩ := X.orig.kept (i := i) (o := x) (by rw [List.getElem?_map, hx]; rfl)
  obtain ⟨y, e1, hy, e2, e3, _⟩ := h1 (by simp [jumpy, hl])
  rw [e2] at e
  rw [← placeOf_inj (by rw [X.ol]; exact Nat.le_of_lt hy) (Nat.le_of_lt hj) e]
  exact e3 hl
theorem Ctx.new_shows (X : Ctx ws bs gs os ks es) (hR : Rem (tgtOf gs) ks c) : shows ((newL c gs ws.length).map some) = shows ks := by
  rw [newL_eq, shows_kept (fun i o h => shown_new (X.kept (hR.some_of.2 i o h)).2.1), List.take_of_length_le (by rw [← hR.some_of.1, X.kl]; exact Nat.le_refl _), shows_rem hR]
theorem Ctx.new_safe (X : Ctx ws bs gs os ks es) (hR : Rem (tgtOf gs) ks c) : WalkSafe ((newL c gs ws.length).map some) (goalL (newL c gs ws.length) (aimOf c gs ws.length) (newL c gs ws.length).length) := by
  obtain ⟨ol, hl, _⟩ := X.last hR
  have hp0 := X.pos
  refine ⟨?_, by rw [goalL_len, List.length_map], fun q hq => ?_⟩
  · rw [List.length_map, newL_len]
    have := rk_lt hl (q := ws.length) (by omega)
    omega
  · rw [List.length_map] at hq ⊢
    have e : (newL c gs ws.length)[q]? = some (newL c gs ws.length)[q] := List.getElem?_eq_getElem hq
    generalize (newL c gs ws.length)[q] = x at e
    have e' : ((newL c gs ws.length).map some)[q]? = some (some x) := by rw [List.getElem?_map, e]; rfl
    rw [e']
    obtain ⟨p, o, hp, hc, hk, K, hqp, hx, hd⟩ := X.new_at hR e
    refine ⟨fun hj => ⟨aimOf c gs ws.length q, (X.new_goal hR q x e hj).1, ?_⟩, fun h1 h2 => ?_⟩
    · rw [goalL_get hq, e]
      simp [hj]
    · rw [hx, new_isExit] at h1
      rw [hx, new_isJump] at h2
      have hpn : p ≠ ws.length - 1 := fun z => by
        rcases (X.kept hk).2.2.2 (.inr (by omega)) with y | y
        · rw [h1] at y; cases y
        · rw [h2] at y; cases y
      rw [hqp, newL_len, ← rk_some hc]
      exact Nat.lt_of_le_of_lt (rk_mono (c := c) (show p + 1 ≤ ws.length - 1 by omega)) (rk_lt hl (by omega))
end
end Mine
namespace Mine
/-- the state of the new walk that fits a state of the old one -/
noncomputable def phi (c : List (Option Ord)) (st : WSt) : WSt := ⟨rk c st.at_, st.seen, st.back.map (rk c)⟩
noncomputable def Inv (n : Nat) (st : WSt) : Prop := st.at_ < n ∧ ∀ b ∈ st.back, b < n
section
variable {os : List (Option Ord)} {gs ch : List Int} {st st' : WSt}
theorem takes_jump {seen : List Dat} {o : Ord} (h : o.isJump = true) : takes ch seen o = true := by unfold takes; rw [h]; rfl
theorem step_inv (WS : WalkSafe os gs) (I : Inv os.length st) : Inv os.length (stepW os gs ch st).2 := by
  obtain ⟨h0, hl, hw⟩ := WS
  obtain ⟨ha, hb⟩ := I
  by_cases hov : 12 < st.seen.length
  · rw [step_over hov]; exact ⟨ha, hb⟩
  have hW := hw st.at_ ha
  rcases hx : os[st.at_]? with _ | _ | o
  · have := List.getElem?_eq_none_iff.mp hx; omega
  · rw [hx] at hW
    rw [step_none hov hx]; exact ⟨hW, hb⟩
  · rw [hx] at hW
    have hW' : (jumpy o = true → ∃ x : Nat, x < os.length ∧ gs[st.at_]? = some (x : Int)) ∧ (o.isExit = false → o.isJump = false → st.at_ + 1 < os.length) := hW
    by_cases hex : o.isExit = true
    · rcases List.eq_nil_or_concat st.back with hb0 | ⟨b0, p, hbp⟩
      · rw [step_exit0 hov hx hex hb0]; exact ⟨ha, hb⟩
      · rw [List.concat_eq_append] at hbp
        rw [step_exit hov hx hex hbp]
        exact ⟨hb p (by rw [hbp]; simp), fun b hm => hb b (by rw [hbp]; exact List.mem_append_left _ hm)⟩
    have hex : o.isExit = false := by simpa using hex
    by_cases hlc : o.isLCall = true
    · obtain ⟨y, hy, hg⟩ := hW'.1 (by simp [jumpy, hlc])
      rw [step_call hov hx hex hlc hg]
      refine ⟨hy, fun b hm => ?_⟩
      rcases List.mem_append.mp hm with hm | hm
      · exact hb b hm
      · rw [List.mem_singleton.mp hm]; exact hW'.2 hex (lcall_facts hlc).2
    have hlc : o.isLCall = false := by simpa using hlc
    cases ht : takes ch (showTo st.seen o) o with
    | true =>
      have hj : jumpy o = true := by unfold takes at ht; unfold jumpy; cases q : o.isJump <;> simp_all
      obtain ⟨y, hy, hg⟩ := hW'.1 hj
      rw [step_goto hov hx hex hlc ht hg]
      exact ⟨hy, hb⟩
    | false =>
      rw [step_next hov hx hex hlc ht]
      refine ⟨hW'.2 hex ?_, hb⟩
      cases q : o.isJump with
      | false => rfl
      | true => rw [takes_jump q] at ht; cases ht
theorem iter_inv (WS : WalkSafe os gs) : ∀ k, Inv os.length (iterW os gs ch k).2
  | 0 => ⟨WS.1, fun _ h => nomatch h⟩
  | k + 1 => by
    rw [iterW]
    split
    · exact step_inv WS (iter_inv WS k)
    · exact iter_inv WS k
theorem iter_true {k : Nat} (h : (iterW os gs ch k).1 = true) : iterW os gs ch (k + 1) = stepW os gs ch (iterW os gs ch k).2 := by rw [iterW, if_pos h]
theorem iter_false {k : Nat} (h : (iterW os gs ch k).1 = false) : iterW os gs ch (k + 1) = iterW os gs ch k := by rw [iterW, if_neg (by simp [h])]
theorem showTo_pre {seen : List Dat} {o : Ord} : ∃ t, showTo seen o = seen ++ t := by
  unfold showTo; split
  · exact ⟨[], by simp⟩
  · exact ⟨_, rfl⟩
theorem step_seen : ∃ t, (stepW os gs ch st).2.seen = st.seen ++ t := by
  by_cases hov : 12 < st.seen.length
  · rw [step_over hov]; exact ⟨[], by simp⟩
  rcases hx : os[st.at_]? with _ | _ | o
  · unfold stepW; rw [if_neg hov, hx]; exact ⟨[], by simp⟩
  · rw [step_none hov hx]; exact ⟨[], by simp⟩
  · rw [step_some hov hx]
    obtain ⟨t, ht⟩ := showTo_pre (seen := st.seen) (o := o)
    refine ⟨t, ?_⟩
    split
    · split <;> exact ht
    split
    · exact ht
    split
    · exact ht
    · exact ht
theorem iter_seen {a b : Nat} (h : a ≤ b) : ∃ t, (iterW os gs ch b).2.seen = (iterW os gs ch a).2.seen ++ t := by
  induction h with
  | refl => exact ⟨[], by simp⟩
  | @step m _ ih =>
    obtain ⟨t, ht⟩ := ih
    cases hf : (iterW os gs ch m).1 with
    | true =>
      obtain ⟨u, hu⟩ := step_seen (os := os) (gs := gs) (ch := ch) (st := (iterW os gs ch m).2)
      exact ⟨t ++ u, by rw [Nat.succ_eq_add_one, iter_true hf, hu, ht, List.append_assoc]⟩
    | false => exact ⟨t, by rw [Nat.succ_eq_add_one, iter_false hf, ht]⟩
theorem iter_same {a b : Nat} (h : iterW os gs ch a = iterW os gs ch b) : ∀ t, iterW os gs ch (a + t) = iterW os gs ch (b + t)
  | 0 => h
  | t + 1 => by rw [← Nat.add_assoc, ← Nat.add_assoc, iterW, iterW, iter_same h t]
end
section
variable {ws : List Str} {bs : List Nat} {gs ch : List Int} {os : List Ord} {ks c : List (Option Ord)} {es : List Int} {st : WSt}
theorem Kind.jump_facts {o : Ord} (K : Kind o) (h : o.isJump = true) : o.isExit = false ∧ o.isLCall = false := by
  cases K <;> simp [isJump_eq, jmp_tab] at h <;> exact ⟨rfl, rfl⟩
/-- a row that is gone from the new list -/
theorem Ctx.sim_gone (X : Ctx ws bs gs os ks es) (hR : Rem (tgtOf gs) ks c) (hov : ¬ 12 < st.seen.length) (I : Inv ws.length st) (hc : (c[st.at_]?).join = none) : ∃ p, stepW ks gs ch st = (true, ⟨p, st.seen, st.back⟩) ∧ st.at_ < p ∧ rk c st.at_ = rk c p := by
  rcases hx : ks[st.at_]? with _ | _ | o
  · have := List.getElem?_eq_none_iff.mp hx; have := X.kl; have := I.1; omega
  · exact ⟨st.at_ + 1, step_none hov hx, by omega, (rk_none hc).symm⟩
  · obtain ⟨hj, h1, h2⟩ := hR.gone _ _ hx hc
    obtain ⟨_, K, g1, _⟩ := X.kept hx
    obtain ⟨y, e, _⟩ := g1 (by simp [jumpy, hj])
    obtain ⟨hex, hlc⟩ := K.jump_facts hj
    rw [tgtOf_eq e] at h1 h2
    refine ⟨y, ?_, h1, rk_same (Nat.le_of_lt h1) h2⟩
    rw [step_goto hov hx hex hlc (takes_jump hj) e]
    unfold showTo; rw [shownD_jump hj]
/-- a row that both walks meet -/
theorem Ctx.sim_step (X : Ctx ws bs gs os ks es) (hR : Rem (tgtOf gs) ks c) (hov : ¬ 12 < st.seen.length) {o : Ord} (hc : c[st.at_]? = some (some o)) :
    stepW ((newL c gs ws.length).map some) (goalL (newL c gs ws.length) (aimOf c gs ws.length) (newL c gs ws.length).length) ch (phi c st) = ((stepW ks gs ch st).1, phi c (stepW ks gs ch st).2) := by
  have hx := hR.some_of.2 _ _ hc
  obtain ⟨hp, K, g1, _⟩ := X.kept hx
  have hq : (newL c gs ws.length)[rk c st.at_]? = some (newOrd c (tgtOf gs) st.at_ o) := keptL_get hc hp
  have hn : ((newL c gs ws.length).map some)[(phi c st).at_]? = some (some (newOrd c (tgtOf gs) st.at_ o)) := by
    show ((newL c gs ws.length).map some)[rk c st.at_]? = _
    rw [List.getElem?_map, hq]; rfl
  have hov' : ¬ 12 < (phi c st).seen.length := hov
  have hsh : showTo (phi c st).seen (newOrd c (tgtOf gs) st.at_ o) = showTo st.seen o := by
    unfold showTo; rw [shown_new K]; rfl
  have htk : takes ch (showTo (phi c st).seen (newOrd c (tgtOf gs) st.at_ o)) (newOrd c (tgtOf gs) st.at_ o) = takes ch (showTo st.seen o) o := by
    rw [hsh]; unfold takes; rw [new_isJump, new_isBranch]
  have hgoal : jumpy o = true → ∃ y : Nat, gs[st.at_]? = some (y : Int) ∧ (goalL (newL c gs ws.length) (aimOf c gs ws.length) (newL c gs ws.length).length)[(phi c st).at_]? = some ((rk c y : Nat) : Int) := fun hj => by
    obtain ⟨y, e, _⟩ := g1 hj
    refine ⟨y, e, ?_⟩
    show (goalL _ _ _)[rk c st.at_]? = _
    rw [goalL_get (List.getElem?_eq_some_iff.mp hq).1, hq, aim_at hc hp, tgtOf_eq e]
    simp [new_jumpy, hj]
  by_cases hex : o.isExit = true
  · rcases List.eq_nil_or_concat st.back with hb0 | ⟨b0, p, hbp⟩
    · rw [step_exit0 hov hx hex hb0, step_exit0 hov' hn (by rw [new_isExit]; exact hex) (by show st.back.map (rk c) = []; rw [hb0]; rfl), hsh]; rfl
    · rw [List.concat_eq_append] at hbp
      rw [step_exit hov hx hex hbp, step_exit (b0 := b0.map (rk c)) (p := rk c p) hov' hn (by rw [new_isExit]; exact hex) (by show st.back.map (rk c) = _; rw [hbp]; simp), hsh]; rfl
  have hex : o.isExit = false := by simpa using hex
  have hex' : (newOrd c (tgtOf gs) st.at_ o).isExit = false := by rw [new_isExit]; exact hex
  by_cases hlc : o.isLCall = true
  · obtain ⟨y, h1, h2⟩ := hgoal (by simp [jumpy, hlc])
    rw [step_call hov hx hex hlc h1, step_call hov' hn hex' (by rw [new_isLCall]; exact hlc) h2, hsh]
    simp [phi, rk_some hc]
  have hlc : o.isLCall = false := by simpa using hlc
  have hlc' : (newOrd c (tgtOf gs) st.at_ o).isLCall = false := by rw [new_isLCall]; exact hlc
  cases ht : takes ch (showTo st.seen o) o with
  | true =>
    have hj : jumpy o = true := by unfold takes at ht; unfold jumpy; cases q : o.isJump <;> simp_all
    obtain ⟨y, h1, h2⟩ := hgoal hj
    rw [step_goto hov hx hex hlc ht h1, step_goto hov' hn hex' hlc' (by rw [htk]; exact ht) h2, hsh]; rfl
  | false =>
    rw [step_next hov hx hex hlc ht, step_next hov' hn hex' hlc' (by rw [htk]; exact ht), hsh]
    simp [phi, rk_some hc]
noncomputable abbrev newR (c : List (Option Ord)) (gs : List Int) (n : Nat) : List (Option Ord) := (newL c gs n).map some
noncomputable abbrev newG (c : List (Option Ord)) (gs : List Int) (n : Nat) : List Int := goalL (newL c gs n) (aimOf c gs n) (newL c gs n).length
theorem Ctx.sim_on (X : Ctx ws bs gs os ks es) (hR : Rem (tgtOf gs) ks c) {j : Nat} : ∀ (d k : Nat), ws.length - (iterW ks gs ch k).2.at_ ≤ d → (iterW ks gs ch k).1 = true → iterW (newR c gs ws.length) (newG c gs ws.length) ch j = (true, phi c (iterW ks gs ch k).2) → j ≤ k →
    ∃ k', j + 1 ≤ k' ∧ iterW (newR c gs ws.length) (newG c gs ws.length) ch (j + 1) = ((iterW ks gs ch k').1, phi c (iterW ks gs ch k').2) := by
  intro d
  induction d with
  | zero =>
    intro k hd
    have I := (iter_inv (ch := ch) X.safe k).1
    rw [X.kl] at I
    omega
  | succ d ih =>
    intro k hd hf hj hjk
    have I := iter_inv (ch := ch) X.safe k
    rw [X.kl] at I
    have hN : iterW (newR c gs ws.length) (newG c gs ws.length) ch (j + 1) = stepW (newR c gs ws.length) (newG c gs ws.length) ch (phi c (iterW ks gs ch k).2) := by rw [iter_true (by rw [hj]), hj]
    by_cases hov : 12 < (iterW ks gs ch k).2.seen.length
    · refine ⟨k + 1, by omega, ?_⟩
      rw [hN, iter_true hf, step_over hov, step_over (show 12 < (phi c (iterW ks gs ch k).2).seen.length from hov)]
    · cases hc : (c[(iterW ks gs ch k).2.at_]?).join with
      | some o =>
        refine ⟨k + 1, by omega, ?_⟩
        rw [hN, iter_true hf, X.sim_step hR hov (join_some.mp hc)]
      | none =>
        obtain ⟨p, h1, h2, h3⟩ := X.sim_gone (ch := ch) hR hov I hc
        have e := (iter_true hf).trans h1
        refine ih (k + 1) (by rw [e]; show ws.length - p ≤ d; omega) (by rw [e]) ?_ (by omega)
        rw [hj, e]
        unfold phi
        rw [h3]
theorem Ctx.sim (X : Ctx ws bs gs os ks es) (hR : Rem (tgtOf gs) ks c) : ∀ j, ∃ k, j ≤ k ∧ iterW (newR c gs ws.length) (newG c gs ws.length) ch j = ((iterW ks gs ch k).1, phi c (iterW ks gs ch k).2)
  | 0 => ⟨0, Nat.le_refl _, rfl⟩
  | j + 1 => by
    obtain ⟨k, hk, e⟩ := X.sim hR j
    cases hf : (iterW ks gs ch k).1 with
    | false => exact ⟨k + 1, by omega, by rw [iter_false hf, iter_false (by rw [e, hf]), e]⟩
    | true => exact X.sim_on hR _ k (Nat.le_refl _) hf (by rw [e, hf]) hk
/-- a turn that shows nothing stays in its part -/
theorem Ctx.silent (X : Ctx ws bs gs os ks es) (I : Inv ws.length st) {st' : WSt} (h : stepW ks gs ch st = (true, st')) (hs : st'.seen.length = st.seen.length) : ∃ p, st' = ⟨p, st.seen, st.back⟩ ∧ p < ws.length ∧ Same bs st.at_ p := by
  have hov : ¬ 12 < st.seen.length := fun hov => by rw [step_over hov] at h; cases h
  have WS := X.safe.2.2 st.at_ (by rw [X.kl]; exact I.1)
  rcases hx : ks[st.at_]? with _ | _ | o
  · have := List.getElem?_eq_none_iff.mp hx; have := X.kl; have := I.1; omega
  · rw [hx] at WS
    rw [step_none hov hx] at h
    cases h
    rw [X.kl] at WS
    refine ⟨st.at_ + 1, rfl, WS, fun b hb => ?_⟩
    have hne : ¬ IsEnd ws bs st.at_ := X.fell I.1 (by rw [hx]; rfl)
    have : b ≠ st.at_ + 1 := fun e => hne (.inl (e ▸ hb))
    omega
  · have hj : o.isJump = true := by
      cases q : o.isJump with
      | true => rfl
      | false =>
        have hsd : ∃ d, shownD o = some d := by
          unfold shownD; rw [if_neg (by simp [q])]; split
          · exact ⟨_, rfl⟩
          · exact ⟨_, rfl⟩
        obtain ⟨d, hd⟩ := hsd
        have hst : st'.seen = showTo st.seen o := by
          rw [step_some hov hx] at h
          split at h
          · split at h
            · cases h
            · cases h; rfl
          split at h
          · cases h; rfl
          split at h
          · cases h; rfl
          · cases h; rfl
        rw [hst] at hs
        unfold showTo at hs
        rw [hd] at hs
        simp at hs
    obtain ⟨_, K, g1, _⟩ := X.kept hx
    obtain ⟨y, e, hy, _, _, hsame⟩ := g1 (by simp [jumpy, hj])
    obtain ⟨hex, hlc⟩ := K.jump_facts hj
    rw [step_goto hov hx hex hlc (takes_jump hj) e] at h
    cases h
    refine ⟨y, ?_, hy, hsame hlc⟩
    unfold showTo; rw [shownD_jump hj]
theorem nodup_const {l : List Nat} (nd : l.Nodup) (h : ∀ a ∈ l, ∀ b ∈ l, a = b) : l.length ≤ 1 := by
  cases l with
  | nil => exact Nat.zero_le _
  | cons a r =>
    cases r with
    | nil => exact Nat.le_refl _
    | cons b r =>
      have := h a (.head _) b (.tail _ (.head _))
      subst this
      exact absurd (List.Mem.head r) (List.nodup_cons.mp nd).1
/-- twenty turns in one part: a place comes twice -/
theorem Ctx.twice (X : Ctx ws bs gs os ks es) (p : Nat → Nat) (hp : ∀ u, u < 20 → p u < ws.length ∧ Same bs (p 0) (p u)) : ∃ u v, u < v ∧ v < 20 ∧ p u = p v := by
  refine Classical.byContradiction fun hno => ?_
  have nd : ((List.range 20).map p).Nodup := by
    rw [List.nodup_iff_pairwise_ne, List.pairwise_map]
    refine List.Pairwise.imp_of_mem ?_ (List.pairwise_lt_range (n := 20))
    intro a b ha hb hab e
    rw [List.mem_range] at ha hb
    exact hno ⟨a, b, hab, hb, e⟩
  have hmem : ∀ x ∈ (List.range 20).map p, x < ws.length ∧ Same bs (p 0) x := fun x hx => by
    obtain ⟨u, hu, rfl⟩ := List.mem_map.mp hx
    exact hp u (List.mem_range.mp hu)
  generalize hP : (List.range 20).map p = P at *
  have hPl : P.length = 20 := by rw [← hP]; simp
  have h1 : (P.filter fun x => decide (x ∈ bs)).length ≤ 1 := by
    refine nodup_const (nd.filter _) fun a ha b hb => ?_
    rw [List.mem_filter] at ha hb
    have ha2 : a ∈ bs := of_decide_eq_true ha.2
    have hb2 : b ∈ bs := of_decide_eq_true hb.2
    have sa := (hmem a ha.1).2
    have sb := (hmem b hb.1).2
    have q1 := sa a ha2
    have q2 := sb b hb2
    have q3 := sb a ha2
    have q4 := sa b hb2
    omega
  have h2 : P.length = (P.filter fun x => decide (x ∈ bs)).length + (P.filter fun x => !decide (x ∈ bs)).length := by
    clear hP hmem nd hPl h1
    induction P with
    | nil => rfl
    | cons a r ih =>
      rw [List.filter_cons, List.filter_cons]
      cases decide (a ∈ bs) <;> simp <;> omega
  have nb : bs.Nodup := by
    rw [List.nodup_iff_pairwise_ne]
    exact X.S.nd.imp fun h => Nat.ne_of_lt h
  have h3 := nodup_sub (l := (P.filter fun x => !decide (x ∈ bs)) ++ bs) (B := List.range ws.length) (by
    rw [List.nodup_append]
    refine ⟨nd.filter _, nb, fun a ha b hb e => ?_⟩
    rw [List.mem_filter] at ha
    have := ha.2
    rw [e, decide_eq_true hb] at this
    cases this) (fun b hb => by
    rw [List.mem_range]
    rcases List.mem_append.mp hb with q | q
    · exact (hmem b (List.mem_filter.mp q).1).1
    · exact X.S.lt b q)
  rw [List.length_append, List.length_range] at h3
  have := X.S.len
  have := X.b3
  omega
/-- a long silence lasts -/
theorem Ctx.hang (X : Ctx ws bs gs os ks es) {t : Nat} (hf : ∀ u, u < 20 → (iterW ks gs ch (t + u)).1 = true) (hs : ∀ u, u < 20 → (iterW ks gs ch (t + u)).2.seen.length = (iterW ks gs ch t).2.seen.length) :
    ∀ k, t + 19 ≤ k → (iterW ks gs ch k).2.seen = (iterW ks gs ch t).2.seen := by
  have hst : ∀ u, u < 20 → iterW ks gs ch (t + u) = (true, ⟨(iterW ks gs ch (t + u)).2.at_, (iterW ks gs ch t).2.seen, (iterW ks gs ch t).2.back⟩) ∧ (iterW ks gs ch (t + u)).2.at_ < ws.length ∧ Same bs (iterW ks gs ch t).2.at_ (iterW ks gs ch (t + u)).2.at_ := by
    intro u
    induction u with
    | zero =>
      intro _
      have h0 := hf 0 (by omega)
      have I := iter_inv (ch := ch) X.safe t
      rw [X.kl] at I
      exact ⟨Prod.ext h0 rfl, I.1, Same.refl⟩
    | succ u ih =>
      intro hu
      obtain ⟨e, hl, hsm⟩ := ih (by omega)
      have I := iter_inv (ch := ch) X.safe (t + u)
      rw [X.kl] at I
      have h1 := iter_true (hf u (by omega))
      have h2 : stepW ks gs ch (iterW ks gs ch (t + u)).2 = (true, (iterW ks gs ch (t + (u + 1))).2) := by
        rw [← h1]; exact Prod.ext (hf (u + 1) hu) rfl
      obtain ⟨p, hp, hpl, hps⟩ := X.silent I h2 (by rw [hs (u + 1) hu, hs u (by omega)])
      have e3 : iterW ks gs ch (t + (u + 1)) = (true, ⟨p, (iterW ks gs ch (t + u)).2.seen, (iterW ks gs ch (t + u)).2.back⟩) := by rw [← hp, ← h2]; exact h1
      refine ⟨?_, by rw [e3]; exact hpl, by rw [e3]; exact hsm.trans hps⟩
      rw [e3, e]
  obtain ⟨u, v, huv, hv, e⟩ := X.twice (fun u => (iterW ks gs ch (t + u)).2.at_) fun u hu => ⟨(hst u hu).2.1, (hst u hu).2.2⟩
  have hrep : iterW ks gs ch (t + u) = iterW ks gs ch (t + v) := by
    rw [(hst u (by omega)).1, (hst v hv).1]
    have : (iterW ks gs ch (t + u)).2.at_ = (iterW ks gs ch (t + v)).2.at_ := e
    rw [this]
  have all : ∀ d, (iterW ks gs ch (t + u + d)).2.seen = (iterW ks gs ch t).2.seen := by
    intro d
    induction d using Nat.strongRecOn with
    | _ d ih =>
      rcases Nat.lt_or_ge (u + d) 20 with q | q
      · have := (hst (u + d) q).1
        rw [Nat.add_assoc, this]
      · have e2 := iter_same hrep (d - (v - u))
        rw [show t + v + (d - (v - u)) = t + u + d from by omega] at e2
        rw [← e2]
        exact ih _ (by omega)
  intro k hk
  have := all (k - (t + u))
  rwa [show t + u + (k - (t + u)) = k from by omega] at this
/-- two hundred and fifty turns are enough -/
theorem Ctx.stab (X : Ctx ws bs gs os ks es) {k : Nat} (hk : 250 ≤ k) : (iterW ks gs ch k).2.seen.take 12 = (iterW ks gs ch 250).2.seen.take 12 := by
  cases hf : (iterW ks gs ch 250).1 with
  | false => rw [iterW_halt hf hk]
  | true =>
    obtain ⟨t, ht⟩ := iter_seen (os := ks) (gs := gs) (ch := ch) hk
    rcases Nat.lt_or_ge (iterW ks gs ch 250).2.seen.length 12 with hl | hl
    · have hall : ∀ a, a ≤ 250 → (iterW ks gs ch a).1 = true := fun a ha => by
        cases q : (iterW ks gs ch a).1 with
        | true => rfl
        | false => rw [iterW_halt q ha, q] at hf; cases hf
      have mono : ∀ a b, a ≤ b → (iterW ks gs ch a).2.seen.length ≤ (iterW ks gs ch b).2.seen.length := fun a b hab => by
        obtain ⟨t, ht⟩ := iter_seen (os := ks) (gs := gs) (ch := ch) hab
        rw [ht, List.length_append]; omega
      have hex : ∃ i, i < 12 ∧ (iterW ks gs ch (19 * i)).2.seen.length = (iterW ks gs ch (19 * (i + 1))).2.seen.length := by
        refine Classical.byContradiction fun hno => ?_
        have grow : ∀ i, i ≤ 12 → i ≤ (iterW ks gs ch (19 * i)).2.seen.length := by
          intro i
          induction i with
          | zero => intro _; exact Nat.zero_le _
          | succ i ih =>
            intro hi
            have h1 := ih (by omega)
            have h2 := mono (19 * i) (19 * (i + 1)) (by omega)
            have h3 : (iterW ks gs ch (19 * i)).2.seen.length ≠ (iterW ks gs ch (19 * (i + 1))).2.seen.length := fun e => hno ⟨i, by omega, e⟩
            omega
        have h1 := grow 12 (Nat.le_refl _)
        have h2 := mono (19 * 12) 250 (by omega)
        omega
      obtain ⟨i, hi, e⟩ := hex
      have hg := X.hang (t := 19 * i) (ch := ch) (fun u hu => hall _ (by omega)) fun u hu => by
        have h1 := mono (19 * i) (19 * i + u) (by omega)
        have h2 := mono (19 * i + u) (19 * (i + 1)) (by omega)
        omega
      rw [hg k (by omega), hg 250 (by omega)]
    · rw [ht, List.take_append_of_le_length hl]
theorem Ctx.walks (X : Ctx ws bs gs os ks es) (hR : Rem (tgtOf gs) ks c) (ch : List Int) : walkD (newR c gs ws.length) (newG c gs ws.length) ch = walkD ks gs ch := by
  obtain ⟨k, hk, e⟩ := X.sim hR (ch := ch) 250
  unfold walkD
  rw [e]
  exact X.stab hk
end
end Mine
namespace Mine
theorem ints_VDs {g : Heap} : ∀ {vs : List Value} {ns : List Int}, IntsAre vs ns → VDs g vs (ns.map Dat.int)
  | _, _, .nil => .nil
  | _, _, .cons n t h => .cons (.int n t) (ints_VDs h)
theorem ints_ok {ns : List Int} : ∀ d ∈ ns.map Dat.int, kqdOk 8 d = true := fun d hd => by
  obtain ⟨n, _, rfl⟩ := List.mem_map.mp hd; rfl
noncomputable abbrev pairD (p : Int × Int) : Dat := .tuple [.int p.1, .int p.2]
theorem pairs_VDs {g : Heap} : ∀ {vs : List Value} {ps : List (Int × Int)}, PairsAt g vs ps → VDs g vs (ps.map pairD)
  | [], [], _ => .nil
  | [], _ :: _, h => by cases h.1
  | _ :: _, [], h => by cases h.1
  | v :: vs, p :: ps, h => by
    obtain ⟨a, t, u, h1, n, h2⟩ := h.2 0 p rfl
    have h1' : v = .ref a := by simpa using h1
    subst h1'
    refine .cons (.tuple (n := n) (vs := [.int p.1 t, .int p.2 u]) (mem_allIn.mpr h2) (.cons (.int _ _) (.cons (.int _ _) .nil))) (pairs_VDs ⟨by simpa using h.1, fun i q e => ?_⟩)
    have := h.2 (i + 1) q (by simpa using e)
    simpa using this
theorem pairs_ok {ps : List (Int × Int)} : ∀ d ∈ ps.map pairD, kqdOk 8 d = true := fun d hd => by
  obtain ⟨n, _, rfl⟩ := List.mem_map.mp hd; rfl
theorem tup_VD {g : Heap} {a : Addr} {x y : Int} {t u : Tok} (h : IsTupV g a [.int x t, .int y u]) : VD g (.ref a) (pairD (x, y)) := by
  obtain ⟨n, h⟩ := h
  exact .tuple (n := n) (vs := [.int x t, .int y u]) (mem_allIn.mpr h) (.cons (.int _ _) (.cons (.int _ _) .nil))
theorem seen_ok {os : List (Option Ord)} {gs ch : List Int} : ∀ k, ∀ d ∈ (iterW os gs ch k).2.seen, kqdOk 8 d = true
  | 0 => fun _ h => nomatch h
  | k + 1 => by
    have ih := seen_ok (os := os) (gs := gs) (ch := ch) k
    rw [iterW]
    split
    · generalize (iterW os gs ch k).2 = st at *
      have hs : ∀ o, ∀ d ∈ showTo st.seen o, kqdOk 8 d = true := fun o d hd => by
        unfold showTo at hd
        split at hd
        · exact ih d hd
        · rename_i e he
          rcases List.mem_append.mp hd with q | q
          · exact ih d q
          · rw [List.mem_singleton.mp q]; exact shown_ok he
      unfold stepW
      split
      · exact ih
      split
      · exact ih
      · rename_i o _
        split
        · split <;> exact hs o
        split
        · exact hs o
        split
        · exact hs o
        · exact hs o
    · exact ih
theorem walk_ok {os : List (Option Ord)} {gs ch : List Int} : ∀ d ∈ walkD os gs ch, kqdOk 8 d = true := fun d hd => seen_ok 250 d (List.mem_of_mem_take hd)
theorem shows_ok {c : List (Option Ord)} : ∀ d ∈ shows c, kqdOk 8 d = true := fun d hd => by
  obtain ⟨r, _, h⟩ := List.mem_filterMap.mp hd
  cases r with
  | none => cases h
  | some o => exact shown_ok h
section
variable {prog : Program} {w : World} {K : Frag} {A : Around} {T : Heap} {Z : Zed} {g : Heap} {L : Addr} {m : List (Str × Value)} {mu : List (Addr × Obj)} {s : Shared} {E : Value → Shared → Prop}
theorem At.newsG (H : At T Z g L m mu s) : News {} L s.heap (objs L L s.heap) ∧ ∀ p ∈ allIn g, p ∈ objs L L s.heap := by
  obtain ⟨mr, F, N, back⟩ := H.viaN
  refine ⟨N, fun p hp => ?_⟩
  have e := mem_allIn.mp (show (p.1, p.2) ∈ _ from hp)
  have : p.1 ≠ L := fun q => by rw [q, H.Lg] at e; cases e
  exact mem_objs.mpr ⟨H.gh _ _ e, this, this⟩
theorem r_neV {a b : Addr} {d : Dat} {Q : Value → Shared → Prop} (R : Room A 0) (H : At T Z g L m mu s) (da : VD g (.ref a) d) (db : VD g (.ref b) d) (ok : kqdOk 8 d = true) (h : Q (.bool false) s) : wpAny (model prog w) A (compareOp .NotEq (.ref a) (.ref b)) Q E s := by
  obtain ⟨N, hL⟩ := H.newsG
  obtain ⟨as, ra⟩ := kqd_in N 8 (DatIn.mono hL da) ok
  obtain ⟨bs, rb⟩ := kqd_in N 8 (DatIn.mono hL db) ok
  have l := kqd_lay 8 d ok
  have e : PyData.eqv (kqdP d) (kqdP d) = true := (kqd_eqv 8 d d 8 ok ok).mpr rfl
  have sh : SeqAt.shaped (kqdP d) = true := by unfold SeqAt.shaped; rw [l.1, Bool.true_and]; exact decide_eq_true (Nat.le_trans l.2 (by decide))
  exact ne_dataH ra rb sh sh R.u64 (by rw [e]; exact h)
theorem r_noneIn {l : Addr} {vs : List Value} {ns : List Int} {Q : Value → Shared → Prop} (R : Room A 0) (H : At T Z g L m mu s) (hl : IsListV g l vs) (hi : IntsAre vs ns) (h : Q (.bool false) s) : wpAny (model prog w) A (compareOp .In .none (.ref l)) Q E s := by
  obtain ⟨N, hL⟩ := H.newsG
  obtain ⟨n, hl⟩ := hl
  refine kqd_isIn (n₂ := allIn g) (d := .none) N (hL _ (mem_allIn.mpr hl)) rfl rfl (ints_VDs hi) hL .none hL ints_ok rfl R.u64 ?_
  have hn : ¬ Dat.none ∈ ns.map Dat.int := fun q => by obtain ⟨n, _, e⟩ := List.mem_map.mp q; cases e
  simp only [hn, decide_false]
  exact h
theorem r_cellM {env : Env} {x : Str} {pos : Pos} {c : Addr} {o : Obj} {v : Value} {Q : Value → Shared → Prop} (i : Nat) (H : At T Z g L m mu s) (hc : env.cells.lookup x = some c) (hi : mu[i]? = some (c, o)) (hv : CellIs o v) (h : Q v s)
    (hk : env.scope.kind = .function := by rfl) (hl : env.kindOf x = some .cell := by rfl) (hd : (x == ("__debug__" : Str)) = false := by decide) : wpAny (model prog w) A (eval (.Name x pos) env) Q E s :=
  r_cell hc (H.mus _ (List.mem_of_getElem? hi)).1 hv h hk hl hd
/-- into the law's frame, from the caller's state -/
theorem enterTop {f : Addr} {name : Str} {params : Arguments} {bd : List Stmt} {scope : Scope} {od : Option DefInfo} {qual : Str} {dV : Value} {vals : List Value} (binds : List (Str × Value)) (m' : Loc) {Q : Value → Shared → Prop} {n : Nat}
    (TF : TopF K s.heap) (FI : FnIs K f od qual dV) (hd : od = some ⟨name, params, bd, scope⟩) (R : Room A (n + 1))
    (hbind : ∀ doc pm an cdv ct, BindsTo s (fnOf name qual params bd scope dV .none doc pm an cdv ct) ⟨vals, []⟩ binds)
    (hkind : ∀ n, ∀ x ∈ binds, scope.names.lookup x.1 = some .local ∨ (scope.names.lookup x.1 = some .cell ∧ ((cellsFrom n scope.names []).lookup x.1).isSome = true))
    (hnd : ((cellsFrom 0 scope.names []).map (·.1)).Nodup) (hna : ∀ L : Nat, ((cellsFrom (L + 1) scope.names []).map (·.2)).Nodup)
    (hm : ∀ L cd, KnowsF (bindL (envOfC qual scope L f cd).kindOf binds fun _ => none) m')
    (hco : scope.isCoroutine = false) (hgen : scope.isGenerator = false) (hk : scope.kind = .function)
    (body : ∀ cdv L' cells s₁, CellsAre (bindC (envOfC qual scope L' f cdv).kindOf binds fun _ => none) (cellsFrom (L' + 1) scope.names []) cells → At s.heap ⟨s.heap, s.heap, s⟩ s.heap L' m' cells s₁ →
      Room (A.deeper (envOfC qual scope L' f cdv)) n →
      wpAny (model prog w) (A.deeper (envOfC qual scope L' f cdv)) (execs bd (envOfC qual scope L' f cdv)) (fun fl s' => Q (match fl with | .ret v => v | _ => .none) s') noE s₁) :
    wpAny (model prog w) A (call (.ref f) vals) Q E s := by
  subst hd
  obtain ⟨oc, odd, osl, doc, pm, an, cdv, ct, hl, hc⟩ := FI
  have XS := TF.X
  refine wpAny_call ?_
  refine codeAny_call_function R.lim (XS _ _ hl) rfl hco hgen rfl (codeRec_of XS hc) (hbind doc pm an cdv ct _ _ _ _ ?_)
  refine wpAny_newFunctionEnv_cells hk (hkind _) fun env' he s' x => ?_
  subst he
  refine ⟨TF.nolimit.keeps x.toInCall.keep, codeAny_func ?_⟩
  obtain ⟨h₁, tk, rfl, _⟩ := x.done
  have hk₁ := x.toInCall.keep
  obtain ⟨cells, NC, Y⟩ := Cl.news (h₀ := s.heap) (Nat.le_refl _) fun n c hm => ⟨x.cell n c (lookup_of_mem_nodup (cellsFrom_names scope.names 0 (s.heap.objs.size + 1) [] [] rfl ▸ hnd) hm), x.above n c hm⟩
  have nn : s.heap.get? s.heap.objs.size = none := get_none_of_ge (Nat.le_refl _)
  have H₁ : At s.heap ⟨s.heap, s.heap, s⟩ s.heap s.heap.objs.size m' [] { s with heap := h₁, toks := tk } :=
    { ns := ⟨_, x.toInCall.ns, KnowsF.look (hm _ cdv)⟩, gg := stays_refl _, gh := hk₁, hh := hk₁, fr := fun a o e => .inl e, tg := stays_refl _, Lb := nn, Lg := nn, mus := (fun _ hp => nomatch hp), nd := List.Pairwise.nil, gens := rfl, os := rfl }
  have H₂ := H₁.adopts (cells := cells) (fun p hp => ?_) (by rw [cellsAre_addrs Y]; exact hna _)
  · exact wpAny_mono (body cdv _ cells _ Y H₂ (R.deeper _)) (fun _ _ h => h) fun _ _ h => h.elim
  · obtain ⟨h1, h2, h3⟩ := NC p hp
    exact ⟨h1, h2, h3, h3, fun hm => nomatch hm⟩
end
end Mine
namespace Mine
section
variable {prog : Program} {w : World} {K : Frag} {A : Around} {T : Heap} {Z : Zed} {g : Heap} {L : Addr} {m : List (Str × Value)} {mu : List (Addr × Obj)} {s : Shared} {E : Value → Shared → Prop}
/- the blocks of C5, C6, C7 once more: what is done with the list is left open (an assignment takes it inside the block) -/
theorem comp_blockG {env : Env} {cl : List (Str × Addr)} {target elt iter : Expr} {ifs : List Expr} {scope : Scope} {pos : Pos} {I : Addr} {fp wr : List Addr} {lent : List (Addr × Obj)} {use : Option (Value → Sem Unit)} {Q : Value → Shared → Prop} {h₁ : Heap} {tk₁ : Nat} (JN : Heap → Loc → List (Addr × Obj) → List Value → Prop)
    (H : At T Z g L m (lent ++ mu) s) (k₁ : s.heap.StaysIn h₁) (hsz : s.heap.objs.size ≤ h₁.objs.size) (hfp : ∀ b ∈ fp, b < h₁.objs.size) (hwr : ∀ a ∈ wr, a ∈ fp ∧ s.heap.get? a = none)
    (hfm : ∀ a ∈ fp, a ∉ lent.map (·.1)) (hcell : ∀ y ∈ scope.names, y.2 ≠ .cell) (hkind : scope.kind = .function)
    (self : ∀ h' tk (Q' : Value → Shared → Prop) (E' : Value → Shared → Prop), h₁.StaysIn h' → Q' (.ref I) { s with heap := h', toks := tk } → wpAny (model prog w) A (pyIter (.ref I)) Q' E' { s with heap := h', toks := tk })
    (loop : ∀ (D C : Addr) s₄, D ≠ C → h₁.StaysIn s₄.heap → At T (Zed.into lent g s) g C [] ((D, LO [] 0) :: lent) s₄ → (∀ a ∈ wr, a ≠ C ∧ a ∉ D :: lent.map (·.1) ∧ g.get? a = none ∧ (Zed.into lent g s).b.get? a = none) → C ∉ fp → (∀ a ∈ fp, a ∉ D :: lent.map (·.1)) →
      ∀ Rr : Result → Shared → Prop, (∀ g' m' lent' ys n' s', JN g' m' lent' ys → lent'.map (·.1) = lent.map (·.1) → At T (Zed.into lent g s) g' C m' ((D, LO ys n') :: lent') s' → Rr (.ok .next) s') →
      codeAny (model prog w) A (.compLoop (.ListComp elt [⟨target, iter, ifs, 0⟩] scope pos) 0 (.ref I) (.ref D) (compEnvC scope cl C env)) Rr s₄)
    (done : ∀ D C g₁ m₁ lent' ys g' s', JN g₁ m₁ lent' ys → g₁.StaysIn g' → IsListV g' D ys → lent'.map (·.1) = lent.map (·.1) → At T Z g' L m (lent' ++ mu) s' → (C ≠ L ∧ C ∉ (lent' ++ mu).map (·.1) ∧ g'.get? C = none ∧ Z.b.get? C = none) → (∃ mr, s'.heap.Ns C mr) → compPost (model prog w) A E use Q (.ref D) C (.ok .next) s') :
    wpAny (model prog w) A (newList []) (fun acc s₃ => wpAny (model prog w) A (newFunctionEnv scope env.globals cl [] env.qual none .none (some env)) (fun cenv s₄ =>
        codeAny (model prog w) A (.compStart (.ListComp elt [⟨target, iter, ifs, 0⟩] scope pos) 0 (.ref I) acc { cenv with scope := relabel scope env }) (compPost (model prog w) A E use Q acc cenv.locals) s₄) E s₃) E { s with heap := h₁, toks := tk₁ } := by
  refine wpAny_newObj_type (wpAny_newFunctionEnv hcell (by intro y hy; simp at hy) (fun h₂ hns₂ hsb₂ => ?_) hkind)
  dsimp only at hns₂ hsb₂ ⊢
  generalize hH2 : h₁.push { cls := .type "list", dict := none, data := .seq ([] : List Value).toArray } = H2 at hns₂ hsb₂ ⊢
  have hC : H2.objs.size = h₁.objs.size + 1 := by rw [← hH2, Heap.size_push]
  have hDC : h₁.objs.size ≠ H2.objs.size := by rw [hC]; exact Nat.ne_of_lt (Nat.lt_succ_self _)
  have old : h₁.StaysIn h₂ := fun b o e => hsb₂.extBut b o (by rw [hC]; exact Nat.ne_of_lt (Nat.lt_succ_of_lt (Heap.lt_size e))) (Heap.get?_push_of_some _ (hH2 ▸ Heap.get?_push_of_some _ e))
  have hDo : h₂.get? h₁.objs.size = some (LO [] 0) := hsb₂.extBut _ _ hDC (Heap.get?_push_of_some _ (hH2 ▸ Heap.get?_push_size _ rfl))
  have fresh : ∀ a, h₁.objs.size ≤ a → s.heap.get? a = none := fun a ha => get_none_of_ge (Nat.le_trans hsz ha)
  have hCf : s.heap.get? H2.objs.size = none := fresh _ (by rw [hC]; exact Nat.le_succ _)
  have hDf : s.heap.get? h₁.objs.size = none := fresh _ (Nat.le_refl _)
  have zb : ∀ a, s.heap.get? a = none → (Zed.into lent g s).b.get? a = none := fun a e => by
    cases q : (Zed.into lent g s).b.get? a with
    | none => rfl
    | some o => have := of_hideAll _ q; rw [e] at this; cases this
  have zg : ∀ a, s.heap.get? a = none → g.get? a = none := fun a e => by
    cases q : g.get? a with
    | none => rfl
    | some o => have := H.gh _ _ q; rw [e] at this; cases this
  have zl : ∀ a, s.heap.get? a = none → a ∉ lent.map (·.1) := fun a e hm => by
    obtain ⟨p, hp, rfl⟩ := List.mem_map.mp hm
    have := (H.mus p (List.mem_append_left _ hp)).1
    rw [e] at this; cases this
  have H₂ := H.into (L' := H2.objs.size) (h' := h₂) (m' := []) (t := tk₁ + ([] : List (Str × Value)).length) hCf (stays_trans k₁ old) ⟨_, hns₂, fun x v e => by cases e⟩
  have H₃ := H₂.adopt (D := h₁.objs.size) hDo hDC (zb _ hDf) (zg _ hDf) (zl _ hDf)
  have go : codeAny (model prog w) A (.compLoop (.ListComp elt [⟨target, iter, ifs, 0⟩] scope pos) 0 (.ref I) (.ref h₁.objs.size) (compEnvC scope cl H2.objs.size env)) (compPost (model prog w) A E use Q (.ref h₁.objs.size) H2.objs.size) { s with heap := h₂, toks := tk₁ + ([] : List (Str × Value)).length } := by
    refine loop _ _ _ hDC old H₃ (fun a ha => ?_) (fun hm => ?_) (fun a ha hm => ?_) _ fun g' m' lent' ys n' s' hJ ad H' => ?_
    · have h1 := hwr a ha
      have h2 := hfp a h1.1
      refine ⟨fun e => ?_, fun hm => ?_, zg _ h1.2, zb _ h1.2⟩
      · rw [e, hC] at h2; exact absurd h2 (Nat.not_lt.mpr (Nat.le_succ _))
      · rcases List.mem_cons.mp hm with q | q
        · rw [q] at h2; exact absurd h2 (Nat.lt_irrefl _)
        · exact zl _ h1.2 q
    · have := hfp _ hm; rw [hC] at this; exact absurd this (Nat.not_lt.mpr (Nat.le_succ _))
    · rcases List.mem_cons.mp hm with q | q
      · have := hfp a ha; rw [q] at this; exact absurd this (Nat.lt_irrefl _)
      · exact hfm a ha q
    · obtain ⟨mr, hmr, _⟩ := H'.ns
      obtain ⟨g'', k'', hg'', H''⟩ := At.freeze (mu := lent') (H'.perm (List.perm_append_comm (l₁ := [_])))
      have HB := At.back (mu' := []) H (H''.perm (by rw [List.append_nil])) ad
      refine done _ _ g' m' lent' ys g'' _ hJ k'' ⟨n', hg'' _ (.head _)⟩ ad HB ?_ ⟨mr, hmr⟩
      refine ⟨fun q => ?_, fun hm => ?_, H''.Lg, ?_⟩
      · obtain ⟨oL, hoL⟩ := H.Lsome
        rw [q, hoL] at hCf; cases hCf
      · rw [List.map_append, List.mem_append] at hm
        rcases hm with hm | hm
        · rw [ad] at hm; exact zl _ hCf hm
        · obtain ⟨p, hp, q⟩ := List.mem_map.mp hm
          have := (H.mus p (List.mem_append_right _ hp)).1
          rw [q, hCf] at this; cases this
      · cases q : Z.b.get? H2.objs.size with
        | none => rfl
        | some o => have := H.hh _ _ q; rw [hCf] at this; cases this
  exact codeAny_compStart_list go (self _ _ _ _ old go)
theorem comp_rangeG {env : Env} {cl : List (Str × Addr)} {x : Str} {px : Pos} {elt iter : Expr} {ifs : List Expr} {scope : Scope} {pos : Pos} {r : Addr} {b : Nat} {t u v : Tok} (lent : List (Addr × Obj)) {use : Option (Value → Sem Unit)} {Q : Value → Shared → Prop}
    (J : Nat → Heap → Loc → List (Addr × Obj) → List Value → Prop) (R : Room A 0) (H : At T Z g L m (lent ++ mu) s) (hr : IsRange s.heap r 0 b 1 t u v) (hz : b ≤ 100000) (h0 : J 0 g [] lent [])
    (turn : ∀ (i : Nat) t C Z₁ g₁ m₁ lent₁ D ys n₁ s₁, i < b → J i g₁ m₁ lent₁ ys → lent₁.map (·.1) = lent.map (·.1) → g.StaysIn g₁ → (Zed.into lent g s).b.StaysIn Z₁.b → At T Z₁ g₁ C ((x, .int i t) :: m₁) ((D, LO ys n₁) :: lent₁) s₁ →
      Tests prog w A ifs (compEnvC scope cl C env) (fun ok s₂ => if ok = true then wpAny (model prog w) A (eval elt (compEnvC scope cl C env)) (fun y s₃ => CompEnd T Z₁ C D (lent.map (·.1)) (J (i + 1)) ys [y] s₃) noE s₂ else CompEnd T Z₁ C D (lent.map (·.1)) (J (i + 1)) ys [] s₂) noE s₁)
    (done : ∀ D C g₁ m₁ lent' ys g' s', J b g₁ m₁ lent' ys → g₁.StaysIn g' → IsListV g' D ys → lent'.map (·.1) = lent.map (·.1) → At T Z g' L m (lent' ++ mu) s' → (C ≠ L ∧ C ∉ (lent' ++ mu).map (·.1) ∧ g'.get? C = none ∧ Z.b.get? C = none) → (∃ mr, s'.heap.Ns C mr) → compPost (model prog w) A E use Q (.ref D) C (.ok .next) s')
    (hcell : ∀ y ∈ scope.names, y.2 ≠ .cell := by decide) (hkind : scope.kind = .function := by rfl) (hx : scope.names.lookup x = some .local := by rfl) :
    wpAny (model prog w) A (pyIter (.ref r)) (fun it s₂ => wpAny (model prog w) A (newList []) (fun acc s₃ => wpAny (model prog w) A (newFunctionEnv scope env.globals cl [] env.qual none .none (some env)) (fun cenv s₄ =>
        codeAny (model prog w) A (.compStart (.ListComp elt [⟨.Name x px, iter, ifs, 0⟩] scope pos) 0 it acc { cenv with scope := relabel scope env }) (compPost (model prog w) A E use Q acc cenv.locals) s₄) E s₃) E s₂) E s := by
  refine wpAny_pyIter_range hr (small_one (by omega) (by omega) (by omega) (by omega)) ?_
  have W := Walks.range (prog := prog) (w := w) R.handled s.heap.objs.size 0 1 b
  have hmem : ∀ a, s.heap.objs.size ≤ a → a ∉ lent.map (·.1) := fun a ha hm => by
    obtain ⟨p, hp, e⟩ := List.mem_map.mp hm
    have := Heap.lt_size (H.mus p (List.mem_append_left _ hp)).1
    rw [e] at this; exact absurd this (Nat.not_lt.mpr ha)
  refine comp_blockG (I := s.heap.objs.size) (fp := [s.heap.objs.size]) (wr := [s.heap.objs.size]) (J b) H (fun a o e => Heap.get?_push_of_some _ e) (by rw [Heap.size_push]; exact Nat.le_succ _) (fun c hb => ?_) (fun a ha => ?_) (fun a ha => ?_) hcell hkind
    (fun h' tk Q' E' k hq => W.self 0 { s with heap := h', toks := tk } _ _ (by have := k _ _ (Heap.get?_push_size _ rfl); show h'.get? _ = _; rw [this, rangeSize1]; simp [rawInt]) hq) (fun D C s₄ hDC k H₄ hw hCf hfm Rr hR => ?_) done
  · rw [List.mem_singleton.mp hb, Heap.size_push]; exact Nat.lt_succ_self _
  · obtain rfl := List.mem_singleton.mp ha
    exact ⟨.head _, get_none_of_ge (Nat.le_refl _)⟩
  · obtain rfl := List.mem_singleton.mp ha
    exact hmem _ (Nat.le_refl _)
  · refine comp_walks (cenv := compEnvC scope cl C env) J rfl (lookup_relabel_local hx) (by show scope.kind = _; exact hkind) W H₄ (by have := k _ _ (Heap.get?_push_size _ rfl); show s₄.heap.get? _ = _; rw [this, rangeSize1]; simp [rawInt])
      (fun i h st a ha => ?_) hw hCf hfm h0 hz (fun i v Z₁ g₁ m₁ mu₁ ys n₁ s₁ hi hP hJ ad kg kz H₁ => ?_) hR
    · obtain rfl := List.mem_singleton.mp ha; exact ⟨_, st⟩
    · obtain ⟨t', rfl⟩ := hP
      rw [Int.mul_one, Int.zero_add] at H₁
      exact turn i t' C Z₁ g₁ m₁ mu₁ D ys n₁ s₁ hi hJ ad kg kz H₁
theorem comp_enumG {env : Env} {cl : List (Str × Addr)} {xi xv : Str} {pi pv pt : Pos} {kt : Nat} {elt iter : Expr} {ifs : List Expr} {scope : Scope} {pos : Pos} {l : Addr} {vs : List Value} (lent : List (Addr × Obj)) {use : Option (Value → Sem Unit)} {Q : Value → Shared → Prop}
    (J : Nat → Heap → Loc → List (Addr × Obj) → List Value → Prop) (R : Room A 0) (H : At T Z g L m (lent ++ mu) s) (hl : IsListV g l vs) (hz : vs.length ≤ 100000) (h0 : J 0 g [] lent [])
    (turn : ∀ (i : Nat) t v C Z₁ g₁ m₁ lent₁ D ys n₁ s₁, vs[i]? = some v → J i g₁ m₁ lent₁ ys → lent₁.map (·.1) = lent.map (·.1) → g.StaysIn g₁ → (Zed.into lent g s).b.StaysIn Z₁.b → At T Z₁ g₁ C ((xv, v) :: (xi, .int i t) :: m₁) ((D, LO ys n₁) :: lent₁) s₁ →
      Tests prog w A ifs (compEnvC scope cl C env) (fun ok s₂ => if ok = true then wpAny (model prog w) A (eval elt (compEnvC scope cl C env)) (fun y s₃ => CompEnd T Z₁ C D (lent.map (·.1)) (J (i + 1)) ys [y] s₃) noE s₂ else CompEnd T Z₁ C D (lent.map (·.1)) (J (i + 1)) ys [] s₂) noE s₁)
    (done : ∀ D C g₁ m₁ lent' ys g' s', J vs.length g₁ m₁ lent' ys → g₁.StaysIn g' → IsListV g' D ys → lent'.map (·.1) = lent.map (·.1) → At T Z g' L m (lent' ++ mu) s' → (C ≠ L ∧ C ∉ (lent' ++ mu).map (·.1) ∧ g'.get? C = none ∧ Z.b.get? C = none) → (∃ mr, s'.heap.Ns C mr) → compPost (model prog w) A E use Q (.ref D) C (.ok .next) s')
    (hcell : ∀ y ∈ scope.names, y.2 ≠ .cell := by decide) (hkind : scope.kind = .function := by rfl) (hxi : scope.names.lookup xi = some .local := by rfl) (hxv : scope.names.lookup xv = some .local := by rfl) :
    wpAny (model prog w) A (call (.type "enumerate") [.ref l]) (fun xx s₁ => wpAny (model prog w) A (pyIter xx) (fun it s₂ => wpAny (model prog w) A (newList []) (fun acc s₃ => wpAny (model prog w) A (newFunctionEnv scope env.globals cl [] env.qual none .none (some env)) (fun cenv s₄ =>
        codeAny (model prog w) A (.compStart (.ListComp elt [⟨.Tuple [.Name xi pi, .Name xv pv] kt pt, iter, ifs, 0⟩] scope pos) 0 it acc { cenv with scope := relabel scope env }) (compPost (model prog w) A E use Q acc cenv.locals) s₄) E s₃) E s₂) E s₁) E s := by
  have hls := H.lst (hasG hl)
  obtain ⟨n, hn⟩ := hl
  have hsz : s.heap.get? l = some _ := H.gh _ _ hn
  have hlt := Heap.lt_size hsz
  refine call_enumerate_list hls fun h' he hit hz' hk' => ?_
  refine wpAny_pyIter_enum (s := { s with heap := h' }) he ?_
  have W := WalksT.enumerate (prog := prog) (w := w) R.handled (s.heap.objs.size + 1) s.heap.objs.size l (Nat.succ_ne_self _) (Nat.ne_of_lt (Nat.lt_succ_of_lt hlt)) (Nat.ne_of_lt hlt) vs.toArray
  have hlen : vs.toArray.size = vs.length := by simp
  rw [hlen] at W
  have hmem : ∀ a, s.heap.objs.size ≤ a → a ∉ lent.map (·.1) := fun a ha hm => by
    obtain ⟨p, hp, e⟩ := List.mem_map.mp hm
    have := Heap.lt_size (H.mus p (List.mem_append_left _ hp)).1
    rw [e] at this; exact absurd this (Nat.not_lt.mpr ha)
  have hml : l ∉ lent.map (·.1) := fun hm => by
    obtain ⟨p, hp, e⟩ := List.mem_map.mp hm
    have := (H.mus p (List.mem_append_left _ hp)).2.2.2
    rw [e, hn] at this; cases this
  have st0 : ∀ h'', h'.StaysIn h'' → (∃ old, IsEnum h'' (s.heap.objs.size + 1) s.heap.objs.size ((0 : Nat) : Int) old) ∧ h''.IsListIter s.heap.objs.size l 0 ∧ h''.IsList l vs.toArray := fun h'' k =>
    ⟨⟨_, k _ _ he⟩, hit.at fun o e => k _ _ e, hls.at fun o e => k _ _ (hk' _ _ e)⟩
  refine comp_blockG (fp := [s.heap.objs.size + 1, s.heap.objs.size, l]) (wr := [s.heap.objs.size + 1, s.heap.objs.size]) (J vs.length) H hk' (by rw [hz']; exact Nat.le_add_right _ _) (fun b hb => ?_) (fun a ha => ?_) (fun a ha => ?_) hcell hkind
    (fun h'' tk Q' E' k hq => W.self 0 { s with heap := h'', toks := tk } _ _ (st0 h'' k) hq) (fun D C s₄ hDC k H₄ hw hCf hfm Rr hR => ?_) done
  · rw [hz']
    rcases List.mem_cons.mp hb with q | q
    · rw [q]; exact Nat.lt_succ_self _
    · rcases List.mem_cons.mp q with q | q
      · rw [q]; exact Nat.lt_succ_of_lt (Nat.lt_succ_self _)
      · rw [List.mem_singleton.mp q]; exact Nat.lt_succ_of_lt (Nat.lt_succ_of_lt hlt)
  · rcases List.mem_cons.mp ha with q | q
    · rw [q]; exact ⟨.head _, get_none_of_ge (Nat.le_succ _)⟩
    · rw [List.mem_singleton.mp q]; exact ⟨.tail _ (.head _), get_none_of_ge (Nat.le_refl _)⟩
  · rcases List.mem_cons.mp ha with q | q
    · rw [q]; exact hmem _ (Nat.le_succ _)
    · rcases List.mem_cons.mp q with q | q
      · rw [q]; exact hmem _ (Nat.le_refl _)
      · rw [List.mem_singleton.mp q]; exact hml
  · refine comp_walksT (cenv := compEnvC scope cl C env) J rfl (lookup_relabel_local hxi) (lookup_relabel_local hxv) (by show scope.kind = _; exact hkind) W R.handled H₄ (st0 _ k) (fun i h st a ha => ?_) hw hCf hfm h0 hz (fun i vals hP => ?_) (fun i a b Z₁ g₁ m₁ mu₁ ys n₁ s₁ _ hP hJ ad kg kz H₁ => ?_) hR
    · obtain ⟨⟨old, h1⟩, ⟨o2, h2, _⟩, _⟩ := st
      rcases List.mem_cons.mp ha with q | q
      · rw [q]; exact ⟨_, h1⟩
      · rw [List.mem_singleton.mp q]; exact ⟨_, h2⟩
    · obtain ⟨t, x, _, e⟩ := hP
      exact ⟨_, _, e⟩
    · obtain ⟨t, x, hx, e⟩ := hP
      have e' : a = .int i t ∧ b = x := by simpa using e
      obtain ⟨rfl, rfl⟩ := e'
      exact turn i t b C Z₁ g₁ m₁ mu₁ D ys n₁ s₁ (by simpa using hx) hJ ad kg kz H₁
/-- the list goes to a name -/
theorem use_name {env : Env} {y : Str} {py : Pos} {lent' : List (Addr × Obj)} {D C : Addr} {g' : Heap} {s' : Shared} {Qn : Shared → Prop} (hL : env.locals = L) (hk : env.scope.kind = .function) (hy : env.kindOf y = some .local)
    (done : ∀ s'', At T Z g' L ((y, .ref D) :: m) (lent' ++ mu) s'' → Qn s'')
    (H : At T Z g' L m (lent' ++ mu) s') (off : C ≠ L ∧ C ∉ (lent' ++ mu).map (·.1) ∧ g'.get? C = none ∧ Z.b.get? C = none) (hn : ∃ mr, s'.heap.Ns C mr) : compPost (model prog w) A E (some (assign (.Name y py) env)) (fun _ s' => Qn s') (.ref D) C (.ok .next) s' := by
  obtain ⟨mC, hmC⟩ := hn
  show wpAny (model prog w) A (assign (.Name y py) env (.ref D)) _ E s'
  subst hL
  refine wpAny_assign_Name ?_
  obtain ⟨mr, n, r⟩ := H.ns
  refine wpAny_storeName_local hy n (fun h₂ hn₂ hs₂ => ?_) (by rw [hk]; rfl)
  refine ⟨mC, hmC.sameBut hs₂ off.1, fun h₃ hs₃ => done _ ?_⟩
  have H₂ := H.store (x := y) (v := .ref D) (h' := h₂) (t := s'.toks) (fun mr' n' => by
    have : mr' = mr := by
      obtain ⟨o, es, ep, ho, hd, hks, hf⟩ := n
      obtain ⟨o', es', ep', ho', hd', hks', hf'⟩ := n'
      rw [ho] at ho'; cases ho'
      rw [hd] at hd'; cases hd'
      funext y
      rw [← hf y, ← hf' y]
    rw [this]; exact hn₂) hs₂
  exact H₂.else_ (wr := [C]) (h' := h₃) (t := _) (fun a o hne e => (hs₃.2 a (fun q => hne (by simp [q]))).trans e) fun a ha => by
    obtain rfl := List.mem_singleton.mp ha
    exact off
theorem r_LCA {elt target iter : Expr} {ifs : List Expr} {scope : Scope} {pos spos py : Pos} {y : Str} {env : Env} {cl : List (Str × Addr)} {Q : Flow → Shared → Prop} (hclos : closureFor scope env = pure cl)
    (h : wpAny (model prog w) A (eval iter env) (fun x s₁ => wpAny (model prog w) A (pyIter x) (fun it s₂ => wpAny (model prog w) A (newList []) (fun acc s₃ =>
      wpAny (model prog w) A (newFunctionEnv scope env.globals cl [] env.qual none .none (some env)) (fun cenv s₄ =>
        codeAny (model prog w) A (.compStart (.ListComp elt [⟨target, iter, ifs, 0⟩] scope pos) 0 it acc { cenv with scope := relabel scope env }) (compPost (model prog w) A E (some (assign (.Name y py) env)) (fun _ s' => Q .next s') acc cenv.locals) s₄) E s₃) E s₂) E s₁) E s)
    (hsw : swapsWith (.ListComp elt [⟨target, iter, ifs, 0⟩] scope pos) (some (.Name y py)) spos.line env = pure true := by rfl)
    (hkind : scope.kind = .function := by rfl) (hnames : ∀ x ∈ scope.names, x.2 = .local → scope.names.lookup x.1 = some .local := by decide) (hs : ∀ x, foldedSetIterable iter env x = pure x := by intro _; rfl) :
    wpAny (model prog w) A (exec (.Assign [.Name y py] (.ListComp elt [⟨target, iter, ifs, 0⟩] scope pos) spos) env) Q E s := by
  rw [exec_Assign_Name_used _ _ _ _ hsw]
  refine wpAny_bind (wpAny_standAt (wpAny_bind ?_))
  show wpAny _ A (do let _ ← comprehension (.ListComp elt [⟨target, iter, ifs, 0⟩] scope pos) scope env _ (newList []) false (eval iter env) (some (assign (.Name y py) env))) _ _ s
  exact wpAny_bind (wpAny_mono (wpAny_comprehension_free (use := some (assign (.Name y py) env)) (Q := fun _ s' => Q .next s') rfl hs hclos hkind hnames h) (fun _ s' hq => wpAny_pure (wpAny_pure hq)) fun _ _ e => e)
end
end Mine
namespace Mine
section
variable {prog : Program} {w : World} {K : Frag} {A : Around} {T : Heap} {Z : Zed} {g : Heap} {L : Addr} {m : List (Str × Value)} {mu : List (Addr × Obj)} {s : Shared} {E : Value → Shared → Prop}
set_option maxHeartbeats 1000000
set_option maxRecDepth 100000
noncomputable abbrev cellsF (P : Addr) (L : Nat) (po o1 o2 o3 o4 : Obj) : List (Addr × Obj) := [(P, po), (L + 1, o1), (L + 2, o2), (L + 3, o3), (L + 4, o4)]
/-- the law's last loop -/
theorem law_F {name : Str} {params : Arguments} {bd : List Stmt} {scope : Scope} (hd : defAt 59 = some ⟨name, params, bd, scope⟩) {cdv : Value} {P sc nl al kl gl : Addr} {po o1 o2 o3 o4 : Obj} {n : Nat} {nvs avs kvs gvs : List Value} {rows ks : List (Option Ord)} {aims gs : List Int} {Pq : Flow → Shared → Prop}
    (TF : TopF K T) (R : Room A 6) (H : At T Z g L [("new", .ref nl), ("aims", .ref al), ("kept", .ref kl)] (cellsF P L po o1 o2 o3 o4) s)
    (h1 : CellIs o1 (.ref P)) (h2 : CellIs o2 (.ref gl)) (hsc : ScriptIs g sc) (hp : PenIs sc n po) (hn : n ≤ 5000)
    (hnl : IsListV g nl nvs) (hno : OrdsAt g nvs rows) (hal : IsListV g al avs) (hai : IntsAre avs aims) (hkl : IsListV g kl kvs) (hko : OrdsAt g kvs ks) (hgl : IsListV g gl gvs) (hgi : IntsAre gvs gs)
    (z1 : rows.length ≤ 1000) (z2 : ks.length ≤ 1000) (W1 : WalkSafe rows aims) (W2 : WalkSafe ks gs) (same : ∀ ch, walkD rows aims ch = walkD ks gs ch)
    (fin : ∀ g' m' mu' s', At T Z g' L m' mu' s' → Pq (.ret (.bool true)) s') :
    wpAny (model prog w) A (execs (bd.drop 16) (envOfC "law" scope L 425 cdv)) Pq noE s := by
  cases (show defAt 59 = some ⟨_, _, _, _⟩ from rfl).symm.trans hd
  show wpAny _ _ (execs (Stmt.For _ _ _ _ _ :: _) _) _ _ _
  repeat' walk_at "y"
  refine r_range1 H ?_
  clear H; intro r t1 t2 t3 s H hrng
  refine for_range0 (fun i g₁ m₁ mu₁ => ∃ po, m₁ = ([("new", .ref nl), ("aims", .ref al), ("kept", .ref kl)] : Loc) ∧ mu₁ = cellsF P L po o1 o2 o3 o4 ∧ g.StaysIn g₁ ∧ PenIs sc (n + 7 * i) po) (R.less (by decide)) H hrng (by omega) (by omega) ⟨po, rfl, rfl, stays_refl _, hp⟩ ?_ ?_
  · clear H hrng hp
    rintro i t Z₁ g₁ m₁ mu₁ s hi ⟨po, rfl, rfl, kg₁, hp⟩ _ kg' H out
    refine gen_post fun PP hPP => ?_
    have hne : L + 1 ≠ P := fun e => by
      have := H.nd
      rw [← e] at this
      simp at this
    repeat' walk_at "y"
    refine r_LCA (cl := [("pen", L + 1)]) rfl ?_
    repeat' walk_at "y"
    refine r_range1 H ?_
    clear H; intro r t1 t2 t3 s H hrng
    have hcl := (H.mus _ (.tail _ (.head _))).1
    refine comp_rangeG (b := 7) (lent := [(P, po)]) (fun j g₂ m₂ lent ys => ∃ po' ns, g₁ = g₂ ∧ m₂ = [] ∧ lent = [(P, po')] ∧ PenIs sc (n + 7 * i + j) po' ∧ IntsAre ys ns ∧ ns.length = j) (R.less (by decide)) H hrng (by decide) ⟨po, [], rfl, rfl, rfl, hp, .nil, rfl⟩ ?_ ?_
    · clear H hp
      rintro j t C Z₂ g₂ m₂ lent₂ D ys n₁ s hj ⟨po, ns, rfl, rfl, rfl, hp, hys, hnsl⟩ _ kg₂ kz H
      refine gen_comp fun CE hCE => ?_
      refine wpAny_tests_nil ?_
      repeat' walk_at "y"
      refine r_cell (c := L + 1) rfl (H.hh _ _ (kz _ _ (hideAll_get _ hcl (by simpa using hne)))) h1 ?_
      repeat' walk_at "y"
      refine draw_spec (many := 2) TF (H.perm (List.Perm.swap _ _ _)) (R.less (by decide)) (hsc.mono kg₁) hp (by omega) (by decide) (by decide) ?_
      clear H; intro d u po2 s hd hp2 H
      exact hCE _ _ ⟨g₁, [], [(P, po2)], n₁, (H.perm (List.Perm.swap _ _ _)).know trivial, rfl, po2, ns ++ [(d : Int)], rfl, rfl, rfl, hp2, ints_snoc hys, by simp [hnsl]⟩
    · clear H hp
      rintro D C g₂ m₂ lent' ys g₃ s ⟨po, ns, rfl, rfl, rfl, hp, hys, hnsl⟩ kg₃ hD _ H off hn
      refine use_name (L := L) (lent' := [(P, po)]) (mu := [(L + 1, o1), (L + 2, o2), (L + 3, o3), (L + 4, o4)]) (by rfl) (by rfl) (by rfl) (fun s H => ?_) H off hn
      clear off hn
      simp only [List.cons_append, List.nil_append] at H
      have k3 := stays_trans kg₁ kg₃
      repeat' walk_at "y"
      refine walk_spec TF H (R.less (by decide)) (hnl.mono k3) (hno.mono k3) (hal.mono k3) hai hD hys (by omega) (by omega) z1 W1 ?_
      clear H; intro l1 g₄ s vs1 k₄ hl1 hv1 H
      have k4 := stays_trans k3 k₄
      repeat' walk_at "y"
      refine r_cellM 2 H rfl rfl h2 ?_
      repeat' walk_at "y"
      refine walk_spec TF H (R.less (by decide)) (hkl.mono k4) (hko.mono k4) (hgl.mono k4) hgi (hD.mono k₄) hys (by omega) (by omega) z2 W2 ?_
      clear H; intro l2 g₅ s vs2 k₅ hl2 hv2 H
      repeat' walk_at "y"
      refine r_neD (R.less (by decide)) H (hl1.mono k₅) hl2 (hv1.mono k₅) hv2 walk_ok walk_ok (same ns) ?_
      repeat' walk_at "y"
      exact tpn hPP ⟨g₅, _, _, H.know (by walk_at "k"), rfl, po, rfl, rfl, stays_trans k4 k₅, hp.more (by omega)⟩
  · clear H
    rintro g₁ m₁ mu₁ s ⟨po, rfl, rfl, kg₁, hp⟩ _ H
    repeat' walk_at "y"
    exact fin _ _ _ _ H
end
end Mine
namespace Mine
section
variable {prog : Program} {w : World} {K : Frag} {A : Around} {T : Heap} {Z : Zed} {g : Heap} {L : Addr} {m : List (Str × Value)} {mu : List (Addr × Obj)} {s : Shared} {E : Value → Shared → Prop}
set_option maxHeartbeats 1000000
set_option maxRecDepth 100000
noncomputable abbrev lm (ol nl al kl : Addr) : Loc := [("orders", .ref ol), ("new", .ref nl), ("aims", .ref al), ("kept", .ref kl)]
theorem ints_last {vs : List Value} {f : Nat → Int} {n : Nat} (h : IntsAre vs ((List.range (n + 1)).map f)) : ∃ vs0 t, vs = vs0 ++ [.int (f n) t] := by
  rw [List.range_succ, List.map_append, List.map_singleton] at h
  obtain ⟨vs0, t, e, _⟩ := ints_split h
  exact ⟨vs0, t, e⟩
/-- «if saved(Program(orders), Program(new)) != ..» -/
theorem law_saved {name : Str} {params : Arguments} {bd : List Stmt} {scope : Scope} (hd : defAt 59 = some ⟨name, params, bd, scope⟩) {cdv : Value} {P ol nl al kl pl wl : Addr} {po o1 o2 o3 o4 : Obj} {ovs nvs pvs wvs : List Value} {os new : List Ord} {B1 B2 : List Nat} {Pq : Flow → Shared → Prop}
    (TF : TopF K T) (R : Room A 8) (H : At T Z g L (lm ol nl al kl) (cellsF P L po o1 o2 o3 o4) s) (h3 : CellIs o3 (.ref pl)) (h4 : CellIs o4 (.ref wl))
    (hol : IsListV g ol ovs) (hov : OrdsAt g ovs (os.map some)) (hnl : IsListV g nl nvs) (hnv : OrdsAt g nvs (new.map some)) (z1 : os.length ≤ 100) (z2 : new.length ≤ 100)
    (hpl : IsListV g pl pvs) (hpv : IntsAre pvs ((List.range (os.length + 1)).map (placeOf os))) (hwl : IsListV g wl wvs) (hwv : IntsAre wvs ((List.range (new.length + 1)).map (placeOf new)))
    (b1 : B1.length ≤ 3) (b10 : 0 ∈ B1) (b13 : ∀ b ∈ B1, b < 22) (c1 : ∀ i j, i < os.length → (os[i]?.map Ord.isLCall) = some true → j < os.length → goalSlot os i = placeOf os j → j ∈ B1)
    (b2 : B2.length ≤ 3) (b20 : 0 ∈ B2) (b23 : ∀ b ∈ B2, b < 22) (c2 : ∀ i j, i < new.length → (new[i]?.map Ord.isLCall) = some true → j < new.length → goalSlot new i = placeOf new j → j ∈ B2)
    (next : ∀ g' s', g.StaysIn g' → At T Z g' L (lm ol nl al kl) (cellsF P L po o1 o2 o3 o4) s' → wpAny (model prog w) A (execs (bd.drop 16) (envOfC "law" scope L 425 cdv)) Pq noE s') :
    wpAny (model prog w) A (execs (bd.drop 15) (envOfC "law" scope L 425 cdv)) Pq noE s := by
  cases (show defAt 59 = some ⟨_, _, _, _⟩ from rfl).symm.trans hd
  show wpAny _ _ (execs (Stmt.If _ _ _ _ :: _) _) _ _ _
  have hovl := hov.1
  have hnvl := hnv.1
  rw [List.length_map] at hovl hnvl
  obtain ⟨pvs0, tp, rfl⟩ := ints_last hpv
  obtain ⟨wvs0, tw, rfl⟩ := ints_last hwv
  refine wpAny_execs_cons ?_
  repeat' walk_at "y"
  refine Program_spec TF H (R.less (by decide)) hol hov z1 b1 b10 b13 c1 ?_
  clear H; intro xa g₁ s k₁ Pa H
  repeat' walk_at "y"
  refine Program_spec TF H (R.less (by decide)) (hnl.mono k₁) (hnv.mono k₁) z2 b2 b20 b23 c2 ?_
  clear H; intro xb g₂ s k₂ Pb H
  repeat' walk_at "y"
  refine saved_spec TF H (R.less (by decide)) (Pa.mono k₂) Pb (by omega) (by omega) ?_
  clear H; intro t1 g₃ s u1 u2 k₃ ht1 H
  have k03 : g.StaysIn g₃ := stays_trans k₁ (stays_trans k₂ k₃)
  repeat' walk_at "y"
  refine r_cellM 3 H rfl rfl h3 ?_
  repeat' walk_at "y"
  refine r_itemLast H (hasG (hpl.mono k03)) ?_
  repeat' walk_at "y"
  refine r_cellM 4 H rfl rfl h4 ?_
  repeat' walk_at "y"
  refine r_itemLast H (hasG (hwl.mono k03)) ?_
  repeat' walk_at "y"
  refine r_len H (hasG (hol.mono k03)) (by omega) ?_
  clear H; intro t5 s H
  repeat' walk_at "y"
  refine r_len H (hasG (hnl.mono k03)) (by omega) ?_
  clear H; intro t6 s H
  repeat' walk_at "y"
  refine r_newTuple H (Nat.le_of_ble_eq_true rfl) ?_
  clear H; intro t2 s H
  obtain ⟨g₄, k₄, hg₄, H⟩ := At.freeze (mu := cellsF P L po o1 o2 o3 o4) H
  have ht2 := tup_VD ⟨_, hg₄ _ (.head _)⟩
  rw [hovl, hnvl] at ht2
  repeat' walk_at "y"
  refine r_neV (R.less (by decide)) H (tup_VD (ht1.mono k₄)) ht2 rfl ?_
  repeat' walk_at "yfor"
  exact next g₄ s (stays_trans k03 k₄) H
end
end Mine
namespace Mine
section
variable {prog : Program} {w : World} {K : Frag} {A : Around} {T : Heap} {Z : Zed} {g : Heap} {L : Addr} {m : List (Str × Value)} {mu : List (Addr × Obj)} {s : Shared} {E : Value → Shared → Prop}
set_option maxHeartbeats 1000000
set_option maxRecDepth 100000
/-- «if told_distances(Program(new)) != [..]» -/
theorem law_told {name : Str} {params : Arguments} {bd : List Stmt} {scope : Scope} (hd : defAt 59 = some ⟨name, params, bd, scope⟩) {cdv : Value} {P ol nl al kl wl : Addr} {po o1 o2 o3 o4 : Obj} {nvs avs wvs : List Value} {new : List Ord} {aim : Nat → Nat} {B2 : List Nat} {Pq : Flow → Shared → Prop}
    (TF : TopF K T) (R : Room A 8) (H : At T Z g L (lm ol nl al kl) (cellsF P L po o1 o2 o3 o4) s) (h4 : CellIs o4 (.ref wl))
    (hnl : IsListV g nl nvs) (hnv : OrdsAt g nvs (new.map some)) (z2 : new.length ≤ 100) (hal : IsListV g al avs) (hav : IntsAre avs (goalL new aim new.length))
    (hwl : IsListV g wl wvs) (hwv : IntsAre wvs ((List.range (new.length + 1)).map (placeOf new))) (haim : ∀ i o, new[i]? = some o → jumpy o = true → aim i < new.length ∧ goalSlot new i = placeOf new (aim i))
    (b2 : B2.length ≤ 3) (b20 : 0 ∈ B2) (b23 : ∀ b ∈ B2, b < 22) (c2 : ∀ i j, i < new.length → (new[i]?.map Ord.isLCall) = some true → j < new.length → goalSlot new i = placeOf new j → j ∈ B2)
    (next : ∀ g' s', g.StaysIn g' → At T Z g' L (lm ol nl al kl) (cellsF P L po o1 o2 o3 o4) s' → wpAny (model prog w) A (execs (bd.drop 15) (envOfC "law" scope L 425 cdv)) Pq noE s') :
    wpAny (model prog w) A (execs (bd.drop 14) (envOfC "law" scope L 425 cdv)) Pq noE s := by
  cases (show defAt 59 = some ⟨_, _, _, _⟩ from rfl).symm.trans hd
  show wpAny _ _ (execs (Stmt.If _ _ _ _ :: _) _) _ _ _
  have havl := hav.length
  rw [goalL_len] at havl
  have hwvl := hwv.length
  rw [List.length_map, List.length_range] at hwvl
  refine wpAny_execs_cons ?_
  repeat' walk_at "y"
  refine Program_spec TF H (R.less (by decide)) hnl hnv z2 b2 b20 b23 c2 ?_
  clear H; intro xb g₂ s k₂ Pb H
  repeat' walk_at "y"
  refine told_spec TF H (R.less (by decide)) Pb (by omega) ?_
  clear H; intro l1 g₃ s vs1 k₃ hl1 hv1 H
  have k03 : g.StaysIn g₃ := stays_trans k₂ k₃
  repeat' walk_at "y"
  refine r_LC (cl := [("now", L + 4)]) rfl ?_
  repeat' walk_at "y"
  have hcl := (H.mus _ (.tail _ (.tail _ (.tail _ (.tail _ (.head _)))))).1
  refine comp_enum (lent := []) (fun j g₄ m₂ lent ys => m₂ = [] ∧ lent = [] ∧ g₃.StaysIn g₄ ∧ PairsAt g₄ ys (toldL new j)) (R.less (by decide)) H (hal.mono k03) (by omega) ⟨rfl, rfl, stays_refl _, PairsAt.nil⟩ ?_ ?_
  · clear H
    rintro i t v C Z₂ g₄ m₂ lent₂ D ys n₁ s hi ⟨rfl, rfl, k4, hys⟩ _ kg kz H
    refine gen_comp fun CE hCE => ?_
    have hil : i < new.length := by rw [← havl]; exact (List.getElem?_eq_some_iff.mp hi).1
    obtain ⟨x, tx, rfl, hx⟩ := hav.at i v hi
    rw [goalL_get hil, List.getElem?_eq_getElem hil] at hx
    have ho : new[i]? = some new[i] := List.getElem?_eq_getElem hil
    generalize new[i] = o at *
    have hys' : ys.length ≤ 100 := by
      rw [hys.1]
      refine Nat.le_trans (List.length_filterMap_le _ _) ?_
      simp; omega
    refine wpAny_tests_one ?_
    repeat' walk_at "y"
    · have hj : jumpy o = true := by
        cases q : jumpy o with
        | true => rfl
        | false => exfalso; simp [q] at hx; simp at hc; omega
      obtain ⟨ha1, ha2⟩ := haim i o ho hj
      have hx' : x = (aim i : Int) := by simp [hj] at hx; omega
      subst hx'
      obtain ⟨ta, hpa⟩ := ints_at hwv (places_nth (os := new) (n := new.length + 1) (j := aim i) (Nat.le_refl _) (by omega))
      obtain ⟨ti, hpi⟩ := ints_at hwv (places_nth (os := new) (n := new.length + 1) (j := i) (Nat.le_refl _) (by omega))
      refine r_cell (c := L + 4) rfl (H.hh _ _ (kz _ _ (hideAll_get _ hcl (by simp)))) h4 ?_
      repeat' walk_at "y"
      refine r_item H (hasG ((hwl.mono k03).mono k4)) (by omega) (by omega) (v := .int (placeOf new (aim i)) ta) (by simpa using hpa) ?_
      repeat' walk_at "y"
      refine r_cell (c := L + 4) rfl (H.hh _ _ (kz _ _ (hideAll_get _ hcl (by simp)))) h4 ?_
      repeat' walk_at "y"
      refine r_item H (hasG ((hwl.mono k03).mono k4)) (by omega) (by omega) (v := .int (placeOf new i) ti) (by simpa using hpi) ?_
      repeat' walk_at "y"
      refine r_newTuple H (Nat.le_of_ble_eq_true rfl) ?_
      clear H; intro tp s H
      simp only [List.cons_append, List.nil_append] at H
      obtain ⟨g₅, k₅, hg₅, H⟩ := At.freeze (mu := [(D, _)]) H
      have hds : placeOf new (aim i) - placeOf new i - 1 = o.dist := by rw [← ha2, goalSlot, ho]; show placeOf new i + 1 + o.dist - placeOf new i - 1 = o.dist; omega
      refine hCE _ _ ⟨g₅, [], [], _, H.know trivial, rfl, rfl, rfl, stays_trans k4 k₅, ?_⟩
      rw [toldL_some ho, if_pos hj, ← hds]
      exact (hys.mono k₅).snoc ⟨_, hg₅ _ (.head _)⟩
    · have hj : jumpy o = false := by
        cases q : jumpy o with
        | false => rfl
        | true => exfalso; simp [q] at hx; simp at hc; omega
      refine hCE _ _ ⟨g₄, [], [], _, H.know trivial, rfl, rfl, rfl, k4, ?_⟩
      rw [toldL_some ho, hj]
      simpa using hys
  · clear H
    rintro D g₄ m₂ lent' ys g₅ s ⟨rfl, rfl, k4, hys⟩ kg₅ hD _ H
    simp only [List.nil_append] at H
    rw [havl] at hys
    have k05 := stays_trans k4 kg₅
    repeat' walk_at "y"
    refine r_neD (R.less (by decide)) H (hl1.mono k05) hD (pairs_VDs (hv1.mono k05)) (pairs_VDs (hys.mono kg₅)) pairs_ok pairs_ok rfl ?_
    repeat' walk_at "yif"
    exact next g₅ s (stays_trans k03 k05) H
/-- «now = _law_places(new)» -/
theorem law_now {name : Str} {params : Arguments} {bd : List Stmt} {scope : Scope} (hd : defAt 59 = some ⟨name, params, bd, scope⟩) {cdv : Value} {P ol nl al kl : Addr} {po o1 o2 o3 o4 : Obj} {v0 : Option Value} {nvs : List Value} {new : List Ord} {Pq : Flow → Shared → Prop}
    (TF : TopF K T) (R : Room A 8) (H : At T Z g L (lm ol nl al kl) (cellsF P L po o1 o2 o3 o4) s) (h4 : o4.data = .cell v0)
    (hnl : IsListV g nl nvs) (hnv : OrdsAt g nvs (new.map some)) (z2 : new.length ≤ 100)
    (next : ∀ g' s' o4' wl wvs, g.StaysIn g' → At T Z g' L (lm ol nl al kl) (cellsF P L po o1 o2 o3 o4') s' → CellIs o4' (.ref wl) → IsListV g' wl wvs → IntsAre wvs ((List.range (new.length + 1)).map (placeOf new)) → wpAny (model prog w) A (execs (bd.drop 14) (envOfC "law" scope L 425 cdv)) Pq noE s') :
    wpAny (model prog w) A (execs (bd.drop 13) (envOfC "law" scope L 425 cdv)) Pq noE s := by
  cases (show defAt 59 = some ⟨_, _, _, _⟩ from rfl).symm.trans hd
  show wpAny _ _ (execs (Stmt.Assign _ _ _ :: _) _) _ _ _
  repeat' walk_at "y"
  refine places_spec TF H (R.less (by decide)) hnl hnv (by omega) ?_
  clear H; intro wl g₂ s wvs k₂ hwl hwv H
  repeat' walk_at "y"
  refine r_storeCell (i := 4) H rfl rfl h4 ?_
  clear H; intro o4' s hv H
  simp only [List.set_cons_succ, List.set_cons_zero] at H
  repeat' walk_at "yif"
  exact next g₂ s o4' wl wvs k₂ H hv hwl hwv
/-- «aims = ..; if None in aims» -/
theorem law_aims {name : Str} {params : Arguments} {bd : List Stmt} {scope : Scope} (hd : defAt 59 = some ⟨name, params, bd, scope⟩) {cdv : Value} {P ol nl kl : Addr} {po o1 o2 o3 o4 : Obj} {nvs : List Value} {new : List Ord} {aim : Nat → Nat} {Pq : Flow → Shared → Prop}
    (TF : TopF K T) (R : Room A 8) (H : At T Z g L [("orders", .ref ol), ("new", .ref nl), ("kept", .ref kl)] (cellsF P L po o1 o2 o3 o4) s)
    (hnl : IsListV g nl nvs) (hnv : OrdsAt g nvs (new.map some)) (z2 : new.length ≤ 100) (haim : ∀ i o, new[i]? = some o → jumpy o = true → aim i < new.length ∧ goalSlot new i = placeOf new (aim i))
    (next : ∀ g' s' al avs, g.StaysIn g' → At T Z g' L (lm ol nl al kl) (cellsF P L po o1 o2 o3 o4) s' → IsListV g' al avs → IntsAre avs (goalL new aim new.length) → wpAny (model prog w) A (execs (bd.drop 13) (envOfC "law" scope L 425 cdv)) Pq noE s') :
    wpAny (model prog w) A (execs (bd.drop 11) (envOfC "law" scope L 425 cdv)) Pq noE s := by
  cases (show defAt 59 = some ⟨_, _, _, _⟩ from rfl).symm.trans hd
  show wpAny _ _ (execs (Stmt.Assign _ _ _ :: _) _) _ _ _
  repeat' walk_at "y"
  refine new_goals_spec TF H (R.less (by decide)) hnl hnv z2 haim ?_
  clear H; intro al g₂ s avs k₂ hal hav H
  repeat' walk_at "y"
  refine r_noneIn (R.less (by decide)) H hal hav ?_
  repeat' ((fail_if_success (with_reducible show wpAny _ _ (execs (Stmt.Assign _ _ _ :: _) _) _ _ _)); walk_at "y")
  exact next g₂ s al avs k₂ (H.know (by walk_at "k")) hal hav
end
end Mine
namespace Mine
theorem shows_snoc {c : List (Option Ord)} {j : Nat} {r : Option Ord} (h : c[j]? = some r) : shows (c.take (j + 1)) = shows (c.take j) ++ (match r.bind shownD with | none => [] | some d => [d]) := by
  rw [List.take_add_one, h]
  unfold shows
  rw [List.filterMap_append]
  show _ ++ List.filterMap (fun r : Option Ord => r.bind shownD) [r] = _
  rw [List.filterMap_cons]
  cases r.bind shownD <;> rfl
theorem shown_some {o : Ord} (h : o.isJump = false) : ∃ d, shownD o = some d := by
  unfold shownD; rw [if_neg (by simp [h])]; split
  · exact ⟨_, rfl⟩
  · exact ⟨_, rfl⟩
section
variable {prog : Program} {w : World} {K : Frag} {A : Around} {T : Heap} {Z : Zed} {g : Heap} {L : Addr} {m : List (Str × Value)} {mu : List (Addr × Obj)} {s : Shared} {E : Value → Shared → Prop}
set_option maxHeartbeats 1000000
set_option maxRecDepth 100000
noncomputable abbrev lm3 (ol nl kl : Addr) : Loc := [("orders", .ref ol), ("new", .ref nl), ("kept", .ref kl)]
/-- «if [row for row in new if ..] != [] or ..» -/
theorem law_idle {name : Str} {params : Arguments} {bd : List Stmt} {scope : Scope} (hd : defAt 59 = some ⟨name, params, bd, scope⟩) {cdv : Value} {P ol nl kl : Addr} {po o1 o2 o3 o4 : Obj} {nvs : List Value} {new : List Ord} {Pq : Flow → Shared → Prop}
    (TF : TopF K T) (R : Room A 8) (H : At T Z g L (lm3 ol nl kl) (cellsF P L po o1 o2 o3 o4) s)
    (hnl : IsListV g nl nvs) (hnv : OrdsAt g nvs (new.map some)) (z2 : new.length ≤ 100) (hno : ∀ (i : Nat) (o : Ord), new[i]? = some o → Kind o ∧ (o.isJump = true → o.dist ≠ 0))
    (next : ∀ g' s', g.StaysIn g' → At T Z g' L (lm3 ol nl kl) (cellsF P L po o1 o2 o3 o4) s' → wpAny (model prog w) A (execs (bd.drop 11) (envOfC "law" scope L 425 cdv)) Pq noE s') :
    wpAny (model prog w) A (execs (bd.drop 10) (envOfC "law" scope L 425 cdv)) Pq noE s := by
  cases (show defAt 59 = some ⟨_, _, _, _⟩ from rfl).symm.trans hd
  show wpAny _ _ (execs (Stmt.If _ _ _ _ :: _) _) _ _ _
  have hnvl := hnv.1
  rw [List.length_map] at hnvl
  refine wpAny_execs_cons ?_
  repeat' walk_at "y"
  refine r_LC (cl := []) rfl ?_
  repeat' walk_at "y"
  refine comp_list (lent := []) (fun j g₂ m₂ lent ys => m₂ = [] ∧ lent = [] ∧ g = g₂ ∧ ys = []) (R.less (by decide)) H hnl (by omega) ⟨rfl, rfl, rfl, rfl⟩ ?_ ?_
  · clear H
    rintro i v C Z₂ g₂ m₂ lent₂ D ys n₁ s hi ⟨rfl, rfl, rfl, rfl⟩ _ kg kz H
    refine gen_comp fun CE hCE => ?_
    have hil : i < new.length := by rw [← hnvl]; exact (List.getElem?_eq_some_iff.mp hi).1
    have ho : new[i]? = some new[i] := List.getElem?_eq_getElem hil
    generalize new[i] = o at *
    obtain ⟨x, hx, hO⟩ := hnv.2 i (some o) (by rw [List.getElem?_map, ho]; rfl)
    rw [hx] at hi; cases hi
    obtain ⟨K', hnd⟩ := hno i o ho
    refine wpAny_tests_one ?_
    repeat' walk_at "y"
    · exact absurd (by simpa using hc) (hnd (by assumption))
    · exact hCE _ _ ⟨g, [], [], _, H.know trivial, rfl, rfl, rfl, rfl, rfl⟩
    · exact hCE _ _ ⟨g, [], [], _, H.know trivial, rfl, rfl, rfl, rfl, rfl⟩
  clear H
  rintro D g₂ m₂ lent' ys g₃ s ⟨rfl, rfl, rfl, rfl⟩ k₃ hD _ H
  simp only [List.nil_append] at H
  repeat' walk_at "y"
  refine r_newList H (by decide) ?_
  clear H; intro el s H
  simp only [List.cons_append, List.nil_append] at H
  refine r_neInts (ns := []) (ms := []) (R.less (by decide)) H (hasG hD) (hasM 5 rfl) .nil .nil ?_
  rw [decide_eq_true rfl]
  have H := At.drop (mu := cellsF P L po o1 o2 o3 o4) (mu' := [(el, LO [] 0)]) H
  repeat' walk_at "y"
  refine r_LC (cl := []) rfl ?_
  repeat' walk_at "y"
  refine comp_list (lent := []) (fun j g₂ m₂ lent ys => m₂ = [] ∧ lent = [] ∧ g₃ = g₂ ∧ ys = []) (R.less (by decide)) H (hnl.mono k₃) (by omega) ⟨rfl, rfl, rfl, rfl⟩ ?_ ?_
  · clear H hD
    rintro i v C Z₂ g₂ m₂ lent₂ D ys n₁ s hi ⟨rfl, rfl, rfl, rfl⟩ _ kg kz H
    refine gen_comp fun CE hCE => ?_
    have hil : i < new.length := by rw [← hnvl]; exact (List.getElem?_eq_some_iff.mp hi).1
    have ho : new[i]? = some new[i] := List.getElem?_eq_getElem hil
    generalize new[i] = o at *
    obtain ⟨x, hx, hO⟩ := (hnv.mono k₃).2 i (some o) (by rw [List.getElem?_map, ho]; rfl)
    rw [hx] at hi; cases hi
    obtain ⟨K', hnd⟩ := hno i o ho
    refine wpAny_tests_one ?_
    repeat' walk_at "y"
    refine class_of_spec TF H (R.less (by decide)) hO K'.range ?_
    clear H; intro tc s H
    repeat' walk_at "y"
    · exact absurd (K'.far_off (by assumption)) (by simpa using hc)
    · exact hCE _ _ ⟨g₃, [], [], _, H.know trivial, rfl, rfl, rfl, rfl, rfl⟩
    · exact hCE _ _ ⟨g₃, [], [], _, H.know trivial, rfl, rfl, rfl, rfl, rfl⟩
  clear H hD
  rintro D g₂ m₂ lent' ys g₄ s ⟨rfl, rfl, rfl, rfl⟩ k₄ hD _ H
  simp only [List.nil_append] at H
  repeat' walk_at "y"
  refine r_newList H (by decide) ?_
  clear H; intro el2 s H
  simp only [List.cons_append, List.nil_append] at H
  refine r_neInts (ns := []) (ms := []) (R.less (by decide)) H (hasG hD) (hasM 5 rfl) .nil .nil ?_
  rw [decide_eq_true rfl]
  have H := At.drop (mu := cellsF P L po o1 o2 o3 o4) (mu' := [(el2, LO [] 0)]) H
  repeat' ((fail_if_success (with_reducible show wpAny _ _ (execs (Stmt.Assign _ _ _ :: _) _) _ _ _)); walk_at "y")
  exact next g₄ s (stays_trans k₃ k₄) H
/-- «if [_law_shown(row) for row in new ..] != [..]» -/
theorem law_shows {name : Str} {params : Arguments} {bd : List Stmt} {scope : Scope} (hd : defAt 59 = some ⟨name, params, bd, scope⟩) {cdv : Value} {P ol nl kl : Addr} {po o1 o2 o3 o4 : Obj} {nvs kvs : List Value} {new : List Ord} {ks : List (Option Ord)} {Pq : Flow → Shared → Prop}
    (TF : TopF K T) (R : Room A 8) (H : At T Z g L (lm3 ol nl kl) (cellsF P L po o1 o2 o3 o4) s)
    (hnl : IsListV g nl nvs) (hnv : OrdsAt g nvs (new.map some)) (z2 : new.length ≤ 100) (hkl : IsListV g kl kvs) (hkv : OrdsAt g kvs ks) (z3 : ks.length ≤ 100) (same : shows (new.map some) = shows ks)
    (next : ∀ g' s', g.StaysIn g' → At T Z g' L (lm3 ol nl kl) (cellsF P L po o1 o2 o3 o4) s' → wpAny (model prog w) A (execs (bd.drop 10) (envOfC "law" scope L 425 cdv)) Pq noE s') :
    wpAny (model prog w) A (execs (bd.drop 9) (envOfC "law" scope L 425 cdv)) Pq noE s := by
  cases (show defAt 59 = some ⟨_, _, _, _⟩ from rfl).symm.trans hd
  show wpAny _ _ (execs (Stmt.If _ _ _ _ :: _) _) _ _ _
  have hnvl := hnv.1
  have hkvl := hkv.1
  rw [List.length_map] at hnvl
  refine wpAny_execs_cons ?_
  repeat' walk_at "y"
  refine r_LC (cl := []) rfl ?_
  repeat' walk_at "y"
  refine comp_list (lent := []) (fun j g₂ m₂ lent ys => m₂ = [] ∧ lent = [] ∧ g.StaysIn g₂ ∧ VDs g₂ ys (shows ((new.map some).take j))) (R.less (by decide)) H hnl (by omega) ⟨rfl, rfl, stays_refl _, .nil⟩ ?_ ?_
  · clear H
    rintro i v C Z₂ g₂ m₂ lent₂ D ys n₁ s hi ⟨rfl, rfl, k₂, hys⟩ _ kg kz H
    refine gen_comp fun CE hCE => ?_
    have hil : i < new.length := by rw [← hnvl]; exact (List.getElem?_eq_some_iff.mp hi).1
    have ho : new[i]? = some new[i] := List.getElem?_eq_getElem hil
    generalize new[i] = o at *
    have ho' : (new.map some)[i]? = some (some o) := by rw [List.getElem?_map, ho]; rfl
    obtain ⟨x, hx, hO⟩ := (hnv.mono k₂).2 i (some o) ho'
    rw [hx] at hi; cases hi
    refine wpAny_tests_one ?_
    repeat' walk_at "y"
    · have hj : o.isJump = false := by simpa using hc
      obtain ⟨d, hsd⟩ := shown_some hj
      refine shown_spec TF H (R.less (by decide)) hO ?_
      clear H; intro v g₃ s k₃ hsh H
      rw [hsd] at hsh
      obtain ⟨a, rfl, hvd⟩ := hsh
      refine hCE _ _ ⟨g₃, [], [], _, H.know trivial, rfl, rfl, rfl, stays_trans k₂ k₃, ?_⟩
      rw [shows_snoc ho']
      show VDs _ _ (_ ++ (match shownD o with | none => [] | some d => [d]))
      rw [hsd]
      exact (hys.mono k₃).snoc hvd
    · have hj : o.isJump = true := by simpa using hc
      refine hCE _ _ ⟨g₂, [], [], _, H.know trivial, rfl, rfl, rfl, k₂, ?_⟩
      rw [shows_snoc ho']
      show VDs _ _ (_ ++ (match shownD o with | none => [] | some d => [d]))
      rw [shownD_jump hj]
      simpa using hys
  clear H
  rintro D1 g₂ m₂ lent' ys1 g₃ s ⟨rfl, rfl, k₂, hys1⟩ k₃ hD1 _ H
  simp only [List.nil_append] at H
  rw [hnvl, List.take_of_length_le (by simp)] at hys1
  have k13 := stays_trans k₂ k₃
  repeat' walk_at "y"
  refine r_LC (cl := []) rfl ?_
  repeat' walk_at "y"
  refine comp_list (lent := []) (fun j g₄ m₂ lent ys => m₂ = [] ∧ lent = [] ∧ g₃.StaysIn g₄ ∧ VDs g₄ ys (shows (ks.take j))) (R.less (by decide)) H (hkl.mono k13) (by omega) ⟨rfl, rfl, stays_refl _, .nil⟩ ?_ ?_
  · clear H
    rintro i v C Z₂ g₄ m₂ lent₂ D ys n₁ s hi ⟨rfl, rfl, k₄, hys⟩ _ kg kz H
    refine gen_comp fun CE hCE => ?_
    have hil : i < ks.length := by rw [← hkvl]; exact (List.getElem?_eq_some_iff.mp hi).1
    rcases ((hkv.mono k13).mono k₄).get hil with ⟨e, ev⟩ | ⟨o, x, e, ev, hO⟩
    · rw [ev] at hi; cases hi
      refine wpAny_tests_one ?_
      repeat' walk_at "y"
      refine hCE _ _ ⟨g₄, [], [], _, H.know trivial, rfl, rfl, rfl, k₄, ?_⟩
      rw [shows_snoc e]
      simpa using hys
    · rw [ev] at hi; cases hi
      refine wpAny_tests_one ?_
      repeat' walk_at "y"
      · have hj : o.isJump = false := by simpa using hc
        obtain ⟨d, hsd⟩ := shown_some hj
        refine shown_spec TF H (R.less (by decide)) hO ?_
        clear H; intro v g₅ s k₅ hsh H
        rw [hsd] at hsh
        obtain ⟨a, rfl, hvd⟩ := hsh
        refine hCE _ _ ⟨g₅, [], [], _, H.know trivial, rfl, rfl, rfl, stays_trans k₄ k₅, ?_⟩
        rw [shows_snoc e]
        show VDs _ _ (_ ++ (match shownD o with | none => [] | some d => [d]))
        rw [hsd]
        exact (hys.mono k₅).snoc hvd
      · have hj : o.isJump = true := by simpa using hc
        refine hCE _ _ ⟨g₄, [], [], _, H.know trivial, rfl, rfl, rfl, k₄, ?_⟩
        rw [shows_snoc e]
        show VDs _ _ (_ ++ (match shownD o with | none => [] | some d => [d]))
        rw [shownD_jump hj]
        simpa using hys
  clear H
  rintro D2 g₄ m₂ lent' ys2 g₅ s ⟨rfl, rfl, k₄, hys2⟩ k₅ hD2 _ H
  simp only [List.nil_append] at H
  rw [hkvl, List.take_length] at hys2
  have k35 := stays_trans k₄ k₅
  repeat' walk_at "y"
  refine r_neD (R.less (by decide)) H (hD1.mono k35) hD2 ((hys1.mono k₃).mono k35) (hys2.mono k₅) shows_ok shows_ok same ?_
  repeat' walk_at "yif"
  exact next g₅ s (stays_trans k13 k35) H
end
end Mine
namespace Mine
/-- the orders as the law builds them -/
noncomputable def ordL (ws : List Str) (gs : List Int) : Nat → List Ord
  | 0 => []
  | j + 1 => ordL ws gs j ++ [mkOrd (ws.getD j "") j (if gs.getD j 0 < 0 then 0 else wplace ws (gs.getD j 0).toNat - wplace ws j - 1)]
theorem ordL_len {ws : List Str} {gs : List Int} : ∀ j, (ordL ws gs j).length = j
  | 0 => rfl
  | j + 1 => by rw [ordL, List.length_append, ordL_len j]; rfl
theorem ordL_get {ws : List Str} {gs : List Int} {i : Nat} : ∀ {n : Nat}, i < n → (ordL ws gs n)[i]? = some (mkOrd (ws.getD i "") i (if gs.getD i 0 < 0 then 0 else wplace ws (gs.getD i 0).toNat - wplace ws i - 1))
  | n + 1, h => by
    rcases Nat.lt_or_eq_of_le (Nat.le_of_lt_succ h) with q | q
    · rw [ordL, List.getElem?_append_left (by rw [ordL_len]; exact q), ordL_get q]
    · subst q
      rw [ordL, List.getElem?_append_right (by rw [ordL_len]; exact Nat.le_refl _), ordL_len, Nat.sub_self]; rfl
theorem goal_range {ws : List Str} {bs : List Nat} (S : Shape ws bs) {i : Nat} {w : Str} {x : Int} (G : GoalOK ws bs i w x) : x < 0 ∨ ∃ y : Nat, x = (y : Int) ∧ y < ws.length := by
  by_cases h1 : w = "call"
  · obtain ⟨b, hb, e⟩ := G.1 h1
    exact .inr ⟨b, e, S.lt b hb⟩
  by_cases h2 : w ∈ (["branch", "jump", "far"] : List Str)
  · obtain ⟨low, high, y, e, _, _, _, h4, _, _, h7⟩ := G.2.1 h2
    refine .inr ⟨y, e, ?_⟩
    rcases h4 with q | q
    · have := S.lt _ q; omega
    · omega
  · left
    rw [G.2.2 fun h => by rcases List.mem_cons.mp h with q | q; exact h1 q; exact h2 q]
    decide
section
variable {prog : Program} {w : World} {K : Frag} {A : Around} {T : Heap} {Z : Zed} {g : Heap} {L : Addr} {m : List (Str × Value)} {mu : List (Addr × Obj)} {s : Shared} {E : Value → Shared → Prop}
set_option maxHeartbeats 1000000
set_option maxRecDepth 100000
/-- «new = laid_out(Program(orders), kept)» -/
theorem law_new {name : Str} {params : Arguments} {bd : List Stmt} {scope : Scope} (hd : defAt 59 = some ⟨name, params, bd, scope⟩) {cdv : Value} {P ol kl : Addr} {po o1 o2 o3 o4 : Obj} {ovs kvs : List Value} {ws : List Str} {bs : List Nat} {gs : List Int} {os : List Ord} {ks : List (Option Ord)} {es : List Int} {Pq : Flow → Shared → Prop}
    (TF : TopF K T) (R : Room A 8) (H : At T Z g L [("orders", .ref ol), ("kept", .ref kl)] (cellsF P L po o1 o2 o3 o4) s) (X : Ctx ws bs gs os ks es)
    (hol : IsListV g ol ovs) (hov : OrdsAt g ovs (os.map some)) (hkl : IsListV g kl kvs) (hkv : OrdsAt g kvs ks)
    (next : ∀ g' s' nl nvs c, g.StaysIn g' → At T Z g' L (lm3 ol nl kl) (cellsF P L po o1 o2 o3 o4) s' → IsListV g' nl nvs → OrdsAt g' nvs ((newL c gs ws.length).map some) → Rem (tgtOf gs) ks c → (∀ i, ¬ IdleAt (tgtOf gs) c i) → wpAny (model prog w) A (execs (bd.drop 9) (envOfC "law" scope L 425 cdv)) Pq noE s') :
    wpAny (model prog w) A (execs (bd.drop 8) (envOfC "law" scope L 425 cdv)) Pq noE s := by
  cases (show defAt 59 = some ⟨_, _, _, _⟩ from rfl).symm.trans hd
  show wpAny _ _ (execs (Stmt.Assign _ _ _ :: _) _) _ _ _
  have hz := X.small
  have hol2 := X.ol
  repeat' walk_at "y"
  refine Program_spec (B := bs) TF H (R.less (by decide)) hol hov (by omega) X.b3 X.zero (fun b hb => by have := X.S.lt b hb; omega) X.orig_call ?_
  clear H; intro px g₁ s k₁ Pa H
  repeat' walk_at "y"
  refine laid_out_spec (tgt := tgtOf gs) TF H (R.less (by decide)) Pa (hkl.mono k₁) (hkv.mono k₁) (by omega) (by rw [X.kl, X.ol]) X.hg (fun c hR hF => X.hn hR) ?_
  clear H; intro nl g₂ s c nvs k₂ hnl hnv hR hF H
  rw [X.ol] at hnv
  repeat' walk_at "yif"
  exact next g₂ s nl nvs c (stays_trans k₁ k₂) (H.know (by walk_at "k")) hnl hnv hR hF
/-- «kept = _law_kept(pen, orders, words, ends)» -/
theorem law_kept {name : Str} {params : Arguments} {bd : List Stmt} {scope : Scope} (hd : defAt 59 = some ⟨name, params, bd, scope⟩) {cdv : Value} {P sc ol wl el : Addr} {n : Nat} {po o1 o2 o3 o4 : Obj} {ovs wvs evs : List Value} {ws : List Str} {os : List Ord} {es : List Int} {Pq : Flow → Shared → Prop}
    (TF : TopF K T) (R : Room A 8) (H : At T Z g L [("words", .ref wl), ("orders", .ref ol), ("ends", .ref el)] (cellsF P L po o1 o2 o3 o4) s) (h1 : CellIs o1 (.ref P)) (hsc : ScriptIs g sc) (hp : PenIs sc n po) (hn : n ≤ 1000)
    (hol : IsListV g ol ovs) (hov : OrdsAt g ovs (os.map some)) (hwl : IsListV g wl wvs) (hws : StrsAre wvs ws) (hel : IsListV g el evs) (hes : IntsAre evs es) (hlen : os.length = ws.length) (hz : ws.length ≤ 100)
    (next : ∀ g' s' po' kl kvs ks, g.StaysIn g' → At T Z g' L [("orders", .ref ol), ("kept", .ref kl)] (cellsF P L po' o1 o2 o3 o4) s' → PenIs sc (n + 100) po' → IsListV g' kl kvs → OrdsAt g' kvs ks → ks.length = ws.length → (∀ i k, ks[i]? = some k → KeptOK ws os es i k) → wpAny (model prog w) A (execs (bd.drop 8) (envOfC "law" scope L 425 cdv)) Pq noE s') :
    wpAny (model prog w) A (execs (bd.drop 7) (envOfC "law" scope L 425 cdv)) Pq noE s := by
  cases (show defAt 59 = some ⟨_, _, _, _⟩ from rfl).symm.trans hd
  show wpAny _ _ (execs (Stmt.Assign _ _ _ :: _) _) _ _ _
  repeat' walk_at "y"
  refine r_cellM 1 H rfl rfl h1 ?_
  repeat' walk_at "y"
  refine kept_spec TF H (R.less (by decide)) hsc hp (by omega) hol hov hwl hws hel hes hlen hz ?_
  clear H; intro kl kvs ks po' g₂ s k₂ hkl hkv hkn hok hp' H
  repeat' ((fail_if_success (with_reducible show wpAny _ _ (execs (Stmt.Assign _ _ _ :: _) _) _ _ _)); walk_at "y")
  exact next g₂ s po' kl kvs ks k₂ (H.know (by walk_at "k")) (hp'.more (by omega)) hkl hkv hkn hok
end
end Mine
namespace Mine
section
variable {prog : Program} {w : World} {K : Frag} {A : Around} {T : Heap} {Z : Zed} {g : Heap} {L : Addr} {m : List (Str × Value)} {mu : List (Addr × Obj)} {s : Shared} {E : Value → Shared → Prop}
set_option maxHeartbeats 1000000
set_option maxRecDepth 100000
noncomputable abbrev endsL (ws : List Str) (bs : List Nat) : List Int := ((bs.map fun b : Nat => (b : Int)).drop 1).map (fun b => b - 1) ++ [(ws.length : Int) - 1]
/-- «ends = [begin - 1 for begin in begins[1:]] + [len(words) - 1]» -/
theorem law_ends {name : Str} {params : Arguments} {bd : List Stmt} {scope : Scope} (hd : defAt 59 = some ⟨name, params, bd, scope⟩) {cdv : Value} {P ol wl bl : Addr} {po o1 o2 o3 o4 : Obj} {wvs bvs : List Value} {ws : List Str} {bs : List Nat} {Pq : Flow → Shared → Prop}
    (TF : TopF K T) (R : Room A 8) (H : At T Z g L [("words", .ref wl), ("begins", .ref bl), ("orders", .ref ol)] (cellsF P L po o1 o2 o3 o4) s)
    (hwl : IsListV g wl wvs) (hws : StrsAre wvs ws) (hbl : IsListV g bl bvs) (hbs : IntsAre bvs (bs.map fun b : Nat => (b : Int))) (hz : ws.length ≤ 100) (hz2 : bs.length ≤ 3)
    (next : ∀ g' s' el evs, g.StaysIn g' → At T Z g' L [("words", .ref wl), ("orders", .ref ol), ("ends", .ref el)] (cellsF P L po o1 o2 o3 o4) s' → IsListV g' el evs → IntsAre evs (endsL ws bs) → wpAny (model prog w) A (execs (bd.drop 7) (envOfC "law" scope L 425 cdv)) Pq noE s') :
    wpAny (model prog w) A (execs (bd.drop 6) (envOfC "law" scope L 425 cdv)) Pq noE s := by
  cases (show defAt 59 = some ⟨_, _, _, _⟩ from rfl).symm.trans hd
  show wpAny _ _ (execs (Stmt.Assign _ _ _ :: _) _) _ _ _
  have hwvl := hws.length
  have hbvl := hbs.length
  rw [List.length_map] at hbvl
  repeat' walk_at "y"
  refine r_LC (cl := []) rfl ?_
  repeat' walk_at "y"
  refine r_sliceList H (hasG hbl) (by omega) (.int _ _) .none ?_
  clear H; intro D0 s H
  have hsl := kmk_from (x := 1) hbs (by decide)
  generalize hds : (slicePick bvs.toArray (some 1) none none).toList = dvs at *
  obtain ⟨g₁, k₁, hg₁, H⟩ := At.freeze (mu := cellsF P L po o1 o2 o3 o4) H
  have hD0 : IsListV g₁ D0 dvs := ⟨_, hg₁ _ (.head _)⟩
  have hdl := hsl.length
  rw [List.length_drop, List.length_map] at hdl
  refine comp_list (lent := []) (fun j g₂ m₂ lent ys => m₂ = [] ∧ lent = [] ∧ g₁ = g₂ ∧ IntsAre ys ((((bs.map fun b : Nat => (b : Int)).drop (1 : Int).toNat).take j).map (fun b => b - 1))) (R.less (by decide)) H hD0 (by omega) ⟨rfl, rfl, rfl, .nil⟩ ?_ ?_
  · clear H
    rintro i v C Z₂ g₂ m₂ lent₂ D ys n₁ s hi ⟨rfl, rfl, rfl, hys⟩ _ kg kz H
    refine gen_comp fun CE hCE => ?_
    obtain ⟨x, tx, rfl, hx⟩ := hsl.at i v hi
    refine wpAny_tests_nil ?_
    repeat' walk_at "y"
    refine hCE _ _ ⟨g₁, [], [], _, H.know trivial, rfl, rfl, rfl, rfl, ?_⟩
    rw [List.take_add_one, hx, List.map_append]
    exact hys.append (.cons _ _ .nil)
  clear H
  rintro D g₂ m₂ lent' ys g₃ s ⟨rfl, rfl, rfl, hys⟩ k₃ hD _ H
  simp only [List.nil_append] at H
  rw [List.take_of_length_le (by rw [List.length_drop, List.length_map]; omega)] at hys
  have k13 := stays_trans k₁ k₃
  repeat' walk_at "y"
  refine r_len H (hasG (hwl.mono k13)) (by omega) ?_
  clear H; intro t6 s H
  repeat' walk_at "y"
  refine r_newList H (Nat.le_of_ble_eq_true rfl) ?_
  clear H; intro el2 s H
  simp only [List.cons_append, List.nil_append] at H
  have hyl := hys.length
  rw [List.length_map, List.length_drop, List.length_map] at hyl
  refine r_addList H (hasG hD) (hasM 5 rfl) (by simp; omega) ?_
  clear H; intro el s H
  repeat' ((fail_if_success (with_reducible show wpAny _ _ (execs (Stmt.Assign _ _ _ :: _) _) _ _ _)); walk_at "y")
  obtain ⟨g₄, k₄, hg₄, H⟩ := At.freeze (mu := cellsF P L po o1 o2 o3 o4) (mu' := [(el2, _), (el, _)]) H
  refine next g₄ s el _ (stays_trans k13 k₄) (H.know (by walk_at "k")) ⟨_, hg₄ _ (.tail _ (.head _))⟩ ?_
  rw [hwvl]
  exact hys.append (.cons _ _ .nil)
/-- «orders = [..]» -/
theorem law_orders {name : Str} {params : Arguments} {bd : List Stmt} {scope : Scope} (hd : defAt 59 = some ⟨name, params, bd, scope⟩) {cdv : Value} {P wl bl gl pl : Addr} {po o1 o2 o3 o4 : Obj} {wvs gvs pvs : List Value} {ws : List Str} {bs : List Nat} {gs : List Int} {Pq : Flow → Shared → Prop}
    (TF : TopF K T) (R : Room A 8) (H : At T Z g L [("words", .ref wl), ("begins", .ref bl)] (cellsF P L po o1 o2 o3 o4) s) (h2 : CellIs o2 (.ref gl)) (h3 : CellIs o3 (.ref pl))
    (hwl : IsListV g wl wvs) (hws : StrsAre wvs ws) (hgl : IsListV g gl gvs) (hgs : IntsAre gvs gs) (hpl : IsListV g pl pvs) (hps : IntsAre pvs ((List.range (ws.length + 1)).map (wplace ws))) (hz : ws.length ≤ 99) (S : Shape ws bs) (hgn : gs.length = ws.length)
    (hok : ∀ i w x, ws[i]? = some w → gs[i]? = some x → GoalOK ws bs i w x)
    (next : ∀ g' s' ol ovs, g.StaysIn g' → At T Z g' L [("words", .ref wl), ("begins", .ref bl), ("orders", .ref ol)] (cellsF P L po o1 o2 o3 o4) s' → IsListV g' ol ovs → OrdsAt g' ovs ((ordL ws gs ws.length).map some) → wpAny (model prog w) A (execs (bd.drop 6) (envOfC "law" scope L 425 cdv)) Pq noE s') :
    wpAny (model prog w) A (execs (bd.drop 5) (envOfC "law" scope L 425 cdv)) Pq noE s := by
  cases (show defAt 59 = some ⟨_, _, _, _⟩ from rfl).symm.trans hd
  show wpAny _ _ (execs (Stmt.Assign _ _ _ :: _) _) _ _ _
  have hwvl := hws.length
  have hgvl := hgs.length
  have hpvl := hps.length
  rw [List.length_map, List.length_range] at hpvl
  repeat' walk_at "y"
  refine r_LCA (cl := [("places", L + 3), ("goals", L + 2)]) rfl ?_
  repeat' walk_at "y"
  have hc2 := (H.mus _ (.tail _ (.tail _ (.head _)))).1
  have hc3 := (H.mus _ (.tail _ (.tail _ (.tail _ (.head _))))).1
  have nthp : ∀ j, j ≤ ws.length → ∃ t, pvs[j]? = some (.int (wplace ws j) t) := fun j hj => ints_at hps (by rw [List.getElem?_map, List.getElem?_range (by omega)]; rfl)
  refine comp_enumG (lent := []) (fun j g₂ m₂ lent ys => m₂ = [] ∧ lent = [] ∧ g.StaysIn g₂ ∧ OrdsAt g₂ ys ((ordL ws gs j).map some)) (R.less (by decide)) H hwl (by omega) ⟨rfl, rfl, stays_refl _, ⟨rfl, fun i o e => by simp [ordL] at e⟩⟩ ?_ ?_
  · clear H
    rintro i t v C Z₂ g₂ m₂ lent₂ D ys n₁ s hi ⟨rfl, rfl, k₂, hys⟩ _ kg kz H
    refine gen_comp fun CE hCE => ?_
    have hil : i < ws.length := by rw [← hwvl]; exact (List.getElem?_eq_some_iff.mp hi).1
    have hwi : ws[i]? = some ws[i] := List.getElem?_eq_getElem hil
    have hgi : gs[i]? = some (gs[i]'(by omega)) := List.getElem?_eq_getElem (by omega)
    obtain ⟨tw, hwv⟩ := hws.get i _ hwi
    rw [hwv] at hi; cases hi
    have hr := goal_range S (hok i _ _ hwi hgi)
    have e1 : ws.getD i "" = ws[i] := by rw [List.getD_eq_getElem?_getD, hwi]; rfl
    have e2 : gs.getD i 0 = gs[i]'(by omega) := by rw [List.getD_eq_getElem?_getD, hgi]; rfl
    obtain ⟨tg, hgv⟩ := hgs.get i _ hgi
    generalize gs[i]'(by omega) = x at *
    generalize ws[i] = wd at *
    have fin : ∀ y g₃ s n₂ away m₃, g₂.StaysIn g₃ → IsOrder g₃ y (mkOrd wd i away) → away = (if x < 0 then 0 else wplace ws x.toNat - wplace ws i - 1) → At T Z₂ g₃ C m₃ [(D, LO ys n₂)] s →
        CompEnd T Z₂ C D [] (fun g₂ m₂ lent ys => m₂ = [] ∧ lent = [] ∧ g.StaysIn g₂ ∧ OrdsAt g₂ ys ((ordL ws gs (i + 1)).map some)) ys [.ref y] s := fun y g₃ s n₂ away m₃ k₃ hO ha H =>
      ⟨g₃, [], [], n₂, H.know trivial, rfl, rfl, rfl, stays_trans k₂ k₃, by rw [ordL, e1, e2, ← ha]; exact (hys.mono k₃).snoc hO⟩
    refine wpAny_tests_nil ?_
    repeat' walk_at "y"
    refine r_cell (c := L + 2) rfl (H.hh _ _ (kz _ _ (hideAll_get _ hc2 (by simp)))) h2 ?_
    repeat' walk_at "y"
    refine r_item H (hasG (hgl.mono k₂)) (by omega) (by omega) (v := .int x tg) (by simpa using hgv) ?_
    repeat' walk_at "y"
    · have hx : x < 0 := by simpa using hc
      refine order_spec TF H (R.less (by decide)) (by omega) ?_
      clear H; intro y g₃ s k₃ hO H
      exact hCE _ _ (fin y g₃ s _ _ _ k₃ hO (by rw [if_pos hx]) H)
    · have hx : ¬ x < 0 := by simpa using hc
      obtain ⟨yy, rfl, hyl⟩ := hr.resolve_left hx
      obtain ⟨ty, hpy⟩ := nthp yy (by omega)
      obtain ⟨ti, hpi⟩ := nthp i (by omega)
      refine r_cell (c := L + 3) rfl (H.hh _ _ (kz _ _ (hideAll_get _ hc3 (by simp)))) h3 ?_
      repeat' walk_at "y"
      refine r_cell (c := L + 2) rfl (H.hh _ _ (kz _ _ (hideAll_get _ hc2 (by simp)))) h2 ?_
      repeat' walk_at "y"
      refine r_item H (hasG (hgl.mono k₂)) (by omega) (by omega) (v := .int yy tg) (by simpa using hgv) ?_
      repeat' walk_at "y"
      refine r_item H (hasG (hpl.mono k₂)) (by omega) (by omega) (v := .int (wplace ws yy) ty) (by simpa using hpy) ?_
      repeat' walk_at "y"
      refine r_cell (c := L + 3) rfl (H.hh _ _ (kz _ _ (hideAll_get _ hc3 (by simp)))) h3 ?_
      repeat' walk_at "y"
      refine r_item H (hasG (hpl.mono k₂)) (by omega) (by omega) (v := .int (wplace ws i) ti) (by simpa using hpi) ?_
      repeat' walk_at "y"
      refine order_spec TF H (R.less (by decide)) (by omega) ?_
      clear H; intro y g₃ s k₃ hO H
      exact hCE _ _ (fin y g₃ s _ _ _ k₃ hO (by rw [if_neg hx, Int.toNat_natCast]) H)
  · clear H
    rintro D C g₂ m₂ lent' ys g₃ s ⟨rfl, rfl, k₂, hys⟩ k₃ hD _ H off hn
    refine use_name (L := L) (lent' := []) (mu := cellsF P L po o1 o2 o3 o4) (by rfl) (by rfl) (by rfl) (fun s H => ?_) H off hn
    clear off hn
    simp only [List.nil_append] at H
    rw [hwvl] at hys
    repeat' ((fail_if_success (with_reducible show wpAny _ _ (execs (Stmt.Assign _ _ _ :: _) _) _ _ _)); walk_at "y")
    exact next g₃ s D ys (stays_trans k₂ k₃) (H.know (by walk_at "k")) hD (hys.mono k₃)
end
end Mine
namespace Mine
section
variable {prog : Program} {w : World} {K : Frag} {A : Around} {T : Heap} {Z : Zed} {g : Heap} {L : Addr} {m : List (Str × Value)} {mu : List (Addr × Obj)} {s : Shared} {E : Value → Shared → Prop}
set_option maxHeartbeats 1000000
set_option maxRecDepth 100000
noncomputable abbrev lm0 (wl bl : Addr) : Loc := [("words", .ref wl), ("begins", .ref bl)]
/-- «places = [0]; for word in words: ..» -/
theorem law_places {name : Str} {params : Arguments} {bd : List Stmt} {scope : Scope} (hd : defAt 59 = some ⟨name, params, bd, scope⟩) {cdv : Value} {P wl bl : Addr} {po o1 o2 o3 o4 : Obj} {v0 : Option Value} {wvs : List Value} {ws : List Str} {Pq : Flow → Shared → Prop}
    (TF : TopF K T) (R : Room A 8) (H : At T Z g L (lm0 wl bl) (cellsF P L po o1 o2 o3 o4) s) (h3 : o3.data = .cell v0)
    (hwl : IsListV g wl wvs) (hws : StrsAre wvs ws) (hz : ws.length ≤ 99)
    (next : ∀ g' s' o3' pl pvs, g.StaysIn g' → At T Z g' L (lm0 wl bl) (cellsF P L po o1 o2 o3' o4) s' → CellIs o3' (.ref pl) → IsListV g' pl pvs → IntsAre pvs ((List.range (ws.length + 1)).map (wplace ws)) → wpAny (model prog w) A (execs (bd.drop 5) (envOfC "law" scope L 425 cdv)) Pq noE s') :
    wpAny (model prog w) A (execs (bd.drop 3) (envOfC "law" scope L 425 cdv)) Pq noE s := by
  cases (show defAt 59 = some ⟨_, _, _, _⟩ from rfl).symm.trans hd
  show wpAny _ _ (execs (Stmt.Assign _ _ _ :: _) _) _ _ _
  have hwvl := hws.length
  repeat' walk_at "y"
  refine r_newList H (Nat.le_of_ble_eq_true rfl) ?_
  clear H; intro pl s H
  simp only [List.cons_append, List.nil_append] at H
  refine r_storeCell (i := 3) H rfl rfl h3 ?_
  clear H; intro o3' s hv H
  simp only [List.set_cons_succ, List.set_cons_zero] at H
  repeat' walk_at "y"
  refine for_list (fun i g₁ m₁ mu₁ => ∃ pvs n', m₁ = lm0 wl bl ∧ mu₁ = [(P, po), (L + 1, o1), (L + 2, o2), (L + 3, o3'), (L + 4, o4), (pl, LO pvs n')] ∧ g.StaysIn g₁ ∧ IntsAre pvs ((List.range (i + 1)).map (wplace ws))) (R.less (by decide)) H hwl ⟨_, _, rfl, rfl, stays_refl _, .cons _ _ .nil⟩ ?_ ?_
  · clear H
    rintro i v Z₁ g₁ m₁ mu₁ s hi ⟨pvs, n', rfl, rfl, kg₁, hpv⟩ _ kg' H out
    refine gen_post fun PP hPP => ?_
    have hil : i < ws.length := by rw [← hwvl]; exact (List.getElem?_eq_some_iff.mp hi).1
    have hwi : ws[i]? = some ws[i] := List.getElem?_eq_getElem hil
    obtain ⟨tw, hwv⟩ := hws.get i _ hwi
    rw [hwv] at hi; cases hi
    generalize ws[i] = wd at *
    have hpl := hpv.length
    rw [List.length_map, List.length_range] at hpl
    have hcopy := hpv
    obtain ⟨pvs0, tp, rfl⟩ := ints_last hpv
    have fin : ∀ s n₂ x tx m₃, x = wplace ws (i + 1) → At T Z₁ g₁ L m₃ [(P, po), (L + 1, o1), (L + 2, o2), (L + 3, o3'), (L + 4, o4), (pl, LO ((pvs0 ++ [.int (wplace ws i) tp]) ++ [.int x tx]) n₂)] s → Knows m₃ (lm0 wl bl) →
        TurnEnd T Z₁ L [P, L + 1, L + 2, L + 3, L + 4, pl] (fun g₁ m₁ mu₁ => ∃ pvs n', m₁ = lm0 wl bl ∧ mu₁ = [(P, po), (L + 1, o1), (L + 2, o2), (L + 3, o3'), (L + 4, o4), (pl, LO pvs n')] ∧ g.StaysIn g₁ ∧ IntsAre pvs ((List.range (i + 1 + 1)).map (wplace ws))) s := by
      rintro s n₂ x tx m₃ rfl H kn
      refine ⟨_, _, _, H.know kn, rfl, _, n₂, rfl, rfl, kg₁, ?_⟩
      rw [List.range_succ, List.map_append, List.map_singleton]
      exact hcopy.append (.cons _ _ .nil)
    repeat' walk_at "y"
    refine r_cellM 3 H rfl rfl hv ?_
    refine r_meth H (hasM 5 rfl) ?_
    try dsimp only
    repeat' walk_at "y"
    refine r_cellM 3 H rfl rfl hv ?_
    repeat' walk_at "y"
    refine r_itemLast H (hasM 5 rfl) ?_
    repeat' walk_at "y"
    all_goals
      refine r_append (i := 5) H rfl (by simp only [List.length_append] at hpl ⊢; omega) ?_
      clear H; intro n3 s H
      simp only [List.set_cons_succ, List.set_cons_zero] at H
      repeat' walk_at "y"
    · exact tpn hPP (fin s n3 _ _ _ (by rw [wplace_succ hwi, wslots, if_pos (by simpa using hc)]) H (by walk_at "k"))
    · exact tpn hPP (fin s n3 _ _ _ (by rw [wplace_succ hwi, wslots, if_neg (by simpa using hc)]) H (by walk_at "k"))
  · clear H
    rintro g₁ m₁ mu₁ s ⟨pvs, n', rfl, rfl, kg₁, hpv⟩ _ H
    rw [hwvl] at hpv
    obtain ⟨g₄, k₄, hg₄, H⟩ := At.freeze (mu := cellsF P L po o1 o2 o3' o4) (mu' := [(pl, _)]) H
    repeat' ((fail_if_success (with_reducible show wpAny _ _ (execs (Stmt.Assign _ _ _ :: _) _) _ _ _)); walk_at "y")
    exact next g₄ s o3' pl pvs (stays_trans kg₁ k₄) H hv ⟨_, hg₄ _ (.head _)⟩ hpv
/-- «goals = _law_goals(pen, words, begins)» -/
theorem law_goals {name : Str} {params : Arguments} {bd : List Stmt} {scope : Scope} (hd : defAt 59 = some ⟨name, params, bd, scope⟩) {cdv : Value} {P sc wl bl : Addr} {n : Nat} {po o1 o2 o3 o4 : Obj} {v0 : Option Value} {wvs bvs : List Value} {ws : List Str} {bs : List Nat} {Pq : Flow → Shared → Prop}
    (TF : TopF K T) (R : Room A 8) (H : At T Z g L (lm0 wl bl) (cellsF P L po o1 o2 o3 o4) s) (h1 : CellIs o1 (.ref P)) (h2 : o2.data = .cell v0) (hsc : ScriptIs g sc) (hp : PenIs sc n po) (hn : n ≤ 500)
    (hwl : IsListV g wl wvs) (hws : StrsAre wvs ws) (hbl : IsListV g bl bvs) (hbs : IntsAre bvs (bs.map fun b : Nat => (b : Int))) (S : Shape ws bs) (hb0 : bs ≠ []) (hb3 : bs.length ≤ 3)
    (next : ∀ g' s' po' o2' gl gvs gs, g.StaysIn g' → At T Z g' L (lm0 wl bl) (cellsF P L po' o1 o2' o3 o4) s' → CellIs o2' (.ref gl) → PenIs sc (n + 100) po' → IsListV g' gl gvs → IntsAre gvs gs → gs.length = ws.length → (∀ i w x, ws[i]? = some w → gs[i]? = some x → GoalOK ws bs i w x) → wpAny (model prog w) A (execs (bd.drop 3) (envOfC "law" scope L 425 cdv)) Pq noE s') :
    wpAny (model prog w) A (execs (bd.drop 2) (envOfC "law" scope L 425 cdv)) Pq noE s := by
  cases (show defAt 59 = some ⟨_, _, _, _⟩ from rfl).symm.trans hd
  show wpAny _ _ (execs (Stmt.Assign _ _ _ :: _) _) _ _ _
  have hSl := S.len
  repeat' walk_at "y"
  refine r_cellM 1 H rfl rfl h1 ?_
  repeat' walk_at "y"
  refine goals_spec TF H (R.less (by decide)) hsc hp (by omega) hwl hws hbl hbs S hb0 hb3 ?_
  clear H; intro gl gvs gs po' g₂ s k₂ hgl hgs hgn hok hp' H
  refine r_storeCell (i := 2) H rfl rfl h2 ?_
  clear H; intro o2' s hv H
  simp only [List.set_cons_succ, List.set_cons_zero] at H
  repeat' ((fail_if_success (with_reducible show wpAny _ _ (execs (Stmt.Assign _ _ _ :: _) _) _ _ _)); walk_at "y")
  exact next g₂ s po' o2' gl gvs gs k₂ H hv (hp'.more (by omega)) hgl hgs hgn hok
/-- «words, begins = _law_words(pen)» -/
theorem law_words {name : Str} {params : Arguments} {bd : List Stmt} {scope : Scope} (hd : defAt 59 = some ⟨name, params, bd, scope⟩) {cdv : Value} {P sc : Addr} {n : Nat} {po o1 o2 o3 o4 : Obj} {Pq : Flow → Shared → Prop}
    (TF : TopF K T) (R : Room A 8) (H : At T Z g L [] (cellsF P L po o1 o2 o3 o4) s) (h1 : CellIs o1 (.ref P)) (hsc : ScriptIs g sc) (hp : PenIs sc n po) (hn : n ≤ 300)
    (next : ∀ g' s' po' wl bl wvs bvs ws bs, g.StaysIn g' → At T Z g' L (lm0 wl bl) (cellsF P L po' o1 o2 o3 o4) s' → PenIs sc (n + 100) po' → IsListV g' wl wvs → StrsAre wvs ws → IsListV g' bl bvs → IntsAre bvs (bs.map fun b : Nat => (b : Int)) → Shape ws bs → bs ≠ [] → bs.length ≤ 3 → wpAny (model prog w) A (execs (bd.drop 2) (envOfC "law" scope L 425 cdv)) Pq noE s') :
    wpAny (model prog w) A (execs (bd.drop 1) (envOfC "law" scope L 425 cdv)) Pq noE s := by
  cases (show defAt 59 = some ⟨_, _, _, _⟩ from rfl).symm.trans hd
  show wpAny _ _ (execs (Stmt.Assign _ _ _ :: _) _) _ _ _
  refine wpAny_execs_cons ?_
  refine Assign_Tuple ?_
  repeat' walk_at "y"
  refine r_cellM 1 H rfl rfl h1 ?_
  repeat' walk_at "y"
  refine words_spec TF H (R.less (by decide)) hsc hp (by omega) ?_
  clear H; intro t wl bl wvs bvs ws bs po' g₂ s k₂ ht hwl hws hbl hbs S hb0 hb3 hp' H
  refine r_assignTup (R.less (by decide)) H (ht.isTup H.gh) rfl rfl ?_
  clear H; intro s H
  refine assignInOrder_cons (wpAny_assign_Name ?_)
  repeat' walk_at "y"
  refine assignInOrder_cons (wpAny_assign_Name ?_)
  repeat' ((fail_if_success (with_reducible show wpAny _ _ (execs (Stmt.Assign _ _ _ :: _) _) _ _ _)); walk_at "y")
  exact next g₂ s po' wl bl wvs bvs ws bs k₂ (H.know (by walk_at "k")) (hp'.more (by omega)) hwl hws hbl hbs S hb0 hb3
end
end Mine
namespace Mine
theorem ends_mem {ws : List Str} {bs : List Nat} (S : Shape ws bs) (hb0 : bs ≠ []) : ∀ i : Nat, i < ws.length → IsEnd ws bs i → (i : Int) ∈ endsL ws bs := by
  intro i hi h
  rcases h with h | h
  · refine List.mem_append_left _ (List.mem_map.mpr ⟨((i + 1 : Nat) : Int), ?_, by push_cast; omega⟩)
    have hz := S.zero hb0
    cases bs with
    | nil => cases h
    | cons b r =>
      cases hz
      rcases List.mem_cons.mp h with q | q
      · cases q
      · exact List.mem_map.mpr ⟨i + 1, q, rfl⟩
  · exact List.mem_append_right _ (by rw [List.mem_singleton]; omega)
section
variable {prog : Program} {w : World} {K : Frag} {A : Around} {T : Heap} {Z : Zed} {g : Heap} {L : Addr} {m : List (Str × Value)} {mu : List (Addr × Obj)} {s : Shared} {E : Value → Shared → Prop}
set_option maxHeartbeats 1000000
set_option maxRecDepth 100000
theorem r_sliceListI {value slice : Expr} {l : Addr} {vs : List Value} {a b : Value} {lo hi : Option Int} {Q : Value → Shared → Prop} (H : At T Z g L m mu s) (hl : s.heap.IsList l vs.toArray) (hz : vs.length ≤ 100000) (pa : IsPart a lo) (pb : IsPart b hi)
    (h : ∀ D s', At T Z g L m (mu ++ [(D, LO (slicePick vs.toArray lo hi none).toList 0)]) s' → Q (.ref D) s')
    (hs : subscripted slice false (.ref l) (.ref s.heap.objs.size) = operate [.ref s.heap.objs.size, .ref l] (getItem (.ref l) (.ref s.heap.objs.size)) := by with_unfolding_all rfl) :
    wpAny (model prog w) A (subscriptTail value slice (.ref l) (.ref s.heap.objs.size)) Q E { s with heap := s.heap.push { cls := .type "slice", data := .fields #[a, b, .none] } } := by
  have H1 := H.stay (s' := { s with heap := s.heap.push { cls := .type "slice", data := .fields #[a, b, .none] } }) (fun _ _ e => Heap.get?_push_of_some _ e) rfl rfl
  have hl1 : (s.heap.push { cls := .type "slice", data := .fields #[a, b, .none] }).IsList l vs.toArray := hl.at fun o e => Heap.get?_push_of_some _ e
  refine tail_any hl1.typeIs slot_list_getitem.lookup (wpAny_getItem_list_slice hl1 ⟨_, Heap.get?_push_size _ rfl, rfl, rfl⟩ pa pb .none (by simp) ?_ (by simp; rw [sizeLine_eq]; omega)) hs
  have H2 := H1.push (LO (slicePick vs.toArray lo hi none).toList 0) rfl
  simpa using h _ _ H2
/-- «pen = [list(script[:24]), 0, 0]» -/
theorem law_pen {name : Str} {params : Arguments} {bd : List Stmt} {scope : Scope} (hd : defAt 59 = some ⟨name, params, bd, scope⟩) {cdv : Value} {ll : Addr} {o1 o2 o3 o4 : Obj} {vs : List Value} {ns : List Int} {v0 : Option Value} {Pq : Flow → Shared → Prop}
    (TF : TopF K T) (R : Room A 8) (H : At T Z g L [("script", .ref ll)] [(L + 1, o1), (L + 2, o2), (L + 3, o3), (L + 4, o4)] s) (h1 : o1.data = .cell v0)
    (hl : T.IsList ll vs.toArray) (hi : IntsAre vs ns) (hz : ns.length ≤ 63)
    (next : ∀ g' s' P po o1' sc, g.StaysIn g' → At T Z g' L [] (cellsF P L po o1' o2 o3 o4) s' → CellIs o1' (.ref P) → ScriptIs g' sc → PenIs sc 0 po → wpAny (model prog w) A (execs (bd.drop 1) (envOfC "law" scope L 425 cdv)) Pq noE s') :
    wpAny (model prog w) A (execs bd (envOfC "law" scope L 425 cdv)) Pq noE s := by
  cases (show defAt 59 = some ⟨_, _, _, _⟩ from rfl).symm.trans hd
  have hvl := hi.length
  repeat' walk_at "y"
  refine r_sliceListI H (hl.at fun o e => H.top _ _ e) (by omega) .none (.int _ _) ?_
  clear H; intro D0 s H
  simp only [List.cons_append, List.nil_append] at H
  have hsl := kmk_upto (y := 24) hi (by decide)
  generalize hds : (slicePick vs.toArray none (some 24) none).toList = dvs at *
  have hdl := hsl.length
  rw [List.length_take, show (24 : Int).toNat = 24 from rfl] at hdl
  repeat' walk_at "y"
  refine r_list H (hasM 4 rfl) (by omega) ?_
  clear H; intro sc n1 s H
  obtain ⟨g₁, k₁, hg₁, H⟩ := At.freeze (mu := [(L + 1, o1), (L + 2, o2), (L + 3, o3), (L + 4, o4)]) (mu' := [(D0, _), (sc, _)]) H
  have hsc : ScriptIs g₁ sc := ⟨dvs, _, ⟨_, hg₁ _ (.tail _ (.head _))⟩, hsl, by omega⟩
  repeat' walk_at "y"
  refine r_newList H (Nat.le_of_ble_eq_true rfl) ?_
  clear H; intro P s H
  simp only [List.cons_append, List.nil_append] at H
  refine r_storeCell (i := 0) H rfl rfl h1 ?_
  clear H; intro o1' s hv H
  simp only [List.set_cons_succ, List.set_cons_zero] at H
  have H := H.perm (List.perm_append_comm (l₁ := [(L + 1, o1'), (L + 2, o2), (L + 3, o3), (L + 4, o4)]) (l₂ := [(P, _)]))
  repeat' ((fail_if_success (with_reducible show wpAny _ _ (execs (Stmt.Assign _ _ _ :: _) _) _ _ _)); walk_at "y")
  exact next g₁ s P _ o1' sc k₁ (H.know trivial) hv hsc ⟨0, 0, _, _, _, rfl, Int.le_refl _, Int.le_refl _, Int.le_refl _⟩
/-- the law's body -/
theorem law_body {name : Str} {params : Arguments} {bd : List Stmt} {scope : Scope} (hd : defAt 59 = some ⟨name, params, bd, scope⟩) {cdv : Value} {ll : Addr} {o1 o2 o3 o4 : Obj} {vs : List Value} {ns : List Int} {v1 v2 v3 v4 : Option Value} {Pq : Flow → Shared → Prop}
    (TF : TopF K T) (R : Room A 8) (H : At T Z g L [("script", .ref ll)] [(L + 1, o1), (L + 2, o2), (L + 3, o3), (L + 4, o4)] s) (h1 : o1.data = .cell v1) (h2 : o2.data = .cell v2) (h3 : o3.data = .cell v3) (h4 : o4.data = .cell v4)
    (hl : T.IsList ll vs.toArray) (hi : IntsAre vs ns) (hz : ns.length ≤ 63)
    (fin : ∀ g' m' mu' s', At T Z g' L m' mu' s' → Pq (.ret (.bool true)) s') :
    wpAny (model prog w) A (execs bd (envOfC "law" scope L 425 cdv)) Pq noE s := by
  refine law_pen hd TF R H h1 hl hi hz ?_
  clear H h1; intro g₁ s P po o1 sc k₁ H h1 hsc hp
  refine law_words hd TF R H h1 hsc hp (by omega) ?_
  clear H hp; intro g₂ s po wl bl wvs bvs ws bs k₂ H hp hwl hws hbl hbs S hb0 hb3
  have hsmall : ws.length ≤ 21 := by have := S.len; omega
  refine law_goals hd TF R H h1 h2 (hsc.mono k₂) hp (by omega) hwl hws hbl hbs S hb0 hb3 ?_
  clear H hp h2; intro g₃ s po o2 gl gvs gs k₃ H h2 hp hgl hgs hgn hok
  refine law_places hd TF R H h3 (hwl.mono k₃) hws (by omega) ?_
  clear H h3; intro g₄ s o3 pl pvs k₄ H h3 hpl hps
  refine law_orders hd TF R H h2 h3 ((hwl.mono k₃).mono k₄) hws (hgl.mono k₄) hgs hpl hps (by omega) S hgn hok ?_
  clear H; intro g₅ s ol ovs k₅ H hol hov
  have k35 := stays_trans k₃ (stays_trans k₄ k₅)
  refine law_ends hd TF R H (hwl.mono k35) hws (hbl.mono k35) hbs (by omega) hb3 ?_
  clear H; intro g₆ s el evs k₆ H hel hev
  have k36 := stays_trans k35 k₆
  refine law_kept hd TF R H h1 (hsc.mono (stays_trans k₂ k36)) hp (by omega) (hol.mono k₆) (hov.mono k₆) (hwl.mono k36) hws hel hev (ordL_len _) (by omega) ?_
  clear H hp; intro g₇ s po kl kvs ks k₇ H hp hkl hkv hkn hkok
  have X : Ctx ws bs gs (ordL ws gs ws.length) ks (endsL ws bs) := by
    refine ⟨S, hb0, hb3, hgn, hok, ordL_len _, fun i w x e1 e2 => ?_, hkn, hkok, ends_mem S hb0⟩
    have hil : i < ws.length := (List.getElem?_eq_some_iff.mp e1).1
    rw [ordL_get hil, List.getD_eq_getElem?_getD, List.getD_eq_getElem?_getD, e1, e2]; rfl
  have k67 := stays_trans k₆ k₇
  refine law_new hd TF R (H.know (by walk_at "k")) X (hol.mono k67) (hov.mono k67) hkl hkv ?_
  clear H; intro g₈ s nl nvs c k₈ H hnl hnv hR hF
  have z2 : (newL c gs ws.length).length ≤ 100 := Nat.le_trans X.new_small (by decide)
  refine law_shows hd TF R H hnl hnv z2 (hkl.mono k₈) (hkv.mono k₈) (by omega) (X.new_shows hR) ?_
  clear H; intro g₉ s k₉ H
  refine law_idle hd TF R H (hnl.mono k₉) (hnv.mono k₉) z2 (fun i o e => ?_) ?_
  · obtain ⟨p, o', _, _, _, K', _, e', _⟩ := X.new_at hR e
    exact ⟨e' ▸ K'.new, X.new_noidle hR hF e⟩
  clear H; intro g₁₀ s k₁₀ H
  have k8a := stays_trans k₉ k₁₀
  refine law_aims (aim := aimOf c gs ws.length) hd TF R H (hnl.mono k8a) (hnv.mono k8a) z2 (X.new_goal hR) ?_
  clear H; intro g₁₁ s al avs k₁₁ H hal hav
  have k8b := stays_trans k8a k₁₁
  refine law_now hd TF R H h4 (hnl.mono k8b) (hnv.mono k8b) z2 ?_
  clear H h4; intro g₁₂ s o4 nwl nwvs k₁₂ H h4 hnwl hnwv
  have k8c := stays_trans k8b k₁₂
  have b2 : (bs.map (rk c)).length ≤ 3 := by rw [List.length_map]; exact hb3
  have b20 : 0 ∈ bs.map (rk c) := List.mem_map.mpr ⟨0, X.zero, rfl⟩
  have b23 : ∀ b ∈ bs.map (rk c), b < 22 := fun b hb => by
    obtain ⟨x, hx, rfl⟩ := List.mem_map.mp hb
    have := S.lt x hx
    have := rk_le (c := c) x
    omega
  refine law_told hd TF R H h4 (hnl.mono k8c) (hnv.mono k8c) z2 (hal.mono k₁₂) hav hnwl hnwv (X.new_goal hR) b2 b20 b23 (X.new_call hR) ?_
  clear H; intro g₁₃ s k₁₃ H
  have k8d := stays_trans k8c k₁₃
  have k5d := stays_trans k67 (stays_trans k₈ k8d)
  have hps' : IntsAre pvs ((List.range ((ordL ws gs ws.length).length + 1)).map (placeOf (ordL ws gs ws.length))) := by
    rw [X.ol]
    have : (List.range (ws.length + 1)).map (placeOf (ordL ws gs ws.length)) = (List.range (ws.length + 1)).map (wplace ws) :=
      List.map_congr_left fun i hi => X.place (Nat.le_of_lt_succ (List.mem_range.mp hi))
    rw [this]; exact hps
  refine law_saved hd TF R H h3 h4 (hol.mono k5d) (hov.mono k5d) (hnl.mono k8d) (hnv.mono k8d) (by rw [X.ol]; omega) z2 (hpl.mono (stays_trans k₅ k5d)) hps' (hnwl.mono k₁₃) hnwv hb3 X.zero (fun b hb => by have := S.lt b hb; omega) X.orig_call b2 b20 b23 (X.new_call hR) ?_
  clear H; intro g₁₄ s k₁₄ H
  have k8e := stays_trans k8d k₁₄
  have k3e := stays_trans k₄ (stays_trans k₅ (stays_trans k5d k₁₄))
  exact law_F hd TF (R.less (by decide)) (H.know (by walk_at "k")) h1 h2 (hsc.mono (stays_trans k₂ (stays_trans k₃ k3e))) hp (by omega) (hnl.mono k8e) (hnv.mono k8e) (hal.mono (stays_trans k₁₂ (stays_trans k₁₃ k₁₄))) hav (hkl.mono (stays_trans k₈ k8e)) (hkv.mono (stays_trans k₈ k8e)) (hgl.mono k3e) hgs
    (by rw [List.length_map]; omega) (by omega) (X.new_safe hR) X.safe (fun ch => X.walks hR ch) fin
/-- the law gives True -/
theorem law_spec {ll : Addr} {vs : List Value} {ns : List Int} {Q : Value → Shared → Prop} (TF : TopF K s.heap) (FI : FnIs K 425 (defAt 59) "law" .none) (R : Room A 9) (hl : s.heap.IsList ll vs.toArray) (hi : IntsAre vs ns) (hz : ns.length ≤ 63)
    (h : ∀ s', s.heap.StaysIn s'.heap → s'.gens = s.gens → s'.os = s.os → Q (.bool true) s') : wpAny (model prog w) A (call (.ref 425) [.ref ll]) Q E s := by
  refine enterTop [("script", .ref ll)] [("script", .ref ll)] TF FI rfl R (fun _ _ _ _ _ => BindsTo.of_eq rfl) (by intro n x hx; rcases List.mem_cons.mp hx with rfl | hx; exact .inl rfl; cases hx) (by decide) (fun L => by show [L + 4, L + 3, L + 2, L + 1].Nodup; simp) (fun L cd => ⟨rfl, trivial⟩) rfl rfl rfl ?_
  clear R
  intro cdv L cells s₁ Y H R
  obtain ⟨o4, o3, o2, o1, rfl, h4, h3, h2, h1⟩ := CellsAre.four Y
  have H := H.perm (List.reverse_perm _).symm
  exact law_body (Z := ⟨s.heap, s.heap, s⟩) (show defAt 59 = some ⟨_, _, _, _⟩ from rfl) TF R H h1 h2 h3 h4 hl hi hz fun g' m' mu' s' H' => h s' H'.hh H'.gens H'.os
end
end Mine
set_option maxRecDepth 100000 in
set_option maxHeartbeats 8000000 in
theorem PySem.Challenge.cw_ok0161_01_holds : PySem.Challenge.rw_ok0161_01.Holds := by
  refine holds_law Mine.said0 fun said => ?_
  refine holds_open (q := Mine.vw) (loose := Mine.lo) (Xt := fun s => xlAt Mine.vw [] s && recOk [] s) (XP := XL Mine.vw []) (Yf := fun s => Mine.look (Mine.fragOf Mine.asL s.heap)) (Ya := fun _ => Mine.lookExp) (YP := fun _ h => ∃ K : Frag, K.In h ∧ Mine.CheckF K) (N := 5190)
    Mine.left (fun w s e => ⟨_, Mine.fragOf_in, Mine.check_of e⟩) (fun w h h' Y k => let ⟨K, X, C⟩ := Y; ⟨K, X.keeps k, C⟩) (fun s e => xl_of s (Bool.and_eq_true_iff.mp e).1) XL.keeps (by rfl) (by rfl) (by rfl) (fun s e => recFacts_of (Bool.and_eq_true_iff.mp e).2) (by rfl) said (by decide +kernel) ⟨rfl, rfl, rfl, rfl, rfl, by decide +kernel⟩ ?hw ?hc
  case hw => w_witness2
  case hc =>
    intro w s₀ s₁ mg mb G Y fa o pm cd doc dV kV ho hd hcd hD hmg hg args vals as hpre hlay hrd hwl hlo
    obtain ⟨K, KX, C⟩ := Y
    refine Ground.open G ?_
    intro T B D TE TW
    have hfa : fa = 425 := Mine.law_at C KX (Top.g T) hmg
    subst hfa
    have TF := Mine.topF_of C KX (topRead_of T)
    clear ho hd hcd hD hmg D
    wrow_args hpre hlay hrd hwl hlo
    refine Mine.law_spec TF C.law Mine.law_room (by assumption) (by assumption) (by omega) fun s' k h1 h2 => ?_
    exact Mine.law_good k (h1.trans hg) h2
