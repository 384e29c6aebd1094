import PyProof.Rows.All
import Wide.All
import OpenK.AllK
import Wide.FinOn
import HandS.ForMost
import HandS.Exc
import HandS.WordsExc
import HandS.CallSlots
import HandS.Defaults
import HandS.Wide
import HandS.Style
import HandS.Evl
import HandS.IsInst
import HandS.HeadHook2
import HandS.Head2
import HandS.HeadEnd
import PySem.Challenge.RW_leastpurse_k43_need_of_a_run
set_option maxRecDepth 100000
set_option linter.all false
set_option Elab.async false
set_option maxHeartbeats 0
/-! D-layer, part 1: values as trees, what represents them, the state, the canonical readings. -/
namespace Dl
open PySem PySem.Spec PyProof.Rows L2 Evl

inductive D where
  | non | bl (b : Bool) | int (i : Int) | str (x : Str) | tup (ds : List D) | lst (ds : List D) | scr (ds : List D) | obj (c : Nat) (ds : List D)

structure Wd where
  K : PySem.W.Frag
  cl : Nat → Addr
  fl : Nat → List Str

def Em (M : Addr → Prop) (H H' : Hp) : Prop := ∀ a o, H a = some o → ¬ M a → H' a = some o
theorem Em.of {M : Addr → Prop} {H H' : Hp} (e : Ex H H') : Em M H H' := fun a o h _ => e a o h
/-- a tuple that stands: tracked and not of M, or written -/
def TupA (W : Wd) (M : Addr → Prop) (H : Hp) (a : Addr) (vs : List V) : Prop := (¬ M a ∧ SqT W.K H a vs ∧ H a ≠ none) ∨ (∀ H : Hp, SqT W.K H a vs)
def ScrA (W : Wd) (M : Addr → Prop) (H : Hp) (a : Addr) (vs : List V) : Prop := (¬ M a ∧ SqL W.K H a vs ∧ H a ≠ none) ∨ (∀ H : Hp, SqL W.K H a vs)
mutual
def Rep (W : Wd) (M : Addr → Prop) (H : Hp) : D → V → Prop
  | .non, v => v = .non
  | .bl b, v => v = .bl b
  | .int i, v => v = .int i
  | .str x, v => v = .str x
  | .tup ds, v => ∃ a vs, v = .ref a ∧ TupA W M H a vs ∧ RepL W M H ds vs
  | .lst ds, v => ∃ a vs, v = .ref a ∧ H a = some (.lst vs) ∧ ¬ M a ∧ RepL W M H ds vs
  | .scr ds, v => ∃ a vs, v = .ref a ∧ ScrA W M H a vs ∧ RepL W M H ds vs
  | .obj c ds, v => ∃ a dx vs, v = .ref a ∧ H a = some (.ins (W.cl c) dx ((W.fl c).zip vs)) ∧ ¬ M a ∧ vs.length = (W.fl c).length ∧ RepL W M H ds vs
def RepL (W : Wd) (M : Addr → Prop) (H : Hp) : List D → List V → Prop
  | [], vs => vs = []
  | d :: ds, vs => ∃ v r, vs = v :: r ∧ Rep W M H d v ∧ RepL W M H ds r
end
section
variable {W : Wd} {M M' : Addr → Prop} {H H' : Hp}
theorem sqT_keep {K : PySem.W.Frag} {a : Addr} {vs : List V} (h : SqT K H a vs) (n : H a ≠ none) (e : ∀ o, H a = some o → H' a = some o) : SqT K H' a vs ∧ H' a ≠ none := by
  have n' : H' a ≠ none := by
    cases q : H a with
    | none => exact absurd q n
    | some o => rw [e o q]; simp
  refine ⟨?_, n'⟩
  rcases h with (h | ⟨o, h⟩) | h
  · exact .inl (.inl (e _ h))
  · exact .inl (.inr ⟨o, e _ h⟩)
  · exact .inr h
theorem sqL_keep {K : PySem.W.Frag} {a : Addr} {vs : List V} (h : SqL K H a vs) (n : H a ≠ none) (e : ∀ o, H a = some o → H' a = some o) : SqL K H' a vs ∧ H' a ≠ none := by
  have n' : H' a ≠ none := by
    cases q : H a with
    | none => exact absurd q n
    | some o => rw [e o q]; simp
  refine ⟨?_, n'⟩
  rcases h with (h | ⟨o, h⟩) | h
  · exact .inl (.inl (e _ h))
  · exact .inl (.inr ⟨o, e _ h⟩)
  · exact .inr h
/-- moved to another heap, under another M: what M' bars is barred by M or was not tracked -/
theorem TupA.move {a : Addr} {vs : List V} (h : TupA W M H a vs) (e : Em M H H') (m : ∀ a, M' a → M a ∨ H a = none) : TupA W M' H' a vs := by
  rcases h with ⟨h1, h2, h3⟩ | h
  · obtain ⟨a1, a2⟩ := sqT_keep h2 h3 fun o q => e a o q h1
    exact .inl ⟨fun z => (m a z).elim h1 h3, a1, a2⟩
  · exact .inr h
theorem ScrA.move {a : Addr} {vs : List V} (h : ScrA W M H a vs) (e : Em M H H') (m : ∀ a, M' a → M a ∨ H a = none) : ScrA W M' H' a vs := by
  rcases h with ⟨h1, h2, h3⟩ | h
  · obtain ⟨a1, a2⟩ := sqL_keep h2 h3 fun o q => e a o q h1
    exact .inl ⟨fun z => (m a z).elim h1 h3, a1, a2⟩
  · exact .inr h
theorem TupA.sq {a : Addr} {vs : List V} (h : TupA W M H a vs) : SqT W.K H a vs := h.elim (fun h => h.2.1) fun h => h H
theorem ScrA.sq {a : Addr} {vs : List V} (h : ScrA W M H a vs) : SqL W.K H a vs := h.elim (fun h => h.2.1) fun h => h H
theorem nm_of {a : Addr} {o : HO} (h : H a = some o) (n : ¬ M a) (m : ∀ a, M' a → M a ∨ H a = none) : ¬ M' a := fun z => (m a z).elim n fun q => by rw [h] at q; cases q
mutual
theorem Rep.move (e : Em M H H') (m : ∀ a, M' a → M a ∨ H a = none) : ∀ {d : D} {v : V}, Rep W M H d v → Rep W M' H' d v
  | .non, _, h => h
  | .bl _, _, h => h
  | .int _, _, h => h
  | .str _, _, h => h
  | .tup ds, v, h => by
    unfold Rep at h ⊢
    obtain ⟨a, vs, e1, e2, e3⟩ := h
    exact ⟨a, vs, e1, e2.move e m, RepL.move e m e3⟩
  | .lst ds, v, h => by
    unfold Rep at h ⊢
    obtain ⟨a, vs, e1, e2, n, e3⟩ := h
    exact ⟨a, vs, e1, e _ _ e2 n, nm_of e2 n m, RepL.move e m e3⟩
  | .scr ds, v, h => by
    unfold Rep at h ⊢
    obtain ⟨a, vs, e1, e2, e3⟩ := h
    exact ⟨a, vs, e1, e2.move e m, RepL.move e m e3⟩
  | .obj c ds, v, h => by
    unfold Rep at h ⊢
    obtain ⟨a, dx, vs, e1, e2, n, l, e3⟩ := h
    exact ⟨a, dx, vs, e1, e _ _ e2 n, nm_of e2 n m, l, RepL.move e m e3⟩
theorem RepL.move (e : Em M H H') (m : ∀ a, M' a → M a ∨ H a = none) : ∀ {ds : List D} {vs : List V}, RepL W M H ds vs → RepL W M' H' ds vs
  | [], _, h => h
  | d :: ds, vs, h => by
    unfold RepL at h ⊢
    obtain ⟨v, r, e1, e2, e3⟩ := h
    exact ⟨v, r, e1, Rep.move e m e2, RepL.move e m e3⟩
end
theorem Rep.mono {d : D} {v : V} (h : Rep W M H d v) (e : Em M H H') : Rep W M H' d v := h.move e fun _ z => .inl z
theorem RepL.mono {ds : List D} {vs : List V} (h : RepL W M H ds vs) (e : Em M H H') : RepL W M H' ds vs := h.move e fun _ z => .inl z
theorem Rep.ex {d : D} {v : V} (h : Rep W M H d v) (e : Ex H H') : Rep W M H' d v := h.mono (.of e)
theorem RepL.ex {ds : List D} {vs : List V} (h : RepL W M H ds vs) (e : Ex H H') : RepL W M H' ds vs := h.mono (.of e)
theorem Em.refl : Em M H H := fun _ _ h _ => h
theorem Rep.sub {d : D} {v : V} (h : Rep W M H d v) (m : ∀ a, M' a → M a ∨ H a = none) : Rep W M' H d v := h.move .refl m
theorem RepL.sub {ds : List D} {vs : List V} (h : RepL W M H ds vs) (m : ∀ a, M' a → M a ∨ H a = none) : RepL W M' H ds vs := h.move .refl m

/-! ### lists of representations -/
theorem RepL.nil : RepL W M H [] [] := by unfold RepL; rfl
theorem RepL.cons {d : D} {v : V} {ds : List D} {vs : List V} (h : Rep W M H d v) (t : RepL W M H ds vs) : RepL W M H (d :: ds) (v :: vs) := by
  unfold RepL
  exact ⟨v, vs, rfl, h, t⟩
theorem RepL.length : ∀ {ds : List D} {vs : List V}, RepL W M H ds vs → ds.length = vs.length
  | [], vs, h => by unfold RepL at h; rw [h]; rfl
  | d :: ds, vs, h => by
    unfold RepL at h
    obtain ⟨v, r, rfl, _, t⟩ := h
    rw [List.length_cons, List.length_cons, RepL.length t]
theorem RepL.get : ∀ {ds : List D} {vs : List V} {i : Nat} {d : D}, RepL W M H ds vs → ds[i]? = some d → ∃ v, vs[i]? = some v ∧ Rep W M H d v
  | [], vs, i, d, _, e => by simp at e
  | d' :: ds, vs, 0, d, h, e => by
    unfold RepL at h
    obtain ⟨v, r, rfl, h1, t⟩ := h
    simp at e
    subst e
    exact ⟨v, rfl, h1⟩
  | d' :: ds, vs, i + 1, d, h, e => by
    unfold RepL at h
    obtain ⟨v, r, rfl, h1, t⟩ := h
    obtain ⟨u, e1, e2⟩ := RepL.get (i := i) (d := d) t (by simpa using e)
    exact ⟨u, by simpa using e1, e2⟩
theorem RepL.got : ∀ {ds : List D} {vs : List V} {i : Nat} {v : V}, RepL W M H ds vs → vs[i]? = some v → ∃ d, ds[i]? = some d ∧ Rep W M H d v
  | [], vs, i, v, h, e => by unfold RepL at h; subst h; simp at e
  | d' :: ds, vs, 0, v, h, e => by
    unfold RepL at h
    obtain ⟨u, r, rfl, h1, t⟩ := h
    simp at e
    subst e
    exact ⟨d', rfl, h1⟩
  | d' :: ds, vs, i + 1, v, h, e => by
    unfold RepL at h
    obtain ⟨u, r, rfl, h1, t⟩ := h
    obtain ⟨d, e1, e2⟩ := RepL.got (i := i) (v := v) t (by simpa using e)
    exact ⟨d, by simpa using e1, e2⟩
theorem RepL.append : ∀ {ds es : List D} {vs us : List V}, RepL W M H ds vs → RepL W M H es us → RepL W M H (ds ++ es) (vs ++ us)
  | [], es, vs, us, h, g => by unfold RepL at h; subst h; exact g
  | d :: ds, es, vs, us, h, g => by
    unfold RepL at h
    obtain ⟨v, r, rfl, h1, t⟩ := h
    exact .cons h1 (RepL.append t g)
theorem RepL.drop : ∀ {ds : List D} {vs : List V} (n : Nat), RepL W M H ds vs → RepL W M H (ds.drop n) (vs.drop n)
  | ds, vs, 0, h => h
  | [], vs, n + 1, h => by unfold RepL at h; subst h; exact .nil
  | d :: ds, vs, n + 1, h => by
    unfold RepL at h
    obtain ⟨v, r, rfl, h1, t⟩ := h
    exact RepL.drop n t
theorem RepL.take : ∀ {ds : List D} {vs : List V} (n : Nat), RepL W M H ds vs → RepL W M H (ds.take n) (vs.take n)
  | ds, vs, 0, h => .nil
  | [], vs, n + 1, h => by unfold RepL at h; subst h; exact .nil
  | d :: ds, vs, n + 1, h => by
    unfold RepL at h
    obtain ⟨v, r, rfl, h1, t⟩ := h
    exact .cons h1 (RepL.take n t)
theorem RepL.set : ∀ {ds : List D} {vs : List V} {d : D} {v : V} (i : Nat), RepL W M H ds vs → Rep W M H d v → RepL W M H (ds.set i d) (vs.set i v)
  | [], vs, d, v, i, h, g => by unfold RepL at h; subst h; exact .nil
  | d' :: ds, vs, d, v, 0, h, g => by
    unfold RepL at h
    obtain ⟨u, r, rfl, h1, t⟩ := h
    exact .cons g t
  | d' :: ds, vs, d, v, i + 1, h, g => by
    unfold RepL at h
    obtain ⟨u, r, rfl, h1, t⟩ := h
    exact .cons h1 (RepL.set i t g)
theorem RepL.rev : ∀ {ds : List D} {vs : List V}, RepL W M H ds vs → RepL W M H ds.reverse vs.reverse
  | [], vs, h => by unfold RepL at h; subst h; exact .nil
  | d :: ds, vs, h => by
    unfold RepL at h
    obtain ⟨v, r, rfl, h1, t⟩ := h
    rw [List.reverse_cons, List.reverse_cons]
    exact (RepL.rev t).append (.cons h1 .nil)
theorem RepL.ints : ∀ {ns : List Int}, RepL W M H (ns.map D.int) (ns.map V.int)
  | [] => .nil
  | n :: ns => .cons (by unfold Rep; rfl) RepL.ints
theorem RepL.of_ints : ∀ {ns : List Int} {vs : List V}, RepL W M H (ns.map D.int) vs → vs = ns.map V.int
  | [], vs, h => by unfold RepL at h; exact h
  | n :: ns, vs, h => by
    rw [List.map_cons] at h
    unfold RepL at h
    obtain ⟨v, r, rfl, h1, t⟩ := h
    unfold Rep at h1
    rw [h1, RepL.of_ints t, List.map_cons]
theorem RepL.at {ds : List D} {vs : List V} {i : Int} {d : D} (h : RepL W M H ds vs) (e : atI ds i = some d) : ∃ v, atI vs i = some v ∧ Rep W M H d v := by
  unfold atI at e ⊢
  rw [h.length] at e
  cases q : ixN vs.length i with
  | none => rw [q] at e; cases e
  | some j =>
    rw [q] at e
    exact h.get e
end

/-! ### results -/
inductive Rs (α : Type) where
  | ok (d : α) | exc (c : Nat) (es : List D) | stuck
abbrev Res := Rs D
def Rs.bind {α β : Type} : Rs α → (α → Rs β) → Rs β
  | .ok d, f => f d
  | .exc c es, _ => .exc c es
  | .stuck, _ => .stuck
@[simp] theorem Rs.bind_ok {α β : Type} (d : α) (f : α → Rs β) : (Rs.ok d).bind f = f d := rfl
@[simp] theorem Rs.bind_exc {α β : Type} (c : Nat) (es : List D) (f : α → Rs β) : (Rs.exc c es).bind f = .exc c es := rfl
@[simp] theorem Rs.bind_stuck {α β : Type} (f : α → Rs β) : Rs.stuck.bind f = .stuck := rfl
/-- slots: unbound or forgotten; a tree; a list of the frame's own, which may change; another name of such a slot -/
inductive Sl where
  | un | val (d : D) | own (ds : List D) | ali (j : Nat)
abbrev Ss := List Sl
abbrev EF := Ss → Res
inductive Out where
  | next (s : Ss) | brk (s : Ss) | cont (s : Ss) | ret (d : D) | exc (c : Nat) (es : List D) (s : Ss) | stuck
abbrev SF := Ss → Out
/-- how an exception lies: without a dict of its own where the class has no fields -/
def XRel (W : Wd) (M : Addr → Prop) (c : Nat) (es : List D) (H : Hp) (d : Option Addr) : Prop :=
  (es = [] ∧ d = none) ∨ ∃ dd ws, d = some dd ∧ H dd = some (.xd ((W.fl c).zip ws)) ∧ ws.length = (W.fl c).length ∧ RepL W M H es ws
/-- a result: P says what follows a value, from the heap H on -/
def RsR {α : Type} (W : Wd) (M : Addr → Prop) (H : Hp) (E : XK) (P : Hp → α → Prop) : Rs α → Prop
  | .ok d => P H d
  | .exc c es => ∀ d H', Ex H H' → XRel W M c es H' d → E (.ref (W.cl c)) d H'
  | .stuck => False
theorem RsR.ex {α : Type} {W : Wd} {M : Addr → Prop} {H H1 : Hp} {E : XK} {P P' : Hp → α → Prop} {r : Rs α} (h : RsR W M H E P r) (e : Ex H H1) (i : ∀ d, P H d → P' H1 d) : RsR W M H1 E P' r := by
  cases r with
  | ok d => exact i d h
  | exc c es => exact fun d H' e' q => h d H' (e.trans e') q
  | stuck => exact h
/-- one result behind another -/
theorem RsR.bind {α β : Type} {W : Wd} {M : Addr → Prop} {H : Hp} {E : XK} {P : Hp → α → Prop} {P' : Hp → β → Prop} {r : Rs α} {f : α → Rs β} (h : RsR W M H E P' (r.bind f)) (k : ∀ d, RsR W M H E P' (f d) → P H d) : RsR W M H E P r := by
  cases r with
  | ok d => exact k d h
  | exc c es => exact h
  | stuck => exact h
def kV (W : Wd) (M : Addr → Prop) (Q : VK) : Hp → D → Prop := fun H d => ∀ v H', Ex H H' → Rep W M H' d v → Q v H'
abbrev ResR (W : Wd) (M : Addr → Prop) (H : Hp) (Q : VK) (E : XK) (r : Res) : Prop := RsR W M H E (kV W M Q) r
theorem ResR.ex {W : Wd} {M : Addr → Prop} {H H1 : Hp} {Q : VK} {E : XK} {r : Res} (h : ResR W M H Q E r) (e : Ex H H1) : ResR W M H1 Q E r := RsR.ex h e fun d k v H' e' q => k v H' (e.trans e') q
/-- a promise on trees: the callers' own lists are M0 -/
def spD (W : Wd) (g : List D → Res) : Sp := fun vs H Q E => ∃ M0 ds, (∀ a, M0 a → Mut (H a)) ∧ RepL W M0 H ds vs ∧ ResR W M0 H Q E (g ds)

/-! ### the state -/
def SlotR (W : Wd) (M : Addr → Prop) (H0 H : Hp) : Sl → Option V → Prop
  | .un, _ => True
  | .val d, o => ∃ v, o = some v ∧ Rep W M H d v
  | .own ds, o => ∃ p vs, o = some (.ref p) ∧ H p = some (.lst vs) ∧ M p ∧ H0 p = none ∧ RepL W M H ds vs
  | .ali _, _ => True
structure FI (W : Wd) (M0 M : Addr → Prop) (H0 H : Hp) (σ : L2.St) (s : Ss) : Prop where
  len : σ.length = s.length
  ex : Ex H0 H
  m0 : ∀ a, M0 a → Mut (H0 a)
  base : ∀ a, M0 a → M a
  fresh : ∀ a, M a → Mut (H a) ∧ (M0 a ∨ H0 a = none)
  sl : ∀ (i : Nat) (x : Sl), s[i]? = some x → ∃ o, σ[i]? = some o ∧ SlotR W M H0 H x o
  nd : ∀ (i j : Nat) (ds es : List D) (p : Addr), s[i]? = some (.own ds) → s[j]? = some (.own es) → σ[i]? = some (some (.ref p)) → σ[j]? = some (some (.ref p)) → i = j
  al : ∀ (i j : Nat), s[i]? = some (.ali j) → σ[i]? = σ[j]? ∧ ∃ ds, s[j]? = some (.own ds)
section
variable {W : Wd} {M0 M : Addr → Prop} {H0 H H' : Hp} {σ : L2.St} {s : Ss}
theorem SlotR.ex {x : Sl} {o : Option V} (h : SlotR W M H0 H x o) (e : Ex H H') : SlotR W M H0 H' x o := by
  cases x with
  | un => exact h
  | val d => obtain ⟨v, e1, e2⟩ := h; exact ⟨v, e1, e2.ex e⟩
  | own ds => obtain ⟨p, vs, e1, e2, e3, e4, e5⟩ := h; exact ⟨p, vs, e1, e _ _ e2, e3, e4, e5.ex e⟩
  | ali j => trivial
theorem ne_ex {a : Addr} (h : H a ≠ none) (e : Ex H H') : H' a ≠ none := by
  cases q : H a with
  | none => exact absurd q h
  | some o => rw [e a o q]; simp
theorem mut_ne {a : Addr} (h : Mut (H a)) : H a ≠ none := fun z => by rw [z] at h; exact h
theorem mut_ex {a : Addr} (h : Mut (H a)) (e : Ex H H') : Mut (H' a) := by
  cases q : H a with
  | none => rw [q] at h; exact h.elim
  | some o => rw [q] at h; rw [e a o q]; exact h
theorem FI.exx (I : FI W M0 M H0 H σ s) (e : Ex H H') : FI W M0 M H0 H' σ s :=
  ⟨I.len, I.ex.trans e, I.m0, I.base, fun a m => ⟨mut_ex (I.fresh a m).1 e, (I.fresh a m).2⟩, fun i x q => let ⟨o, e1, e2⟩ := I.sl i x q; ⟨o, e1, e2.ex e⟩, I.nd, I.al⟩
end
/-- a value for slot i -/
structure Cn where
  W : Wd
  M0 : Addr → Prop
  H0 : Hp
  Wx : WX
def tD (C : Cn) (f : EF) : TE := fun σ H Q => ∃ M s, FI C.W C.M0 M C.H0 H σ s ∧ ResR C.W M H Q (fun c d H' => C.Wx c d σ H') (f s)
/-- how the frame's lists and the heap go on -/
structure Evo (M : Addr → Prop) (H : Hp) (M' : Addr → Prop) (H' : Hp) : Prop where
  em : Em M H H'
  mm : ∀ a, M' a → M a ∨ H a = none
theorem Evo.refl {M : Addr → Prop} {H : Hp} : Evo M H M H := ⟨.refl, fun _ h => .inl h⟩
theorem Evo.trans {M M1 M2 : Addr → Prop} {H H1 H2 : Hp} (a : Evo M H M1 H1) (b : Evo M1 H1 M2 H2) : Evo M H M2 H2 := by
  refine ⟨fun x o h n => ?_, fun x h => ?_⟩
  · refine b.em x o (a.em x o h n) fun z => ?_
    rcases a.mm x z with z | z
    · exact n z
    · rw [h] at z; cases z
  · rcases b.mm x h with z | z
    · exact a.mm x z
    · cases q : H x with
      | none => exact .inr rfl
      | some o =>
        refine .inl (Classical.byContradiction fun n => ?_)
        rw [a.em x o q n] at z
        cases z
theorem Evo.ex {M : Addr → Prop} {H H' : Hp} (e : Ex H H') : Evo M H M H' := ⟨.of e, fun _ h => .inl h⟩
theorem Evo.rep {W : Wd} {M M' : Addr → Prop} {H H' : Hp} (e : Evo M H M' H') {d : D} {v : V} (r : Rep W M H d v) : Rep W M' H' d v := r.move e.em e.mm
theorem Evo.repL {W : Wd} {M M' : Addr → Prop} {H H' : Hp} (e : Evo M H M' H') {d : List D} {v : List V} (r : RepL W M H d v) : RepL W M' H' d v := r.move e.em e.mm
/-- .. and the slots that are not written -/
structure Evs (w : List Nat) (M : Addr → Prop) (H : Hp) (σ : L2.St) (M' : Addr → Prop) (H' : Hp) (σ' : L2.St) : Prop where
  evo : Evo M H M' H'
  kp : ∀ k, k ∉ w → σ'[k]? = σ[k]?
theorem Evs.refl {w : List Nat} {M : Addr → Prop} {H : Hp} {σ : L2.St} : Evs w M H σ M H σ := ⟨.refl, fun _ _ => rfl⟩
theorem Evs.ex {w : List Nat} {M : Addr → Prop} {H H' : Hp} {σ : L2.St} (e : Ex H H') : Evs w M H σ M H' σ := ⟨.ex e, fun _ _ => rfl⟩
theorem Evs.of {w : List Nat} {M M' : Addr → Prop} {H H' : Hp} {σ : L2.St} (e : Evo M H M' H') : Evs w M H σ M' H' σ := ⟨e, fun _ _ => rfl⟩
theorem Evs.trans {w : List Nat} {M M1 M2 : Addr → Prop} {H H1 H2 : Hp} {σ σ1 σ2 : L2.St} (a : Evs w M H σ M1 H1 σ1) (b : Evs w M1 H1 σ1 M2 H2 σ2) : Evs w M H σ M2 H2 σ2 :=
  ⟨a.evo.trans b.evo, fun k h => (b.kp k h).trans (a.kp k h)⟩
theorem Evs.sub {w w' : List Nat} {M M' : Addr → Prop} {H H' : Hp} {σ σ' : L2.St} (a : Evs w M H σ M' H' σ') (h : ∀ k, k ∈ w → k ∈ w') : Evs w' M H σ M' H' σ' := ⟨a.evo, fun k n => a.kp k fun z => n (h k z)⟩
def OutR (C : Cn) (w : List Nat) (M : Addr → Prop) (H : Hp) (σ : L2.St) (Dn : Ends) : Out → Prop
  | .next s => ∀ M' H' σ', Evs w M H σ M' H' σ' → FI C.W C.M0 M' C.H0 H' σ' s → Dn.nx σ' H'
  | .brk s => ∀ M' H' σ', Evs w M H σ M' H' σ' → FI C.W C.M0 M' C.H0 H' σ' s → Dn.bk σ' H'
  | .cont s => ∀ M' H' σ', Evs w M H σ M' H' σ' → FI C.W C.M0 M' C.H0 H' σ' s → Dn.ct σ' H'
  | .ret d => ∀ v H', Ex C.H0 H' → Rep C.W C.M0 H' d v → Dn.rt v H'
  | .exc c es s => ∀ M' H' σ' d, Evs w M H σ M' H' σ' → FI C.W C.M0 M' C.H0 H' σ' s → XRel C.W M' c es H' d → C.Wx (.ref (C.W.cl c)) d σ' H'
  | .stuck => False
theorem OutR.evo {C : Cn} {w w' : List Nat} {M M1 : Addr → Prop} {H H1 : Hp} {σ σ1 : L2.St} {Dn : Ends} {o : Out} (h : OutR C w M H σ Dn o) (e : Evs w M H σ M1 H1 σ1) (sub : ∀ k, k ∈ w' → k ∈ w) : OutR C w' M1 H1 σ1 Dn o := by
  cases o with
  | next s => exact fun M' H' σ' e' I => h M' H' σ' (e.trans (e'.sub sub)) I
  | brk s => exact fun M' H' σ' e' I => h M' H' σ' (e.trans (e'.sub sub)) I
  | cont s => exact fun M' H' σ' e' I => h M' H' σ' (e.trans (e'.sub sub)) I
  | ret d => exact h
  | exc c es s => exact fun M' H' σ' d e' I => h M' H' σ' d (e.trans (e'.sub sub)) I
  | stuck => exact h
theorem OutR.go {C : Cn} {w : List Nat} {M M1 : Addr → Prop} {H H1 : Hp} {σ σ1 : L2.St} {Dn : Ends} {o : Out} (h : OutR C w M H σ Dn o) (e : Evs w M H σ M1 H1 σ1) : OutR C w M1 H1 σ1 Dn o := h.evo e fun _ z => z
def tS (C : Cn) (w : List Nat) (F : SF) : TS := fun Dn σ H => ∃ M s, FI C.W C.M0 M C.H0 H σ s ∧ OutR C w M H σ Dn (F s)
abbrev QE (C : Cn) (X : Cx) (e : Expr) (f : EF) : Prop := PE X e (tD C f)
abbrev QS (C : Cn) (X : Cx) (st : Stmt) (w : List Nat) (F : SF) : Prop := PS X st (tS C w F)
abbrev QSs (C : Cn) (X : Cx) (st : List Stmt) (w : List Nat) (F : SF) : Prop := PSs X st (tS C w F)

theorem PE.imp {X : Cx} {e : Expr} {t t' : TE} (h : PE X e t) (i : ∀ σ H Q, t' σ H Q → t σ H Q) : PE X e t' := ⟨fun pins s σ H Q I q => h.run pins s σ H Q I (i _ _ _ q)⟩
theorem PT.imp {X : Cx} {e : Expr} {t t' : TT} (h : PT X e t) (i : ∀ σ H Q, t' σ H Q → t σ H Q) : PT X e t' := ⟨fun pins s σ H Q I q => h.run pins s σ H Q I (i _ _ _ q)⟩
theorem PS.imp {X : Cx} {e : Stmt} {t t' : TS} (h : PS X e t) (i : ∀ Dn σ H, t' Dn σ H → t Dn σ H) : PS X e t' := ⟨fun pins s σ H Dn I q => h.run pins s σ H Dn I (i _ _ _ q)⟩
theorem PSs.imp {X : Cx} {e : List Stmt} {t t' : TS} (h : PSs X e t) (i : ∀ Dn σ H, t' Dn σ H → t Dn σ H) : PSs X e t' := ⟨fun pins s σ H Dn I q => h.run pins s σ H Dn I (i _ _ _ q)⟩

/-! ### a def -/
def initS (N : Nat) (ds : List D) : Ss := ds.map Sl.val ++ List.replicate (N - ds.length) Sl.un
def resO : Out → Res
  | .ret d => .ok d
  | .next _ => .ok .non
  | .exc c es _ => .exc c es
  | _ => .stuck
def runD (np N : Nat) (B : SF) : List D → Res := fun ds => if ds.length = np then resO (B (initS N ds)) else .stuck
theorem fi_start {W : Wd} {M0 : Addr → Prop} {H : Hp} {N : List Str} {ds : List D} {vs : List V} (m0 : ∀ a, M0 a → Mut (H a)) (r : RepL W M0 H ds vs) : FI W M0 M0 H H (L2.start N vs) (initS N.length ds) := by
  have hl := r.length
  refine ⟨?_, Ex.refl H, m0, fun _ h => h, fun a h => ⟨m0 a h, .inl h⟩, fun i x e => ?_, fun i j ds' es p e1 _ _ _ => ?_, fun i j e1 => ?_⟩
  · unfold L2.start initS
    simp [hl]
  · unfold L2.start
    unfold initS at e
    rcases Nat.lt_or_ge i ds.length with h | h
    · rw [List.getElem?_append_left (by simpa using h), List.getElem?_map] at e
      rw [List.getElem?_append_left (by simpa [← hl] using h), List.getElem?_map]
      cases q : ds[i]? with
      | none => rw [q] at e; cases e
      | some d =>
        rw [q] at e
        have e' : Sl.val d = x := Option.some.inj e
        subst e'
        obtain ⟨v, e1, e2⟩ := r.get q
        rw [e1]
        exact ⟨some v, rfl, v, rfl, e2⟩
    · rw [List.getElem?_append_right (by simpa using h)] at e
      rw [List.getElem?_append_right (by simpa [← hl] using h)]
      have hx : x = Sl.un := by
        rw [List.getElem?_replicate] at e
        split at e
        · exact (Option.some.inj e).symm
        · cases e
      rw [List.getElem?_replicate] at e ⊢
      rw [List.length_map] at e ⊢
      rw [← hl]
      split at e
      · rename_i z
        rw [if_pos z]
        exact ⟨none, rfl, by rw [hx]; trivial⟩
      · cases e
  · unfold initS at e1
    rcases Nat.lt_or_ge i ds.length with h | h
    · rw [List.getElem?_append_left (by simpa using h), List.getElem?_map] at e1
      cases q : ds[i]? with
      | none => rw [q] at e1; cases e1
      | some d => rw [q] at e1; cases e1
    · rw [List.getElem?_append_right (by simpa using h), List.getElem?_replicate] at e1
      split at e1
      · cases e1
      · cases e1
  · unfold initS at e1
    rcases Nat.lt_or_ge i ds.length with h | h
    · rw [List.getElem?_append_left (by simpa using h), List.getElem?_map] at e1
      cases q : ds[i]? with
      | none => rw [q] at e1; cases e1
      | some d => rw [q] at e1; cases e1
    · rw [List.getElem?_append_right (by simpa using h), List.getElem?_replicate] at e1
      split at e1
      · cases e1
      · cases e1
theorem FI.back {W : Wd} {M0 M : Addr → Prop} {H0 H : Hp} {σ : L2.St} {s : Ss} (I : FI W M0 M H0 H σ s) {d : D} {v : V} (r : Rep W M H d v) : Rep W M0 H d v := r.sub fun a h => .inl (I.base a h)
section
variable {P : Program} {w : World} {W : Wd} {mg : Str → Option Value} {base : Heap} {x qual : Str} {params : Arguments} {body : List Stmt} {scope : Scope} {dvs : List V} {kws : List (Str × V)} {f : Addr} {fd : FuncData}
theorem def_ok {N ps : List Str} {k : Nat} {w' : List Nat} {B : SF} (F : FunD W.K x qual params body scope dvs kws f fd) (S : FnScope N ps scope)
    (hb : ∀ (cdv : Value) (A : Around) (outer : List Env) (s : Shared) (H : Hp) (M0 : Addr → Prop) (E : XK), Room k (A.deeper (envOfC qual scope s.heap.objs.size f cdv)) →
      QSs ⟨W, M0, H, fun cls d _ H' => E cls d H'⟩ (cxOf (L2.CX P w) P w W.K mg base N qual scope f cdv A outer s H E) body w' B) :
    FnOk P w W.K mg base (L2.CX P w) (k + 1) f fd ps (spD W (runD ps.length N.length B)) := by
  refine F.ok S (fun vs H Q E h => ?_) (fun cdv A outer s H vs Q E hr h => ?_)
  · obtain ⟨M0, ds, _, r, q⟩ := h
    rw [← r.length]
    unfold runD at q
    split at q
    · assumption
    · exact q.elim
  · obtain ⟨M0, ds, m0, r, q⟩ := h
    refine ⟨_, hb cdv A outer s H M0 E hr, M0, initS N.length ds, fi_start m0 r, ?_⟩
    unfold runD at q
    split at q
    · cases e : B (initS N.length ds) with
      | next s' =>
        rw [e] at q
        intro M H' σ _ I
        exact q .non H' I.ex (by unfold Rep; rfl)
      | ret d =>
        rw [e] at q
        intro v H' e' r'
        exact q v H' e' r'
      | exc c es s' =>
        rw [e] at q
        intro M H' σ d _ I r'
        refine q d H' I.ex ?_
        rcases r' with r' | ⟨dd, ws, e1, e2, e3, e4⟩
        · exact .inl r'
        · exact .inr ⟨dd, ws, e1, e2, e3, e4.sub fun a h => .inl (I.base a h)⟩
      | brk s' => rw [e] at q; exact q.elim
      | cont s' => rw [e] at q; exact q.elim
      | stuck => rw [e] at q; exact q.elim
    · exact q.elim
end
end Dl

/-! D-layer, part 2: the state's lemmas; the context; names, constants, operators, tests. -/
namespace Dl
open PySem PySem.Spec PyProof.Rows L2 Evl

/-! ### the state's steps -/
/-- the other names of slot j are forgotten -/
def unali (j : Nat) (x : Sl) : Sl := match x with
  | .ali k => if k = j then .un else .ali k
  | x => x
@[simp] theorem unali_un (j : Nat) : unali j .un = .un := rfl
@[simp] theorem unali_val (j : Nat) (d : D) : unali j (.val d) = .val d := rfl
@[simp] theorem unali_own (j : Nat) (d : List D) : unali j (.own d) = .own d := rfl
theorem unali_ali (j k : Nat) : unali j (.ali k) = if k = j then .un else .ali k := rfl
@[simp] theorem unali_same (j : Nat) : unali j (.ali j) = .un := by simp [unali_ali]
def setS (s : Ss) (i : Nat) (x : Sl) : Ss := (s.map (unali i)).set i x
section
variable {W : Wd} {M0 M : Addr → Prop} {H0 H H' : Hp} {σ : L2.St} {s : Ss} {i : Nat}
theorem map_at {j : Nat} {x : Sl} (h : (s.map (unali i))[j]? = some x) : ∃ y, s[j]? = some y ∧ x = unali i y := by
  rw [List.getElem?_map] at h
  cases q : s[j]? with
  | none => rw [q] at h; cases h
  | some y => rw [q] at h; exact ⟨y, rfl, (Option.some.inj h).symm⟩
theorem unali_own_iff {y : Sl} {ds : List D} (h : unali i y = .own ds) : y = .own ds := by
  cases y with
  | ali k => unfold unali at h; dsimp only at h; split at h <;> cases h
  | _ => exact h
theorem unali_ali_iff {y : Sl} {k : Nat} (h : unali i y = .ali k) : y = .ali k ∧ k ≠ i := by
  cases y with
  | ali j =>
    unfold unali at h
    dsimp only at h
    split at h
    · cases h
    · rename_i n
      cases h
      exact ⟨rfl, n⟩
  | _ => cases h
theorem slot_unali {y : Sl} {o : Option V} (h : SlotR W M H0 H y o) : SlotR W M H0 H (unali i y) o := by
  cases y with
  | ali k =>
    unfold unali
    dsimp only
    split <;> trivial
  | _ => exact h
/-- slot i takes a value; i is bound anew: its other names are forgotten -/
theorem FI.setAny (I : FI W M0 M H0 H σ s) {o : Option V} {x : Sl} (hi : i < s.length) (hx : SlotR W M H0 H x o) (nown : ∀ ds, x ≠ .own ds) (nali : ∀ k, x ≠ .ali k) :
    FI W M0 M H0 H (σ.set i o) (setS s i x) := by
  have hiσ : i < σ.length := by rw [I.len]; exact hi
  refine ⟨by simp [setS, I.len], I.ex, I.m0, I.base, I.fresh, fun j y e => ?_, fun j k ds es p e1 e2 e3 e4 => ?_, fun j k e => ?_⟩
  · unfold setS at e
    by_cases h : j = i
    · subst h
      rw [List.getElem?_set_self (by simpa using hi)] at e
      cases e
      exact ⟨o, List.getElem?_set_self hiσ, hx⟩
    · rw [List.getElem?_set_ne (Ne.symm h)] at e
      obtain ⟨z, e1, rfl⟩ := map_at e
      obtain ⟨o', e2, e3⟩ := I.sl j z e1
      exact ⟨o', by rw [List.getElem?_set_ne (Ne.symm h)]; exact e2, slot_unali e3⟩
  · have own_at : ∀ (j : Nat) (ds : List D), (setS s i x)[j]? = some (.own ds) → j ≠ i ∧ s[j]? = some (.own ds) := fun j ds e => by
      unfold setS at e
      by_cases h : j = i
      · subst h
        rw [List.getElem?_set_self (by simpa using hi)] at e
        exact absurd (Option.some.inj e) (nown ds)
      · rw [List.getElem?_set_ne (Ne.symm h)] at e
        obtain ⟨z, e1, e2⟩ := map_at e
        rw [unali_own_iff e2.symm] at e1
        exact ⟨h, e1⟩
    obtain ⟨n1, a1⟩ := own_at j ds e1
    obtain ⟨n2, a2⟩ := own_at k es e2
    rw [List.getElem?_set_ne (Ne.symm n1)] at e3
    rw [List.getElem?_set_ne (Ne.symm n2)] at e4
    exact I.nd j k ds es p a1 a2 e3 e4
  · unfold setS at e
    by_cases h : j = i
    · subst h
      rw [List.getElem?_set_self (by simpa using hi)] at e
      exact absurd (Option.some.inj e) (nali k)
    · rw [List.getElem?_set_ne (Ne.symm h)] at e
      obtain ⟨z, e1, e2⟩ := map_at e
      obtain ⟨e2, n⟩ := unali_ali_iff e2.symm
      rw [e2] at e1
      obtain ⟨a1, ds, a2⟩ := I.al j k e1
      refine ⟨by rw [List.getElem?_set_ne (Ne.symm h), List.getElem?_set_ne (Ne.symm n)]; exact a1, ds, ?_⟩
      unfold setS
      rw [List.getElem?_set_ne (Ne.symm n), List.getElem?_map, a2] <;> rfl
theorem FI.setV (I : FI W M0 M H0 H σ s) {d : D} {v : V} (hi : i < s.length) (r : Rep W M H d v) : FI W M0 M H0 H (σ.set i (some v)) (setS s i (.val d)) :=
  I.setAny hi ⟨v, rfl, r⟩ (fun _ z => nomatch z) fun _ z => nomatch z
theorem FI.setU (I : FI W M0 M H0 H σ s) {o : Option V} (hi : i < s.length) : FI W M0 M H0 H (σ.set i o) (setS s i .un) :=
  I.setAny hi trivial (fun _ z => nomatch z) fun _ z => nomatch z
/-- slot i becomes another name of the own slot j -/
theorem FI.setA (I : FI W M0 M H0 H σ s) {j : Nat} {ds : List D} {v : V} (hi : i < s.length) (hj : s[j]? = some (.own ds)) (hv : σ[j]? = some (some v)) (ne : j ≠ i) : FI W M0 M H0 H (σ.set i (some v)) (setS s i (.ali j)) := by
  have I1 := I.setU (o := some v) hi
  have hiσ : i < σ.length := by rw [I.len]; exact hi
  have hl : i < (s.map (unali i)).length := by simpa using hi
  have su : ∀ k, k ≠ i → (setS s i (.ali j))[k]? = (setS s i .un)[k]? := fun k h => by
    unfold setS
    rw [List.getElem?_set_ne (Ne.symm h), List.getElem?_set_ne (Ne.symm h)]
  have si : (setS s i (.ali j))[i]? = some (.ali j) := by unfold setS; exact List.getElem?_set_self hl
  refine ⟨by simp [setS, I.len], I.ex, I.m0, I.base, I.fresh, fun k y e => ?_, fun k l ds es p e1 e2 e3 e4 => ?_, fun k l e => ?_⟩
  · by_cases h : k = i
    · subst h
      rw [si] at e
      cases e
      exact ⟨_, List.getElem?_set_self hiσ, trivial⟩
    · rw [su k h] at e
      exact I1.sl k y e
  · have n1 : k ≠ i := fun z => by subst z; rw [si] at e1; cases e1
    have n2 : l ≠ i := fun z => by subst z; rw [si] at e2; cases e2
    rw [su k n1] at e1
    rw [su l n2] at e2
    exact I1.nd k l ds es p e1 e2 e3 e4
  · by_cases h : k = i
    · subst h
      rw [si] at e
      cases e
      refine ⟨by rw [List.getElem?_set_self hiσ, List.getElem?_set_ne (Ne.symm ne)]; exact hv.symm, ds, ?_⟩
      rw [su j ne]
      unfold setS
      rw [List.getElem?_set_ne (Ne.symm ne), List.getElem?_map, hj] <;> rfl
    · rw [su k h] at e
      obtain ⟨a1, es, a2⟩ := I1.al k l e
      refine ⟨a1, es, ?_⟩
      have n : l ≠ i := fun z => by
        subst z
        unfold setS at a2
        rw [List.getElem?_set_self hl] at a2
        cases a2
      rw [su l n]
      exact a2
/-- a new list becomes slot i's own -/
theorem FI.setO (I : FI W M0 M H0 H σ s) {ds : List D} {p : Addr} {vs : List V} {Hm : Hp} (hi : i < s.length) (e1 : Ex H Hm) (n : Hm p = none) (e2 : Ex Hm H') (r : RepL W M Hm ds vs) (hp : H' p = some (.lst vs)) :
    FI W M0 (fun a => M a ∨ a = p) H0 H' (σ.set i (some (.ref p))) (setS s i (.own ds)) := by
  have I1 := I.exx e1
  have n0 : H0 p = none := fresh_back I1.ex n
  have mv : ∀ a, (M a ∨ a = p) → M a ∨ Hm a = none := fun a h => h.elim .inl fun z => .inr (by rw [z]; exact n)
  have em : Em M Hm H' := .of e2
  have hiσ : i < σ.length := by rw [I.len]; exact hi
  have hl : i < (s.map (unali i)).length := by simpa using hi
  have slm : ∀ {y : Sl} {o : Option V}, SlotR W M H0 Hm y o → SlotR W (fun a => M a ∨ a = p) H0 H' y o := fun {y o} h => by
    cases y with
    | un => trivial
    | ali k => trivial
    | val d => obtain ⟨v, a, b⟩ := h; exact ⟨v, a, b.move em mv⟩
    | own es => obtain ⟨q, us, a, b, c, d, e⟩ := h; exact ⟨q, us, a, e2 _ _ b, .inl c, d, e.move em mv⟩
  refine ⟨by simp [setS, I.len], I1.ex.trans e2, I.m0, fun a h => .inl (I.base a h), fun a h => ?_, fun k y e => ?_, fun k l ds' es q a1 a2 a3 a4 => ?_, fun k l e => ?_⟩
  · rcases h with h | h
    · exact ⟨mut_ex (I1.fresh a h).1 e2, (I1.fresh a h).2⟩
    · subst h
      exact ⟨by rw [hp]; trivial, .inr n0⟩
  · unfold setS at e
    by_cases h : k = i
    · subst h
      rw [List.getElem?_set_self hl] at e
      cases e
      exact ⟨_, List.getElem?_set_self hiσ, p, vs, rfl, hp, .inr rfl, n0, r.move em mv⟩
    · rw [List.getElem?_set_ne (Ne.symm h)] at e
      obtain ⟨z, b1, rfl⟩ := map_at e
      obtain ⟨o', b2, b3⟩ := I1.sl k z b1
      exact ⟨o', by rw [List.getElem?_set_ne (Ne.symm h)]; exact b2, slm (slot_unali b3)⟩
  · have old : ∀ (k : Nat) (es : List D), k ≠ i → (setS s i (.own ds))[k]? = some (.own es) → (σ.set i (some (.ref p)))[k]? = some (some (.ref q)) → s[k]? = some (.own es) ∧ σ[k]? = some (some (.ref q)) ∧ q ≠ p := fun k es h e a => by
      unfold setS at e
      rw [List.getElem?_set_ne (Ne.symm h)] at e a
      obtain ⟨z, b1, b2⟩ := map_at e
      rw [unali_own_iff b2.symm] at b1
      obtain ⟨o', b3, q', us, b4, b5, _⟩ := I1.sl k _ b1
      rw [a] at b3
      rw [← Option.some.inj b3] at b4
      cases b4
      exact ⟨b1, a, ne_of_none b5 n⟩
    by_cases h : k = i
    · by_cases h' : l = i
      · rw [h, h']
      · obtain ⟨_, _, c⟩ := old l es h' a2 a4
        subst h
        rw [List.getElem?_set_self hiσ] at a3
        cases a3
        exact absurd rfl c
    · by_cases h' : l = i
      · obtain ⟨_, _, c⟩ := old k ds' h a1 a3
        subst h'
        rw [List.getElem?_set_self hiσ] at a4
        cases a4
        exact absurd rfl c
      · obtain ⟨b1, b2, _⟩ := old k ds' h a1 a3
        obtain ⟨c1, c2, _⟩ := old l es h' a2 a4
        exact I.nd k l ds' es q b1 c1 b2 c2
  · unfold setS at e
    by_cases h : k = i
    · subst h
      rw [List.getElem?_set_self hl] at e
      cases e
    · rw [List.getElem?_set_ne (Ne.symm h)] at e
      obtain ⟨z, b1, b2⟩ := map_at e
      obtain ⟨b2, nn⟩ := unali_ali_iff b2.symm
      rw [b2] at b1
      obtain ⟨c1, es, c2⟩ := I.al k l b1
      refine ⟨by rw [List.getElem?_set_ne (Ne.symm h), List.getElem?_set_ne (Ne.symm nn)]; exact c1, es, ?_⟩
      unfold setS
      rw [List.getElem?_set_ne (Ne.symm nn), List.getElem?_map, c2] <;> rfl
/-- slot i's own list changes -/
theorem FI.change (I : FI W M0 M H0 H σ s) {ds es : List D} {p : Addr} {us : List V} (hs : s[i]? = some (.own ds)) (hp : σ[i]? = some (some (.ref p))) (r : RepL W M H es us) :
    FI W M0 M H0 (upd H p (.lst us)) σ (s.set i (.own es)) := by
  obtain ⟨o, b1, q, vs, b2, b3, b4, b5, b6⟩ := I.sl i _ hs
  rw [hp] at b1
  rw [← Option.some.inj b1] at b2
  cases b2
  have hi : i < s.length := (List.getElem?_eq_some_iff.mp hs).1
  have em : Em M H (upd H p (.lst us)) := fun a o h n => by rw [upd_ne (fun z => n (by rw [z]; exact b4))]; exact h
  refine ⟨by simpa using I.len, fun a o h => ?_, I.m0, I.base, fun a h => ⟨?_, (I.fresh a h).2⟩, fun k y e => ?_, fun k l ds' es' q a1 a2 a3 a4 => ?_, fun k l e => ?_⟩
  · rw [upd_ne (ne_of_none h b5)]
    exact I.ex a o h
  · by_cases z : a = p
    · subst z; rw [upd_same]; trivial
    · rw [upd_ne z]; exact (I.fresh a h).1
  · by_cases h : k = i
    · subst h
      rw [List.getElem?_set_self hi] at e
      cases e
      exact ⟨_, hp, p, us, rfl, upd_same, b4, b5, r.mono em⟩
    · rw [List.getElem?_set_ne (Ne.symm h)] at e
      obtain ⟨o, c1, c2⟩ := I.sl k y e
      refine ⟨o, c1, ?_⟩
      cases y with
      | un => trivial
      | ali k => trivial
      | val d => obtain ⟨v, x1, x2⟩ := c2; exact ⟨v, x1, x2.mono em⟩
      | own fs =>
        obtain ⟨q, ws, x1, x2, x3, x4, x5⟩ := c2
        subst x1
        have nq : q ≠ p := fun z => by
          subst z
          exact h (I.nd k i fs ds q e hs c1 hp)
        exact ⟨q, ws, rfl, by rw [upd_ne nq]; exact x2, x3, x4, x5.mono em⟩
  · have old : ∀ (k : Nat) (es' : List D), (s.set i (.own es))[k]? = some (.own es') → ∃ es'', s[k]? = some (.own es'') := fun k es' e => by
      by_cases h : k = i
      · subst h; exact ⟨ds, hs⟩
      · rw [List.getElem?_set_ne (Ne.symm h)] at e; exact ⟨es', e⟩
    obtain ⟨x1, y1⟩ := old k ds' a1
    obtain ⟨x2, y2⟩ := old l es' a2
    exact I.nd k l x1 x2 q y1 y2 a3 a4
  · have hk : k ≠ i := fun z => by
      subst z
      rw [List.getElem?_set_self hi] at e
      cases e
    rw [List.getElem?_set_ne (Ne.symm hk)] at e
    obtain ⟨c1, fs, c2⟩ := I.al k l e
    refine ⟨c1, ?_⟩
    by_cases h : l = i
    · subst h; exact ⟨es, List.getElem?_set_self hi⟩
    · exact ⟨fs, by rw [List.getElem?_set_ne (Ne.symm h)]; exact c2⟩
end

/-! ### the context of a body -/
structure Bx (C : Cn) (X : Cx) (k : Nat) : Prop where
  hK : X.K = C.W.K
  tk : Takes X C.Wx
  room : Room k X.A
  calm : X.calm = true
  nd : X.N.Nodup
  po : PassesOwn (model X.prog X.w) X.A X.env X.xe

/-! ### names and constants -/
/-- the tree at slot i; a name of an own list gives the list as it is (RepB: to look at, not to keep) -/
def atV (i : Nat) : EF := fun s => match s[i]? with
  | some (.val d) => .ok d
  | _ => .stuck
def atB (i : Nat) : EF := fun s => match s[i]? with
  | some (.val d) => .ok d
  | some (.own ds) => .ok (.lst ds)
  | some (.ali j) => (match s[j]? with
    | some (.own ds) => .ok (.lst ds)
    | _ => .stuck)
  | _ => .stuck
def RepB (W : Wd) (M : Addr → Prop) (H : Hp) (d : D) (v : V) : Prop := Rep W M H d v ∨ ∃ p vs ds, d = .lst ds ∧ v = .ref p ∧ H p = some (.lst vs) ∧ RepL W M H ds vs
theorem RepB.ex {W : Wd} {M : Addr → Prop} {H H' : Hp} {d : D} {v : V} (h : RepB W M H d v) (e : Ex H H') : RepB W M H' d v := by
  rcases h with h | ⟨p, vs, ds, a, b, c, r⟩
  · exact .inl (h.ex e)
  · exact .inr ⟨p, vs, ds, a, b, e _ _ c, r.ex e⟩
def kB (W : Wd) (M : Addr → Prop) (Q : VK) : Hp → D → Prop := fun H d => ∀ v H', Ex H H' → RepB W M H' d v → Q v H'
/-- an expression whose value is only looked at -/
def tB_ (C : Cn) (f : EF) : TE := fun σ H Q => ∃ M s, FI C.W C.M0 M C.H0 H σ s ∧ RsR C.W M H (fun c d H' => C.Wx c d σ H') (kB C.W M Q) (f s)
abbrev QB (C : Cn) (X : Cx) (e : Expr) (f : EF) : Prop := PE X e (tB_ C f)
/-- a new list -/
def kL (W : Wd) (M : Addr → Prop) (Q : VK) : Hp → List D → Prop := fun H ds => ∀ p vs Hm H', Ex H Hm → Hm p = none → Ex Hm H' → RepL W M Hm ds vs → H' p = some (.lst vs) → Q (.ref p) H'
def tL (C : Cn) (f : Ss → Rs (List D)) : TE := fun σ H Q => ∃ M s, FI C.W C.M0 M C.H0 H σ s ∧ RsR C.W M H (fun c d H' => C.Wx c d σ H') (kL C.W M Q) (f s)
abbrev QL (C : Cn) (X : Cx) (e : Expr) (f : Ss → Rs (List D)) : Prop := PE X e (tL C f)
section
variable {C : Cn} {X : Cx} {k : Nat} {e a b : Expr} {f fa fb : EF} {pos : Pos}
theorem RsR.imp {α : Type} {W : Wd} {M : Addr → Prop} {H : Hp} {E : XK} {P P' : Hp → α → Prop} {r : Rs α} (h : RsR W M H E P r) (i : ∀ d, P H d → P' H d) : RsR W M H E P' r := h.ex (Ex.refl H) i
theorem QE.tob (h : QE C X e f) : QB C X e f := PE.imp h fun σ H Q ⟨M, s, I, r⟩ => ⟨M, s, I, r.imp fun d q v H' e1 r' => q v H' e1 (.inl r')⟩
theorem QL.toe {g : Ss → Rs (List D)} (h : QL C X e g) : QE C X e (fun s => (g s).bind fun ds => .ok (.lst ds)) := PE.imp h fun σ H Q ⟨M, s, I, r⟩ => ⟨M, s, I, r.bind fun ds q p vs Hm H' e1 n e2 r' hp => by
  refine q (.ref p) H' (e1.trans e2) ?_
  unfold Rep
  refine ⟨p, vs, rfl, hp, fun z => ?_, r'.ex e2⟩
  exact mut_ne ((I.exx e1).fresh p z).1 n⟩
theorem qe_name (i : Nat) {x : Str} (hN : X.N[i]? = some x := by rfl) (hv : Vis X.env.scope x := by first | exact Or.inl rfl | exact Or.inr (Or.inl rfl) | exact Or.inr (Or.inr rfl)) (hd : (x == ("__debug__" : Str)) = false := by decide)
    (hcd : (x == ("__classdict__" : Str)) = false := by decide) : QE C X (.Name x pos) (atV i) := PE.imp (pe_var hN hv hd hcd) fun σ H Q ⟨M, s, I, r⟩ => by
  unfold atV at r
  cases q : s[i]? with
  | none => rw [q] at r; exact r.elim
  | some x =>
    rw [q] at r
    cases x with
    | val d =>
      obtain ⟨o, e1, v, e2, e3⟩ := I.sl i _ q
      subst e2
      exact ⟨v, e1, r v H (Ex.refl H) e3⟩
    | _ => exact r.elim
theorem qb_name (i : Nat) {x : Str} (hN : X.N[i]? = some x := by rfl) (hv : Vis X.env.scope x := by first | exact Or.inl rfl | exact Or.inr (Or.inl rfl) | exact Or.inr (Or.inr rfl)) (hd : (x == ("__debug__" : Str)) = false := by decide)
    (hcd : (x == ("__classdict__" : Str)) = false := by decide) : QB C X (.Name x pos) (atB i) := PE.imp (pe_var hN hv hd hcd) fun σ H Q ⟨M, s, I, r⟩ => by
  unfold atB at r
  cases q : s[i]? with
  | none => rw [q] at r; exact r.elim
  | some x =>
    rw [q] at r
    cases x with
    | un => exact r.elim
    | val d =>
      obtain ⟨o, e1, v, e2, e3⟩ := I.sl i _ q
      subst e2
      exact ⟨v, e1, r v H (Ex.refl H) (.inl e3)⟩
    | own ds =>
      obtain ⟨o, e1, p, vs, e2, e3, e4, e5, e6⟩ := I.sl i _ q
      subst e2
      exact ⟨_, e1, r _ H (Ex.refl H) (.inr ⟨p, vs, ds, rfl, rfl, e3, e6⟩)⟩
    | ali j =>
      dsimp only at r
      obtain ⟨a1, ds, a2⟩ := I.al i j q
      rw [a2] at r
      obtain ⟨o, e1, p, vs, e2, e3, e4, e5, e6⟩ := I.sl j _ a2
      subst e2
      exact ⟨_, a1.trans e1, r _ H (Ex.refl H) (.inr ⟨p, vs, ds, rfl, rfl, e3, e6⟩)⟩
theorem qe_c {v : V} {d : D} (h : PE X e (tC v)) (r : ∀ M H, Rep C.W M H d v) : QE C X e (fun _ => .ok d) := PE.imp h fun σ H Q ⟨M, s, I, q⟩ => q v H (Ex.refl H) (r M H)
theorem qe_int {i : Int} {j} : QE C X (.Constant (.int i) j pos) (fun _ => .ok (.int i)) := qe_c pe_int fun _ _ => by unfold Rep; rfl
theorem qe_bl {i : Bool} {j} : QE C X (.Constant (.bool i) j pos) (fun _ => .ok (.bl i)) := qe_c pe_bl fun _ _ => by unfold Rep; rfl
theorem qe_str {i : Str} {j} : QE C X (.Constant (.str i) j pos) (fun _ => .ok (.str i)) := qe_c pe_str fun _ _ => by unfold Rep; rfl
theorem qe_non {j} : QE C X (.Constant .none j pos) (fun _ => .ok .non) := qe_c pe_non fun _ _ => by unfold Rep; rfl

/-! ### one, two operands -/
/-- a rule on values and its function on trees -/
def Op1 (C : Cn) (r : V → Hp → VK → Prop) (g : D → Res) : Prop := ∀ {M : Addr → Prop} {H : Hp} {Q : VK} {E : XK} {d : D} {x : V}, (∀ a, M a → Mut (H a)) → RepB C.W M H d x → ResR C.W M H Q E (g d) → r x H Q
def Op2 (C : Cn) (r : R2) (g : D → D → Res) : Prop := ∀ {M : Addr → Prop} {H : Hp} {Q : VK} {E : XK} {d d' : D} {x y : V}, (∀ a, M a → Mut (H a)) → RepB C.W M H d x → RepB C.W M H d' y → ResR C.W M H Q E (g d d') → r x y H Q
theorem q_un {r : V → Hp → VK → Prop} {g : D → Res} (h : Op1 C r g) (ha : QB C X a fa) (hp : ∀ ta : TE, PE X a ta → PE X e (fun σ H Q => ta σ H fun x H1 => r x H1 Q)) : QE C X e (fun s => (fa s).bind g) :=
  PE.imp (hp _ ha) fun σ H Q ⟨M, s, I, q⟩ => ⟨M, s, I, q.bind fun d q' v H' e1 r' => h (fun a z => ((I.exx e1).fresh a z).1) r' (ResR.ex q' e1)⟩
theorem bin_imp {r : R2} {g : D → D → Res} (h : Op2 C r g) {σ : L2.St} {H : Hp} {Q : VK} (q : tD C (fun s => (fa s).bind fun d => (fb s).bind fun d' => g d d') σ H Q) : tOp r (tB_ C fa) (tB_ C fb) σ H Q :=
  let ⟨M, s, I, q⟩ := q
  ⟨M, s, I, q.bind fun d q' v H' e1 r1 => ⟨M, s, I.exx e1, RsR.bind (P' := kV C.W M Q) (ResR.ex q' e1) fun d' q2 v' H2 e2 r2 =>
    h (fun a z => (((I.exx e1).exx e2).fresh a z).1) (r1.ex e2) r2 (ResR.ex q2 e2)⟩⟩
theorem q_bin {r : R2} {g : D → D → Res} (h : Op2 C r g) (ha : QB C X a fa) (hb : QB C X b fb) (hp : ∀ ta tb : TE, PE X a ta → PE X b tb → PE X e (tOp r ta tb)) : QE C X e (fun s => (fa s).bind fun d => (fb s).bind fun d' => g d d') :=
  PE.imp (hp _ _ ha hb) fun σ H Q q => bin_imp h q
end
end Dl

/-! D-layer, part 3: statements. -/
namespace Dl
open PySem PySem.Spec PyProof.Rows L2 Evl

section
variable {C : Cn} {X : Cx} {k : Nat} {w w' : List Nat} {e a b : Expr} {f fa fb : EF} {F G : SF} {pos : Pos} {st : Stmt} {sts sts' : List Stmt}
/-! ### one behind another -/
def seqF (F G : SF) : SF := fun s => match F s with
  | .next s' => G s'
  | o => o
theorem qss_nil : QSs C X [] [] (fun s => .next s) := PSs.imp pss_nil fun Dn σ H ⟨M, s, I, q⟩ => q M H σ .refl I
theorem qss_one (h : QS C X st w F) : QSs C X [st] w F := pss_one h
theorem qss_cons (h : QS C X st w F) (t : QSs C X sts w' G) : QSs C X (st :: sts) (w ++ w') (seqF F G) := PSs.imp (pss_cons h t) fun Dn σ H ⟨M, s, I, q⟩ => ⟨M, s, I, by
  unfold seqF at q
  cases e : F s with
  | next s' =>
    rw [e] at q
    exact fun M' H' σ' ev I' => ⟨M', s', I', OutR.evo q (ev.sub fun _ z => List.mem_append_left _ z) fun _ z => List.mem_append_right _ z⟩
  | brk s' => rw [e] at q; exact fun M' H' σ' ev I' => q M' H' σ' (ev.sub fun _ z => List.mem_append_left _ z) I'
  | cont s' => rw [e] at q; exact fun M' H' σ' ev I' => q M' H' σ' (ev.sub fun _ z => List.mem_append_left _ z) I'
  | exc c es s' => rw [e] at q; exact fun M' H' σ' d ev I' => q M' H' σ' d (ev.sub fun _ z => List.mem_append_left _ z) I'
  | ret d => rw [e] at q; exact q
  | stuck => rw [e] at q; exact q⟩
theorem qs_pass : QS C X (.Pass pos) [] (fun s => .next s) := PS.imp ps_pass fun Dn σ H ⟨M, s, I, q⟩ => q M H σ .refl I
theorem qs_break : QS C X (.Break pos) [] (fun s => .brk s) := PS.imp ps_break fun Dn σ H ⟨M, s, I, q⟩ => q M H σ .refl I
theorem qs_cont : QS C X (.Continue pos) [] (fun s => .cont s) := PS.imp ps_continue fun Dn σ H ⟨M, s, I, q⟩ => q M H σ .refl I
/-- what an expression's result makes of the rest -/
def liftF {α : Type} (r : Rs α) (s : Ss) (k : α → Out) : Out := match r with
  | .ok d => k d
  | .exc c es => .exc c es s
  | .stuck => .stuck
@[simp] theorem liftF_ok {α : Type} (d : α) (s : Ss) (k : α → Out) : liftF (.ok d) s k = k d := rfl
@[simp] theorem liftF_exc {α : Type} (c : Nat) (es : List D) (s : Ss) (k : α → Out) : liftF (.exc c es : Rs α) s k = .exc c es s := rfl
@[simp] theorem liftF_stuck {α : Type} (s : Ss) (k : α → Out) : liftF (.stuck : Rs α) s k = .stuck := rfl
theorem OutR.lift {α : Type} {w : List Nat} {M : Addr → Prop} {H : Hp} {σ : L2.St} {s : Ss} {Dn : Ends} {r : Rs α} {k : α → Out} {P : Hp → α → Prop} (I : FI C.W C.M0 M C.H0 H σ s) (h : OutR C w M H σ Dn (liftF r s k)) (i : ∀ d, OutR C w M H σ Dn (k d) → P H d) :
    RsR C.W M H (fun c d H' => C.Wx c d σ H') P r := by
  cases r with
  | ok d => exact i d h
  | exc c es => exact fun d H' e' x => h M H' σ d (.ex e') (I.exx e') x
  | stuck => exact h
def setF (i : Nat) (s : Ss) (d : D) : Out := if i < s.length then .next (setS s i (.val d)) else .stuck
theorem qs_set (B : Bx C X k) {i : Nat} {x : Str} {pos' : Pos} (he : QE C X e f) (hi : X.N[i]? = some x := by rfl) (hx : Loc X.env.scope x := by first | exact Or.inl rfl | exact Or.inr rfl) (hs : swapsWith e (some (.Name x pos')) pos.line X.env = pure false := by rfl)
    (hf : X.fn x = true ∨ X.env.scope.names.lookup x = some .local := by first | exact .inl rfl | exact .inr rfl) : QS C X (.Assign [.Name x pos'] e pos) [i] (fun s => liftF (f s) s (setF i s)) :=
  PS.imp (ps_set B.nd hi hx he hs hf) fun Dn σ H ⟨M, s, I, q⟩ => ⟨M, s, I, q.lift I fun d q' v H' e1 r => by
    unfold setF at q'
    split at q'
    · rename_i hi
      exact q' M H' _ ⟨.ex e1, fun k n => List.getElem?_set_ne fun z => n (by simp [z])⟩ ((I.exx e1).setV hi r)
    · exact q'.elim⟩
/-- x = a new list, x a name whose list changes -/
def ownF (i : Nat) (s : Ss) (ds : List D) : Out := if i < s.length then .next (setS s i (.own ds)) else .stuck
theorem qs_own (B : Bx C X k) {i : Nat} {x : Str} {pos' : Pos} {f : Ss → Rs (List D)} (he : QL C X e f) (hi : X.N[i]? = some x := by rfl) (hx : Loc X.env.scope x := by first | exact Or.inl rfl | exact Or.inr rfl) (hs : swapsWith e (some (.Name x pos')) pos.line X.env = pure false := by rfl)
    (hf : X.fn x = true ∨ X.env.scope.names.lookup x = some .local := by first | exact .inl rfl | exact .inr rfl) : QS C X (.Assign [.Name x pos'] e pos) [i] (fun s => liftF (f s) s (ownF i s)) :=
  PS.imp (ps_set B.nd hi hx he hs hf) fun Dn σ H ⟨M, s, I, q⟩ => ⟨M, s, I, q.lift I fun ds q' p vs Hm H' e1 n e2 r hp => by
    unfold ownF at q'
    split at q'
    · rename_i hi
      refine q' _ H' _ ⟨⟨.of (e1.trans e2), fun a h => h.elim .inl fun z => .inr ?_⟩, fun k n => List.getElem?_set_ne fun z => n (by simp [z])⟩ (I.setO hi e1 n e2 r hp)
      rw [z]
      exact fresh_back e1 n
    · exact q'.elim⟩
/-- the frame's own list of slot i is looked at as a tree from here on (nothing happens in the machine) -/
def frz (i : Nat) (s : Ss) : Ss := match s[i]? with
  | some (.own ds) => setS s i (.val (.lst ds))
  | _ => s
theorem FI.frz {W : Wd} {M0 M : Addr → Prop} {H0 H : Hp} {σ : L2.St} {s : Ss} (I : FI W M0 M H0 H σ s) (i : Nat) : ∃ M', Evo M H M' H ∧ FI W M0 M' H0 H σ (frz i s) := by
  unfold Dl.frz
  cases q : s[i]? with
  | none => exact ⟨M, .refl, I⟩
  | some x =>
    cases x with
    | own ds =>
      obtain ⟨o, e1, p, vs, e2, e3, e4, e5, e6⟩ := I.sl i _ q
      subst e2
      have hi : i < s.length := (List.getElem?_eq_some_iff.mp q).1
      have hiσ : i < σ.length := by rw [I.len]; exact hi
      have sub : ∀ a, (M a ∧ a ≠ p) → M a ∨ H a = none := fun a h => .inl h.1
      have nm : ¬ M0 p := fun z => mut_ne (I.m0 p z) e5
      have I1 := I.setU (o := some (.ref p)) hi
      have es : σ.set i (some (.ref p)) = σ := by
        apply List.ext_getElem?
        intro j
        by_cases h : j = i
        · subst h; rw [List.getElem?_set_self hiσ, e1]
        · rw [List.getElem?_set_ne (Ne.symm h)]
      rw [es] at I1
      have hl : i < (s.map (unali i)).length := by simpa using hi
      have su : ∀ k, k ≠ i → (setS s i (.val (.lst ds)))[k]? = (setS s i .un)[k]? := fun k h => by
        unfold setS
        rw [List.getElem?_set_ne (Ne.symm h), List.getElem?_set_ne (Ne.symm h)]
      have si : (setS s i (.val (.lst ds)))[i]? = some (.val (.lst ds)) := by unfold setS; exact List.getElem?_set_self hl
      refine ⟨fun a => M a ∧ a ≠ p, ⟨.refl, sub⟩, by simp [setS, I.len], I.ex, I.m0, fun a h => ⟨I.base a h, fun z => nm (z ▸ h)⟩, fun a h => I.fresh a h.1, fun k y e => ?_, fun k l ds' es' r a1 a2 a3 a4 => ?_, fun k l e => ?_⟩
      · by_cases h : k = i
        · subst h
          rw [si] at e
          cases e
          refine ⟨_, e1, .ref p, rfl, ?_⟩
          unfold Rep
          exact ⟨p, vs, rfl, e3, fun z => z.2 rfl, e6.sub sub⟩
        · rw [su k h] at e
          obtain ⟨o, b1, b2⟩ := I1.sl k y e
          refine ⟨o, b1, ?_⟩
          cases y with
          | un => trivial
          | ali j => trivial
          | val d => obtain ⟨v, x1, x2⟩ := b2; exact ⟨v, x1, x2.sub sub⟩
          | own fs =>
            obtain ⟨q', ws, x1, x2, x3, x4, x5⟩ := b2
            refine ⟨q', ws, x1, x2, ⟨x3, fun z => ?_⟩, x4, x5.sub sub⟩
            subst z
            subst x1
            unfold setS at e
            rw [List.getElem?_set_ne (Ne.symm h)] at e
            obtain ⟨z, c1, c2⟩ := map_at e
            rw [unali_own_iff c2.symm] at c1
            exact h (I.nd k i fs ds q' c1 q b1 e1)
      · have n1 : k ≠ i := fun z => by subst z; rw [si] at a1; cases a1
        have n2 : l ≠ i := fun z => by subst z; rw [si] at a2; cases a2
        rw [su k n1] at a1
        rw [su l n2] at a2
        exact I1.nd k l ds' es' r a1 a2 a3 a4
      · have n1 : k ≠ i := fun z => by subst z; rw [si] at e; cases e
        rw [su k n1] at e
        obtain ⟨a1, es', a2⟩ := I1.al k l e
        have n2 : l ≠ i := fun z => by
          subst z
          unfold setS at a2
          rw [List.getElem?_set_self hl] at a2
          cases a2
        exact ⟨a1, es', by rw [su l n2]; exact a2⟩
    | _ => exact ⟨M, .refl, I⟩
theorem qs_frz (i : Nat) (h : QS C X st w F) : QS C X st w (fun s => F (frz i s)) := PS.imp h fun Dn σ H ⟨M, s, I, q⟩ => by
  obtain ⟨M', ev, I'⟩ := I.frz i
  exact ⟨M', _, I', q.go (.of ev)⟩
theorem qs_ret (he : QE C X e f) : QS C X (.Return (some e) pos) [] (fun s => liftF (f s) s .ret) :=
  PS.imp (ps_ret he) fun Dn σ H ⟨M, s, I, q⟩ => ⟨M, s, I, q.lift I fun d q' v H' e1 r => q' v H' (I.ex.trans e1) ((I.exx e1).back r)⟩
theorem qs_retN : QS C X (.Return none pos) [] (fun _ => .ret .non) := PS.imp ps_retN fun Dn σ H ⟨M, s, I, q⟩ => q .non H I.ex (by unfold Rep; rfl)
theorem qs_expr (he : QE C X e f) (hs : swapsWith e none pos.line X.env = pure false := by rfl) : QS C X (.Expr e pos) [] (fun s => liftF (f s) s fun _ => .next s) :=
  PS.imp (ps_expr he hs) fun Dn σ H ⟨M, s, I, q⟩ => ⟨M, s, I, q.lift I fun d q' v H' e1 r => q' M H' σ (.ex e1) (I.exx e1)⟩
/-! ### tests -/
def tDT (C : Cn) (f : Ss → Rs Bool) : TT := fun σ H Q => ∃ M s, FI C.W C.M0 M C.H0 H σ s ∧ RsR C.W M H (fun c d H' => C.Wx c d σ H') (fun H b => ∀ H', Ex H H' → Q b H') (f s)
abbrev QT (C : Cn) (X : Cx) (e : Expr) (f : Ss → Rs Bool) : Prop := PT X e (tDT C f)
abbrev QW (C : Cn) (X : Cx) (e : Expr) (f : Ss → Rs Bool) : Prop := PW X e (tDT C f)
def ifF (f : Ss → Rs Bool) (F G : SF) : SF := fun s => liftF (f s) s fun b => if b then F s else G s
theorem qs_if {f : Ss → Rs Bool} (hc : QT C X e f) (ha : QSs C X sts w F) (hb : QSs C X sts' w' G) : QS C X (.If e sts sts' pos) (w ++ w') (ifF f F G) :=
  PS.imp (ps_if hc ha hb) fun Dn σ H ⟨M, s, I, q⟩ => ⟨M, s, I, q.lift I fun c q' H' e1 => by
    cases c with
    | true => exact iteT ⟨M, s, I.exx e1, OutR.evo q' (.ex e1) fun _ z => List.mem_append_left _ z⟩
    | false => exact iteF ⟨M, s, I.exx e1, OutR.evo q' (.ex e1) fun _ z => List.mem_append_right _ z⟩⟩
/-! ### loops -/
/-- a target's assignment -/
def QG (C : Cn) (X : Cx) (target : Expr) (w : List Nat) (t : D → Ss → Option Ss) : Prop := ∃ g : TG, PG X target g ∧ ∀ {M : Addr → Prop} {H : Hp} {σ : L2.St} {s s' : Ss} {d : D} {v : V} {Q : L2.St → Hp → Prop}, FI C.W C.M0 M C.H0 H σ s → Rep C.W M H d v → t d s = some s' →
  (∀ σ', (∀ k, k ∉ w → σ'[k]? = σ[k]?) → FI C.W C.M0 M C.H0 H σ' s' → Q σ' H) → g v σ H Q
def tgN (i : Nat) (d : D) (s : Ss) : Option Ss := if i < s.length then some (setS s i (.val d)) else none
theorem qg_name (B : Bx C X k) {i : Nat} {x : Str} (hi : X.N[i]? = some x := by rfl) (hx : Loc X.env.scope x := by first | exact Or.inl rfl | exact Or.inr rfl)
    (hf : X.fn x = true ∨ X.env.scope.names.lookup x = some .local := by first | exact .inl rfl | exact .inr rfl) : QG C X (.Name x pos) [i] (tgN i) := by
  refine ⟨gName i, pg_name B.nd hi hx hf, fun {M H σ s s' d v Q} I r e q => ?_⟩
  unfold tgN at e
  split at e
  · rename_i hi
    cases e
    exact q _ (fun k n => List.getElem?_set_ne fun z => n (by simp [z])) (I.setV hi r)
  · cases e
/-- several targets -/
def QGs (C : Cn) (X : Cx) (targets : List Expr) (w : List Nat) (t : List D → Ss → Option Ss) : Prop := ∃ g : TGs, PGs X targets g ∧ ∀ {M : Addr → Prop} {H : Hp} {σ : L2.St} {s s' : Ss} {ds : List D} {vs : List V} {Q : L2.St → Hp → Prop}, FI C.W C.M0 M C.H0 H σ s → RepL C.W M H ds vs → t ds s = some s' →
  (∀ σ', (∀ k, k ∉ w → σ'[k]? = σ[k]?) → FI C.W C.M0 M C.H0 H σ' s' → Q σ' H) → g vs σ H Q
def tgNil (ds : List D) (s : Ss) : Option Ss := match ds with
  | [] => some s
  | _ => none
def tgCons (t : D → Ss → Option Ss) (u : List D → Ss → Option Ss) (ds : List D) (s : Ss) : Option Ss := match ds with
  | d :: r => (t d s).bind (u r)
  | _ => none
theorem qgs_nil : QGs C X [] [] tgNil := by
  refine ⟨gNil, pgs_nil, fun {M H σ s s' ds vs Q} I r e q => ?_⟩
  cases ds with
  | nil =>
    unfold RepL at r
    cases e
    exact ⟨r, q σ (fun _ _ => rfl) I⟩
  | cons d r => cases e
theorem qgs_cons {t : D → Ss → Option Ss} {u : List D → Ss → Option Ss} {tg : Expr} {tgs : List Expr} (h : QG C X tg w t) (hs : QGs C X tgs w' u) (hst : (assignEach (tg :: tgs) X.env).map (·.2) = assign tg X.env :: (assignEach tgs X.env).map (·.2) := by rfl) : QGs C X (tg :: tgs) (w ++ w') (tgCons t u) := by
  obtain ⟨g, p, h⟩ := h
  obtain ⟨gs, ps, hs⟩ := hs
  refine ⟨gCons g gs, pgs_cons p ps hst, fun {M H σ s s' ds vs Q} I r e q => ?_⟩
  cases ds with
  | nil => cases e
  | cons d ds =>
    unfold RepL at r
    obtain ⟨v, vr, rfl, r1, r2⟩ := r
    unfold tgCons at e
    dsimp only at e
    cases e1 : t d s with
    | none => rw [e1] at e; cases e
    | some s1 =>
      rw [e1] at e
      exact ⟨v, vr, rfl, h I r1 e1 fun σ' k1 I' => hs I' r2 e fun σ2 k2 I2 => q σ2 (fun k n => (k2 k fun z => n (List.mem_append_right _ z)).trans (k1 k fun z => n (List.mem_append_left _ z))) I2⟩
def tgTup (n : Nat) (u : List D → Ss → Option Ss) (d : D) (s : Ss) : Option Ss := match d with
  | .tup ds => if ds.length = n then u ds s else none
  | _ => none
theorem qg_tup (B : Bx C X k) {u : List D → Ss → Option Ss} {es : List Expr} {x1} {n : Nat} (h : QGs C X es w u) (hn : (assignEach es X.env).length = n := by rfl) (hst : (assignEach es X.env).findIdx? (·.1) = none := by rfl) : QG C X (.Tuple es x1 pos) w (tgTup n u) := by
  obtain ⟨g, p, h⟩ := h
  refine ⟨gTup X.K n g, pg_tup B.calm p hn hst, fun {M H σ s s' d v Q} I r e q => ?_⟩
  cases d with
  | tup ds =>
    unfold tgTup at e
    dsimp only at e
    split at e
    · rename_i hl
      unfold Rep at r
      obtain ⟨a, vs, rfl, r1, r2⟩ := r
      exact ⟨a, vs, rfl, by rw [B.hK]; exact r1.sq, by rw [← r2.length]; exact hl, h I r2 e q⟩
    · cases e
  | _ => cases e
/-- tg = e -/
theorem qs_asg {t : D → Ss → Option Ss} {tg : Expr} (he : QE C X e f) (hg : QG C X tg w t) (hs : swapsWithSole [tg] e pos.line X.env = pure false := by rfl) (hw : swappedStores [tg] e X.env = pure none := by rfl)
    (h1 : (assignEach [tg] X.env).map (·.2) = [assign tg X.env] := by rfl) :
    QS C X (.Assign [tg] e pos) w (fun s => liftF (f s) s fun d => match t d s with
      | some s' => .next s'
      | none => .stuck) := by
  obtain ⟨g, p, h⟩ := hg
  refine PS.imp (ps_asg he p hs hw h1) fun Dn σ H ⟨M, s, I, q⟩ => ⟨M, s, I, q.lift I fun d q' v H' e1 r => ?_⟩
  cases e2 : t d s with
  | none => rw [e2] at q'; exact q'.elim
  | some s' =>
    rw [e2] at q'
    exact h (I.exx e1) r e2 fun σ' kp I' => q' M H' σ' ⟨.ex e1, kp⟩ I'
def forL (t : D → Ss → Option Ss) (F : SF) : List D → SF
  | [], s => .next s
  | d :: r, s => match t d s with
    | none => .stuck
    | some s1 => match F s1 with
      | .next s' => forL t F r s'
      | .cont s' => forL t F r s'
      | .brk s' => .next s'
      | o => o
theorem forL_turn {t : D → Ss → Option Ss} {ds : List D} {i : Nat} {d : D} {s : Ss} (hd : ds[i]? = some d) : forL t F (ds.drop i) s = match t d s with
    | none => .stuck
    | some s1 => match F s1 with
      | .next s' => forL t F (ds.drop (i + 1)) s'
      | .cont s' => forL t F (ds.drop (i + 1)) s'
      | .brk s' => .next s'
      | o => o := by
  obtain ⟨h, e⟩ := List.getElem?_eq_some_iff.mp hd
  rw [List.drop_eq_getElem_cons h, e]
  rfl
/-- one turn, read from the body's reading -/
theorem turn_ok {t : D → Ss → Option Ss} {g : TG} {ds : List D} {i : Nat} {d : D} {v : V} {M : Addr → Prop} {H : Hp} {σ : L2.St} {s : Ss} {Dn : Ends} {N : L2.St → Hp → Prop}
    (hg : ∀ {M : Addr → Prop} {H : Hp} {σ : L2.St} {s s' : Ss} {d : D} {v : V} {Q : L2.St → Hp → Prop}, FI C.W C.M0 M C.H0 H σ s → Rep C.W M H d v → t d s = some s' → (∀ σ', (∀ k, k ∉ w → σ'[k]? = σ[k]?) → FI C.W C.M0 M C.H0 H σ' s' → Q σ' H) → g v σ H Q)
    (hd : ds[i]? = some d) (I : FI C.W C.M0 M C.H0 H σ s) (r : Rep C.W M H d v) (q : OutR C (w ++ w') M H σ Dn (forL t F (ds.drop i) s))
    (hN : ∀ M' H' σ' s', Evs (w ++ w') M H σ M' H' σ' → FI C.W C.M0 M' C.H0 H' σ' s' → OutR C (w ++ w') M' H' σ' Dn (forL t F (ds.drop (i + 1)) s') → N σ' H') :
    g v σ H fun σ2 H2 => tS C w' F { Dn with nx := N, ct := N, bk := Dn.nx } σ2 H2 := by
  rw [forL_turn hd] at q
  cases e1 : t d s with
  | none => rw [e1] at q; exact q.elim
  | some s1 =>
    rw [e1] at q
    dsimp only at q
    refine hg I r e1 fun σ' kp I' => ⟨M, s1, I', ?_⟩
    have ev0 : Evs (w ++ w') M H σ M H σ' := ⟨.refl, fun k n => kp k fun z => n (List.mem_append_left _ z)⟩
    have sub : ∀ k, k ∈ w' → k ∈ w ++ w' := fun _ z => List.mem_append_right _ z
    cases e2 : F s1 with
    | next s' => rw [e2] at q; exact fun M' H' σ2 ev I2 => hN M' H' σ2 s' (ev0.trans (ev.sub sub)) I2 (OutR.go q (ev0.trans (ev.sub sub)))
    | cont s' => rw [e2] at q; exact fun M' H' σ2 ev I2 => hN M' H' σ2 s' (ev0.trans (ev.sub sub)) I2 (OutR.go q (ev0.trans (ev.sub sub)))
    | brk s' => rw [e2] at q; exact fun M' H' σ2 ev I2 => q M' H' σ2 (ev0.trans (ev.sub sub)) I2
    | ret d => rw [e2] at q; exact q
    | exc c es s' => rw [e2] at q; exact fun M' H' σ2 d ev I2 => q M' H' σ2 d (ev0.trans (ev.sub sub)) I2
    | stuck => rw [e2] at q; exact q.elim
/-- what is walked: its items -/
def itemsD : D → Rs (List D)
  | .lst ds => .ok ds
  | .scr ds => .ok ds
  | .tup ds => .ok ds
  | _ => .stuck
def isTupD : D → Bool
  | .tup _ => true
  | _ => false
def forF (f : EF) (t : D → Ss → Option Ss) (F : SF) : SF := fun s => liftF ((f s).bind itemsD) s fun ds => forL t F ds s
/-- a list or a tuple, walked -/
def iSeq (K : PySem.W.Frag) (tl : TE) : TI := fun σ H R => tl σ H fun x H1 => ∃ a, x = .ref a ∧ (((∃ xs, SqL K H1 a xs) ∧ R (Itl K a) H1) ∨ ((∃ xs, SqT K H1 a xs) ∧ R (Itt K a) H1))
theorem pi_seq {tg l : Expr} {tl : TE} (hl : PE X l tl) : PI X tg l (iSeq X.K tl) := by
  refine ⟨fun pins s σ H R I h => ?_⟩
  refine thn (hl.run pins s σ H _ I h) fun v s1 ⟨x, H1, I1, r1, q1⟩ => ?_
  obtain ⟨a, e, q1⟩ := q1
  subst e
  cases r1
  rcases q1 with ⟨⟨xs, hq⟩, q⟩ | ⟨⟨xs, hq⟩, q⟩
  · obtain ⟨its, rv, p, hz⟩ := I1.list hq
    refine wpAny_pyIter_list p.isList ?_
    refine ⟨s1.heap.objs.size, [s1.heap.objs.size], _, _, H1, rfl, I1.kept (t' := s1.toks) fun b o e => Heap.get?_push_of_some _ e, turn_list a _, ⟨_, Heap.get?_push_size _ rfl, rfl, rfl⟩, fun b hb => ?_, q⟩
    have e : b = s1.heap.objs.size := by simpa using hb
    subst e
    exact I1.fpOk (Nat.le_refl _) (I1.hok.fresh (Nat.le_refl _))
  · obtain ⟨its, rv, p, hz⟩ := I1.tuple hq
    refine wpAny_pyIter_tuple (show s1.heap.IsTuple a its.toArray from p) ?_
    refine ⟨s1.heap.objs.size, [s1.heap.objs.size], _, _, H1, rfl, I1.kept (t' := s1.toks) fun b o e => Heap.get?_push_of_some _ e, turn_tuple a _, ⟨_, Heap.get?_push_size _ rfl, rfl, rfl⟩, fun b hb => ?_, q⟩
    have e : b = s1.heap.objs.size := by simpa using hb
    subst e
    exact I1.fpOk (Nat.le_refl _) (I1.hok.fresh (Nat.le_refl _))
/-- for tg in e: body, e a list or a tuple -/
theorem qs_for (B : Bx C X k) {t : D → Ss → Option Ss} {tg : Expr} (he : QE C X e f) (hg : QG C X tg w t) (hb : QSs C X sts w' F) (hs : ∀ v, foldedSetIterable e X.env v = pure v := by intro _; rfl) :
    QS C X (.For tg e sts [] pos) (w ++ w') (forF f t F) := by
  obtain ⟨g, pg, hg⟩ := hg
  refine PS.imp (ps_for B.po B.calm (pi_seq he) pg hb hs) fun Dn σ H ⟨M, s, I, q⟩ => ⟨M, s, I, ?_⟩
  unfold forF at q
  cases e0 : f s with
  | stuck => rw [e0] at q; exact q.elim
  | exc c es => rw [e0] at q; exact fun d H' e' x => q M H' σ d (.ex e') (I.exx e') x
  | ok d =>
    rw [e0] at q
    intro v H1 e1 r
    have src : ∃ a ds vs, v = .ref a ∧ itemsD d = .ok ds ∧ RepL C.W M H1 ds vs ∧ ((∀ M' H', Evo M H1 M' H' → SqL C.W.K H' a vs) ∨ (∀ M' H', Evo M H1 M' H' → SqT C.W.K H' a vs)) := by
      cases d with
      | lst ds =>
        unfold Rep at r
        obtain ⟨a, vs, r1, r2, r3, r4⟩ := r
        exact ⟨a, ds, vs, r1, rfl, r4, .inl fun M' H' ev => SqL.of (ev.em a _ r2 r3)⟩
      | scr ds =>
        unfold Rep at r
        obtain ⟨a, vs, r1, r2, r3⟩ := r
        exact ⟨a, ds, vs, r1, rfl, r3, .inl fun M' H' ev => (r2.move ev.em ev.mm).sq⟩
      | tup ds =>
        unfold Rep at r
        obtain ⟨a, vs, r1, r2, r3⟩ := r
        exact ⟨a, ds, vs, r1, rfl, r3, .inr fun M' H' ev => (r2.move ev.em ev.mm).sq⟩
      | _ => exact q.elim
    obtain ⟨a, ds, vs, rfl, e2, rL, stands⟩ := src
    have q1 : OutR C (w ++ w') M H σ Dn (forL t F ds s) := by
      have z : (Rs.ok d).bind itemsD = .ok ds := e2
      rw [z] at q
      exact q
    have start : ∃ M' s', Evo M H1 M' H1 ∧ FI C.W C.M0 M' C.H0 H1 σ s' ∧ OutR C (w ++ w') M' H1 σ Dn (forL t F (ds.drop 0) s') := ⟨M, s, .refl, I.exx e1, OutR.go q1 (.ex e1)⟩
    rcases stands with stands | stands
    · refine ⟨a, rfl, .inl ⟨⟨vs, by rw [B.hK]; exact stands M H1 .refl⟩, ?_⟩⟩
      refine for_list (K := X.K) (a := a) (xs := vs) (fun i σ' H' => ∃ M' s', Evo M H1 M' H' ∧ FI C.W C.M0 M' C.H0 H' σ' s' ∧ OutR C (w ++ w') M' H' σ' Dn (forL t F (ds.drop i) s')) start
        (fun i σ' H' _ ⟨M', s', ev, _⟩ => by rw [B.hK]; exact stands M' H' ev) ?_ ?_
      · rintro i x σ' H' hx ⟨M', s', ev, I', q'⟩
        obtain ⟨d', hd, rd⟩ := rL.got hx
        exact turn_ok hg hd I' (ev.rep rd) q' fun M2 H2 σ2 s2 ev2 I2 q2 => ⟨M2, s2, ev.trans ev2.evo, I2, q2⟩
      · rintro σ' H' ⟨M', s', ev, I', q'⟩
        rw [List.drop_eq_nil_of_le (by rw [rL.length]; exact Nat.le_refl _)] at q'
        exact q' M' H' σ' .refl I'
    · refine ⟨a, rfl, .inr ⟨⟨vs, by rw [B.hK]; exact stands M H1 .refl⟩, ?_⟩⟩
      refine for_tup (K := X.K) (a := a) (xs := vs) (fun i σ' H' => ∃ M' s', Evo M H1 M' H' ∧ FI C.W C.M0 M' C.H0 H' σ' s' ∧ OutR C (w ++ w') M' H' σ' Dn (forL t F (ds.drop i) s')) start
        (fun i σ' H' _ ⟨M', s', ev, _⟩ => by rw [B.hK]; exact stands M' H' ev) ?_ ?_
      · rintro i x σ' H' hx ⟨M', s', ev, I', q'⟩
        obtain ⟨d', hd, rd⟩ := rL.got hx
        exact turn_ok hg hd I' (ev.rep rd) q' fun M2 H2 σ2 s2 ev2 I2 q2 => ⟨M2, s2, ev.trans ev2.evo, I2, q2⟩
      · rintro σ' H' ⟨M', s', ev, I', q'⟩
        rw [List.drop_eq_nil_of_le (by rw [rL.length]; exact Nat.le_refl _)] at q'
        exact q' M' H' σ' .refl I'
/-- for tg in range(..) -/
def rangeL (lo hi : Int) : List D := (List.range (hi - lo).toNat).map fun i => .int (lo + (i : Nat))
theorem rangeL_at {lo hi : Int} {i : Nat} (h : i < (hi - lo).toNat) : (rangeL lo hi)[i]? = some (.int (lo + (i : Nat))) := by
  unfold rangeL
  rw [List.getElem?_map, List.getElem?_range h] <;> rfl
theorem rangeL_len {lo hi : Int} : (rangeL lo hi).length = (hi - lo).toNat := by simp [rangeL]
def rngOk (lo hi : Int) : Bool := decide (-(2 ^ 62) ≤ lo) && decide (lo < 2 ^ 62) && decide (-(2 ^ 62) ≤ hi) && decide (hi < 2 ^ 62)
def rngD (lo hi : D) : Rs (List D) := match lo, hi with
  | .int i, .int j => if rngOk i j then .ok (rangeL i j) else .stuck
  | _, _ => .stuck
theorem rngOk_ok {i j : Int} (h : rngOk i j = true) : -(2 ^ 62) ≤ i ∧ i < 2 ^ 62 ∧ -(2 ^ 62) ≤ j ∧ j < 2 ^ 62 := by
  unfold rngOk at h
  simp only [Bool.and_eq_true, decide_eq_true_eq] at h
  exact ⟨h.1.1.1, h.1.1.2, h.1.2, h.2⟩
theorem for_rng {t : D → Ss → Option Ss} {tg : Expr} {g : TG} {M : Addr → Prop} {H : Hp} {σ : L2.St} {s : Ss} {Dn : Ends} {lo hi : Int}
    (hg : ∀ {M : Addr → Prop} {H : Hp} {σ : L2.St} {s s' : Ss} {d : D} {v : V} {Q : L2.St → Hp → Prop}, FI C.W C.M0 M C.H0 H σ s → Rep C.W M H d v → t d s = some s' → (∀ σ', (∀ k, k ∉ w → σ'[k]? = σ[k]?) → FI C.W C.M0 M C.H0 H σ' s' → Q σ' H) → g v σ H Q)
    (I : FI C.W C.M0 M C.H0 H σ s) (q : OutR C (w ++ w') M H σ Dn (forL t F (rangeL lo hi) s)) :
    ∃ W : Nat → Nat → L2.St → Hp → Prop, (∃ m, W 0 m σ H) ∧ ∀ i m σ H, W i m σ H →
      ((Itr lo (hi - lo).toNat).stop i H ∧ Dn.nx σ H) ∨ ((Itr lo (hi - lo).toNat).go i H ∧ ∃ N : L2.St → Hp → Prop, (∀ σ' H', N σ' H' → ∃ m', m' < m ∧ W (i + 1) m' σ' H') ∧ ∀ x H', (Itr lo (hi - lo).toNat).yld i H x H' → g x σ H' fun σ2 H2 => tS C w' F { Dn with nx := N, ct := N, bk := Dn.nx } σ2 H2) := by
  refine for_range (lo := lo) (n := (hi - lo).toNat) (fun i σ' H' => ∃ M' s', FI C.W C.M0 M' C.H0 H' σ' s' ∧ OutR C (w ++ w') M' H' σ' Dn (forL t F ((rangeL lo hi).drop i) s')) ⟨M, s, I, q⟩ ?_ ?_
  · rintro i σ' H' hi' ⟨M', s', I', q'⟩
    exact turn_ok hg (rangeL_at hi') I' (by unfold Rep; rfl) q' fun M2 H2 σ2 s2 ev2 I2 q2 => ⟨M2, s2, I2, q2⟩
  · rintro σ' H' ⟨M', s', I', q'⟩
    rw [List.drop_eq_nil_of_le (by rw [rangeL_len]; exact Nat.le_refl _)] at q'
    exact q' M' H' σ' .refl I'
def forR1 (f : EF) (t : D → Ss → Option Ss) (F : SF) : SF := fun s => liftF ((f s).bind fun d => rngD (.int 0) d) s fun ds => forL t F ds s
def forR2 (f g : EF) (t : D → Ss → Option Ss) (F : SF) : SF := fun s => liftF ((f s).bind fun d => (g s).bind fun d' => rngD d d') s fun ds => forL t F ds s
theorem qs_forR1 (B : Bx C X k) {t : D → Ss → Option Ss} {tg : Expr} {p p' : Pos} (hm : X.mg "range" = none) (he : QE C X e f) (hg : QG C X tg w t) (hb : QSs C X sts w' F) (hgl : Gl X "range" := by rfl)
    (hst : starEach [e] X.env = [(false, eval e X.env)] := by rfl) : QS C X (.For tg (.Call (.Name "range" p) [e] [] p') sts [] pos) (w ++ w') (forR1 f t F) := by
  obtain ⟨g, pg, hg⟩ := hg
  refine PS.imp (ps_for B.po B.calm (pi_range1 hgl hm (pa_cons he pa_nil hst) hst) pg hb) fun Dn σ H ⟨M, s, I, q⟩ => ⟨M, s, I, ?_⟩
  unfold forR1 at q
  cases e0 : f s with
  | stuck => rw [e0] at q; exact q.elim
  | exc c es => rw [e0] at q; exact fun d H' e' x => q M H' σ d (.ex e') (I.exx e') x
  | ok d =>
    rw [e0] at q
    intro v H1 e1 r
    cases d with
    | int j =>
      unfold Rep at r
      subst r
      have q1 : OutR C (w ++ w') M H σ Dn (liftF (if rngOk 0 j then Rs.ok (rangeL 0 j) else .stuck) s fun ds => forL t F ds s) := q
      split at q1
      · rename_i ok
        obtain ⟨h1, h2, h3, h4⟩ := rngOk_ok ok
        have q2 : OutR C (w ++ w') M H σ Dn (forL t F (rangeL 0 j) s) := q1
        refine ⟨j, rfl, h3, h4, ?_⟩
        have ej : j.toNat = (j - 0).toNat := by rw [Int.sub_zero]
        rw [ej]
        exact for_rng (tg := tg) hg (I.exx e1) (OutR.go q2 (.ex e1))
      · exact q1.elim
    | _ => exact q.elim
theorem qs_forR2 (B : Bx C X k) {t : D → Ss → Option Ss} {tg : Expr} {p p' : Pos} (hm : X.mg "range" = none) (ha : QE C X a fa) (hb' : QE C X b fb) (hg : QG C X tg w t) (hb : QSs C X sts w' F) (hgl : Gl X "range" := by rfl)
    (hst : starEach [a, b] X.env = [(false, eval a X.env), (false, eval b X.env)] := by rfl) (hst1 : starEach [b] X.env = [(false, eval b X.env)] := by rfl) : QS C X (.For tg (.Call (.Name "range" p) [a, b] [] p') sts [] pos) (w ++ w') (forR2 fa fb t F) := by
  obtain ⟨g, pg, hg⟩ := hg
  have h2 : PA X [a, b] (tCons (tD C fa) (tCons (tD C fb) tNil)) := pa_cons ha (pa_cons hb' pa_nil hst1) (by rw [hst, hst1])
  refine PS.imp (ps_for B.po B.calm (pi_range2 hgl hm h2 hst hst1) pg hb) fun Dn σ H ⟨M, s, I, q⟩ => ⟨M, s, I, ?_⟩
  unfold forR2 at q
  cases e0 : fa s with
  | stuck => rw [e0] at q; exact q.elim
  | exc c es => rw [e0] at q; exact fun d H' e' x => q M H' σ d (.ex e') (I.exx e') x
  | ok d =>
    rw [e0] at q
    intro v H1 e1 r
    refine ⟨M, s, I.exx e1, ?_⟩
    cases e2 : fb s with
    | stuck => dsimp only [Rs.bind_ok] at q; rw [e2] at q; exact q.elim
    | exc c es => dsimp only [Rs.bind_ok] at q; rw [e2] at q; exact fun d H' e' x => q M H' σ d (.ex (e1.trans e')) (I.exx (e1.trans e')) x
    | ok d' =>
      dsimp only [Rs.bind_ok] at q
      rw [e2] at q
      intro v' H2 e3 r'
      cases d with
      | int i =>
        cases d' with
        | int j =>
          unfold Rep at r r'
          subst r r'
          have q1 : OutR C (w ++ w') M H σ Dn (liftF (if rngOk i j then Rs.ok (rangeL i j) else .stuck) s fun ds => forL t F ds s) := q
          split at q1
          · rename_i ok
            have q2 : OutR C (w ++ w') M H σ Dn (forL t F (rangeL i j) s) := q1
            exact ⟨i, j, rfl, rngOk_ok ok, for_rng (tg := tg) hg (I.exx (e1.trans e3)) (OutR.go q2 (.ex (e1.trans e3)))⟩
          · exact q1.elim
        | _ => exact q.elim
      | _ => exact q.elim
/-! ### while -/
/-- n turns at most -/
def whN (f : Ss → Rs Bool) (F : SF) : Nat → SF
  | 0, _ => .stuck
  | n + 1, s => liftF (f s) s fun b => if b then (match F s with
      | .next s' => whN f F n s'
      | .cont s' => whN f F n s'
      | .brk s' => .next s'
      | o => o) else .next s
open Classical in
noncomputable def whF (f : Ss → Rs Bool) (F : SF) : SF := fun s => if h : ∃ n, whN f F n s ≠ .stuck then whN f F (choose h) s else .stuck
theorem whN_more {f : Ss → Rs Bool} : ∀ {n : Nat} {s : Ss}, whN f F n s ≠ .stuck → whN f F (n + 1) s = whN f F n s
  | 0, s, h => absurd rfl h
  | n + 1, s, h => by
    unfold whN at h ⊢
    cases e : f s with
    | stuck => rw [e] at h; exact absurd rfl h
    | exc c es => rfl
    | ok b =>
      rw [e] at h
      cases b with
      | false => rfl
      | true =>
        simp only [liftF_ok, if_true] at h ⊢
        cases e2 : F s with
        | next s' => rw [e2] at h; exact whN_more h
        | cont s' => rw [e2] at h; exact whN_more h
        | _ => rfl
theorem whN_le {f : Ss → Rs Bool} {n : Nat} {s : Ss} (h : whN f F n s ≠ .stuck) : ∀ m, whN f F (n + m) s = whN f F n s
  | 0 => rfl
  | m + 1 => by
    have e := whN_le h m
    have h' : whN f F (n + m) s ≠ .stuck := by rw [e]; exact h
    exact (whN_more h').trans e
theorem whF_eq {f : Ss → Rs Bool} {n : Nat} {s : Ss} {o : Out} (h : whN f F n s = o) (ns : o ≠ .stuck) : whF f F s = o := by
  have hn : whN f F n s ≠ .stuck := by rw [h]; exact ns
  have hx : ∃ n, whN f F n s ≠ .stuck := ⟨n, hn⟩
  unfold whF
  rw [dif_pos hx]
  have hc := Classical.choose_spec hx
  have a := whN_le hn (Classical.choose hx)
  have b := whN_le hc n
  rw [Nat.add_comm] at b
  rw [← b, a, h]
theorem qs_while (B : Bx C X k) {f : Ss → Rs Bool} (hc : QT C X e f) (hb : QSs C X sts w F) : QS C X (.While e sts [] pos) w (whF f F) :=
  PS.imp (ps_while B.po hc hb) fun Dn σ H ⟨M, s, I, q⟩ => by
    unfold whF at q
    split at q
    · rename_i hx
      refine ⟨fun m σ' H' => ∃ M' s', FI C.W C.M0 M' C.H0 H' σ' s' ∧ OutR C w M' H' σ' Dn (whN f F m s'), ⟨_, M, s, I, q⟩, ?_⟩
      rintro m σ' H' ⟨M', s', I', q'⟩
      cases m with
      | zero => exact q'.elim
      | succ m =>
        refine ⟨M', s', I', OutR.lift (w := w) I' (k := fun b => if b then (match F s' with
          | .next s' => whN f F m s'
          | .cont s' => whN f F m s'
          | .brk s' => .next s'
          | o => o) else .next s') q' fun b q2 H2 e2 => ?_⟩
        cases b with
        | false => exact iteF (q2 M' H2 σ' (.ex e2) (I'.exx e2))
        | true =>
          refine iteT ⟨fun σ3 H3 => ∃ M3 s3, FI C.W C.M0 M3 C.H0 H3 σ3 s3 ∧ OutR C w M3 H3 σ3 Dn (whN f F m s3), fun σ3 H3 h3 => ⟨m, Nat.lt_succ_self _, h3⟩, M', s', I'.exx e2, ?_⟩
          simp only [if_true] at q2
          cases e3 : F s' with
          | next s2 => rw [e3] at q2; exact fun M3 H3 σ3 ev I3 => ⟨M3, s2, I3, OutR.go q2 (.trans (.ex e2) ev)⟩
          | cont s2 => rw [e3] at q2; exact fun M3 H3 σ3 ev I3 => ⟨M3, s2, I3, OutR.go q2 (.trans (.ex e2) ev)⟩
          | brk s2 => rw [e3] at q2; exact fun M3 H3 σ3 ev I3 => q2 M3 H3 σ3 (.trans (.ex e2) ev) I3
          | ret d => rw [e3] at q2; exact q2
          | exc c es s2 => rw [e3] at q2; exact fun M3 H3 σ3 d ev I3 => q2 M3 H3 σ3 d (.trans (.ex e2) ev) I3
          | stuck => rw [e3] at q2; exact q2.elim
    · exact q.elim
end
end Dl

/-! D-layer, part 4: operators, tests, displays, subscripts, slices, built-in calls. -/
namespace Dl
open PySem PySem.Spec PyProof.Rows L2 Evl

theorem OpR.or {X : Cx} {f : Value → Value → Sem Value} {r r' : R2} (h : OpR X f r) (h' : OpR X f r') : OpR X f (fun x y H Q => r x y H Q ∨ r' x y H Q) :=
  fun pins s σ H x y v u Q I rx ry q => q.elim (h pins s σ H x y v u Q I rx ry) (h' pins s σ H x y v u Q I rx ry)

section
variable {C : Cn} {X : Cx} {k : Nat} {e a b : Expr} {f fa fb : EF} {F G : SF} {pos : Pos} {st : Stmt} {sts sts' : List Stmt}
variable {M : Addr → Prop} {H : Hp} {d : D} {x : V} {W : Wd}
theorem RepB.int {i : Int} (h : RepB W M H (.int i) x) : x = .int i := by
  rcases h with h | ⟨_, _, _, h, _⟩
  · unfold Rep at h; exact h
  · cases h
theorem RepB.str {i : Str} (h : RepB W M H (.str i) x) : x = .str i := by
  rcases h with h | ⟨_, _, _, h, _⟩
  · unfold Rep at h; exact h
  · cases h
theorem RepB.bl {i : Bool} (h : RepB W M H (.bl i) x) : x = .bl i := by
  rcases h with h | ⟨_, _, _, h, _⟩
  · unfold Rep at h; exact h
  · cases h
theorem RepB.non (h : RepB W M H .non x) : x = .non := by
  rcases h with h | ⟨_, _, _, h, _⟩
  · unfold Rep at h; exact h
  · cases h
theorem RepB.lst {ds : List D} (h : RepB W M H (.lst ds) x) : ∃ p vs, x = .ref p ∧ H p = some (.lst vs) ∧ RepL W M H ds vs := by
  rcases h with h | ⟨p, vs, es, h, e1, e2, e3⟩
  · unfold Rep at h
    obtain ⟨a, vs, e1, e2, _, e3⟩ := h
    exact ⟨a, vs, e1, e2, e3⟩
  · cases h
    exact ⟨p, vs, e1, e2, e3⟩
theorem RepB.tup {ds : List D} (h : RepB W M H (.tup ds) x) : ∃ p vs, x = .ref p ∧ SqT W.K H p vs ∧ RepL W M H ds vs := by
  rcases h with h | ⟨p, vs, es, h, e1, e2, e3⟩
  · unfold Rep at h
    obtain ⟨a, vs, e1, e2, e3⟩ := h
    exact ⟨a, vs, e1, e2.sq, e3⟩
  · cases h
theorem RepB.scr {ds : List D} (h : RepB W M H (.scr ds) x) : ∃ p vs, x = .ref p ∧ SqL W.K H p vs ∧ RepL W M H ds vs := by
  rcases h with h | ⟨p, vs, es, h, e1, e2, e3⟩
  · unfold Rep at h
    obtain ⟨a, vs, e1, e2, e3⟩ := h
    exact ⟨a, vs, e1, e2.sq, e3⟩
  · cases h
theorem rep_non : Rep W M H .non .non := by unfold Rep; rfl
theorem rep_int (i : Int) : Rep W M H (.int i) (.int i) := by unfold Rep; rfl
theorem rep_bl (i : Bool) : Rep W M H (.bl i) (.bl i) := by unfold Rep; rfl
theorem rep_str (i : Str) : Rep W M H (.str i) (.str i) := by unfold Rep; rfl
theorem RepL.addM {ds : List D} {vs : List V} (h : RepL W M H ds vs) {H' : Hp} (e : Ex H H') : RepL W M H' ds vs := h.ex e
/-- a new tuple stands for its items -/
theorem rep_tup {ds : List D} {vs : List V} {p : Addr} (hM : ∀ a, M a → Mut (H a)) (r : RepL W M H ds vs) (n : H p = none) : Rep W M (upd H p (.tup vs)) (.tup ds) (.ref p) := by
  unfold Rep
  refine ⟨p, vs, rfl, .inl ⟨fun z => mut_ne (hM p z) n, SqT.of upd_same, by rw [upd_same]; simp⟩, r.ex (Ex.new n)⟩
theorem rep_lst {ds : List D} {vs : List V} {p : Addr} (hM : ∀ a, M a → Mut (H a)) (r : RepL W M H ds vs) (n : H p = none) : Rep W M (upd H p (.lst vs)) (.lst ds) (.ref p) := by
  unfold Rep
  exact ⟨p, vs, rfl, upd_same, fun z => mut_ne (hM p z) n, r.ex (Ex.new n)⟩

/-! ### arithmetic -/
def addD : D → D → Res
  | .int i, .int j => .ok (.int (i + j))
  | .str i, .str j => if i.length + j.length ≤ sizeLine then .ok (.str (i ++ j)) else .stuck
  | .lst i, .lst j => if i.length + j.length ≤ sizeLine then .ok (.lst (i ++ j)) else .stuck
  | .tup i, .tup j => if i.length + j.length ≤ sizeLine ∧ i ≠ [] ∧ j ≠ [] then .ok (.tup (i ++ j)) else .stuck
  | _, _ => .stuck
theorem repL_ne {ds : List D} {vs : List V} (r : RepL W M H ds vs) (n : ds ≠ []) : vs ≠ [] := fun z => n (by
  have := r.length
  rw [z] at this
  exact List.length_eq_zero_iff.mp this)
theorem qe_add (hK : X.K = C.W.K) (ha : QB C X a fa) (hb : QB C X b fb) : QE C X (.BinOp a .Add b pos) (fun s => (fa s).bind fun d => (fb s).bind fun d' => addD d d') := by
  refine q_bin (r := fun x y H Q => ((rI0 fun i j => .int (i + j)) x y H Q ∨ (∃ i j, x = .str i ∧ y = .str j ∧ i.length + j.length ≤ sizeLine ∧ Q (.str (i ++ j)) H)) ∨ (rCat x y H Q ∨ rCatT X.K x y H Q)) ?_ ha hb fun ta tb pa pb => pe_op ((op_add.or op_add_str).or (op_cat.or op_catT)) pa pb
  intro M H Q E d d' x y hM rx ry q
  cases d with
  | int i =>
    cases d' with
    | int j => exact .inl (.inl ⟨i, j, rx.int, ry.int, q _ H (Ex.refl H) (rep_int _)⟩)
    | _ => exact q.elim
  | str i =>
    cases d' with
    | str j =>
      simp only [addD] at q
      split at q
      · rename_i hz
        exact .inl (.inr ⟨i, j, rx.str, ry.str, hz, q _ H (Ex.refl H) (rep_str _)⟩)
      · exact q.elim
    | _ => exact q.elim
  | lst i =>
    cases d' with
    | lst j =>
      simp only [addD] at q
      split at q
      · rename_i hz
        obtain ⟨p1, v1, e1, e2, e3⟩ := rx.lst
        obtain ⟨p2, v2, g1, g2, g3⟩ := ry.lst
        refine .inr (.inl ⟨p1, p2, v1, v2, e1, g1, e2, g2, by rw [← e3.length, ← g3.length]; exact hz, fun p n => q _ _ (Ex.new n) (rep_lst hM (e3.append g3) n)⟩)
      · exact q.elim
    | _ => exact q.elim
  | tup i =>
    cases d' with
    | tup j =>
      simp only [addD] at q
      split at q
      · rename_i hz
        obtain ⟨p1, v1, e1, e2, e3⟩ := rx.tup
        obtain ⟨p2, v2, g1, g2, g3⟩ := ry.tup
        refine .inr (.inr ⟨p1, p2, v1, v2, e1, g1, by rw [hK]; exact e2, by rw [hK]; exact g2, repL_ne e3 hz.2.1, by rw [← e3.length, ← g3.length]; exact hz.1, fun z => absurd z (repL_ne g3 hz.2.2), fun _ p n => q _ _ (Ex.new n) (rep_tup hM (e3.append g3) n)⟩)
      · exact q.elim
    | _ => exact q.elim
  | _ => exact q.elim
def intOp (ok : Int → Int → Bool) (g : Int → Int → D) : D → D → Res
  | .int i, .int j => if ok i j then .ok (g i j) else .stuck
  | _, _ => .stuck
theorem intOp_ok {P : Int → Int → Prop} {ok : Int → Int → Bool} {g : Int → Int → D} {gv : Int → Int → V} (h : ∀ i j, ok i j = true → P i j) (hg : ∀ i j M H, Rep C.W M H (g i j) (gv i j)) : Op2 C (rI P gv) (intOp ok g) := by
  intro M H Q E d d' x y hM rx ry q
  cases d with
  | int i =>
    cases d' with
    | int j =>
      simp only [intOp] at q
      split at q
      · rename_i hz
        exact ⟨i, j, rx.int, ry.int, h i j hz, q _ H (Ex.refl H) (hg i j M H)⟩
      · exact q.elim
    | _ => exact q.elim
  | _ => exact q.elim
theorem intOp0_ok {g : Int → Int → D} {gv : Int → Int → V} (hg : ∀ i j M H, Rep C.W M H (g i j) (gv i j)) : Op2 C (rI0 gv) (intOp (fun _ _ => true) g) := by
  intro M H Q E d d' x y hM rx ry q
  cases d with
  | int i =>
    cases d' with
    | int j => exact ⟨i, j, rx.int, ry.int, q _ H (Ex.refl H) (hg i j M H)⟩
    | _ => exact q.elim
  | _ => exact q.elim
def subD : D → D → Res := intOp (fun _ _ => true) fun i j => .int (i - j)
def mulOk (i j : Int) : Bool := (decide (-(2 ^ 64) < i) && decide (i < 2 ^ 64)) || (decide (-(2 ^ 64) < j) && decide (j < 2 ^ 64)) || decide (i.natAbs.log2 + j.natAbs.log2 < 1000000)
def mulD : D → D → Res := intOp mulOk fun i j => .int (i * j)
def divOk (_ j : Int) : Bool := decide (0 < j) && decide (j.natAbs.log2 < 9000)
def divD : D → D → Res := intOp divOk fun i j => .int (i / j)
def modD : D → D → Res := intOp (fun _ j => decide (0 < j)) fun i j => .int (i % j)
def powOk (i j : Int) : Bool := decide (0 ≤ j) && decide (j ≤ 1000000) && decide (i.natAbs < 2 ^ 64)
def powD : D → D → Res := intOp powOk fun i j => .int (i ^ j.toNat)
abbrev eb (fa fb : EF) (g : D → D → Res) : EF := fun s => (fa s).bind fun d => (fb s).bind fun d' => g d d'
theorem qe_sub (ha : QB C X a fa) (hb : QB C X b fb) : QE C X (.BinOp a .Sub b pos) (eb fa fb subD) :=
  q_bin (intOp0_ok fun _ _ _ _ => rep_int _) ha hb fun _ _ pa pb => pe_op op_sub pa pb
theorem mul_ok (i j : Int) (h : mulOk i j = true) : CMul i j ∨ CMulW i j := by
  unfold mulOk at h
  simp only [Bool.or_eq_true, Bool.and_eq_true, decide_eq_true_eq] at h
  rcases h with (h | h) | h
  · exact .inl (.inl h)
  · exact .inl (.inr h)
  · exact .inr h
theorem op_mulA : OpR X (binaryOp .Mult) (rI (fun i j => CMul i j ∨ CMulW i j) fun i j => .int (i * j)) := fun pins s σ H x y v u Q I rx ry ⟨i, j, e1, e2, c, q⟩ => c.elim
  (fun c => op_mul pins s σ H x y v u Q I rx ry ⟨i, j, e1, e2, c, q⟩) fun c => op_mulW pins s σ H x y v u Q I rx ry ⟨i, j, e1, e2, c, q⟩
theorem qe_mul (ha : QB C X a fa) (hb : QB C X b fb) : QE C X (.BinOp a .Mult b pos) (eb fa fb mulD) :=
  q_bin (intOp_ok mul_ok fun _ _ _ _ => rep_int _) ha hb fun _ _ pa pb => pe_op op_mulA pa pb
theorem qe_div (ha : QB C X a fa) (hb : QB C X b fb) : QE C X (.BinOp a .FloorDiv b pos) (eb fa fb divD) :=
  q_bin (intOp_ok (P := CDivW) (fun i j h => by
    unfold divOk at h
    simp only [Bool.and_eq_true, decide_eq_true_eq] at h
    exact h) fun _ _ _ _ => rep_int _) ha hb fun _ _ pa pb => pe_op op_fdivW pa pb
theorem qe_mod (ha : QB C X a fa) (hb : QB C X b fb) : QE C X (.BinOp a .Mod b pos) (eb fa fb modD) :=
  q_bin (intOp_ok (fun i j h => of_decide_eq_true h) fun _ _ _ _ => rep_int _) ha hb fun _ _ pa pb => pe_op op_mod pa pb
theorem qe_pow (ha : QB C X a fa) (hb : QB C X b fb) : QE C X (.BinOp a .Pow b pos) (eb fa fb powD) :=
  q_bin (intOp_ok (P := CPow) (fun i j h => by
    unfold powOk at h
    simp only [Bool.and_eq_true, decide_eq_true_eq] at h
    exact ⟨h.1.1, h.1.2, h.2⟩) fun _ _ _ _ => rep_int _) ha hb fun _ _ pa pb => pe_op op_pow pa pb
def negD : D → Res
  | .int i => .ok (.int (-i))
  | _ => .stuck
abbrev eu (fa : EF) (g : D → Res) : EF := fun s => (fa s).bind g
theorem qe_neg (ha : QB C X a fa) : QE C X (.UnaryOp .USub a pos) (eu fa negD) :=
  q_un (r := rU fun i => .int (-i)) (fun {M H Q E d x} hM rx q => by
    cases d with
    | int i => exact ⟨i, rx.int, q _ H (Ex.refl H) (rep_int _)⟩
    | _ => exact q.elim) ha fun ta pa => pe_un un_neg pa
/-! ### comparisons -/
def ltD : D → D → Res := intOp (fun _ _ => true) fun i j => .bl (decide (i < j))
def leD : D → D → Res := intOp (fun _ _ => true) fun i j => .bl (decide (i ≤ j))
def gtD : D → D → Res := intOp (fun _ _ => true) fun i j => .bl (decide (j < i))
def geD : D → D → Res := intOp (fun _ _ => true) fun i j => .bl (decide (j ≤ i))
def scalD : D → Option V
  | .non => some .non
  | .bl b => some (.bl b)
  | .int i => some (.int i)
  | .str x => some (.str x)
  | _ => none
mutual
def toPy : D → Option PyData
  | .non => some .none
  | .bl b => some (.bool b)
  | .int i => some (.int i)
  | .str x => some (.str x)
  | .lst ds => (toPyL ds).map .list
  | .scr ds => (toPyL ds).map .list
  | .tup ds => (toPyL ds).map .tuple
  | .obj _ _ => none
def toPyL : List D → Option (List PyData)
  | [] => some []
  | d :: ds => match toPy d, toPyL ds with
    | some x, some xs => some (x :: xs)
    | _, _ => none
end
theorem scal_rep {v : V} (e : scalD d = some v) (r : RepB W M H d x) : x = v := by
  cases d with
  | non => cases e; exact r.non
  | bl b => cases e; exact r.bl
  | int b => cases e; exact r.int
  | str b => cases e; exact r.str
  | _ => cases e
mutual
theorem toPy_rep : ∀ {d : D} {x : V} {p : PyData}, toPy d = some p → Rep W M H d x → Dp W.K H x p
  | .non, x, p, e, r => by unfold Rep at r; subst r; cases e; exact .non
  | .bl b, x, p, e, r => by unfold Rep at r; subst r; cases e; exact .bl b
  | .int b, x, p, e, r => by unfold Rep at r; subst r; cases e; exact .int b
  | .str b, x, p, e, r => by unfold Rep at r; subst r; cases e; exact .str b
  | .lst ds, x, p, e, r => by
    unfold Rep at r
    obtain ⟨a, vs, rfl, e2, _, e3⟩ := r
    unfold toPy at e
    cases q : toPyL ds with
    | none => rw [q] at e; cases e
    | some ps => rw [q] at e; cases e; exact .lst (SqL.of e2) (toPyL_rep q e3)
  | .scr ds, x, p, e, r => by
    unfold Rep at r
    obtain ⟨a, vs, rfl, e2, e3⟩ := r
    unfold toPy at e
    cases q : toPyL ds with
    | none => rw [q] at e; cases e
    | some ps => rw [q] at e; cases e; exact .lst e2.sq (toPyL_rep q e3)
  | .tup ds, x, p, e, r => by
    unfold Rep at r
    obtain ⟨a, vs, rfl, e2, e3⟩ := r
    unfold toPy at e
    cases q : toPyL ds with
    | none => rw [q] at e; cases e
    | some ps => rw [q] at e; cases e; exact .tup e2.sq (toPyL_rep q e3)
  | .obj _ _, x, p, e, r => by cases e
theorem toPyL_rep : ∀ {ds : List D} {xs : List V} {ps : List PyData}, toPyL ds = some ps → RepL W M H ds xs → DpAll W.K H xs ps
  | [], xs, ps, e, r => by unfold RepL at r; subst r; cases e; exact .nil
  | d :: ds, xs, ps, e, r => by
    unfold RepL at r
    obtain ⟨v, t, rfl, r1, r2⟩ := r
    unfold toPyL at e
    cases q : toPy d with
    | none => rw [q] at e; cases e
    | some p =>
      cases q' : toPyL ds with
      | none => rw [q, q'] at e; cases e
      | some ps' => rw [q, q'] at e; cases e; exact .cons (toPy_rep q r1) (toPyL_rep q' r2)
end
theorem toPy_repB {p : PyData} (e : toPy d = some p) (r : RepB W M H d x) : Dp W.K H x p := by
  rcases r with r | ⟨a, vs, ds, rfl, rfl, e2, e3⟩
  · exact toPy_rep e r
  · unfold toPy at e
    cases q : toPyL ds with
    | none => rw [q] at e; cases e
    | some ps => rw [q] at e; cases e; exact .lst (SqL.of e2) (toPyL_rep q e3)
def deepEq (d d' : D) (k : Bool → Bool) : Res := match toPy d, toPy d' with
  | some p, some p' => if SeqAt.shaped p && SeqAt.shaped p' then .ok (.bl (k (PyData.eqv p p'))) else .stuck
  | _, _ => .stuck
def eqK (k : Bool → Bool) (d d' : D) : Res := match scalD d, scalD d' with
  | some v, some v' => if scal v v' then .ok (.bl (k (decide (v = v')))) else .stuck
  | _, _ => deepEq d d' k
def eqD : D → D → Res := eqK id
def neD : D → D → Res := eqK not
theorem eqK_ok {k : Bool → Bool} {rs rd : R2} (hs : ∀ {x y : V} {H : Hp} {Q : VK}, scal x y = true → Q (.bl (k (decide (x = y)))) H → rs x y H Q)
    (hd : ∀ {x y : V} {H : Hp} {Q : VK} {p p' : PyData}, Dp C.W.K H x p → Dp C.W.K H y p' → SeqAt.shaped p = true → SeqAt.shaped p' = true → Q (.bl (k (PyData.eqv p p'))) H → rd x y H Q) : Op2 C (fun x y H Q => rs x y H Q ∨ rd x y H Q) (eqK k) := by
  intro M H Q E d d' x y hM rx ry q
  have deep : ResR C.W M H Q E (deepEq d d' k) → rd x y H Q := fun q => by
    unfold deepEq at q
    cases e1 : toPy d with
    | none => rw [e1] at q; exact q.elim
    | some p =>
      cases e2 : toPy d' with
      | none => rw [e1, e2] at q; exact q.elim
      | some p' =>
        rw [e1, e2] at q
        dsimp only at q
        split at q
        · rename_i hz
          obtain ⟨h1, h2⟩ := Bool.and_eq_true_iff.mp hz
          exact hd (toPy_repB e1 rx) (toPy_repB e2 ry) h1 h2 (q _ H (Ex.refl H) (rep_bl _))
        · exact q.elim
  unfold eqK at q
  cases e1 : scalD d with
  | none => rw [e1] at q; exact .inr (deep q)
  | some v =>
    cases e2 : scalD d' with
    | none => rw [e1, e2] at q; exact .inr (deep q)
    | some v' =>
      rw [e1, e2] at q
      dsimp only at q
      split at q
      · rename_i hz
        rw [← scal_rep e1 rx, ← scal_rep e2 ry] at hz q
        exact .inl (hs hz (q _ H (Ex.refl H) (rep_bl _)))
      · exact q.elim
theorem op_eqA (hK : X.K = C.W.K) (hu : X.A.units + 64 < cLine) : ∃ r, OpR X (compareOp .Eq) r ∧ Op2 C r eqD := ⟨_, op_eq.or (op_eqD hu), by
  rw [hK]
  exact eqK_ok (k := id) (fun h q => ⟨h, q⟩) fun h1 h2 h3 h4 q => ⟨_, _, h1, h2, h3, h4, q⟩⟩
theorem op_neA (hK : X.K = C.W.K) (hu : X.A.units + 64 < cLine) : ∃ r, OpR X (compareOp .NotEq) r ∧ Op2 C r neD := ⟨_, op_ne.or (op_neD hu), by
  rw [hK]
  exact eqK_ok (k := not) (fun h q => ⟨h, q⟩) fun h1 h2 h3 h4 q => ⟨_, _, h1, h2, h3, h4, q⟩⟩
def isNonD : D → Bool
  | .non => true
  | _ => false
def isND (k : Bool → Bool) (d d' : D) : Res := match d' with
  | .non => .ok (.bl (k (isNonD d)))
  | _ => .stuck
theorem isn_rep (r : RepB W M H d x) : decide (x = .non) = isNonD d := by
  have ref : ∀ {a : Addr}, x = .ref a → decide (x = .non) = false := fun e => by rw [e]; rfl
  cases d with
  | non => rw [r.non]; rfl
  | bl b => rw [r.bl]; rfl
  | int i => rw [r.int]; rfl
  | str s => rw [r.str]; rfl
  | tup ds => obtain ⟨p, _, e, _⟩ := r.tup; exact ref e
  | lst ds => obtain ⟨p, _, e, _⟩ := r.lst; exact ref e
  | scr ds => obtain ⟨p, _, e, _⟩ := r.scr; exact ref e
  | obj c ds =>
    rcases r with r | ⟨_, _, _, h, _⟩
    · unfold Rep at r
      obtain ⟨a, _, _, e, _⟩ := r
      exact ref e
    · cases h
theorem op_isA : ∃ r, OpR X (compareOp .Is) r ∧ Op2 C r (isND id) := ⟨_, op_isN, fun {M H Q E d d' x y} hM rx ry q => by
  cases d' with
  | non => exact ⟨ry.non, by rw [isn_rep rx]; exact q _ H (Ex.refl H) (rep_bl _)⟩
  | _ => exact q.elim⟩
theorem op_isntA : ∃ r, OpR X (compareOp .IsNot) r ∧ Op2 C r (isND not) := ⟨_, op_notN, fun {M H Q E d d' x y} hM rx ry q => by
  cases d' with
  | non => exact ⟨ry.non, by rw [isn_rep rx]; exact q _ H (Ex.refl H) (rep_bl _)⟩
  | _ => exact q.elim⟩
theorem op_ltA : ∃ r, OpR X (compareOp .Lt) r ∧ Op2 C r ltD := ⟨_, op_lt, intOp0_ok fun _ _ _ _ => rep_bl _⟩
theorem op_leA : ∃ r, OpR X (compareOp .LtE) r ∧ Op2 C r leD := ⟨_, op_le, intOp0_ok fun _ _ _ _ => rep_bl _⟩
theorem op_gtA : ∃ r, OpR X (compareOp .Gt) r ∧ Op2 C r gtD := ⟨_, op_gt, intOp0_ok fun _ _ _ _ => rep_bl _⟩
theorem op_geA : ∃ r, OpR X (compareOp .GtE) r ∧ Op2 C r geD := ⟨_, op_ge, intOp0_ok fun _ _ _ _ => rep_bl _⟩
/-- x in [..], (..) of flat things -/
def scalL : List D → Option (List V)
  | [] => some []
  | d :: ds => match scalD d, scalL ds with
    | some v, some vs => some (v :: vs)
    | _, _ => none
theorem scalL_rep : ∀ {ds : List D} {vs us : List V}, scalL ds = some us → RepL W M H ds vs → vs = us
  | [], vs, us, e, r => by unfold RepL at r; cases e; exact r
  | d :: ds, vs, us, e, r => by
    unfold RepL at r
    obtain ⟨v, t, rfl, r1, r2⟩ := r
    unfold scalL at e
    cases q : scalD d with
    | none => rw [q] at e; cases e
    | some p =>
      cases q' : scalL ds with
      | none => rw [q, q'] at e; cases e
      | some ps => rw [q, q'] at e; cases e; rw [scal_rep q (.inl r1), scalL_rep q' r2]
def inK (k : Bool → Bool) (d d' : D) : Res := match itemsD d' with
  | .ok ds => (match scalD d, scalL ds with
    | some v, some vs => if flatV v && vs.all flatV then .ok (.bl (k (inV v vs))) else .stuck
    | _, _ => .stuck)
  | _ => .stuck
theorem items_rep {ds : List D} (e : itemsD d = .ok ds) (r : RepB W M H d x) : ∃ p vs, x = .ref p ∧ (SqL W.K H p vs ∨ SqT W.K H p vs) ∧ RepL W M H ds vs := by
  cases d with
  | lst es => cases e; obtain ⟨p, vs, e1, e2, e3⟩ := r.lst; exact ⟨p, vs, e1, .inl (SqL.of e2), e3⟩
  | scr es => cases e; obtain ⟨p, vs, e1, e2, e3⟩ := r.scr; exact ⟨p, vs, e1, .inl e2, e3⟩
  | tup es => cases e; obtain ⟨p, vs, e1, e2, e3⟩ := r.tup; exact ⟨p, vs, e1, .inr e2, e3⟩
  | _ => cases e
theorem inK_ok {k : Bool → Bool} {neg : Bool} (hk : ∀ b, (if neg then !b else b) = k b) : Op2 C (rIn C.W.K neg) (inK k) := fun {M H Q E d d' x y} hM rx ry q => by
  unfold inK at q
  cases e1 : itemsD d' with
  | ok ds =>
    rw [e1] at q
    dsimp only at q
    obtain ⟨p, vs, e2, e3, e4⟩ := items_rep e1 ry
    cases e5 : scalD d with
    | none => rw [e5] at q; exact q.elim
    | some v =>
      cases e6 : scalL ds with
      | none => rw [e5, e6] at q; exact q.elim
      | some us =>
        rw [e5, e6] at q
        dsimp only at q
        split at q
        · rename_i hz
          obtain ⟨h1, h2⟩ := Bool.and_eq_true_iff.mp hz
          rw [scalL_rep e6 e4] at e3
          rw [scal_rep e5 rx]
          exact ⟨p, us, e2, e3, h1, h2, by rw [hk]; exact q _ H (Ex.refl H) (rep_bl _)⟩
        · exact q.elim
  | _ => rw [e1] at q; exact q.elim
theorem op_inA (hK : X.K = C.W.K) : ∃ r, OpR X (compareOp .In) r ∧ Op2 C r (inK id) := ⟨_, op_in_seq, by rw [hK]; exact inK_ok fun b => by cases b <;> rfl⟩
theorem op_ninA (hK : X.K = C.W.K) : ∃ r, OpR X (compareOp .NotIn) r ∧ Op2 C r (inK not) := ⟨_, op_notIn_seq, by rw [hK]; exact inK_ok fun b => by cases b <;> rfl⟩
theorem qe_cmp {op : CmpOp} {g : D → D → Res} (ho : ∃ r, OpR X (compareOp op) r ∧ Op2 C r g) (ha : QB C X a fa) (hb : QB C X b fb) (hm : behindInMarks op b = false := by first | exact nomark _ | rfl) : QE C X (.Compare a [op] [b] pos) (eb fa fb g) := by
  obtain ⟨r, ho, h⟩ := ho
  exact q_bin h ha hb fun _ _ pa pb => pe_cmpR ho pa pb hm
/-! ### tests -/
def blR : D → Rs Bool
  | .bl b => .ok b
  | _ => .stuck
theorem qt_cmp {op : CmpOp} {g : D → D → Res} (ho : ∃ r, OpR X (compareOp op) r ∧ Op2 C r g) (ha : QB C X a fa) (hb : QB C X b fb) (hm : behindInMarks op b = false := by first | exact nomark _ | rfl) : QT C X (.Compare a [op] [b] pos) (fun s => (eb fa fb g s).bind blR) := by
  obtain ⟨r, ho, h⟩ := ho
  refine PT.imp (pt_cmpR ho ha hb hm) fun σ H Q ⟨M, s, I, q⟩ => bin_imp h ⟨M, s, I, q.bind fun d k v H3 x3 r3 => ?_⟩
  cases d with
  | bl b =>
    unfold Rep at r3
    exact ⟨b, r3, k H3 x3⟩
  | _ => exact k.elim
def truD : D → Rs Bool
  | .non => .ok false
  | .bl b => .ok b
  | .int i => .ok (i != 0)
  | .str y => if y.length ≤ sizeLine then .ok ((y.length : Int) != 0) else .stuck
  | .lst ds => .ok (!ds.isEmpty)
  | .scr ds => .ok (!ds.isEmpty)
  | .tup ds => .ok (!ds.isEmpty)
  | .obj _ _ => .stuck
theorem repL_emp {ds : List D} {vs : List V} (r : RepL W M H ds vs) : vs.isEmpty = ds.isEmpty := by
  cases ds with
  | nil => unfold RepL at r; rw [r]; rfl
  | cons d ds => unfold RepL at r; obtain ⟨v, t, rfl, _⟩ := r; rfl
theorem tru_rep {b : Bool} (e : truD d = .ok b) (r : RepB W M H d x) : TruV W.K x H b := by
  cases d with
  | non => rw [r.non]; cases e; rfl
  | bl b => rw [r.bl]; cases e; rfl
  | int b => rw [r.int]; cases e; rfl
  | str y =>
    rw [r.str]
    simp only [truD] at e
    split at e
    · rename_i hz; cases e; exact ⟨hz, rfl⟩
    · cases e
  | lst ds => obtain ⟨p, vs, rfl, e2, e3⟩ := r.lst; cases e; exact .inl ⟨vs, SqL.of e2, by rw [repL_emp e3]⟩
  | scr ds => obtain ⟨p, vs, rfl, e2, e3⟩ := r.scr; cases e; exact .inl ⟨vs, e2, by rw [repL_emp e3]⟩
  | tup ds => obtain ⟨p, vs, rfl, e2, e3⟩ := r.tup; cases e; exact .inr (.inl ⟨vs, e2, by rw [repL_emp e3]⟩)
  | obj c ds => cases e
theorem qt_tru (hK : X.K = C.W.K) (ha : QB C X a fa) (he : ∀ whole, isTrue a X.env whole = (do let v ← whole; standAt a.pos; holding [v] (truthy v)) := by intro _; rfl) : QT C X a (fun s => (fa s).bind truD) :=
  PT.imp (pt_truth ha he) fun σ H Q ⟨M, s, I, q⟩ => ⟨M, s, I, q.bind fun d q' v H' e1 r => by
    cases e : truD d with
    | ok b => rw [e] at q'; exact ⟨b, by rw [hK]; exact tru_rep e r, q' H' e1⟩
    | exc c es =>
      cases d with
      | str y => simp only [truD] at e; split at e <;> cases e
      | _ => cases e
    | stuck => rw [e] at q'; exact q'.elim⟩
def notR (b : Bool) : Rs Bool := .ok (!b)
theorem qt_not {f : Ss → Rs Bool} (h : QT C X a f) : QT C X (.UnaryOp .Not a pos) (fun s => (f s).bind notR) :=
  PT.imp (pt_not h) fun σ H Q ⟨M, s, I, q⟩ => ⟨M, s, I, q.bind fun b q' H' e1 => q' H' e1⟩
def andR (f g : Ss → Rs Bool) : Ss → Rs Bool := fun s => (f s).bind fun b => if b then g s else .ok false
def orR (f g : Ss → Rs Bool) : Ss → Rs Bool := fun s => (f s).bind fun b => if b then .ok true else g s
variable {rest : List Expr}
theorem QW.t {f : Ss → Rs Bool} (h : QW C X e f) : QT C X e f := PW.pt h
theorem qw_and1 {f : Ss → Rs Bool} (h : QT C X a f) : QW C X (.BoolOp .And [a] pos) f := pw_and1 h
theorem qw_or1 {f : Ss → Rs Bool} (h : QT C X a f) : QW C X (.BoolOp .Or [a] pos) f := pw_or1 h
theorem PW.imp {X : Cx} {e : Expr} {t t' : TT} (h : PW X e t) (i : ∀ σ H Q, t' σ H Q → t σ H Q) : PW X e t' := ⟨fun wh pins s σ H Q I q => h.run wh pins s σ H Q I (i _ _ _ q)⟩
theorem qw_and {f g : Ss → Rs Bool} (h : QT C X a f) (h' : QW C X (.BoolOp .And (b :: rest) pos) g) : QW C X (.BoolOp .And (a :: b :: rest) pos) (andR f g) :=
  PW.imp (pw_and h h') fun σ H Q ⟨M, s, I, q⟩ => ⟨M, s, I, q.bind fun c q' H' e1 => by
    cases c with
    | true => exact iteT ⟨M, s, I.exx e1, RsR.ex (P := fun H b => ∀ H', Ex H H' → Q b H') q' e1 fun b k H2 e2 => k H2 (e1.trans e2)⟩
    | false => exact iteF (q' H' e1)⟩
theorem qw_or {f g : Ss → Rs Bool} (h : QT C X a f) (h' : QW C X (.BoolOp .Or (b :: rest) pos) g) : QW C X (.BoolOp .Or (a :: b :: rest) pos) (orR f g) :=
  PW.imp (pw_or h h') fun σ H Q ⟨M, s, I, q⟩ => ⟨M, s, I, q.bind fun c q' H' e1 => by
    cases c with
    | true => exact iteT (q' H' e1)
    | false => exact iteF ⟨M, s, I.exx e1, RsR.ex (P := fun H b => ∀ H', Ex H H' → Q b H') q' e1 fun b k H2 e2 => k H2 (e1.trans e2)⟩⟩
/-! and, or, not as values, True or False; a if t else b -/
def andV (f g : EF) : EF := fun s => (f s).bind fun d => (blR d).bind fun b => if b then g s else .ok (.bl false)
def orV (f g : EF) : EF := fun s => (f s).bind fun d => (blR d).bind fun b => if b then .ok (.bl true) else g s
def notV (d : D) : Res := (blR d).bind fun b => .ok (.bl (!b))
theorem qe_one {op} (h : QE C X a f) : QE C X (.BoolOp op [a] pos) f := pe_one h
theorem qe_and (h : QE C X a fa) (h' : QE C X (.BoolOp .And (b :: rest) pos) fb) : QE C X (.BoolOp .And (a :: b :: rest) pos) (andV fa fb) :=
  PE.imp (pe_and h h') fun σ H Q ⟨M, s, I, q⟩ => ⟨M, s, I, q.bind fun d q' v H' e1 r => by
    cases d with
    | bl c =>
      unfold Rep at r
      refine ⟨c, r, ?_⟩
      cases c with
      | true => exact iteT ⟨M, s, I.exx e1, ResR.ex q' e1⟩
      | false => exact iteF (q' _ H' e1 (rep_bl _))
    | _ => exact q'.elim⟩
theorem qe_or (h : QE C X a fa) (h' : QE C X (.BoolOp .Or (b :: rest) pos) fb) : QE C X (.BoolOp .Or (a :: b :: rest) pos) (orV fa fb) :=
  PE.imp (pe_or h h') fun σ H Q ⟨M, s, I, q⟩ => ⟨M, s, I, q.bind fun d q' v H' e1 r => by
    cases d with
    | bl c =>
      unfold Rep at r
      refine ⟨c, r, ?_⟩
      cases c with
      | true => exact iteT (q' _ H' e1 (rep_bl _))
      | false => exact iteF ⟨M, s, I.exx e1, ResR.ex q' e1⟩
    | _ => exact q'.elim⟩
theorem qe_not (h : QE C X a fa) : QE C X (.UnaryOp .Not a pos) (eu fa notV) :=
  PE.imp (pe_not h) fun σ H Q ⟨M, s, I, q⟩ => ⟨M, s, I, q.bind fun d q' v H' e1 r => by
    cases d with
    | bl c =>
      unfold Rep at r
      exact ⟨c, r, q' _ H' e1 (rep_bl _)⟩
    | _ => exact q'.elim⟩
def ifV (f : Ss → Rs Bool) (fa fb : EF) : EF := fun s => (f s).bind fun b => if b then fa s else fb s
theorem qe_if {c : Expr} {f : Ss → Rs Bool} (hc : QT C X c f) (ha : QE C X a fa) (hb : QE C X b fb) : QE C X (.IfExp c a b pos) (ifV f fa fb) :=
  PE.imp (pe_ifExp hc ha hb) fun σ H Q ⟨M, s, I, q⟩ => ⟨M, s, I, q.bind fun c q' H' e1 => by
    cases c with
    | true => exact iteT ⟨M, s, I.exx e1, ResR.ex q' e1⟩
    | false => exact iteF ⟨M, s, I.exx e1, ResR.ex q' e1⟩⟩
/-! ### argument lists, displays -/
def kA (W : Wd) (M : Addr → Prop) (Q : List V → Hp → Prop) : Hp → List D → Prop := fun H ds => ∀ vs H', Ex H H' → RepL W M H' ds vs → Q vs H'
def tA (C : Cn) (f : Ss → Rs (List D)) : TA := fun σ H Q => ∃ M s, FI C.W C.M0 M C.H0 H σ s ∧ RsR C.W M H (fun c d H' => C.Wx c d σ H') (kA C.W M Q) (f s)
abbrev QA (C : Cn) (X : Cx) (es : List Expr) (f : Ss → Rs (List D)) : Prop := PA X es (tA C f)
theorem PA.imp {X : Cx} {e : List Expr} {t t' : TA} (h : PA X e t) (i : ∀ σ H Q, t' σ H Q → t σ H Q) : PA X e t' := ⟨fun p pins s σ H Q I q => h.run p pins s σ H Q I (i _ _ _ q)⟩
theorem qa_nil : QA C X [] (fun _ => .ok []) := PA.imp pa_nil fun σ H Q ⟨M, s, I, q⟩ => q [] H (Ex.refl H) .nil
def consA (f : EF) (g : Ss → Rs (List D)) : Ss → Rs (List D) := fun s => (f s).bind fun d => (g s).bind fun ds => .ok (d :: ds)
theorem qa_cons {es : List Expr} {g : Ss → Rs (List D)} (h : QE C X e f) (t : QA C X es g) (hs : starEach (e :: es) X.env = (false, eval e X.env) :: starEach es X.env := by rfl) : QA C X (e :: es) (consA f g) :=
  PA.imp (pa_cons h t hs) fun σ H Q ⟨M, s, I, q⟩ => ⟨M, s, I, q.bind fun d q' v H1 e1 r1 => ⟨M, s, I.exx e1, RsR.ex (P := kA C.W M fun vs H' => ∀ v, Rep C.W M H' d v → Q (v :: vs) H') (q'.bind fun ds k vs H2 e2 r2 v rv => k (v :: vs) H2 e2 (.cons rv r2)) e1 fun ds k vs H2 e2 r2 =>
    k vs H2 (e1.trans e2) r2 v (r1.ex e2)⟩⟩
theorem qe_tup {es : List Expr} {g : Ss → Rs (List D)} {x1} (h : QA C X es g) : QE C X (.Tuple es x1 pos) (fun s => (g s).bind fun ds => if ds.length ≤ sizeLine then .ok (.tup ds) else .stuck) :=
  PE.imp (pe_tup h) fun σ H Q ⟨M, s, I, q⟩ => ⟨M, s, I, q.bind fun ds q' vs H1 e1 r => by
    split at q'
    · rename_i hz
      exact ⟨by rw [← r.length]; exact hz, fun p n => q' _ _ (e1.trans (Ex.new n)) (rep_tup (fun a z => ((I.exx e1).fresh a z).1) r n)⟩
    · exact q'.elim⟩
theorem ql_lst {es : List Expr} {g : Ss → Rs (List D)} (h : QA C X es g) : QL C X (.List es pos) (fun s => (g s).bind fun ds => if ds.length ≤ sizeLine then .ok ds else .stuck) :=
  PE.imp (pe_lst h) fun σ H Q ⟨M, s, I, q⟩ => ⟨M, s, I, q.bind fun ds q' vs H1 e1 r => by
    split at q'
    · rename_i hz
      exact ⟨by rw [← r.length]; exact hz, fun p n => q' p vs H1 _ e1 n (Ex.new n) r upd_same⟩
    · exact q'.elim⟩
/-! ### subscripts, slices -/
def ixD : D → D → Res
  | .lst ds, .int i => (match atI ds i with
    | some d => .ok d
    | none => .stuck)
  | .scr ds, .int i => (match atI ds i with
    | some d => .ok d
    | none => .stuck)
  | .tup ds, .int i => (match atI ds i with
    | some d => .ok d
    | none => .stuck)
  | .str z, .int i => if z.length ≤ sizeLine then (match atI z.cps.toList i with
    | some c => .ok (.str ⟨#[c]⟩)
    | none => .stuck) else .stuck
  | _, _ => .stuck
theorem qe_ix (hK : X.K = C.W.K) (ha : QB C X a fa) (hb : QB C X b fb) (hs : PlainIx b := by intro _ _; rfl) : QE C X (.Subscript a b pos) (eb fa fb ixD) := by
  refine q_bin (r := rIx X.K) ?_ ha hb fun ta tb pa pb => pe_ix ix_seq pa pb hs
  intro M H Q E d d' x y hM rx ry q
  rw [hK]
  have ls : ∀ {ds : List D} {i : Int} {vs : List V} {p : Addr}, d' = .int i → x = .ref p → RepL C.W M H ds vs → ResR C.W M H Q E (match atI ds i with
    | some d => .ok d
    | none => .stuck) → ∃ v, atI vs i = some v ∧ Q v H := fun {ds i vs p} e1 e2 r q => by
    cases e : atI ds i with
    | none => rw [e] at q; exact q.elim
    | some d =>
      rw [e] at q
      obtain ⟨v, e3, e4⟩ := r.at e
      exact ⟨v, e3, q v H (Ex.refl H) e4⟩
  cases d with
  | lst ds =>
    cases d' with
    | int i =>
      obtain ⟨p, vs, e1, e2, e3⟩ := rx.lst
      obtain ⟨v, e4, e5⟩ := ls rfl e1 e3 q
      exact .inl ⟨p, vs, i, v, e1, ry.int, SqL.of e2, e4, e5⟩
    | _ => exact q.elim
  | scr ds =>
    cases d' with
    | int i =>
      obtain ⟨p, vs, e1, e2, e3⟩ := rx.scr
      obtain ⟨v, e4, e5⟩ := ls rfl e1 e3 q
      exact .inl ⟨p, vs, i, v, e1, ry.int, e2, e4, e5⟩
    | _ => exact q.elim
  | tup ds =>
    cases d' with
    | int i =>
      obtain ⟨p, vs, e1, e2, e3⟩ := rx.tup
      obtain ⟨v, e4, e5⟩ := ls rfl e1 e3 q
      exact .inr (.inl ⟨p, vs, i, v, e1, ry.int, e2, e4, e5⟩)
    | _ => exact q.elim
  | str z =>
    cases d' with
    | int i =>
      simp only [ixD] at q
      split at q
      · rename_i hz
        cases e : atI z.cps.toList i with
        | none => rw [e] at q; exact q.elim
        | some c =>
          rw [e] at q
          exact .inr (.inr ⟨z, i, c, rx.str, ry.int, hz, e, q _ H (Ex.refl H) (rep_str _)⟩)
      · exact q.elim
    | _ => exact q.elim
  | _ => exact q.elim
/-- a part of a slice -/
def tOD (C : Cn) (f : Ss → Rs (Option Int)) : TO := fun σ H Q => ∃ M s, FI C.W C.M0 M C.H0 H σ s ∧ RsR C.W M H (fun c d H' => C.Wx c d σ H') (fun H o => ∀ H', Ex H H' → Q o H') (f s)
abbrev QO (C : Cn) (X : Cx) (e : Option Expr) (f : Ss → Rs (Option Int)) : Prop := PO X e (tOD C f)
theorem PO.imp {X : Cx} {e : Option Expr} {t t' : TO} (h : PO X e t) (i : ∀ σ H Q, t' σ H Q → t σ H Q) : PO X e t' := ⟨fun pins s σ H Q I q => h.run pins s σ H Q I (i _ _ _ q)⟩
def intR : D → Rs (Option Int)
  | .int i => .ok (some i)
  | _ => .stuck
theorem qo_none : QO C X none (fun _ => .ok none) := PO.imp po_none fun σ H Q ⟨M, s, I, q⟩ => q H (Ex.refl H)
theorem qo_some (h : QE C X e f) : QO C X (some e) (fun s => (f s).bind intR) := PO.imp (po_some h) fun σ H Q ⟨M, s, I, q⟩ => ⟨M, s, I, q.bind fun d q' v H' e1 r => by
  cases d with
  | int i =>
    unfold Rep at r
    exact ⟨i, r, q' H' e1⟩
  | _ => exact q'.elim⟩
def cutL {α : Type} (xs : List α) (lo hi : Option Int) : List α := (xs.drop (HT.sIx xs.length 0 lo)).take (HT.sIx xs.length xs.length hi - HT.sIx xs.length 0 lo)
theorem RepL.cut {ds : List D} {vs : List V} (r : RepL W M H ds vs) (lo hi : Option Int) : RepL W M H (cutL ds lo hi) (cutV vs lo hi) := by
  unfold cutL cutV
  rw [r.length]
  exact (r.drop _).take _
def slL (fa : EF) (fl fh : Ss → Rs (Option Int)) (g : List D → Option Int → Option Int → Rs (List D)) : Ss → Rs (List D) := fun s => (fa s).bind fun d => (fl s).bind fun lo => (fh s).bind fun hi => match d with
  | .lst ds => g ds lo hi
  | .scr ds => g ds lo hi
  | _ => .stuck
variable {lo hi : Option Expr} {fl fh : Ss → Rs (Option Int)} {p2 : Pos}
theorem slice_imp {r : V → Option Int → Option Int → Hp → VK → Prop} {σ : L2.St} {H : Hp} {Q : VK} {α : Type} {s : Ss} {g : D → Option Int → Option Int → Rs α} {P : Hp → α → Prop} (I : FI C.W C.M0 M C.H0 H σ s)
    (hP : ∀ {H H' : Hp} {d : α}, Ex H H' → P H d → P H' d)
    (h : ∀ {H' : Hp} {d : D} {x : V} {lo hi : Option Int}, FI C.W C.M0 M C.H0 H' σ s → RepB C.W M H' d x → RsR C.W M H' (fun c d H' => C.Wx c d σ H') P (g d lo hi) → r x lo hi H' Q)
    (q : RsR C.W M H (fun c d H' => C.Wx c d σ H') P ((fa s).bind fun d => (fl s).bind fun lo => (fh s).bind fun hi => g d lo hi)) : tSl r (tB_ C fa) (tOD C fl) (tOD C fh) σ H Q :=
  ⟨M, s, I, q.bind fun d q1 x H1 e1 r1 => ⟨M, s, I.exx e1, RsR.bind (P' := P) (RsR.ex q1 e1 fun d => hP e1) fun lo q2 H2 e2 => ⟨M, s, (I.exx e1).exx e2, RsR.bind (P' := P) (RsR.ex q2 e2 fun d => hP e2) fun hi q3 H3 e3 =>
    h (((I.exx e1).exx e2).exx e3) ((r1.ex e2).ex e3) (RsR.ex q3 e3 fun d => hP e3)⟩⟩⟩
theorem ql_slice (hK : X.K = C.W.K) (ha : QB C X a fa) (hl : QO C X lo fl) (hh : QO C X hi fh) : QL C X (.Subscript a (.Slice lo hi none p2) pos) (slL fa fl fh fun ds lo hi => .ok (cutL ds lo hi)) :=
  PE.imp (pe_slice sl_list ha hl hh) fun σ H Q ⟨M, s, I, q⟩ => slice_imp (P := kL C.W M Q) I (fun e1 k p vs Hm H' e2 => k p vs Hm H' (e1.trans e2)) (fun {H' d x lo hi} I' r q => by
    rw [hK]
    cases d with
    | lst ds => obtain ⟨p, vs, e1, e2, e3⟩ := r.lst; exact ⟨p, vs, e1, SqL.of e2, fun p n => q p _ H' _ (Ex.refl _) n (Ex.new n) (e3.cut _ _) upd_same⟩
    | scr ds => obtain ⟨p, vs, e1, e2, e3⟩ := r.scr; exact ⟨p, vs, e1, e2, fun p n => q p _ H' _ (Ex.refl _) n (Ex.new n) (e3.cut _ _) upd_same⟩
    | _ => exact q.elim) q
def cutT (d : D) (lo hi : Option Int) : Res := match d with
  | .tup ds => if HT.sIx ds.length 0 lo = 0 ∧ HT.sIx ds.length ds.length hi = ds.length then .stuck else .ok (.tup (cutL ds lo hi))
  | _ => .stuck
theorem qe_sliceT (hK : X.K = C.W.K) (ha : QB C X a fa) (hl : QO C X lo fl) (hh : QO C X hi fh) : QE C X (.Subscript a (.Slice lo hi none p2) pos) (fun s => (fa s).bind fun d => (fl s).bind fun lo => (fh s).bind fun hi => cutT d lo hi) :=
  PE.imp (pe_slice sl_tup ha hl hh) fun σ H Q ⟨M, s, I, q⟩ => slice_imp (P := kV C.W M Q) I (fun e1 k v H' e2 => k v H' (e1.trans e2)) (fun {H' d x lo hi} I' r q => by
    rw [hK]
    cases d with
    | tup ds =>
      obtain ⟨p, vs, e1, e2, e3⟩ := r.tup
      unfold cutT at q
      dsimp only at q
      split at q
      · exact q.elim
      · rename_i hz
        rw [e3.length] at hz
        exact ⟨p, vs, e1, e2, hz, fun p n => q _ _ (Ex.new n) (rep_tup (fun a z => (I'.fresh a z).1) (e3.cut _ _) n)⟩
    | _ => exact q.elim) q
def cutSD (d : D) (lo hi : Option Int) : Res := match d with
  | .str z => if z.length ≤ sizeLine then .ok (.str (cutS z lo hi)) else .stuck
  | _ => .stuck
theorem qe_sliceS (ha : QB C X a fa) (hl : QO C X lo fl) (hh : QO C X hi fh) : QE C X (.Subscript a (.Slice lo hi none p2) pos) (fun s => (fa s).bind fun d => (fl s).bind fun lo => (fh s).bind fun hi => cutSD d lo hi) :=
  PE.imp (pe_slice sl_str ha hl hh) fun σ H Q ⟨M, s, I, q⟩ => slice_imp (P := kV C.W M Q) I (fun e1 k v H' e2 => k v H' (e1.trans e2)) (fun {H' d x lo hi} I' r q => by
    cases d with
    | str z =>
      unfold cutSD at q
      dsimp only at q
      split at q
      · rename_i hz; exact ⟨z, r.str, hz, q _ H' (Ex.refl _) (rep_str _)⟩
      · exact q.elim
    | _ => exact q.elim) q
def revL (fa : EF) : Ss → Rs (List D) := fun s => (fa s).bind fun d => match d with
  | .lst ds => .ok ds.reverse
  | .scr ds => .ok ds.reverse
  | _ => .stuck
theorem ql_rev (hK : X.K = C.W.K) (ha : QB C X a fa) {j : Nat} {q1 q2 q3 : Pos} : QL C X (.Subscript a (.Slice none none (some (.UnaryOp .USub (.Constant (.int 1) j q1) q2)) q3) pos) (revL fa) :=
  PE.imp (pe_revL ha) fun σ H Q ⟨M, s, I, q⟩ => ⟨M, s, I, q.bind fun d k x H1 e1 r => by
    rw [hK]
    cases d with
    | lst ds => obtain ⟨p, vs, g1, g2, g3⟩ := r.lst; exact ⟨p, vs, g1, SqL.of g2, fun p n => k p _ H1 _ e1 n (Ex.new n) g3.rev upd_same⟩
    | scr ds => obtain ⟨p, vs, g1, g2, g3⟩ := r.scr; exact ⟨p, vs, g1, g2, fun p n => k p _ H1 _ e1 n (Ex.new n) g3.rev upd_same⟩
    | _ => exact k.elim⟩
/-! ### built-in calls -/
variable {x : Str} {p : Pos}
theorem q_cb1 {r : List V → Hp → VK → Prop} {g : D → Res} {id : String} (hc : CallR X (.builtin id) r) (h : Op1 C (fun x => r [x]) g) (hm : X.mg x = none) (hv : bootBuiltins x = some (.builtin id)) (ha : QB C X a fa) (hg : Gl X x := by rfl) (hn : x ≠ "__name__" := by decide)
    (hdb : (x == ("__debug__" : Str)) = false := by decide) (he : starEach [a] X.env = (false, eval a X.env) :: starEach [] X.env := by rfl) (hpl : (backTo pos (starEach [] X.env)).any (·.1) = false := by rfl) : QE C X (.Call (.Name x p) [a] [] pos) (eu fa g) :=
  q_un h ha fun ta pa => pe_callB hc hg hm hv (pa_cons pa pa_nil he) hn hdb he hpl
theorem q_ct1 {r : List V → Hp → VK → Prop} {g : D → Res} {T : String} (hc : CallR X (.type T) r) (h : Op1 C (fun x => r [x]) g) (hm : X.mg x = none) (hv : bootBuiltins x = some (.type T)) (ha : QB C X a fa) (hg : Gl X x := by rfl) (hn : x ≠ "__name__" := by decide)
    (hdb : (x == ("__debug__" : Str)) = false := by decide) (he : starEach [a] X.env = (false, eval a X.env) :: starEach [] X.env := by rfl) (hpl : (backTo pos (starEach [] X.env)).any (·.1) = false := by rfl) : QE C X (.Call (.Name x p) [a] [] pos) (eu fa g) :=
  q_un h ha fun ta pa => pe_callTy hc hg hm hv (pa_cons pa pa_nil he) hn hdb he hpl
theorem q_cb2 {r : List V → Hp → VK → Prop} {g : D → D → Res} {id : String} (hc : CallR X (.builtin id) r) (h : Op2 C (fun x y => r [x, y]) g) (hm : X.mg x = none) (hv : bootBuiltins x = some (.builtin id)) (ha : QB C X a fa) (hb : QB C X b fb) (hg : Gl X x := by rfl) (hn : x ≠ "__name__" := by decide)
    (hdb : (x == ("__debug__" : Str)) = false := by decide) (he : starEach [a, b] X.env = (false, eval a X.env) :: starEach [b] X.env := by rfl) (he1 : starEach [b] X.env = (false, eval b X.env) :: starEach [] X.env := by rfl) (hpl : (backTo pos (starEach [b] X.env)).any (·.1) = false := by rfl) : QE C X (.Call (.Name x p) [a, b] [] pos) (eb fa fb g) :=
  q_bin h ha hb fun ta tb pa pb => pe_callB hc hg hm hv (pa_cons pa (pa_cons pb pa_nil he1) he) hn hdb he hpl
def lenD : D → Res
  | .lst ds => .ok (.int ds.length)
  | .scr ds => .ok (.int ds.length)
  | .tup ds => .ok (.int ds.length)
  | .str z => if z.length ≤ sizeLine then .ok (.int z.length) else .stuck
  | _ => .stuck
theorem len_ok (hK : X.K = C.W.K) : Op1 C (fun x H Q => ∃ y n, [x] = [y] ∧ LenV X.K y H n ∧ Q (.int n) H) lenD := fun {M H Q E d x} hM r q => by
  rw [hK]
  cases d with
  | lst ds => obtain ⟨p, vs, e1, e2, e3⟩ := r.lst; exact ⟨x, ds.length, rfl, by rw [e1]; exact .inl ⟨vs, SqL.of e2, e3.length⟩, q _ H (Ex.refl H) (rep_int _)⟩
  | scr ds => obtain ⟨p, vs, e1, e2, e3⟩ := r.scr; exact ⟨x, ds.length, rfl, by rw [e1]; exact .inl ⟨vs, e2, e3.length⟩, q _ H (Ex.refl H) (rep_int _)⟩
  | tup ds => obtain ⟨p, vs, e1, e2, e3⟩ := r.tup; exact ⟨x, ds.length, rfl, by rw [e1]; exact .inr ⟨vs, e2, e3.length⟩, q _ H (Ex.refl H) (rep_int _)⟩
  | str z =>
    simp only [lenD] at q
    split at q
    · rename_i hz; exact ⟨x, z.length, rfl, by rw [r.str]; exact ⟨hz, rfl⟩, q _ H (Ex.refl H) (rep_int _)⟩
    · exact q.elim
  | _ => exact q.elim
theorem qe_len (hK : X.K = C.W.K) (hm : X.mg "len" = none) (ha : QB C X a fa) (hg : Gl X "len" := by rfl) (he : starEach [a] X.env = (false, eval a X.env) :: starEach [] X.env := by rfl) (hpl : (backTo pos (starEach [] X.env)).any (·.1) = false := by rfl) : QE C X (.Call (.Name "len" p) [a] [] pos) (eu fa lenD) :=
  q_cb1 call_len (len_ok hK) hm boot_len ha hg (by decide) (by decide) he hpl
def int1D : D → Res
  | .int i => .ok (.int i)
  | .bl b => .ok (.int (if b then 1 else 0))
  | _ => .stuck
theorem int1_ok : Op1 C (fun x H Q => (∃ i, [x] = [.int i] ∧ Q (.int i) H) ∨ ∃ k, [x] = [.bl k] ∧ Q (.int (if k then 1 else 0)) H) int1D := fun {M H Q E d x} hM r q => by
  cases d with
  | int i => exact .inl ⟨i, by rw [r.int], q _ H (Ex.refl H) (rep_int _)⟩
  | bl i => exact .inr ⟨i, by rw [r.bl], q _ H (Ex.refl H) (rep_int _)⟩
  | _ => exact q.elim
theorem qe_int1 (hm : X.mg "int" = none) (ha : QB C X a fa) (hg : Gl X "int" := by rfl) (he : starEach [a] X.env = (false, eval a X.env) :: starEach [] X.env := by rfl) (hpl : (backTo pos (starEach [] X.env)).any (·.1) = false := by rfl) : QE C X (.Call (.Name "int" p) [a] [] pos) (eu fa int1D) :=
  q_ct1 call_int1 int1_ok hm boot_int ha hg (by decide) (by decide) he hpl
def maxD : D → D → Res := intOp (fun _ _ => true) fun i j => .int (if j > i then j else i)
def minD : D → D → Res := intOp (fun _ _ => true) fun i j => .int (if j < i then j else i)
theorem two_ok {g : Int → Int → Int} : Op2 C (fun x y H Q => ∃ i j, [x, y] = [.int i, .int j] ∧ Q (.int (g i j)) H) (intOp (fun _ _ => true) fun i j => .int (g i j)) := fun {M H Q E d d' x y} hM rx ry q => by
  obtain ⟨i, j, e1, e2, e3⟩ := intOp0_ok (C := C) (g := fun i j => .int (g i j)) (gv := fun i j => .int (g i j)) (fun _ _ _ _ => rep_int _) hM rx ry q
  exact ⟨i, j, by rw [e1, e2], e3⟩
theorem qe_max (B : Bx C X k) (hm : X.mg "max" = none) (ha : QB C X a fa) (hb : QB C X b fb) (hg : Gl X "max" := by rfl) (he : starEach [a, b] X.env = (false, eval a X.env) :: starEach [b] X.env := by rfl) (he1 : starEach [b] X.env = (false, eval b X.env) :: starEach [] X.env := by rfl) (hpl : (backTo pos (starEach [b] X.env)).any (·.1) = false := by rfl) :
    QE C X (.Call (.Name "max" p) [a, b] [] pos) (eb fa fb maxD) := q_cb2 (call_max2 B.calm) two_ok hm (by decide +kernel) ha hb hg (by decide) (by decide) he he1 hpl
theorem qe_min (B : Bx C X k) (hm : X.mg "min" = none) (ha : QB C X a fa) (hb : QB C X b fb) (hg : Gl X "min" := by rfl) (he : starEach [a, b] X.env = (false, eval a X.env) :: starEach [b] X.env := by rfl) (he1 : starEach [b] X.env = (false, eval b X.env) :: starEach [] X.env := by rfl) (hpl : (backTo pos (starEach [b] X.env)).any (·.1) = false := by rfl) :
    QE C X (.Call (.Name "min" p) [a, b] [] pos) (eb fa fb minD) := q_cb2 (call_min2 B.calm) two_ok hm (by decide +kernel) ha hb hg (by decide) (by decide) he he1 hpl
/-- list(x) -/
def listR (fa : EF) : Ss → Rs (List D) := fun s => (fa s).bind itemsD
theorem ql_list (hK : X.K = C.W.K) (hm : X.mg "list" = none) (ha : QB C X a fa) (hg : Gl X "list" := by rfl) (he : starEach [a] X.env = (false, eval a X.env) :: starEach [] X.env := by rfl) (hpl : (backTo pos (starEach [] X.env)).any (·.1) = false := by rfl) : QL C X (.Call (.Name "list" p) [a] [] pos) (listR fa) :=
  PE.imp (pe_callTy call_list_of hg hm (by decide +kernel) (pa_cons ha pa_nil he) (by decide) (by decide) he hpl) fun σ H Q ⟨M, s, I, q⟩ => ⟨M, s, I, q.bind fun d k x H1 e1 r => by
    rw [hK]
    cases e : itemsD d with
    | ok ds =>
      rw [e] at k
      obtain ⟨p, vs, g1, g2, g3⟩ := items_rep e r
      exact ⟨p, vs, by rw [g1], g2, fun l n => k l _ H1 _ e1 n (Ex.new n) g3 upd_same⟩
    | exc c es => cases d <;> cases e
    | stuck => rw [e] at k; exact k.elim⟩
def tupleD : D → Res
  | .lst ds => .ok (.tup ds)
  | .scr ds => .ok (.tup ds)
  | .tup ds => .ok (.tup ds)
  | _ => .stuck
theorem qe_tuple (hK : X.K = C.W.K) (hm : X.mg "tuple" = none) (ha : QB C X a fa) (hg : Gl X "tuple" := by rfl) (he : starEach [a] X.env = (false, eval a X.env) :: starEach [] X.env := by rfl) (hpl : (backTo pos (starEach [] X.env)).any (·.1) = false := by rfl) : QE C X (.Call (.Name "tuple" p) [a] [] pos) (eu fa tupleD) :=
  q_ct1 call_tuple_of (fun {M H Q E d x} hM r q => by
    rw [hK]
    cases d with
    | lst ds => obtain ⟨p, vs, e1, e2, e3⟩ := r.lst; exact ⟨p, vs, by rw [e1], .inl ⟨SqL.of e2, fun l n => q _ _ (Ex.new n) (rep_tup hM e3 n)⟩⟩
    | scr ds => obtain ⟨p, vs, e1, e2, e3⟩ := r.scr; exact ⟨p, vs, by rw [e1], .inl ⟨e2, fun l n => q _ _ (Ex.new n) (rep_tup hM e3 n)⟩⟩
    | tup ds =>
      obtain ⟨p, vs, e1, e2, e3⟩ := r.tup
      rcases r with r | ⟨_, _, _, h, _⟩
      · exact ⟨p, vs, by rw [e1], .inr ⟨e2, q _ H (Ex.refl H) (by rw [← e1]; exact r)⟩⟩
      · cases h
    | _ => exact q.elim) hm (by decide +kernel) ha hg (by decide) (by decide) he hpl
/-- a module's constant -/
theorem qe_glob {v : V} {d : D} (h : ∃ u, X.mg x = some u ∧ RelV v u) (r : ∀ M H, Rep C.W M H d v) (hg : Gl X x := by rfl) (hd : (x == ("__debug__" : Str)) = false := by decide) : QE C X (.Name x pos) (fun _ => .ok d) := by
  obtain ⟨u, e, rv⟩ := h
  exact qe_c (pe_glob hg e rv hd) r
end
end Dl

/-! D-layer, part 5: the frame's own lists change; loops over displays; calls of own defs; comprehensions; isinstance. -/
namespace Dl
open PySem PySem.Spec PyProof.Rows L2 Evl

section
variable {C : Cn} {X : Cx} {k : Nat} {w w' : List Nat} {e a b : Expr} {f fa fb : EF} {F G : SF} {pos p : Pos} {st : Stmt} {sts sts' : List Stmt} {i : Nat} {x : Str}
variable {M : Addr → Prop} {H : Hp} {W : Wd}
/-! ### an own list changes -/
def withOwn (i : Nat) (s : Ss) (k : List D → Out) : Out := match s[i]? with
  | some (.own ds) => k ds
  | _ => .stuck
theorem with_own {Dn : Ends} {σ : L2.St} {s : Ss} {k : List D → Out} (q : OutR C w M H σ Dn (withOwn i s k)) : ∃ ds, s[i]? = some (.own ds) ∧ OutR C w M H σ Dn (k ds) := by
  unfold withOwn at q
  cases e1 : s[i]? with
  | none => rw [e1] at q; exact q.elim
  | some y =>
    rw [e1] at q
    cases y with
    | own ds => exact ⟨ds, rfl, q⟩
    | _ => exact q.elim
theorem own_evs {M : Addr → Prop} {H H1 : Hp} {σ : L2.St} {p : Addr} {o : HO} (e : Ex H H1) (m : M p) : Evs w M H σ M (upd H1 p o) σ := by
  refine ⟨⟨fun b u h n => ?_, fun b h => .inl h⟩, fun _ _ => rfl⟩
  rw [upd_ne fun z => n (by rw [z]; exact m)]
  exact e b u h
def appF (i : Nat) (f : EF) : SF := fun s => withOwn i s fun ds => liftF (f s) s fun d => if ds.length < sizeLine then .next (s.set i (.own (ds ++ [d]))) else .stuck
theorem qs_append {p1 p2 p3 p4 : Pos} (he : QE C X e f)
    (h : ∀ {ta : TE}, PE X e ta → PS X (.Expr (.Call (.Attribute (.Name x p1) "append" p2) [e] [] p3) p4) (tDrop (tBM X.K "list" rAppend (tVar i) (tCons ta tNil)))) :
    QS C X (.Expr (.Call (.Attribute (.Name x p1) "append" p2) [e] [] p3) p4) [] (appF i f) :=
  PS.imp (h he) fun Dn σ H ⟨M, s, I, q⟩ => by
    obtain ⟨ds, e1, q⟩ := with_own (k := fun ds => liftF (f s) s fun d => if ds.length < sizeLine then .next (s.set i (.own (ds ++ [d]))) else .stuck) q
    obtain ⟨o, e2, p, vs, e3, e4, e5, e6, e7⟩ := I.sl i _ e1
    subst e3
    refine ⟨.ref p, e2, .inl ⟨rfl, _, SqL.of e4⟩, M, s, I, q.lift I fun d q v H1 x1 r1 => ?_⟩
    split at q
    · rename_i hz
      exact ⟨p, vs, v, rfl, rfl, x1 _ _ e4, by rw [← e7.length]; exact hz, q M _ σ (own_evs x1 e5) ((I.exx x1).change e1 e2 ((e7.ex x1).append (.cons r1 .nil)))⟩
    · exact q.elim
/-- xs[k] = e, xs an own list -/
def setI (i : Nat) (f g : EF) : SF := fun s => liftF (f s) s fun d => withOwn i s fun ds => liftF (g s) s fun k => match k with
  | .int z => (match ixN ds.length z with
    | some j => .next (s.set i (.own (ds.set j d)))
    | none => .stuck)
  | _ => .stuck
theorem qs_setIx {p1 p2 p3 : Pos} {g : EF} (he : QE C X e f) (hg : QE C X a g)
    (h : ∀ {te ti : TE}, PE X e te → PE X a ti → PS X (.Assign [.Subscript (.Name x p1) a p2] e p3) (tAsg te (gSub (tVar i) ti rSetL))) :
    QS C X (.Assign [.Subscript (.Name x p1) a p2] e p3) [] (setI i f g) :=
  PS.imp (h he hg) fun Dn σ H ⟨M, s, I, q⟩ => ⟨M, s, I, OutR.lift I q fun d q v H1 x1 r1 => by
    obtain ⟨ds, e1, q⟩ := with_own (k := fun ds => liftF (g s) s fun k => match k with
      | .int z => (match ixN ds.length z with
        | some j => .next (s.set i (.own (ds.set j d)))
        | none => .stuck)
      | _ => .stuck) q
    have I1 := I.exx x1
    obtain ⟨o, e2, p, vs, e3, e4, e5, e6, e7⟩ := I1.sl i _ e1
    subst e3
    refine ⟨.ref p, e2, M, s, I1, OutR.lift I1 (OutR.go q (.ex x1)) fun k q v2 H2 x2 r2 => ?_⟩
    cases k with
    | int z =>
      unfold Rep at r2
      dsimp only at q
      cases e8 : ixN ds.length z with
      | none => rw [e8] at q; exact q.elim
      | some j =>
        rw [e8] at q
        exact ⟨p, vs, z, j, rfl, r2, x2 _ _ e4, by rw [← e7.length]; exact e8, q M _ σ (own_evs x2 e5) ((I1.exx x2).change e1 e2 ((e7.ex x2).set j (r1.ex x2)))⟩
    | _ => exact q.elim⟩
/-- xs.clear(), xs.reverse() -/
def ownMF (i : Nat) (g : List D → List D) : SF := fun s => withOwn i s fun ds => .next (s.set i (.own (g ds)))
theorem qs_ownM {st : Stmt} {r : V → List V → Hp → VK → Prop} {g : List D → List D} {gv : List V → List V} (h : PS X st (tDrop (tBM0 X.K "list" r (tVar i))))
    (hr : ∀ {p vs H Q}, H p = some (.lst vs) → Q .non (upd H p (.lst (gv vs))) → r (.ref p) [] H Q) (hg : ∀ {M H ds vs}, RepL C.W M H ds vs → RepL C.W M H (g ds) (gv vs)) : QS C X st [] (ownMF i g) :=
  PS.imp h fun Dn σ H ⟨M, s, I, q⟩ => by
    obtain ⟨ds, e1, q⟩ := with_own (k := fun ds => .next (s.set i (.own (g ds)))) q
    obtain ⟨o, e2, p, vs, e3, e4, e5, e6, e7⟩ := I.sl i _ e1
    subst e3
    exact ⟨.ref p, e2, .inl ⟨rfl, _, SqL.of e4⟩, hr e4 (q M _ σ (own_evs (Ex.refl H) e5) (I.change e1 e2 (hg e7)))⟩
/-- y = xs.pop() -/
def popF (i j : Nat) : SF := fun s => withOwn i s fun ds => match ds[ds.length - 1]? with
  | some d => if j < s.length ∧ j ≠ i then .next (setS (s.set i (.own ds.dropLast)) j (.val d)) else .stuck
  | none => .stuck
theorem RepL.dropLast {ds : List D} {vs : List V} (r : RepL W M H ds vs) : RepL W M H ds.dropLast vs.dropLast := by
  rw [List.dropLast_eq_take, List.dropLast_eq_take, r.length]
  exact r.take _
theorem qs_setPop {st : Stmt} {i j : Nat} (h : PS X st (tAsg (tBM0 X.K "list" rPop (tVar i)) (gName j))) : QS C X st [j] (popF i j) :=
  PS.imp h fun Dn σ H ⟨M, s, I, q⟩ => by
    obtain ⟨ds, e1, q⟩ := with_own (k := fun ds => match ds[ds.length - 1]? with
      | some d => if j < s.length ∧ j ≠ i then .next (setS (s.set i (.own ds.dropLast)) j (.val d)) else .stuck
      | none => .stuck) q
    obtain ⟨o, e2, p, vs, e3, e4, e5, e6, e7⟩ := I.sl i _ e1
    subst e3
    cases e8 : ds[ds.length - 1]? with
    | none => rw [e8] at q; exact q.elim
    | some d =>
      rw [e8] at q
      dsimp only at q
      split at q
      · rename_i hz
        obtain ⟨v, e9, r9⟩ := e7.get e8
        refine ⟨.ref p, e2, .inl ⟨rfl, _, SqL.of e4⟩, p, vs, v, rfl, rfl, e4, by rw [← e7.length]; exact e9, ?_⟩
        have I1 := I.change e1 e2 e7.dropLast
        have ev := own_evs (w := [j]) (σ := σ) (o := .lst vs.dropLast) (Ex.refl H) e5
        exact q M _ _ ⟨ev.evo, fun k n => List.getElem?_set_ne fun z => n (by simp [z])⟩ (I1.setV (by simpa using hz.1) (ev.evo.rep r9))
      · exact q.elim
/-! ### a loop over a display whose items may be own lists -/
inductive Itm where
  | d (d : D) | a (j : Nat)
def RepI (W : Wd) (M : Addr → Prop) (H : Hp) (σ : L2.St) : Itm → V → Prop
  | .d d, v => Rep W M H d v
  | .a j, v => σ[j]? = some (some v)
def RepIs (W : Wd) (M : Addr → Prop) (H : Hp) (σ : L2.St) : List Itm → List V → Prop
  | [], vs => vs = []
  | d :: ds, vs => ∃ v r, vs = v :: r ∧ RepI W M H σ d v ∧ RepIs W M H σ ds r
theorem RepI.ex {H' : Hp} {σ : L2.St} (e : Ex H H') : ∀ {d : Itm} {v : V}, RepI W M H σ d v → RepI W M H' σ d v
  | .d _, _, h => Rep.ex h e
  | .a _, _, h => h
theorem RepIs.ex {H' : Hp} {σ : L2.St} (e : Ex H H') : ∀ {ds : List Itm} {vs : List V}, RepIs W M H σ ds vs → RepIs W M H' σ ds vs
  | [], _, h => h
  | _ :: _, _, ⟨v, r, e1, h, t⟩ => ⟨v, r, e1, h.ex e, t.ex e⟩
theorem RepIs.length {σ : L2.St} : ∀ {ds : List Itm} {vs : List V}, RepIs W M H σ ds vs → ds.length = vs.length
  | [], _, h => by rw [show _ = [] from h]; rfl
  | _ :: _, _, ⟨v, r, e1, h, t⟩ => by rw [e1, List.length_cons, List.length_cons, t.length]
theorem RepIs.got {σ : L2.St} : ∀ {ds : List Itm} {vs : List V} {i : Nat} {v : V}, RepIs W M H σ ds vs → vs[i]? = some v → ∃ d, ds[i]? = some d ∧ RepI W M H σ d v
  | [], vs, i, v, h, e => by rw [show vs = [] from h] at e; simp at e
  | d :: ds, vs, 0, v, ⟨u, r, e1, h, t⟩, e => by
    rw [e1] at e
    simp at e
    subst e
    exact ⟨d, rfl, h⟩
  | d :: ds, vs, i + 1, v, ⟨u, r, e1, h, t⟩, e => by
    rw [e1] at e
    obtain ⟨d, e2, e3⟩ := t.got (i := i) (by simpa using e)
    exact ⟨d, by simpa using e2, e3⟩
def kI (W : Wd) (M : Addr → Prop) (σ : L2.St) (Q : List V → Hp → Prop) : Hp → List Itm → Prop := fun H ds => ∀ vs H', Ex H H' → RepIs W M H' σ ds vs → Q vs H'
def tI (C : Cn) (f : Ss → Rs (List Itm)) : TA := fun σ H Q => ∃ M s, FI C.W C.M0 M C.H0 H σ s ∧ RsR C.W M H (fun c d H' => C.Wx c d σ H') (kI C.W M σ Q) (f s)
abbrev QI (C : Cn) (X : Cx) (es : List Expr) (f : Ss → Rs (List Itm)) : Prop := PA X es (tI C f)
theorem qi_nil : QI C X [] (fun _ => .ok []) := PA.imp pa_nil fun σ H Q ⟨M, s, I, q⟩ => q [] H (Ex.refl H) rfl
theorem qi_cons {es : List Expr} {g : Ss → Rs (List Itm)} (h : QE C X e f) (t : QI C X es g) (hs : starEach (e :: es) X.env = (false, eval e X.env) :: starEach es X.env := by rfl) : QI C X (e :: es) (fun s => (f s).bind fun d => (g s).bind fun ds => .ok (.d d :: ds)) :=
  PA.imp (pa_cons h t hs) fun σ H Q ⟨M, s, I, q⟩ => ⟨M, s, I, q.bind fun d q' v H1 e1 r1 => ⟨M, s, I.exx e1, RsR.ex (P := kI C.W M σ fun vs H' => ∀ v, Rep C.W M H' d v → Q (v :: vs) H') (q'.bind fun ds k vs H2 e2 r2 v rv => k (v :: vs) H2 e2 ⟨v, vs, rfl, rv, r2⟩) e1 fun ds k vs H2 e2 r2 =>
    k vs H2 (e1.trans e2) r2 v (r1.ex e2)⟩⟩
def ownI (j : Nat) (s : Ss) : Rs Itm := match s[j]? with
  | some (.own _) => .ok (.a j)
  | _ => .stuck
theorem qi_own (j : Nat) {es : List Expr} {g : Ss → Rs (List Itm)} {p1 : Pos} (t : QI C X es g) (hN : X.N[j]? = some x := by rfl) (hv : Vis X.env.scope x := by first | exact Or.inl rfl | exact Or.inr (Or.inl rfl) | exact Or.inr (Or.inr rfl))
    (hd : (x == ("__debug__" : Str)) = false := by decide) (hcd : (x == ("__classdict__" : Str)) = false := by decide) (hs : starEach (.Name x p1 :: es) X.env = (false, eval (.Name x p1) X.env) :: starEach es X.env := by rfl) :
    QI C X (.Name x p1 :: es) (fun s => (ownI j s).bind fun d => (g s).bind fun ds => .ok (d :: ds)) :=
  PA.imp (pa_cons (pe_var hN hv hd hcd) t hs) fun σ H Q ⟨M, s, I, q⟩ => by
    simp only [ownI] at q
    cases e1 : s[j]? with
    | none => rw [e1] at q; exact q.elim
    | some y =>
      rw [e1] at q
      cases y with
      | own ds =>
        obtain ⟨o, e2, p, vs, e3, _⟩ := I.sl j _ e1
        subst e3
        refine ⟨.ref p, e2, M, s, I, RsR.imp (P := kI C.W M σ fun vs H' => Q (.ref p :: vs) H') (RsR.bind (P' := kI C.W M σ Q) q fun ds k vs H2 e4 r => k _ H2 e4 ⟨.ref p, vs, rfl, e2, r⟩) fun ds k => k⟩
      | _ => exact q.elim
def memB (k : Nat) (l : List Nat) : Bool := l.contains k
/-- no item is a name that the turns write -/
def itsOk (l : List Nat) : List Itm → Bool
  | [] => true
  | .d _ :: r => itsOk l r
  | .a j :: r => !l.contains j && itsOk l r
theorem itsOk_at {l : List Nat} {j : Nat} : ∀ {is : List Itm} {n : Nat}, itsOk l is = true → is[n]? = some (.a j) → j ∉ l
  | [], n, _, e => by simp at e
  | .d _ :: r, 0, h, e => by simp at e
  | .d _ :: r, n + 1, h, e => itsOk_at (is := r) (n := n) h (by simpa using e)
  | .a k :: r, 0, h, e => by
    simp at e
    subst e
    have h2 : (!l.contains k && itsOk l r) = true := h
    rw [Bool.and_eq_true] at h2
    intro z
    have z' : l.contains k = true := List.contains_iff_mem.mpr z
    rw [z'] at h2
    exact absurd h2.1 (by decide)
  | .a k :: r, n + 1, h, e => itsOk_at (is := r) (n := n) (by
    have h2 : (!l.contains k && itsOk l r) = true := h
    rw [Bool.and_eq_true] at h2
    exact h2.2) (by simpa using e)
def tgI (i : Nat) (t : Itm) (s : Ss) : Option Ss := if i < s.length then (match t with
  | .d d => some (setS s i (.val d))
  | .a j => (match s[j]? with
    | some (.own _) => some (setS s i (.ali j))
    | _ => none)) else none
def forI (i : Nat) (F : SF) : List Itm → SF
  | [], s => .next s
  | d :: r, s => match tgI i d s with
    | none => .stuck
    | some s1 => match F s1 with
      | .next s' => forI i F r s'
      | .cont s' => forI i F r s'
      | .brk s' => .next s'
      | o => o
theorem forI_turn {ds : List Itm} {n : Nat} {d : Itm} {s : Ss} (hd : ds[n]? = some d) : forI i F (ds.drop n) s = match tgI i d s with
    | none => .stuck
    | some s1 => match F s1 with
      | .next s' => forI i F (ds.drop (n + 1)) s'
      | .cont s' => forI i F (ds.drop (n + 1)) s'
      | .brk s' => .next s'
      | o => o := by
  obtain ⟨h, e⟩ := List.getElem?_eq_some_iff.mp hd
  rw [List.drop_eq_getElem_cons h, e]
  rfl
def forD (i : Nat) (w : List Nat) (g : Ss → Rs (List Itm)) (F : SF) : SF := fun s => liftF (g s) s fun ds => if ds.length ≤ sizeLine ∧ itsOk (i :: w) ds = true then forI i F ds s else .stuck
theorem qs_forD (B : Bx C X k) {es : List Expr} {g : Ss → Rs (List Itm)} {p1 p2 : Pos} (he : QI C X es g) (hb : QSs C X sts w F) (hi : X.N[i]? = some x := by rfl) (hx : Loc X.env.scope x := by first | exact Or.inl rfl | exact Or.inr rfl)
    (hf : X.fn x = true ∨ X.env.scope.names.lookup x = some .local := by first | exact .inl rfl | exact .inr rfl) (hs : ∀ v, foldedSetIterable (.List es p2) X.env v = pure v := by intro _; rfl) :
    QS C X (.For (.Name x p1) (.List es p2) sts [] pos) (i :: w) (forD i w g F) := by
  refine PS.imp (ps_for B.po B.calm (pi_list (pe_lst he)) (pg_name B.nd hi hx hf) hb hs) fun Dn σ H ⟨M, s, I, q⟩ => ⟨M, s, I, OutR.lift I q fun ds q vs H1 x1 r => ?_⟩
  split at q
  · rename_i hz
    refine ⟨by rw [← r.length]; exact hz.1, fun p n => ⟨p, rfl, ⟨vs, SqL.of upd_same⟩, ?_⟩⟩
    have x2 : Ex H1 (upd H1 p (.lst vs)) := Ex.new n
    have I2 := (I.exx x1).exx x2
    have nm : ¬ M p := fun z => mut_ne ((I.exx x1).fresh p z).1 n
    have r2 := r.ex x2
    have q2 := OutR.go q (.ex (x1.trans x2))
    generalize hH : upd H1 p (.lst vs) = Hp2 at *
    have hp2 : Hp2 p = some (.lst vs) := by rw [← hH]; exact upd_same
    refine for_list (K := X.K) (a := p) (xs := vs) (fun m σ' H' => ∃ M' s', Evs (i :: w) M Hp2 σ M' H' σ' ∧ FI C.W C.M0 M' C.H0 H' σ' s' ∧ OutR C (i :: w) M' H' σ' Dn (forI i F (ds.drop m) s')) ⟨M, s, .refl, I2, q2⟩
      (fun m σ' H' _ ⟨M', s', ev, _⟩ => SqL.of (ev.evo.em p _ hp2 nm)) ?_ ?_
    · rintro m v σ' H' hv ⟨M', s', ev, I', q'⟩
      obtain ⟨it, hd, rd⟩ := r2.got hv
      rw [forI_turn hd] at q'
      cases e1 : tgI i it s' with
      | none => rw [e1] at q'; exact q'.elim
      | some s1 =>
        rw [e1] at q'
        dsimp only at q'
        unfold tgI at e1
        split at e1
        · rename_i hi'
          have I1 : FI C.W C.M0 M' C.H0 H' (σ'.set i (some v)) s1 := by
            cases it with
            | d d => cases e1; exact I'.setV hi' (ev.evo.rep rd)
            | a j =>
              dsimp only at e1
              have nj := itsOk_at hz.2 hd
              cases e2 : s'[j]? with
              | none => rw [e2] at e1; cases e1
              | some y =>
                rw [e2] at e1
                cases y with
                | own es =>
                  cases e1
                  exact I'.setA hi' e2 ((ev.kp j nj).trans rd) fun z => nj (by simp [z])
                | _ => cases e1
          have ev0 : Evs (i :: w) M' H' σ' M' H' (σ'.set i (some v)) := ⟨.refl, fun k n => List.getElem?_set_ne fun z => n (by simp [z])⟩
          have sub : ∀ k, k ∈ w → k ∈ i :: w := fun _ z => List.mem_cons_of_mem _ z
          refine ⟨M', s1, I1, ?_⟩
          cases e2 : F s1 with
          | next s2 => rw [e2] at q'; exact fun M2 H2 σ2 ev2 I2 => ⟨M2, s2, ev.trans (ev0.trans (ev2.sub sub)), I2, OutR.go q' (ev0.trans (ev2.sub sub))⟩
          | cont s2 => rw [e2] at q'; exact fun M2 H2 σ2 ev2 I2 => ⟨M2, s2, ev.trans (ev0.trans (ev2.sub sub)), I2, OutR.go q' (ev0.trans (ev2.sub sub))⟩
          | brk s2 => rw [e2] at q'; exact fun M2 H2 σ2 ev2 I2 => q' M2 H2 σ2 (ev0.trans (ev2.sub sub)) I2
          | ret d => rw [e2] at q'; exact q'
          | exc c es s2 => rw [e2] at q'; exact fun M2 H2 σ2 d ev2 I2 => q' M2 H2 σ2 d (ev0.trans (ev2.sub sub)) I2
          | stuck => rw [e2] at q'; exact q'.elim
        · cases e1
    · rintro σ' H' ⟨M', s', ev, I', q'⟩
      rw [List.drop_eq_nil_of_le (by rw [r2.length]; exact Nat.le_refl _)] at q'
      exact q' M' H' σ' .refl I'
  · exact q.elim
/-! ### calls of own defs -/
structure Cal (P : Program) (wd : World) (W : Wd) (mg : Str → Option Value) (base : Heap) (k : Nat) (x : Str) (dv : List D) (g : List D → Res) : Prop where
  ex : ∃ f fd ps ds dvs, FnOk P wd W.K mg base (L2.CX P wd) k f fd ps (spD W g) ∧ mg x = some (.ref f) ∧ PySem.W.keepIn W.K (.ref f) = true ∧ Binds W.K fd ps ds ∧ Vals dvs ds ∧ ∀ M H, RepL W M H dv dvs
theorem spD_of {σ : L2.St} {Q : VK} {g : List D → Res} {ds : List D} {vs : List V} (hM : ∀ a, M a → Mut (H a)) (r : RepL C.W M H ds vs) (q : ResR C.W M H Q (fun c d H' => C.Wx c d σ H') (g ds)) : spD C.W g vs H Q (WE C.Wx σ) := ⟨M, ds, hM, r, q⟩
theorem qe_call {j : Nat} {dv : List D} {g : List D → Res} {es : List Expr} {fs : Ss → Rs (List D)} (B : Bx C X k) (c : Cal X.prog X.w C.W X.mg X.base j x dv g) (hj : j ≤ k) (ha : QA C X (e :: es) fs) (hg : Gl X x := by rfl) (hdb : (x == ("__debug__" : Str)) = false := by decide)
    (he : starEach (e :: es) X.env = (false, eval e X.env) :: starEach es X.env := by rfl) (hpl : (backTo pos (starEach es X.env)).any (·.1) = false := by rfl) :
    QE C X (.Call (.Name x p) (e :: es) [] pos) (fun s => (fs s).bind fun ds => g (ds ++ dv)) := by
  obtain ⟨f, fd, ps, dsv, dvs, F, hm, hk, hb, hd, hr⟩ := c.ex
  have F' : FnOk X.prog X.w X.K X.mg X.base (L2.CX X.prog X.w) k f fd ps (spD C.W g) := by rw [B.hK]; exact F.mono hj
  refine PE.imp (pe_callSD F' B.room hg hm (by rw [B.hK]; exact hk) (by rw [B.hK]; exact hb) hd (passAt B.tk) ha hdb he hpl) fun σ H Q ⟨M, s, I, q⟩ => ⟨M, s, I, q.bind fun ds q' vs H1 e1 r1 => ?_⟩
  exact spD_of (fun a z => ((I.exx e1).fresh a z).1) (r1.append (hr M H1)) (ResR.ex q' e1)
end
end Dl

/-! D-layer, part 6: arguments that are only lent; keywords; isinstance; comprehensions. -/
namespace Dl
open PySem PySem.Spec PyProof.Rows L2 Evl

section
variable {C : Cn} {X : Cx} {k : Nat} {w w' : List Nat} {e a b : Expr} {f fa fb : EF} {F G : SF} {pos p : Pos} {st : Stmt} {sts sts' : List Stmt} {i : Nat} {x : Str}
variable {M : Addr → Prop} {H : Hp} {W : Wd}
/-! ### lent arguments -/
mutual
def noL : D → Bool
  | .lst _ => false
  | .scr _ => false
  | .tup ds => noLs ds
  | .obj _ ds => noLs ds
  | _ => true
def noLs : List D → Bool
  | [] => true
  | d :: ds => noL d && noLs ds
end
def chkL : Res → Res
  | .ok d => if noL d then .ok d else .stuck
  | .exc c es => if noLs es then .exc c es else .stuck
  | .stuck => .stuck
def RepBL (W : Wd) (M : Addr → Prop) (H : Hp) : List D → List V → Prop
  | [], vs => vs = []
  | d :: ds, vs => ∃ v r, vs = v :: r ∧ RepB W M H d v ∧ RepBL W M H ds r
theorem RepBL.ex {H' : Hp} (e : Ex H H') : ∀ {ds : List D} {vs : List V}, RepBL W M H ds vs → RepBL W M H' ds vs
  | [], _, h => h
  | _ :: _, _, ⟨v, r, e1, h, t⟩ => ⟨v, r, e1, h.ex e, t.ex e⟩
/-- M without the lists -/
def unL (M : Addr → Prop) (H : Hp) : Addr → Prop := fun a => M a ∧ ¬ ∃ vs, H a = some (.lst vs)
theorem RepB.un {d : D} {v : V} (h : RepB W M H d v) : Rep W (unL M H) H d v := by
  rcases h with h | ⟨p, vs, ds, rfl, rfl, e, r⟩
  · exact h.sub fun a z => .inl z.1
  · unfold Rep
    exact ⟨p, vs, rfl, e, fun z => z.2 ⟨vs, e⟩, r.sub fun a z => .inl z.1⟩
theorem RepBL.un : ∀ {ds : List D} {vs : List V}, RepBL W M H ds vs → RepL W (unL M H) H ds vs
  | [], vs, h => by rw [show vs = [] from h]; exact .nil
  | _ :: _, _, ⟨v, r, e1, h, t⟩ => by rw [e1]; exact .cons h.un t.un
mutual
theorem rep_noL {H' : Hp} (e : Ex H H') : ∀ {d : D} {v : V}, noL d = true → Rep W (unL M H) H' d v → Rep W M H' d v
  | .non, _, _, h => h
  | .bl _, _, _, h => h
  | .int _, _, _, h => h
  | .str _, _, _, h => h
  | .lst _, _, n, _ => by cases n
  | .scr _, _, n, _ => by cases n
  | .tup ds, v, n, h => by
    unfold Rep at h ⊢
    obtain ⟨a, vs, e1, e2, e3⟩ := h
    refine ⟨a, vs, e1, ?_, rep_noLs e n e3⟩
    rcases e2 with ⟨z1, z2, z3⟩ | z
    · by_cases hm : M a
      · have hl : ∃ us, H a = some (.lst us) := Classical.byContradiction fun z => z1 ⟨hm, z⟩
        obtain ⟨us, hl⟩ := hl
        have hl' := e _ _ hl
        rcases z2 with (z2 | ⟨o, z2⟩) | z2
        · rw [hl'] at z2; cases z2
        · rw [hl'] at z2; cases z2
        · exact .inr fun H => .inr z2
      · exact .inl ⟨hm, z2, z3⟩
    · exact .inr z
  | .obj c ds, v, n, h => by
    unfold Rep at h ⊢
    obtain ⟨a, dx, vs, e1, e2, n1, l, e3⟩ := h
    refine ⟨a, dx, vs, e1, e2, fun hm => n1 ⟨hm, fun ⟨us, z⟩ => ?_⟩, l, rep_noLs e n e3⟩
    rw [e _ _ z] at e2
    cases e2
theorem rep_noLs {H' : Hp} (e : Ex H H') : ∀ {ds : List D} {vs : List V}, noLs ds = true → RepL W (unL M H) H' ds vs → RepL W M H' ds vs
  | [], _, _, h => h
  | d :: ds, vs, n, h => by
    unfold RepL at h ⊢
    obtain ⟨v, r, e1, e2, e3⟩ := h
    have n2 : (noL d && noLs ds) = true := n
    rw [Bool.and_eq_true] at n2
    exact ⟨v, r, e1, rep_noL e n2.1 e2, rep_noLs e n2.2 e3⟩
end
theorem ResR.lent {Q : VK} {E : XK} {r : Res} (q : ResR W M H Q E (chkL r)) : ResR W (unL M H) H Q E r := by
  cases r with
  | ok d =>
    simp only [chkL] at q
    split at q
    · rename_i n; exact fun v H' e' r => q v H' e' (rep_noL e' n r)
    · exact q.elim
  | exc c es =>
    simp only [chkL] at q
    split at q
    · rename_i n
      refine fun d H' e' r => q d H' e' ?_
      rcases r with r | ⟨dd, ws, e1, e2, e3, e4⟩
      · exact .inl r
      · exact .inr ⟨dd, ws, e1, e2, e3, rep_noLs e' n e4⟩
    · exact q.elim
  | stuck => exact q
def kAB (W : Wd) (M : Addr → Prop) (Q : List V → Hp → Prop) : Hp → List D → Prop := fun H ds => ∀ vs H', Ex H H' → RepBL W M H' ds vs → Q vs H'
def tAB (C : Cn) (f : Ss → Rs (List D)) : TA := fun σ H Q => ∃ M s, FI C.W C.M0 M C.H0 H σ s ∧ RsR C.W M H (fun c d H' => C.Wx c d σ H') (kAB C.W M Q) (f s)
abbrev QAB (C : Cn) (X : Cx) (es : List Expr) (f : Ss → Rs (List D)) : Prop := PA X es (tAB C f)
theorem qab_nil : QAB C X [] (fun _ => .ok []) := PA.imp pa_nil fun σ H Q ⟨M, s, I, q⟩ => q [] H (Ex.refl H) rfl
theorem qab_cons {es : List Expr} {g : Ss → Rs (List D)} (h : QB C X e f) (t : QAB C X es g) (hs : starEach (e :: es) X.env = (false, eval e X.env) :: starEach es X.env := by rfl) : QAB C X (e :: es) (consA f g) :=
  PA.imp (pa_cons h t hs) fun σ H Q ⟨M, s, I, q⟩ => ⟨M, s, I, q.bind fun d q' v H1 e1 r1 => ⟨M, s, I.exx e1, RsR.ex (P := kAB C.W M fun vs H' => ∀ v, RepB C.W M H' d v → Q (v :: vs) H') (q'.bind fun ds k vs H2 e2 r2 v rv => k (v :: vs) H2 e2 ⟨v, vs, rfl, rv, r2⟩) e1 fun ds k vs H2 e2 r2 =>
    k vs H2 (e1.trans e2) r2 v (r1.ex e2)⟩⟩
theorem unL_mut {M : Addr → Prop} {H : Hp} (hM : ∀ a, M a → Mut (H a)) : ∀ a, unL M H a → Mut (H a) := fun a z => hM a z.1
theorem qe_callB {j : Nat} {dv : List D} {g : List D → Res} {es : List Expr} {fs : Ss → Rs (List D)} (B : Bx C X k) (c : Cal X.prog X.w C.W X.mg X.base j x dv g) (hj : j ≤ k) (ha : QAB C X (e :: es) fs) (hg : Gl X x := by rfl) (hdb : (x == ("__debug__" : Str)) = false := by decide)
    (he : starEach (e :: es) X.env = (false, eval e X.env) :: starEach es X.env := by rfl) (hpl : (backTo pos (starEach es X.env)).any (·.1) = false := by rfl) :
    QE C X (.Call (.Name x p) (e :: es) [] pos) (fun s => (fs s).bind fun ds => chkL (g (ds ++ dv))) := by
  obtain ⟨f, fd, ps, dsv, dvs, F, hm, hk, hb, hd, hr⟩ := c.ex
  have F' : FnOk X.prog X.w X.K X.mg X.base (L2.CX X.prog X.w) k f fd ps (spD C.W g) := by rw [B.hK]; exact F.mono hj
  refine PE.imp (pe_callSD F' B.room hg hm (by rw [B.hK]; exact hk) (by rw [B.hK]; exact hb) hd (passAt B.tk) ha hdb he hpl) fun σ H Q ⟨M, s, I, q⟩ => ⟨M, s, I, q.bind fun ds q' vs H1 e1 r1 => ?_⟩
  exact spD_of (unL_mut fun a z => ((I.exx e1).fresh a z).1) (r1.un.append (hr _ H1)) (ResR.lent (ResR.ex q' e1))
/-! ### calls with keywords -/
def kwA (C : Cn) (f : Ss → Rs (List D)) : TA := tAB C f
abbrev QK (C : Cn) (X : Cx) (ks : List Keyword) (f : Ss → Rs (List D)) : Prop := PK X ks (tAB C f)
theorem PK.imp {X : Cx} {e : List Keyword} {t t' : TA} (h : PK X e t) (i : ∀ σ H Q, t' σ H Q → t σ H Q) : PK X e t' := ⟨fun p pins s σ H Q I q => h.run p pins s σ H Q I (i _ _ _ q)⟩
theorem qk_nil : QK C X [] (fun _ => .ok []) := PK.imp pk_nil fun σ H Q ⟨M, s, I, q⟩ => q [] H (Ex.refl H) rfl
theorem qk_cons {es : List Keyword} {g : Ss → Rs (List D)} {nm : Option Str} {kp : Pos} (h : QB C X e f) (t : QK C X es g) (hp : ∀ {te : TE} {ta : TA}, PE X e te → PK X es ta → PK X (⟨nm, e, kp⟩ :: es) (tCons te ta)) : QK C X (⟨nm, e, kp⟩ :: es) (consA f g) :=
  PK.imp (hp h t) fun σ H Q ⟨M, s, I, q⟩ => ⟨M, s, I, q.bind fun d q' v H1 e1 r1 => ⟨M, s, I.exx e1, RsR.ex (P := kAB C.W M fun vs H' => ∀ v, RepB C.W M H' d v → Q (v :: vs) H') (q'.bind fun ds k vs H2 e2 r2 v rv => k (v :: vs) H2 e2 ⟨v, vs, rfl, rv, r2⟩) e1 fun ds k vs H2 e2 r2 =>
    k vs H2 (e1.trans e2) r2 v (r1.ex e2)⟩⟩
/-- a def called with n positional values and the keywords ks; pm puts them in the parameters' order (with the defaults that fill up) -/
structure CalK (P : Program) (wd : World) (W : Wd) (mg : Str → Option Value) (base : Heap) (k : Nat) (x : Str) (n : Nat) (ks : List Str) (pm : List D → List D → List D) (g : List D → Res) : Prop where
  ex : ∃ (f : Addr) (fd : FuncData) (ps : List Str) (gg : List Value → List Value → List Value) (gV : List V → List V → List V), FnOk P wd W.K mg base (L2.CX P wd) k f fd ps (spD W g) ∧ mg x = some (.ref f) ∧ PySem.W.keepIn W.K (.ref f) = true ∧ KBn W.K fd ps n ks gg gV ∧
    ∀ M H ds vs es us, RepL W M H ds vs → RepL W M H es us → RepL W M H (pm ds es) (gV vs us)
def tCallNS (n m : Nat) (sp : Sp) (gV : List V → List V → List V) (E : L2.St → XK) (t tk : TA) : TE := fun σ H Q => t σ H fun vs H1 => tk σ H1 fun zs H2 => vs.length = n ∧ zs.length = m ∧ sp (gV vs zs) H2 Q (E σ)
section
variable {CX : CXT} {n : Nat} {f : Addr} {fd : FuncData} {ps ks : List Str} {sp : Sp} {E : L2.St → XK} {es : List Expr} {kws : List Keyword} {t tk : TA} {g : List Value → List Value → List Value} {gV : List V → List V → List V}
theorem run_fnNS {pins : List (Addr × Obj)} {σ : L2.St} {H : Hp} {s : Shared} {Q : VK} {us ws : List Value} {vs zs : List V} (F : FnOk X.prog X.w X.K X.mg X.base CX k f fd ps sp) (hr : Room k X.A) (hb : KBn X.K fd ps n ks g gV) (hx : PassesAt CX X σ (E σ))
    (I : Inv X pins σ H s) (r : Vals vs us) (rz : Vals zs ws) (l1 : vs.length = n) (l2 : zs.length = ks.length) (h : sp (gV vs zs) H Q (E σ)) : wpAny (model X.prog X.w) X.A (call (.ref f) us (ks.zip ws)) (EP X pins σ Q) X.xe s := by
  have r2 := hb.rel r rz
  refine wpAny_call (codeAny_mono (F.run X.A X.stack s H ⟨us, ks.zip ws⟩ (g us ws) (gV vs zs) Q (E σ) hr I.env0 (hb.to s us ws I.kIn (r.length.symm.trans l1) (rz.length.symm.trans l2)) r2 h) fun r s' hq => ?_)
  cases r with
  | error e => exact hx pins H s e s' I hq
  | ok fl =>
    cases fl with
    | ret u => exact I.after hq
    | next => exact False.elim hq
    | brk => exact False.elim hq
    | cont => exact False.elim hq
theorem pe_callNS (F : FnOk X.prog X.w X.K X.mg X.base CX k f fd ps sp) (hr : Room k X.A) (hg : Gl X x) (hm : X.mg x = some (.ref f)) (hk : PySem.W.keepIn X.K (.ref f) = true) (hb : KBn X.K fd ps n ks g gV) (hx : ∀ σ, PassesAt CX X σ (E σ))
    (ha : PA X (e :: es) t) (hkw : PK X kws tk) (hall : (backToKw pos (keywordEach kws X.env)).all (·.1.isSome) = true) (hks : (backToKw pos (keywordEach kws X.env)).filterMap (·.1) = ks)
    (hdb : (x == ("__debug__" : Str)) = false) (he : starEach (e :: es) X.env = (false, eval e X.env) :: starEach es X.env)
    (hpl : ((backTo pos (starEach (e :: es) X.env)).any (·.1) || (backToKw pos (keywordEach kws X.env)).any (·.1.isNone)) = false) :
    PE X (.Call (.Name x p) (e :: es) kws pos) (tCallNS n ks.length sp gV E t tk) := by
  refine ⟨fun pins s σ H Q I h => ?_⟩
  refine wpAny_Call_Name_kw (ld_glob I hg hm ?_ hdb)
  refine PySem.W.callWith_KW (h₀ := X.base) I.ok.mod.kin hk hall (thn (ha.run pos pins s σ H _ I h) fun us s1 ⟨vs, H1, I1, r, q⟩ => ?_) hpl he
  refine thn (hkw.run pos pins s1 σ H1 _ I1 q) fun ws s2 ⟨zs, H2, I2, rz, l1, l2, q2⟩ => ⟨I2.kIn, ?_⟩
  rw [hks]
  exact run_fnNS F hr hb (hx σ) I2 r rz l1 l2 q2
end
theorem RepBL.length {ds : List D} {vs : List V} (h : RepBL W M H ds vs) : ds.length = vs.length := h.un.length
theorem qe_callK {j n : Nat} {ks : List Str} {pm : List D → List D → List D} {g : List D → Res} {es : List Expr} {kws : List Keyword} {fs fk : Ss → Rs (List D)} (B : Bx C X k) (c : CalK X.prog X.w C.W X.mg X.base j x n ks pm g) (hj : j ≤ k) (ha : QAB C X (e :: es) fs) (hkw : QK C X kws fk)
    (hg : Gl X x := by rfl) (hdb : (x == ("__debug__" : Str)) = false := by decide) (hall : (backToKw pos (keywordEach kws X.env)).all (·.1.isSome) = true := by rfl) (hks : (backToKw pos (keywordEach kws X.env)).filterMap (·.1) = ks := by rfl)
    (he : starEach (e :: es) X.env = (false, eval e X.env) :: starEach es X.env := by rfl) (hpl : ((backTo pos (starEach (e :: es) X.env)).any (·.1) || (backToKw pos (keywordEach kws X.env)).any (·.1.isNone)) = false := by rfl) :
    QE C X (.Call (.Name x p) (e :: es) kws pos) (fun s => (fs s).bind fun ds => (fk s).bind fun zs => if ds.length = n ∧ zs.length = ks.length then chkL (g (pm ds zs)) else .stuck) := by
  obtain ⟨f, fd, ps, gg, gV, F, hm, hk, hb, hr⟩ := c.ex
  have F' : FnOk X.prog X.w X.K X.mg X.base (L2.CX X.prog X.w) k f fd ps (spD C.W g) := by rw [B.hK]; exact F.mono hj
  refine PE.imp (pe_callNS F' B.room hg hm (by rw [B.hK]; exact hk) (by rw [B.hK]; exact hb) (passAt B.tk) ha hkw hall hks hdb he hpl) fun σ H Q ⟨M, s, I, q⟩ => ⟨M, s, I, q.bind fun ds q' vs H1 e1 r1 => ⟨M, s, I.exx e1, RsR.bind (P' := kV C.W M Q) (ResR.ex q' e1) fun zs q2 us H2 e2 r2 => ?_⟩⟩
  have q3 := ResR.ex q2 e2
  split at q3
  · rename_i hz
    exact ⟨by rw [← r1.length]; exact hz.1, by rw [← r2.length]; exact hz.2, spD_of (unL_mut fun a z => (((I.exx e1).exx e2).fresh a z).1) (hr _ H2 _ _ _ _ (r1.ex e2).un r2.un) (ResR.lent q3)⟩
  · exact q3.elim
/-! ### isinstance of a built-in type -/
def tyN : D → Option String
  | .non => some "NoneType"
  | .bl _ => some "bool"
  | .int _ => some "int"
  | .str _ => some "str"
  | .tup _ => some "tuple"
  | .lst _ => some "list"
  | .scr _ => some "list"
  | .obj _ _ => none
def isTD (T : String) (d : D) : Res := match tyN d with
  | some t => (match kitB t T with
    | some b => .ok (.bl b)
    | none => .stuck)
  | none => .stuck
theorem sqT_ty {K : PySem.W.Frag} {a : Addr} {vs : List V} (h : SqT K H a vs) : TyX K H (.ref a) (.type "tuple") := by
  rcases h with (h | ⟨o, h⟩) | ⟨o, its, n, e1, e2, _⟩
  · exact .base (.tup h)
  · exact .fTuple h
  · exact .kTuple e1 e2
theorem sqL_ty {K : PySem.W.Frag} {a : Addr} {vs : List V} (h : SqL K H a vs) : TyX K H (.ref a) (.type "list") := by
  rcases h with (h | ⟨o, h⟩) | ⟨o, its, n, e1, e2, _⟩
  · exact .base (.lst h)
  · exact .base (.frz h)
  · exact .kList e1 e2
theorem ty_rep {d : D} {v : V} {t : String} (e : tyN d = some t) (r : RepB W M H d v) : TyX W.K H v (.type t) := by
  cases d with
  | non => cases e; rw [r.non]; exact .base .non
  | bl b => cases e; rw [r.bl]; exact .base (.bl b)
  | int b => cases e; rw [r.int]; exact .base (.int b)
  | str b => cases e; rw [r.str]; exact .base (.str b)
  | tup ds => cases e; obtain ⟨p, vs, rfl, e2, e3⟩ := r.tup; exact sqT_ty e2
  | lst ds => cases e; obtain ⟨p, vs, rfl, e2, e3⟩ := r.lst; exact sqL_ty (SqL.of e2)
  | scr ds => cases e; obtain ⟨p, vs, rfl, e2, e3⟩ := r.scr; exact sqL_ty e2
  | obj c ds => cases e
theorem qe_isT (hK : X.K = C.W.K) {T : String} {T' : Str} {p1 p2 : Pos} (hm : X.mg "isinstance" = none) (ha : QB C X a fa) (hb : PE X (.Name T' p2) (tC (.ty T))) (hg : Gl X "isinstance" := by rfl)
    (he : starEach [a, .Name T' p2] X.env = (false, eval a X.env) :: starEach [.Name T' p2] X.env := by rfl) (he1 : starEach [.Name T' p2] X.env = (false, eval (.Name T' p2) X.env) :: starEach [] X.env := by rfl) (hpl : (backTo pos (starEach [.Name T' p2] X.env)).any (·.1) = false := by rfl) :
    QE C X (.Call (.Name "isinstance" p1) [a, .Name T' p2] [] pos) (eu fa (isTD T)) :=
  PE.imp (pe_callB call_isi hg hm (by decide +kernel) (pa_cons ha (pa_cons hb pa_nil he1) he) (by decide) (by decide) he hpl) fun σ H Q ⟨M, s, I, q⟩ => ⟨M, s, I, q.bind fun d q' v H1 e1 r => by
    unfold isTD at q'
    cases e2 : tyN d with
    | none => rw [e2] at q'; exact q'.elim
    | some t =>
      rw [e2] at q'
      dsimp only at q'
      cases e3 : kitB t T with
      | none => rw [e3] at q'; exact q'.elim
      | some b =>
        rw [e3] at q'
        exact ⟨v, .ty T, .type t, .type T, b, rfl, .ty T, by rw [hK]; exact ty_rep e2 r, kit_ty e3, q' _ H1 e1 (rep_bl _)⟩⟩
/-! ### comprehensions -/
theorem wipe_eq {σ σ' : L2.St} (hl : σ'.length = σ.length) : ∀ {vs : List Nat}, (∀ k, k ∉ vs → σ'[k]? = σ[k]?) → wipe σ' vs = wipe σ vs := fun {vs} h => by
  apply List.ext_getElem?
  intro k
  have at_ : ∀ (σ : L2.St) (vs : List Nat), (wipe σ vs)[k]? = if k ∈ vs ∧ k < σ.length then some none else σ[k]? := fun σ vs => by
    induction vs with
    | nil => simp [wipe]
    | cons v vs ih =>
      unfold wipe
      by_cases e : v = k
      · subst e
        by_cases hk : v < σ.length
        · rw [List.getElem?_set_self (by rw [wipe_length]; exact hk), if_pos ⟨List.mem_cons_self, hk⟩]
        · rw [if_neg fun z => hk z.2, List.getElem?_eq_none (by rw [List.length_set, wipe_length]; omega), List.getElem?_eq_none (by omega)]
      · rw [List.getElem?_set_ne e, ih]
        have : (k ∈ v :: vs ∧ k < σ.length) ↔ (k ∈ vs ∧ k < σ.length) := by
          constructor
          · rintro ⟨z, z'⟩
            rcases List.mem_cons.mp z with z | z
            · exact absurd z.symm e
            · exact ⟨z, z'⟩
          · rintro ⟨z, z'⟩
            exact ⟨List.mem_cons_of_mem _ z, z'⟩
        by_cases q : k ∈ vs ∧ k < σ.length
        · rw [if_pos q, if_pos (this.mpr q)]
        · rw [if_neg q, if_neg fun z => q (this.mp z)]
  rw [at_, at_, hl]
  by_cases hk : k ∈ vs
  · by_cases h2 : k < σ.length
    · rw [if_pos ⟨hk, h2⟩, if_pos ⟨hk, h2⟩]
    · rw [if_neg fun z => h2 z.2, if_neg fun z => h2 z.2, List.getElem?_eq_none (by omega), List.getElem?_eq_none (by omega)]
  · rw [if_neg fun z => hk z.1, if_neg fun z => hk z.1]
    exact h k hk
def wipeS (s : Ss) : List Nat → Ss
  | [] => s
  | v :: vs => setS (wipeS s vs) v .un
theorem setS_len {s : Ss} {i : Nat} {x : Sl} : (setS s i x).length = s.length := by simp [setS]
theorem wipeS_len {s : Ss} : ∀ {vs : List Nat}, (wipeS s vs).length = s.length
  | [] => rfl
  | v :: vs => by unfold wipeS; rw [setS_len, wipeS_len]
theorem FI.wiped {M0 : Addr → Prop} {H0 : Hp} {σ : L2.St} {s : Ss} (I : FI W M0 M H0 H σ s) : ∀ {vs : List Nat}, (∀ k ∈ vs, k < s.length) → FI W M0 M H0 H (wipe σ vs) (wipeS s vs)
  | [], _ => I
  | v :: vs, h => (I.wiped fun k z => h k (List.mem_cons_of_mem _ z)).setU (by rw [wipeS_len]; exact h v List.mem_cons_self)
/-- a new list that no slot holds -/
theorem FI.adopt {M0 : Addr → Prop} {H0 : Hp} {σ : L2.St} {s : Ss} (I : FI W M0 M H0 H σ s) {p : Addr} {vs : List V} (n : H p = none) : FI W M0 (fun a => M a ∨ a = p) H0 (upd H p (.lst vs)) σ s := by
  have n0 : H0 p = none := fresh_back I.ex n
  have ex : Ex H (upd H p (.lst vs)) := Ex.new n
  have mv : ∀ a, (M a ∨ a = p) → M a ∨ H a = none := fun a h => h.elim .inl fun z => .inr (by rw [z]; exact n)
  refine ⟨I.len, I.ex.trans ex, I.m0, fun a h => .inl (I.base a h), fun a h => ?_, fun k y e => ?_, I.nd, I.al⟩
  · rcases h with h | h
    · exact ⟨mut_ex (I.fresh a h).1 ex, (I.fresh a h).2⟩
    · subst h
      exact ⟨by rw [upd_same]; trivial, .inr n0⟩
  · obtain ⟨o, b1, b2⟩ := I.sl k y e
    refine ⟨o, b1, ?_⟩
    cases y with
    | un => trivial
    | ali j => trivial
    | val d => obtain ⟨v, x1, x2⟩ := b2; exact ⟨v, x1, x2.move (.of ex) mv⟩
    | own fs => obtain ⟨q', ws, x1, x2, x3, x4, x5⟩ := b2; exact ⟨q', ws, x1, ex _ _ x2, .inl x3, x4, x5.move (.of ex) mv⟩
/-- a list that no slot holds changes -/
theorem FI.aside {M0 : Addr → Prop} {H0 : Hp} {σ : L2.St} {s : Ss} (I : FI W M0 M H0 H σ s) {p : Addr} {vs : List V} (m : M p) (n0 : H0 p = none) (no : ∀ (k : Nat) (ds : List D), s[k]? = some (.own ds) → σ[k]? ≠ some (some (.ref p))) : FI W M0 M H0 (upd H p (.lst vs)) σ s := by
  have em : Em M H (upd H p (.lst vs)) := fun a o h nm => by rw [upd_ne fun z => nm (by rw [z]; exact m)]; exact h
  refine ⟨I.len, fun a o h => ?_, I.m0, I.base, fun a h => ⟨?_, (I.fresh a h).2⟩, fun k y e => ?_, I.nd, I.al⟩
  · rw [upd_ne (ne_of_none h n0)]
    exact I.ex a o h
  · by_cases z : a = p
    · subst z; rw [upd_same]; trivial
    · rw [upd_ne z]; exact (I.fresh a h).1
  · obtain ⟨o, c1, c2⟩ := I.sl k y e
    refine ⟨o, c1, ?_⟩
    cases y with
    | un => trivial
    | ali k => trivial
    | val d => obtain ⟨v, x1, x2⟩ := c2; exact ⟨v, x1, x2.mono em⟩
    | own fs =>
      obtain ⟨q, ws, x1, x2, x3, x4, x5⟩ := c2
      subst x1
      have nq : q ≠ p := fun z => by subst z; exact no k fs e c1
      exact ⟨q, ws, rfl, by rw [upd_ne nq]; exact x2, x3, x4, x5.mono em⟩
/-- a turn: the test, the element; what raises is not served within -/
def lcL (t : D → Ss → Option Ss) (g : Ss → Rs Bool) (f : EF) (s : Ss) : List D → List D → Rs (List D)
  | [], acc => .ok acc
  | d :: r, acc => match t d s with
    | none => .stuck
    | some s1 => match g s1 with
      | .ok true => (match f s1 with
        | .ok y => if acc.length < sizeLine then lcL t g f s r (acc ++ [y]) else .stuck
        | _ => .stuck)
      | .ok false => lcL t g f s r acc
      | _ => .stuck
def lcF (vs : List Nat) (fi : EF) (t : D → Ss → Option Ss) (g : Ss → Rs Bool) (f : EF) : Ss → Rs (List D) := fun s => ((fi s).bind itemsD).bind fun ds => if vs.all (fun k => decide (k < s.length)) then lcL t g f (wipeS s vs) ds [] else .stuck
/-- what a block's context is asked -/
abbrev noX (C : Cn) : Cn := { C with Wx := fun _ _ _ _ => False }
def TSt (C : Cn) (g : Ss → Rs Bool) (tt : TT) : Prop := ∀ σ H Q, tDT (noX C) g σ H Q → tt σ H Q
theorem tst_yes : TSt C (fun _ => .ok true) tYes := fun σ H Q ⟨M, s, I, q⟩ => q H (Ex.refl H)
theorem tst_one {g : Ss → Rs Bool} : TSt C g (tDT (noX C) g) := fun _ _ _ q => q
theorem wipe_wipe {σ : L2.St} {vs : List Nat} : wipe (wipe σ vs) vs = wipe σ vs := by
  refine wipe_eq (wipe_length σ vs) fun k n => ?_
  induction vs with
  | nil => rfl
  | cons v vs ih =>
    unfold wipe
    rw [List.getElem?_set_ne fun z => n (by simp [z])]
    exact ih fun z => n (List.mem_cons_of_mem _ z)
structure LcInv (C : Cn) (M : Addr → Prop) (H1 : Hp) (σ : L2.St) (s : Ss) (vs : List Nat) (Dd : Addr) (P : List D → Prop) (H' : Hp) : Prop where
  ex : Ex H1 H'
  fi : FI C.W C.M0 (fun a => M a ∨ a = Dd) C.H0 H' (wipe σ vs) (wipeS s vs)
  acc : ∃ acc va, H' Dd = some (.lst va) ∧ RepL C.W (fun a => M a ∨ a = Dd) H' acc va ∧ P acc
theorem ql_lc (B : Bx C X k) {elt tg iter : Expr} {ifs : List Expr} {scope : Scope} {own : List (Str × Nat)} {fi : EF} {t : D → Ss → Option Ss} {g : Ss → Rs Bool} {tt : TT} {f : EF} (hi : QE C X iter fi) (ok : BlkOk X.N X.env.scope scope own)
    (hg : ∃ gg : TG, (∀ (s : Shared) (H : Hp) (c : Addr) (cl : List (Str × Addr)) (fp : List Addr), PG (X.blk s H scope (compEnvC scope cl c X.env) fp) tg gg) ∧ ∀ {M : Addr → Prop} {H : Hp} {σ : L2.St} {s s' : Ss} {d : D} {v : V} {Q : L2.St → Hp → Prop}, FI C.W C.M0 M C.H0 H σ s → Rep C.W M H d v → t d s = some s' →
      (∀ σ', (∀ k, k ∉ own.map (·.2) → σ'[k]? = σ[k]?) → FI C.W C.M0 M C.H0 H σ' s' → Q σ' H) → gg v σ H Q)
    (ht : ∀ (s : Shared) (H : Hp) (c : Addr) (cl : List (Str × Addr)) (fp : List Addr), PTs (X.blk s H scope (compEnvC scope cl c X.env) fp) ifs tt) (htt : TSt C g tt)
    (he : ∀ (s : Shared) (H : Hp) (c : Addr) (cl : List (Str × Addr)) (fp : List Addr), PE (X.blk s H scope (compEnvC scope cl c X.env) fp) elt (tD (noX C) f)) (hts : ∀ d s s', t d s = some s' → s'.length = s.length) (hs : ∀ x, foldedSetIterable iter X.env x = pure x := by intro _; rfl) :
    QL C X (.ListComp elt [⟨tg, iter, ifs, 0⟩] scope pos) (lcF (own.map (·.2)) fi t g f) := by
  obtain ⟨gg, pg, hg⟩ := hg
  refine PE.imp (pe_lc B.calm B.nd (pi_seq hi) ok pg ht he hs) fun σ H Q ⟨M, s, I, q⟩ => ⟨M, s, I, ?_⟩
  generalize own.map (·.2) = vs at *
  unfold lcF at q
  cases e0 : fi s with
  | stuck => rw [e0] at q; exact q.elim
  | exc c es => rw [e0] at q; exact q
  | ok d =>
    rw [e0] at q
    intro v H1 e1 r
    have src : ∃ a ds us, v = .ref a ∧ itemsD d = .ok ds ∧ RepL C.W M H1 ds us ∧ ((∀ M' H', Evo M H1 M' H' → SqL C.W.K H' a us) ∨ (∀ M' H', Evo M H1 M' H' → SqT C.W.K H' a us)) := by
      cases d with
      | lst ds =>
        unfold Rep at r
        obtain ⟨a, vs, r1, r2, r3, r4⟩ := r
        exact ⟨a, ds, vs, r1, rfl, r4, .inl fun M' H' ev => SqL.of (ev.em a _ r2 r3)⟩
      | scr ds =>
        unfold Rep at r
        obtain ⟨a, vs, r1, r2, r3⟩ := r
        exact ⟨a, ds, vs, r1, rfl, r3, .inl fun M' H' ev => (r2.move ev.em ev.mm).sq⟩
      | tup ds =>
        unfold Rep at r
        obtain ⟨a, vs, r1, r2, r3⟩ := r
        exact ⟨a, ds, vs, r1, rfl, r3, .inr fun M' H' ev => (r2.move ev.em ev.mm).sq⟩
      | _ => exact q.elim
    obtain ⟨a, ds, us, rfl, e2, rL, stands⟩ := src
    have q1 : RsR C.W M H (fun c d H' => C.Wx c d σ H') (kL C.W M Q) (if vs.all (fun k => decide (k < s.length)) then lcL t g f (wipeS s vs) ds [] else .stuck) := by
      have z : (Rs.ok d).bind itemsD = .ok ds := e2
      rw [z] at q
      exact q
    split at q1
    · rename_i hv
      have hv' : ∀ k ∈ vs, k < s.length := fun k z => of_decide_eq_true (List.all_eq_true.mp hv k z)
      have q2 : RsR C.W M H1 (fun c d H' => C.Wx c d σ H') (kL C.W M Q) (lcL t g f (wipeS s vs) ds []) := RsR.ex q1 e1 fun ds k p vs Hm H' e2 => k p vs Hm H' (e1.trans e2)
      have Iw := (I.exx e1).wiped hv'
      have main : ∀ Dd, H1 Dd = none → ∃ (Pv : Nat → Hp → Prop), Pv 0 (upd H1 Dd (.lst [])) ∧ (∀ i H', Pv i H' → Evo M H1 (fun a => M a ∨ a = Dd) H') ∧
          (∀ i x H', us[i]? = some x → Pv i H' → gg x (wipe σ vs) H' fun σ2 H2 => wipe σ2 vs = wipe σ vs ∧ tt σ2 H2 fun b H3 =>
            if b = true then tD (noX C) f σ2 H3 fun y H4 => ∃ acc, H4 Dd = some (.lst acc) ∧ acc.length < sizeLine ∧ Pv (i + 1) (upd H4 Dd (.lst (acc ++ [y]))) else Pv (i + 1) H3) ∧ (∀ H', Pv us.length H' → Q (.ref Dd) H') := by
        intro Dd nD
        have mm : ∀ a, (M a ∨ a = Dd) → M a ∨ H1 a = none := fun a z => z.elim .inl fun z => .inr (by rw [z]; exact nD)
        have n0 : C.H0 Dd = none := fresh_back (I.exx e1).ex nD
        refine ⟨fun i H' => LcInv C M H1 σ s vs Dd (fun acc => RsR C.W M H1 (fun c d H' => C.Wx c d σ H') (kL C.W M Q) (lcL t g f (wipeS s vs) (ds.drop i) acc)) H', ⟨Ex.new nD, Iw.adopt nD, [], [], upd_same, .nil, q2⟩, fun i H' L => ⟨.of L.ex, mm⟩, ?_, ?_⟩
        · rintro i x H' hx ⟨ex, fi, acc, va, hD, rA, qa⟩
          obtain ⟨d', hd, rd⟩ := rL.got hx
          obtain ⟨hlt, hde⟩ := List.getElem?_eq_some_iff.mp hd
          rw [List.drop_eq_getElem_cons hlt, hde] at qa
          unfold lcL at qa
          have rd' : Rep C.W (fun a => M a ∨ a = Dd) H' d' x := rd.move (.of ex) mm
          cases e3 : t d' (wipeS s vs) with
          | none => rw [e3] at qa; exact qa.elim
          | some s1 =>
            rw [e3] at qa
            dsimp only at qa
            refine hg fi rd' e3 fun σ2 kp I2 => ⟨?_, htt σ2 H' _ ⟨_, s1, I2, ?_⟩⟩
            · have hl2 : σ2.length = (wipe σ vs).length := by
                rw [I2.len, fi.len]
                exact hts _ _ _ e3
              rw [wipe_eq hl2 kp, wipe_wipe]
            · cases e4 : g s1 with
              | stuck => rw [e4] at qa; exact qa.elim
              | exc c es => rw [e4] at qa; exact qa.elim
              | ok b =>
                rw [e4] at qa
                intro H3 e5
                have fi3 := fi.exx e5
                cases b with
                | false => exact iteF ⟨ex.trans e5, fi3, acc, va, e5 _ _ hD, rA.ex e5, qa⟩
                | true =>
                  refine iteT ⟨_, s1, I2.exx e5, ?_⟩
                  dsimp only at qa
                  cases e6 : f s1 with
                  | stuck => rw [e6] at qa; exact qa.elim
                  | exc c es => rw [e6] at qa; exact qa.elim
                  | ok y =>
                    rw [e6] at qa
                    intro vy H4 e7 ry
                    dsimp only at qa
                    split at qa
                    · rename_i hz
                      have hD4 := e7 _ _ (e5 _ _ hD)
                      refine ⟨va, hD4, by rw [← rA.length]; exact hz, ?_, ?_, acc ++ [y], va ++ [vy], upd_same, ?_, qa⟩
                      · intro b o h
                        rw [upd_ne (ne_of_none h nD)]
                        exact e7 _ _ (e5 _ _ (ex b o h))
                      · refine (fi3.exx e7).aside (.inr rfl) n0 fun k es he h => ?_
                        obtain ⟨o, b1, p', vs', b2, b3, _⟩ := Iw.sl k _ he
                        rw [h] at b1
                        rw [← Option.some.inj b1] at b2
                        cases b2
                        rw [nD] at b3
                        cases b3
                      · have em : Em (fun a => M a ∨ a = Dd) H4 (upd H4 Dd (.lst (va ++ [vy]))) := fun a o h n => by rw [upd_ne fun z => n (.inr z)]; exact h
                        exact (((rA.ex e5).ex e7).append (.cons ry .nil)).mono em
                    · exact qa.elim
        · rintro H' ⟨ex, fi, acc, va, hD, rA, qa⟩
          rw [List.drop_eq_nil_of_le (by rw [rL.length]; exact Nat.le_refl _)] at qa
          have qa : kL C.W M Q H1 acc := qa
          refine qa Dd va (fun a => if a = Dd then none else H' a) H' (fun a o h => ?_) (if_pos rfl) (fun a o h => ?_) ?_ hD
          · have ne := ne_of_none h nD
            dsimp only
            rw [if_neg ne]
            exact ex a o h
          · dsimp only at h
            split at h
            · cases h
            · exact h
          · refine rA.move (fun a o h n => ?_) fun a h => .inl (.inl h)
            rw [if_neg fun z => n (.inr z)]
            exact h
      rcases stands with stands | stands
      · refine ⟨a, rfl, .inl ⟨⟨us, by rw [B.hK]; exact stands M H1 .refl⟩, fun Dd nD => ?_⟩⟩
        obtain ⟨Pv, h0, hev, hturn, hend⟩ := main Dd nD
        exact lc_list (K := X.K) (a := a) (xs := us) Pv h0 (fun i H' _ p => by rw [B.hK]; exact stands _ H' (hev i H' p)) hturn hend
      · refine ⟨a, rfl, .inr ⟨⟨us, by rw [B.hK]; exact stands M H1 .refl⟩, fun Dd nD => ?_⟩⟩
        obtain ⟨Pv, h0, hev, hturn, hend⟩ := main Dd nD
        exact lc_tup (K := X.K) (a := a) (xs := us) Pv h0 (fun i H' _ p => by rw [B.hK]; exact stands _ H' (hev i H' p)) hturn hend
    · exact q1.elim
end
end Dl

/-! D-layer, part 7: slices with the step -1. -/
namespace Dl
open PySem PySem.Spec PyProof.Rows L2 Evl HT
section
variable {prog : Program} {w : World} {A : Around} {E : Value → Shared → Prop} {s : Shared}
theorem adjust_rev (n : Nat) : Builtin.Slice.sliceAdjust none none (-1) (n : Int) = ((n : Int) - 1, -1) := by
  unfold Builtin.Slice.sliceAdjust
  simp
theorem places_rev (n : Nat) : Builtin.Slice.slicePlaces ((n : Int) - 1) (-1) (-1) = n := by
  unfold Builtin.Slice.slicePlaces
  have h1 : ¬ ((-1 : Int) > 0) := by omega
  simp only [h1, if_false]
  split
  · rw [show (- -1 : Int) = 1 by decide, Int.ediv_one]; omega
  · omega
theorem sliceApplied_rev {sl : Addr} {vl vu vs : Value} {n : Nat} {Q : Int × Int × Nat → Shared → Prop} (hs : s.heap.IsSliceOf sl vl vu vs) (pl : IsPart vl none) (pu : IsPart vu none) (ps : IsPart vs (some (-1)))
    (h : Q ((n : Int) - 1, -1, n) s) : wpAny (model prog w) A (Builtin.Slice.sliceApplied (.ref sl) (pure (n : Int))) Q E s := by
  obtain ⟨os, hos, hcs, hds⟩ := id hs
  unfold Builtin.Slice.sliceApplied Builtin.Slice.sliceFields
  refine wpAny_bind (wpAny_bind (wpAny_field hos hds (x := vl) rfl (wpAny_bind (wpAny_field hos hds (x := vu) rfl (wpAny_bind (wpAny_field hos hds (x := vs) rfl (wpAny_pure ?_)))))))
  refine wpAny_bind (slicePart_ ps ?_)
  show wpAny _ _ (if ((-1 : Int) == 0) = true then _ else _) _ _ s
  rw [if_neg (by decide)]
  refine wpAny_bind (slicePart_ pl (wpAny_bind (slicePart_ pu (wpAny_bind (wpAny_pure ?_)))))
  show wpAny _ _ (match Builtin.Slice.sliceAdjust none none (-1) (n : Int) with | (lo, hi) => pure (lo, (-1 : Int), Builtin.Slice.slicePlaces lo hi (-1))) _ _ s
  rw [adjust_rev n]
  show wpAny _ _ (pure ((n : Int) - 1, (-1 : Int), Builtin.Slice.slicePlaces ((n : Int) - 1) (-1) (-1))) _ _ s
  rw [places_rev]
  exact wpAny_pure h
theorem filterMap_all {α β : Type} {f : α → Option β} {g : α → β} : ∀ {l : List α}, (∀ m ∈ l, f m = some (g m)) → l.filterMap f = l.map g
  | [], _ => rfl
  | a :: l, h => by
    rw [List.filterMap_cons, h a List.mem_cons_self, List.map_cons]
    dsimp only
    rw [filterMap_all fun m z => h m (List.mem_cons_of_mem _ z)]
theorem pick_rev (xs : Array Value) : ((List.range xs.size).filterMap fun (m : Nat) => xs[(((xs.size : Int) - 1) + (m : Int) * (-1)).toNat]?).toArray = xs.toList.reverse.toArray := by
  congr 1
  apply List.ext_getElem?
  intro k
  have e : ((List.range xs.size).filterMap fun (m : Nat) => xs[(((xs.size : Int) - 1) + (m : Int) * (-1)).toNat]?) = (List.range xs.size).map fun m => xs.toList.reverse.getD m .none := by
    refine filterMap_all fun m hm => ?_
    have hm' := List.mem_range.mp hm
    have e1 : (((xs.size : Int) - 1) + (m : Int) * (-1)).toNat = xs.size - 1 - m := by omega
    have hl : m < xs.toList.reverse.length := by rw [List.length_reverse, Array.length_toList]; exact hm'
    rw [e1]
    show xs[xs.size - 1 - m]? = some (xs.toList.reverse.getD m .none)
    rw [List.getD_eq_getElem?_getD, List.getElem?_reverse (by rw [Array.length_toList]; exact hm'), Array.length_toList, Array.getElem?_toList]
    have : xs.size - 1 - m < xs.size := by omega
    rw [Array.getElem?_eq_getElem this]
    rfl
  rw [e, List.getElem?_map]
  by_cases hk : k < xs.size
  · have hl : k < xs.toList.reverse.length := by rw [List.length_reverse, Array.length_toList]; exact hk
    rw [List.getElem?_range hk, Option.map_some, List.getD_eq_getElem?_getD, List.getElem?_eq_getElem hl]
    rfl
  · rw [List.getElem?_eq_none (by simp; omega), List.getElem?_eq_none (by simp; omega)]
    rfl
theorem getItem_tuple_rev {t sl : Addr} {items : Array Value} {vl vu vs : Value} {Q : Value → Shared → Prop} (ht : IsTup s.heap t items) (hs : s.heap.IsSliceOf sl vl vu vs) (pl : IsPart vl none) (pu : IsPart vu none) (ps : IsPart vs (some (-1)))
    (h : Q (.ref s.heap.objs.size) { s with heap := s.heap.push { cls := .type "tuple", data := .seq items.toList.reverse.toArray } })
    (hsz : items.size ≤ sizeLine) : wpAny (model prog w) A (getItem (.ref t) (.ref sl)) Q E s := by
  have htake : sizeOk (.seq items.toList.reverse.toArray) := by
    show items.toList.reverse.toArray.size ≤ sizeLine
    rw [List.size_toArray, List.length_reverse, Array.length_toList]
    exact hsz
  obtain ⟨os, hos, hcs, hds⟩ := id hs
  have hTs : s.TypeIs (.ref sl) "slice" := ⟨os, hos, hcs⟩
  unfold getItem
  try with_reducible refine wpAny_holding ?_
  first | refine wpAny_bind (wpAny_pure ?_) | skip
  refine wpAny_bind (wpAny_sequenceKey ht.typeIs (by decide) ?_)
  refine wpAny_bind (wpAny_callSpecial?_slot (name := Str.ofString "__getitem__") ht.typeIs PyProof.Rows.slot_tuple_getitem
    (wpAny_call_entry PyProof.Rows.slot_tuple_getitem ht.typeIs entry_tuple_getitem ?_ (args_tuple_getitem _ _)))
  show wpAny _ _ (Builtin.Tuple.tupleItemsOf (.ref t) >>= _) _ _ s
  refine wpAny_bind (tupleItemsOf_ ht ?_)
  refine wpAny_bind (wpAny_typeOf hTs ?_)
  rw [if_pos (by decide)]
  refine wpAny_bind (sliceApplied_rev hs pl pu ps ?_)
  have hno : ¬ ((((items.size : Int) - 1) == 0 && (-1 : Int) == 1 && items.size == items.size) = true) := by
    rw [show ((-1 : Int) == 1) = false by decide, Bool.and_false, Bool.false_and]
    exact Bool.false_ne_true
  show wpAny _ _ (if (((items.size : Int) - 1) == 0 && (-1 : Int) == 1 && items.size == items.size) = true then _ else _) _ _ s
  rw [if_neg hno, pick_rev]
  first
    | exact wpAny_bind (m := Builtin.Tuple.tupleExact _) (wpAny_newObj_type (wpAny_pure ⟨_, rfl, wpAny_pure h⟩) htake)
    | exact wpAny_bind (m := Builtin.Tuple.tupleExact _) (wpAny_newObj_type (wpAny_bind (wpAny_pure (wpAny_pure ⟨_, rfl, wpAny_pure h⟩))) htake)
    | exact wpAny_bind (wpAny_bind (m := Builtin.Tuple.tupleExact _) (wpAny_newObj_type (wpAny_pure (wpAny_pure ⟨_, rfl, wpAny_pure h⟩)) htake))
    | exact wpAny_bind (wpAny_bind (m := Builtin.Tuple.tupleExact _) (wpAny_newObj_type (wpAny_pure ⟨_, rfl, wpAny_pure h⟩) htake))
end
section
variable {X : Cx}
def tRevA (K : PySem.W.Frag) (te : TE) : TE := fun σ H Q => te σ H fun x H1 => ∃ a xs, x = .ref a ∧ ((SqL K H1 a xs ∧ ∀ p, H1 p = none → Q (.ref p) (upd H1 p (.lst xs.reverse))) ∨ (SqT K H1 a xs ∧ ∀ p, H1 p = none → Q (.ref p) (upd H1 p (.tup xs.reverse))))
theorem pe_revA {e : Expr} {te : TE} {k : Nat} {p1 p2 p3 pos : Pos} (he : PE X e te) : PE X (.Subscript e (.Slice none none (some (.UnaryOp .USub (.Constant (.int 1) k p1) p2)) p3) pos) (tRevA X.K te) := by
  refine ⟨fun pins s σ H Q I h => ?_⟩
  refine Subscript_ (thn (he.run pins s σ H _ I h) fun v s1 ⟨x, H1, I1, r1, q1⟩ => ?_)
  obtain ⟨a, xs, ex, q1⟩ := q1
  subst ex
  cases r1
  have hst : PO X (some (.UnaryOp .USub (.Constant (.int 1) k p1) p2)) (tPart (tUn (rU fun i => .int (-i)) (tC (.int 1)))) := po_some (pe_un un_neg pe_int)
  refine wpAny_Slice (thn (po_none.run pins s1 σ H1 (fun o H2 => o = none ∧ H2 = H1) I1 ⟨rfl, rfl⟩) fun vl s2 ⟨l, H2, I2, pl, el, e2⟩ => ?_)
  subst el e2
  refine thn (po_none.run pins s2 σ H2 (fun o H3 => o = none ∧ H3 = H2) I2 ⟨rfl, rfl⟩) fun vu s3 ⟨u, H3, I3, pu, eu, e3⟩ => ?_
  subst eu e3
  refine thn (hst.run pins s3 σ H3 (fun o H4 => o = some (-1) ∧ H4 = H3) I3 ⟨1, rfl, -1, rfl, rfl, rfl⟩) fun vs s4 ⟨o, H4, I4, ps, eo, e4⟩ => ?_
  subst eo e4
  have I5 : Inv X pins σ H4 { s4 with heap := s4.heap.push { cls := .type "slice", data := .fields #[vl, vu, vs] } } := I4.kept (t' := s4.toks) fun b ob q => Heap.get?_push_of_some _ q
  show wpAny (model X.prog X.w) X.A (subscriptTail e (.Slice none none (some (.UnaryOp .USub (.Constant (.int 1) k p1) p2)) p3) (.ref a) (.ref s4.heap.objs.size)) (EP X pins σ Q) X.xe { s4 with heap := s4.heap.push { cls := .type "slice", data := .fields #[vl, vu, vs] } }
  rcases q1 with ⟨hx, q⟩ | ⟨hx, q⟩
  · obtain ⟨its, r, ht, hz⟩ := I5.list hx
    have hlen := r.length
    refine tail_any (ops := [.ref a, .ref s4.heap.objs.size]) ht.isList.typeIs (PySem.slot_list_getitem.lookup) ?_ (by with_unfolding_all rfl)
    refine wpAny_getItem_list_slice ht.isList (Heap.IsSliceOf.new _ vl vu vs) pl pu ps (by decide) ?_ (by rw [List.size_toArray]; omega)
    rw [PySem.W.krv_pick]
    refine ⟨.ref _, _, I5.laid (t' := s4.toks) (o := .lst xs.reverse) (fun b ob q => Heap.get?_push_of_some _ q) (Nat.le_refl _) ?_, rfl, q _ (I5.hok.fresh (Nat.le_refl _))⟩
    exact ⟨by rw [List.length_reverse]; exact hz, _, 0, r.reverse, Heap.get?_push_size _ rfl⟩
  · obtain ⟨its, r, ht, hz⟩ := I5.tuple hx
    have hlen := r.length
    refine tail_any (ops := [.ref a, .ref s4.heap.objs.size]) ht.typeIs (PyProof.Rows.slot_tuple_getitem.lookup) ?_ (by with_unfolding_all rfl)
    refine getItem_tuple_rev ht (Heap.IsSliceOf.new _ vl vu vs) pl pu ps ?_ (by rw [List.size_toArray]; omega)
    refine ⟨.ref _, _, I5.laid (t' := s4.toks) (o := .tup xs.reverse) (fun b ob q => Heap.get?_push_of_some _ q) (Nat.le_refl _) ?_, rfl, q _ (I5.hok.fresh (Nat.le_refl _))⟩
    exact ⟨by rw [List.length_reverse]; exact hz, _, r.reverse, IsTup.new _ _⟩
end
section
variable {C : Cn} {X : Cx} {k : Nat} {a : Expr} {fa : EF} {pos : Pos}
def revD : D → Res
  | .lst ds => .ok (.lst ds.reverse)
  | .scr ds => .ok (.lst ds.reverse)
  | .tup ds => .ok (.tup ds.reverse)
  | _ => .stuck
/-- a list or a tuple, turned round -/
theorem qe_rev (hK : X.K = C.W.K) (ha : QB C X a fa) {j : Nat} {q1 q2 q3 : Pos} : QE C X (.Subscript a (.Slice none none (some (.UnaryOp .USub (.Constant (.int 1) j q1) q2)) q3) pos) (eu fa revD) :=
  PE.imp (pe_revA ha) fun σ H Q ⟨M, s, I, q⟩ => ⟨M, s, I, q.bind fun d k x H1 e1 r => by
    rw [hK]
    have hM := fun a z => ((I.exx e1).fresh a z).1
    cases d with
    | lst ds => obtain ⟨p, vs, g1, g2, g3⟩ := r.lst; exact ⟨p, vs, g1, .inl ⟨SqL.of g2, fun p n => k _ _ (e1.trans (Ex.new n)) (rep_lst hM g3.rev n)⟩⟩
    | scr ds => obtain ⟨p, vs, g1, g2, g3⟩ := r.scr; exact ⟨p, vs, g1, .inl ⟨g2, fun p n => k _ _ (e1.trans (Ex.new n)) (rep_lst hM g3.rev n)⟩⟩
    | tup ds => obtain ⟨p, vs, g1, g2, g3⟩ := r.tup; exact ⟨p, vs, g1, .inr ⟨g2, fun p n => k _ _ (e1.trans (Ex.new n)) (rep_tup hM g3.rev n)⟩⟩
    | _ => exact k.elim⟩
end
end Dl

/-! D-layer, part 8: the forms that the generator prints; facts of the head. -/
namespace Dl
open PySem PySem.Spec PyProof.Rows L2 Evl
section
variable {C : Cn} {X : Cx} {k : Nat} {w w' : List Nat} {e a b : Expr} {f fa fb : EF} {F G : SF} {pos p : Pos} {st : Stmt} {sts sts' : List Stmt} {i : Nat} {x : Str}
/-- constants -/
abbrev cE (d : D) : EF := fun _ => .ok d
def setE (i : Nat) (f : EF) : SF := fun s => liftF (f s) s (setF i s)
def ownE (i : Nat) (f : Ss → Rs (List D)) : SF := fun s => liftF (f s) s (ownF i s)
def retE (f : EF) : SF := fun s => liftF (f s) s .ret
def exprE (f : EF) : SF := fun s => liftF (f s) s fun _ => .next s
def asgE (t : D → Ss → Option Ss) (f : EF) : SF := fun s => liftF (f s) s fun d => match t d s with
  | some s' => .next s'
  | none => .stuck
def nextE : SF := fun s => .next s
def brkE : SF := fun s => .brk s
def contE : SF := fun s => .cont s
def retN : SF := fun _ => .ret .non
def frzE (i : Nat) (F : SF) : SF := fun s => F (frz i s)
def frzV (i : Nat) (f : EF) : EF := f
def tupE (fs : Ss → Rs (List D)) : EF := fun s => (fs s).bind fun ds => .ok (.tup ds)
def nilA : Ss → Rs (List D) := fun _ => .ok []
def lstE (f : Ss → Rs (List D)) : EF := fun s => (f s).bind fun ds => .ok (.lst ds)
def truT (f : EF) : Ss → Rs Bool := fun s => (f s).bind truD
def cmpT (fa fb : EF) (g : D → D → Res) : Ss → Rs Bool := fun s => (eb fa fb g s).bind blR
def notT (f : Ss → Rs Bool) : Ss → Rs Bool := fun s => (f s).bind notR
def callE (fs : Ss → Rs (List D)) (g : List D → Res) : EF := fun s => (fs s).bind g
def callBE (fs : Ss → Rs (List D)) (g : List D → Res) : EF := fun s => (fs s).bind fun ds => chkL (g ds)
def callDE (fs : Ss → Rs (List D)) (dv : List D) (g : List D → Res) : EF := fun s => (fs s).bind fun ds => chkL (g (ds ++ dv))
def callKE (n m : Nat) (pm : List D → List D → List D) (fs fk : Ss → Rs (List D)) (g : List D → Res) : EF := fun s => (fs s).bind fun ds => (fk s).bind fun zs => if ds.length = n ∧ zs.length = m then chkL (g (pm ds zs)) else .stuck
def noP : Ss → Rs (Option Int) := fun _ => .ok none
def someP (f : EF) : Ss → Rs (Option Int) := fun s => (f s).bind intR
def cutE (fa : EF) (fl fh : Ss → Rs (Option Int)) : Ss → Rs (List D) := slL fa fl fh fun ds lo hi => .ok (cutL ds lo hi)
def nilI : Ss → Rs (List Itm) := fun _ => .ok []
def consI (f : EF) (g : Ss → Rs (List Itm)) : Ss → Rs (List Itm) := fun s => (f s).bind fun d => (g s).bind fun ds => .ok (.d d :: ds)
def aliI (j : Nat) (g : Ss → Rs (List Itm)) : Ss → Rs (List Itm) := fun s => (ownI j s).bind fun d => (g s).bind fun ds => .ok (d :: ds)

/-- so many items, whatever they are -/
def LenA (n : Nat) (fs : Ss → Rs (List D)) : Prop := ∀ s ds, fs s = .ok ds → ds.length = n
theorem lenA_nil : LenA 0 nilA := fun s ds h => by cases h; rfl
theorem lenA_cons {n : Nat} {f : EF} {g : Ss → Rs (List D)} (h : LenA n g) : LenA (n + 1) (consA f g) := fun s ds e => by
  unfold consA at e
  cases e1 : f s with
  | ok d =>
    rw [e1] at e
    cases e2 : g s with
    | ok r => rw [Rs.bind_ok, e2] at e; cases e; rw [List.length_cons, h s r e2]
    | exc c es => rw [Rs.bind_ok, e2] at e; cases e
    | stuck => rw [Rs.bind_ok, e2] at e; cases e
  | exc c es => rw [e1] at e; cases e
  | stuck => rw [e1] at e; cases e
theorem len_cut {n : Nat} {fs : Ss → Rs (List D)} {α : Type} {g : List D → Rs α} (h : LenA n fs) (hn : n ≤ 1000) (s : Ss) : (fs s).bind (fun ds => if ds.length ≤ sizeLine then g ds else .stuck) = (fs s).bind g := by
  cases e : fs s with
  | ok ds => rw [Rs.bind_ok, Rs.bind_ok, if_pos (by rw [h s ds e]; exact Nat.le_trans hn (by decide))]
  | exc c es => rfl
  | stuck => rfl
theorem g_set (B : Bx C X k) {x : Str} {pos' : Pos} (i : Nat) (he : QE C X e f) (hi : X.N[i]? = some x := by rfl) (hx : Loc X.env.scope x := by first | exact Or.inl rfl | exact Or.inr rfl) (hs : swapsWith e (some (.Name x pos')) pos.line X.env = pure false := by rfl)
    (hf : X.fn x = true ∨ X.env.scope.names.lookup x = some .local := by first | exact .inl rfl | exact .inr rfl) : QS C X (.Assign [.Name x pos'] e pos) [i] (setE i f) := qs_set B he hi hx hs hf
theorem g_own (B : Bx C X k) {x : Str} {pos' : Pos} {f : Ss → Rs (List D)} (i : Nat) (he : QL C X e f) (hi : X.N[i]? = some x := by rfl) (hx : Loc X.env.scope x := by first | exact Or.inl rfl | exact Or.inr rfl) (hs : swapsWith e (some (.Name x pos')) pos.line X.env = pure false := by rfl)
    (hf : X.fn x = true ∨ X.env.scope.names.lookup x = some .local := by first | exact .inl rfl | exact .inr rfl) : QS C X (.Assign [.Name x pos'] e pos) [i] (ownE i f) := qs_own B he hi hx hs hf
theorem g_ret (he : QE C X e f) : QS C X (.Return (some e) pos) [] (retE f) := qs_ret he
theorem g_retN : QS C X (.Return none pos) [] retN := qs_retN
theorem g_expr (he : QE C X e f) (hs : swapsWith e none pos.line X.env = pure false := by rfl) : QS C X (.Expr e pos) [] (exprE f) := qs_expr he hs
theorem g_asg {t : D → Ss → Option Ss} {tg : Expr} (he : QE C X e f) (hg : QG C X tg w t) (hs : swapsWithSole [tg] e pos.line X.env = pure false := by rfl) (hw : swappedStores [tg] e X.env = pure none := by rfl)
    (h1 : (assignEach [tg] X.env).map (·.2) = [assign tg X.env] := by rfl) : QS C X (.Assign [tg] e pos) w (asgE t f) := qs_asg he hg hs hw h1
theorem g_nil : QSs C X [] [] nextE := qss_nil
theorem g_pass : QS C X (.Pass pos) [] nextE := qs_pass
theorem g_brk : QS C X (.Break pos) [] brkE := qs_break
theorem g_cont : QS C X (.Continue pos) [] contE := qs_cont
theorem g_frz (i : Nat) (h : QS C X st w F) : QS C X st w (frzE i F) := qs_frz i h
theorem g_tup {es : List Expr} {fs : Ss → Rs (List D)} {x1} {n : Nat} (h : QA C X es fs) (hl : LenA n fs) (hn : n ≤ 1000 := by decide) : QE C X (.Tuple es x1 pos) (tupE fs) := by
  have e : tupE fs = fun s => (fs s).bind fun ds => if ds.length ≤ sizeLine then .ok (.tup ds) else .stuck := funext fun s => (len_cut hl hn s).symm
  rw [e]
  exact qe_tup h
theorem g_lst {es : List Expr} {fs : Ss → Rs (List D)} {n : Nat} (h : QA C X es fs) (hl : LenA n fs) (hn : n ≤ 1000 := by decide) : QL C X (.List es pos) fs := by
  have e : fs = fun s => (fs s).bind fun ds => if ds.length ≤ sizeLine then .ok ds else .stuck := funext fun s => by
    rw [len_cut hl hn s]
    cases fs s <;> rfl
  rw [e]
  exact ql_lst h
theorem g_nilA : QA C X [] nilA := qa_nil
theorem g_nilAB : QAB C X [] nilA := qab_nil
theorem g_nilK : QK C X [] nilA := qk_nil
theorem g_lstE {g : Ss → Rs (List D)} (h : QL C X e g) : QE C X e (lstE g) := h.toe
theorem g_tru (hK : X.K = C.W.K) (ha : QB C X a fa) (he : ∀ whole, isTrue a X.env whole = (do let v ← whole; standAt a.pos; holding [v] (truthy v)) := by intro _; rfl) : QT C X a (truT fa) := qt_tru hK ha he
theorem g_cmpT {op : CmpOp} {g : D → D → Res} (ho : ∃ r, OpR X (compareOp op) r ∧ Op2 C r g) (ha : QB C X a fa) (hb : QB C X b fb) (hm : behindInMarks op b = false := by first | exact nomark _ | rfl) : QT C X (.Compare a [op] [b] pos) (cmpT fa fb g) := qt_cmp ho ha hb hm
theorem g_notT {f : Ss → Rs Bool} (h : QT C X a f) : QT C X (.UnaryOp .Not a pos) (notT f) := qt_not h
theorem Cal.nil {P : Program} {wd : World} {W : Wd} {mg : Str → Option Value} {base : Heap} {j : Nat} {g : List D → Res} (c : Cal P wd W mg base j x [] g) : True := trivial
theorem g_call {j : Nat} {g : List D → Res} {es : List Expr} {fs : Ss → Rs (List D)} (B : Bx C X k) (c : Cal X.prog X.w C.W X.mg X.base j x [] g) (ha : QA C X (e :: es) fs) (hj : j ≤ k := by decide) (hg : Gl X x := by rfl) (hdb : (x == ("__debug__" : Str)) = false := by decide)
    (he : starEach (e :: es) X.env = (false, eval e X.env) :: starEach es X.env := by rfl) (hpl : (backTo pos (starEach es X.env)).any (·.1) = false := by rfl) : QE C X (.Call (.Name x p) (e :: es) [] pos) (callE fs g) := by
  have z : callE fs g = fun s => (fs s).bind fun ds => g (ds ++ []) := funext fun s => by simp only [callE, List.append_nil]
  rw [z]
  exact qe_call B c hj ha hg hdb he hpl
theorem g_callB {j : Nat} {g : List D → Res} {es : List Expr} {fs : Ss → Rs (List D)} (B : Bx C X k) (c : Cal X.prog X.w C.W X.mg X.base j x [] g) (ha : QAB C X (e :: es) fs) (hj : j ≤ k := by decide) (hg : Gl X x := by rfl) (hdb : (x == ("__debug__" : Str)) = false := by decide)
    (he : starEach (e :: es) X.env = (false, eval e X.env) :: starEach es X.env := by rfl) (hpl : (backTo pos (starEach es X.env)).any (·.1) = false := by rfl) : QE C X (.Call (.Name x p) (e :: es) [] pos) (callBE fs g) := by
  have z : callBE fs g = fun s => (fs s).bind fun ds => chkL (g (ds ++ [])) := funext fun s => by simp only [callBE, List.append_nil]
  rw [z]
  exact qe_callB B c hj ha hg hdb he hpl
theorem g_callD {j : Nat} {dv : List D} {g : List D → Res} {es : List Expr} {fs : Ss → Rs (List D)} (B : Bx C X k) (c : Cal X.prog X.w C.W X.mg X.base j x dv g) (ha : QAB C X (e :: es) fs) (hj : j ≤ k := by decide) (hg : Gl X x := by rfl) (hdb : (x == ("__debug__" : Str)) = false := by decide)
    (he : starEach (e :: es) X.env = (false, eval e X.env) :: starEach es X.env := by rfl) (hpl : (backTo pos (starEach es X.env)).any (·.1) = false := by rfl) : QE C X (.Call (.Name x p) (e :: es) [] pos) (callDE fs dv g) := qe_callB B c hj ha hg hdb he hpl
theorem g_callK {j n m : Nat} {ks : List Str} {pm : List D → List D → List D} {g : List D → Res} {es : List Expr} {kws : List Keyword} {fs fk : Ss → Rs (List D)} (B : Bx C X k) (c : CalK X.prog X.w C.W X.mg X.base j x n ks pm g) (ha : QAB C X (e :: es) fs) (hkw : QK C X kws fk) (hm : ks.length = m := by rfl) (hj : j ≤ k := by decide)
    (hg : Gl X x := by rfl) (hdb : (x == ("__debug__" : Str)) = false := by decide) (hall : (backToKw pos (keywordEach kws X.env)).all (·.1.isSome) = true := by rfl) (hks : (backToKw pos (keywordEach kws X.env)).filterMap (·.1) = ks := by rfl)
    (he : starEach (e :: es) X.env = (false, eval e X.env) :: starEach es X.env := by rfl) (hpl : ((backTo pos (starEach (e :: es) X.env)).any (·.1) || (backToKw pos (keywordEach kws X.env)).any (·.1.isNone)) = false := by rfl) :
    QE C X (.Call (.Name x p) (e :: es) kws pos) (callKE n m pm fs fk g) := by
  subst hm
  exact qe_callK B c hj ha hkw hg hdb hall hks he hpl
theorem g_noP : QO C X none noP := qo_none
theorem g_someP (h : QE C X e f) : QO C X (some e) (someP f) := qo_some h
theorem g_cut {lo hi : Option Expr} {fl fh : Ss → Rs (Option Int)} {p2 : Pos} (hK : X.K = C.W.K) (ha : QB C X a fa) (hl : QO C X lo fl) (hh : QO C X hi fh) : QL C X (.Subscript a (.Slice lo hi none p2) pos) (cutE fa fl fh) := ql_slice hK ha hl hh
theorem g_nilI : QI C X [] nilI := qi_nil
theorem g_consI {es : List Expr} {g : Ss → Rs (List Itm)} (h : QE C X e f) (t : QI C X es g) (hs : starEach (e :: es) X.env = (false, eval e X.env) :: starEach es X.env := by rfl) : QI C X (e :: es) (consI f g) := qi_cons h t hs
theorem g_aliI (j : Nat) {es : List Expr} {g : Ss → Rs (List Itm)} {p1 : Pos} (t : QI C X es g) (hN : X.N[j]? = some x := by rfl) (hv : Vis X.env.scope x := by first | exact Or.inl rfl | exact Or.inr (Or.inl rfl) | exact Or.inr (Or.inr rfl))
    (hd : (x == ("__debug__" : Str)) = false := by decide) (hcd : (x == ("__classdict__" : Str)) = false := by decide) (hs : starEach (.Name x p1 :: es) X.env = (false, eval (.Name x p1) X.env) :: starEach es X.env := by rfl) :
    QI C X (.Name x p1 :: es) (aliI j g) := qi_own j t hN hv hd hcd hs
theorem g_append {p1 p2 p3 p4 : Pos} (i : Nat) (he : QE C X e f) (hN : X.N[i]? = some x := by rfl) (hv : Vis X.env.scope x := by first | exact Or.inl rfl | exact Or.inr (Or.inl rfl) | exact Or.inr (Or.inr rfl)) (hd : (x == ("__debug__" : Str)) = false := by decide) (hcd : (x == ("__classdict__" : Str)) = false := by decide)
    (h : ∀ {ta : TE}, PE X (.Name x p1) (tVar i) → PE X e ta → PS X (.Expr (.Call (.Attribute (.Name x p1) "append" p2) [e] [] p3) p4) (tDrop (tBM X.K "list" rAppend (tVar i) (tCons ta tNil))) := by
      exact fun hx ha => ps_expr (pe_bm PySem.F.plainAttrs_list PySem.F.slot_list_append PySem.F.type_list_append mt_append hx (pa_cons ha pa_nil))) :
    QS C X (.Expr (.Call (.Attribute (.Name x p1) "append" p2) [e] [] p3) p4) [] (appF i f) := qs_append he (h (pe_var hN hv hd hcd))
theorem g_setIx {p1 p2 p3 : Pos} {g : EF} (i : Nat) (he : QE C X e f) (hg : QE C X a g) (hN : X.N[i]? = some x := by rfl) (hv : Vis X.env.scope x := by first | exact Or.inl rfl | exact Or.inr (Or.inl rfl) | exact Or.inr (Or.inr rfl)) (hd : (x == ("__debug__" : Str)) = false := by decide) (hcd : (x == ("__classdict__" : Str)) = false := by decide)
    (h : ∀ {te ti : TE}, PE X (.Name x p1) (tVar i) → PE X e te → PE X a ti → PS X (.Assign [.Subscript (.Name x p1) a p2] e p3) (tAsg te (gSub (tVar i) ti rSetL)) := by exact fun hx he hi => ps_asg he (pg_sub hx hi set_list)) :
    QS C X (.Assign [.Subscript (.Name x p1) a p2] e p3) [] (setI i f g) := qs_setIx he hg (h (pe_var hN hv hd hcd))
theorem g_tblt {T : String} {T' : Str} {p2 : Pos} (hm : X.mg T' = none) (hv : bootBuiltins T' = some (.type T)) (hg : Gl X T' := by rfl) (hn : T' ≠ "__name__" := by decide) (hd : (T' == ("__debug__" : Str)) = false := by decide) : PE X (.Name T' p2) (tC (.ty T)) := pe_bltn hg hm hv rfl hn hd
end
theorem bx_of {W : Wd} {P : Program} {w : World} {mg : Str → Option Value} {base : Heap} {N : List Str} {qual : Str} {scope : Scope} {f : Addr} {cdv : Value} {A : Around} {outer : List Env} {s : Shared} {H : Hp} {M0 : Addr → Prop} {E : XK} {k : Nat}
    (hr : Room k (A.deeper (envOfC qual scope s.heap.objs.size f cdv))) (nd : N.Nodup) : Bx ⟨W, M0, H, fun cls d _ H' => E cls d H'⟩ (cxOf (L2.CX P w) P w W.K mg base N qual scope f cdv A outer s H E) k := ⟨rfl, takes_of rfl rfl rfl rfl, hr, rfl, nd, passes_of (K := fun e s'' => L2.CX P w outer H s E e s'') rfl⟩
/-! ### the head's facts -/
structure Hd (fa : List He.Fa) (fn : List He.DefD) (W : Wd) (mg : Str → Option Value) (base : Heap) : Prop where
  says : He.SaysD fa fn W.K
  kin : W.K.In base
  ns : base.Ns mainGlobals mg
section
variable {fa : List He.Fa} {fn : List He.DefD} {W : Wd} {mg : Str → Option Value} {base : Heap}
theorem Hd.free (h : Hd fa fn W mg base) (i : Nat) {x : Str} (e : fa[i]? = some (.free x) := by rfl) : mg x = none := He.free_ok h.kin h.ns (h.says.fact i e)
theorem Hd.glo (h : Hd fa fn W mg base) (i : Nat) {x : Str} (e : fa[i]? = some (.glo x) := by rfl) : mg x = some (.ref (He.ga W.K x)) := He.glo_ok h.kin h.ns (h.says.fact i e)
theorem Hd.intc (h : Hd fa fn W mg base) (i : Nat) {x : Str} {z : Int} (e : fa[i]? = some (.int x z) := by rfl) : ∃ u, mg x = some u ∧ RelV (.int z) u := by
  obtain ⟨t, q⟩ := He.int_ok h.kin h.ns (h.says.fact i e)
  exact ⟨_, q, t, rfl⟩
theorem Hd.strc (h : Hd fa fn W mg base) (i : Nat) {x : Str} {z : Str} (e : fa[i]? = some (.str x z) := by rfl) : ∃ u, mg x = some u ∧ RelV (.str z) u := by
  obtain ⟨t, q⟩ := He.str_ok h.kin h.ns (h.says.fact i e)
  exact ⟨_, q, t, rfl⟩
/-- a global def: its promise, from its body -/
theorem Hd.cal {P : Program} {w : World} {N ps : List Str} {k : Nat} {w' : List Nat} {B : SF} {d : He.DefD} {x : Str} (h : Hd fa fn W mg base) (i j : Nat) (hd : fn[i]? = some d) (hg : fa[j]? = some (.glo x)) (hat : d.at_ = (x, none)) (h1 : d.dfl = []) (h2 : d.kwd = []) (S : FnScope N ps d.scope)
    (hbd : ∀ (kV doc pm : Value) (an : Option Addr) (cdv ct : Value) (us : List Value), us.length = ps.length → bindArgs (PySem.W.fnOf d.name d.qual d.params d.body d.scope .none kV doc pm an cdv ct) ⟨us, []⟩ = pure (ps.zip us))
    (hb : ∀ (f : Addr) (cdv : Value) (A : Around) (outer : List Env) (s : Shared) (H : Hp) (M0 : Addr → Prop) (E : XK), Room k (A.deeper (envOfC d.qual d.scope s.heap.objs.size f cdv)) → Bx ⟨W, M0, H, fun cls d _ H' => E cls d H'⟩ (cxOf (L2.CX P w) P w W.K mg base N d.qual d.scope f cdv A outer s H E) k →
      QSs ⟨W, M0, H, fun cls d _ H' => E cls d H'⟩ (cxOf (L2.CX P w) P w W.K mg base N d.qual d.scope f cdv A outer s H E) d.body w' B) : Cal P w W mg base (k + 1) x [] (runD ps.length N.length B) := by
  obtain ⟨fd, F⟩ := h.says.def_ i hd
  have e1 : d.dvs W.K = [] := by unfold He.DefD.dvs; rw [h1] <;> rfl
  have e2 : d.kws W.K = [] := by unfold He.DefD.kws; rw [h2] <;> rfl
  rw [e1, e2, hat] at F
  refine ⟨_, fd, ps, [], [], def_ok F S fun cdv A outer s H M0 E hr => hb _ cdv A outer s H M0 E hr (bx_of hr S.nd), h.glo j hg, F.kp, F.bindsN hbd, .nil, fun _ _ => .nil⟩
end
end Dl

/-! D-layer, part 9: defs with defaults and keywords; comprehensions as printed; the end of a law. -/
namespace Dl
open PySem PySem.Spec PyProof.Rows L2 Evl
structure Raw (P : Program) (wd : World) (W : Wd) (mg : Str → Option Value) (base : Heap) (k : Nat) (x : Str) (d : He.DefD) (ps : List Str) (g : List D → Res) : Prop where
  ex : ∃ f fd, FnOk P wd W.K mg base (L2.CX P wd) k f fd ps (spD W g) ∧ mg x = some (.ref f) ∧ FunD W.K d.name d.qual d.params d.body d.scope (d.dvs W.K) (d.kws W.K) f fd
section
variable {fa : List He.Fa} {fn : List He.DefD} {W : Wd} {mg : Str → Option Value} {base : Heap} {P : Program} {w : World}
theorem Hd.raw {N ps : List Str} {k : Nat} {w' : List Nat} {B : SF} {d : He.DefD} {x : Str} (h : Hd fa fn W mg base) (i j : Nat) (hd : fn[i]? = some d) (hg : fa[j]? = some (.glo x)) (hat : d.at_ = (x, none)) (S : FnScope N ps d.scope)
    (hb : ∀ (f : Addr) (cdv : Value) (A : Around) (outer : List Env) (s : Shared) (H : Hp) (M0 : Addr → Prop) (E : XK), Room k (A.deeper (envOfC d.qual d.scope s.heap.objs.size f cdv)) → Bx ⟨W, M0, H, fun cls d _ H' => E cls d H'⟩ (cxOf (L2.CX P w) P w W.K mg base N d.qual d.scope f cdv A outer s H E) k →
      QSs ⟨W, M0, H, fun cls d _ H' => E cls d H'⟩ (cxOf (L2.CX P w) P w W.K mg base N d.qual d.scope f cdv A outer s H E) d.body w' B) : Raw P w W mg base (k + 1) x d ps (runD ps.length N.length B) := by
  obtain ⟨fd, F⟩ := h.says.def_ i hd
  rw [hat] at F
  exact ⟨_, fd, def_ok F S fun cdv A outer s H M0 E hr => hb _ cdv A outer s H M0 E hr (bx_of hr S.nd), h.glo j hg, F⟩
/-- called with n positional values, the keyword-only ones by their defaults -/
theorem Raw.calD {k : Nat} {x : Str} {d : He.DefD} {ps : List Str} {g : List D → Res} {dv : List D} (r : Raw P w W mg base k x d ps g) (n : Nat) (h1 : d.dfl = []) (hk : d.kwd ≠ []) (hn : n + d.kwd.length = ps.length)
    (hr : ∀ M H, RepL W M H dv ((d.kws W.K).map (·.2)))
    (h : ∀ (D : Addr) (doc pm : Value) (an : Option Addr) (cdv ct : Value) (us ks : List Value), us.length = n → ks.length = (d.kws W.K).length →
      KwChain D (((d.kws W.K).map (·.1)).zip ks) (bindArgs (PySem.W.fnOf d.name d.qual d.params d.body d.scope .none (.ref D) doc pm an cdv ct) ⟨us, []⟩) (ps.zip (us ++ ks))) : Cal P w W mg base k x dv g := by
  obtain ⟨f, fd, F, hm, FD⟩ := r.ex
  have kp := FD.kp
  have e1 : d.dvs W.K = [] := by unfold He.DefD.dvs; rw [h1] <;> rfl
  rw [e1] at FD
  have hne : d.kws W.K ≠ [] := fun z => hk (List.map_eq_nil_iff.mp (show d.kwd.map _ = [] from z))
  have hl : (d.kws W.K).length = d.kwd.length := by unfold He.DefD.kws; rw [List.length_map]
  obtain ⟨ds, v, b⟩ := FD.binds0 (ps := ps) n hne (by rw [hl]; exact hn) h
  exact ⟨f, fd, ps, ds, _, F, hm, kp, b, v, hr⟩
/-- called with all its parameters, the last ones as keywords in order; no defaults but keyword-only ones -/
theorem Raw.calK {k : Nat} {x : Str} {d : He.DefD} {ps : List Str} {g : List D → Res} (r : Raw P w W mg base k x d ps g) (n : Nat) (ks : List Str) (h1 : d.dfl = []) (hk : d.kwd ≠ [])
    (h : ∀ (Da : Addr) (doc pm : Value) (an : Option Addr) (cdv ct : Value) (us ws : List Value), us.length = n → ws.length = ks.length → bindArgs (PySem.W.fnOf d.name d.qual d.params d.body d.scope .none (.ref Da) doc pm an cdv ct) ⟨us, ks.zip ws⟩ = pure (ps.zip (us ++ ws))) :
    CalK P w W mg base k x n ks (fun a b => a ++ b) g := by
  obtain ⟨f, fd, F, hm, FD⟩ := r.ex
  have kp := FD.kp
  have e1 : d.dvs W.K = [] := by unfold He.DefD.dvs; rw [h1] <;> rfl
  have hne : d.kws W.K ≠ [] := fun z => hk (List.map_eq_nil_iff.mp (show d.kwd.map _ = [] from z))
  refine ⟨f, fd, ps, fun a b => a ++ b, fun a b => a ++ b, F, hm, FD.kp, ⟨fun s us ws _ l1 l2 => ?_, fun a b => a.append b⟩, fun M H ds vs es us a b => a.append b⟩
  obtain ⟨oc, od, dV, kV, doc, pm, an, cdv, ct, osl, rfl, _, _, hD, hK⟩ := FD.ex
  rcases hD with ⟨_, rfl⟩ | ⟨z, _⟩
  · rcases hK with z | ⟨Da, rfl, _⟩
    · exact absurd z hne
    · exact .of_eq (h Da doc pm an cdv ct us ws l1 l2)
  · exact absurd e1 z
/-- .. where nothing has a default -/
theorem Raw.calK0 {k : Nat} {x : Str} {d : He.DefD} {ps : List Str} {g : List D → Res} (r : Raw P w W mg base k x d ps g) (n : Nat) (ks : List Str) (h1 : d.dfl = [])
    (h : ∀ (kV doc pm : Value) (an : Option Addr) (cdv ct : Value) (us ws : List Value), us.length = n → ws.length = ks.length → bindArgs (PySem.W.fnOf d.name d.qual d.params d.body d.scope .none kV doc pm an cdv ct) ⟨us, ks.zip ws⟩ = pure (ps.zip (us ++ ws))) :
    CalK P w W mg base k x n ks (fun a b => a ++ b) g := by
  obtain ⟨f, fd, F, hm, FD⟩ := r.ex
  have kp := FD.kp
  have e1 : d.dvs W.K = [] := by unfold He.DefD.dvs; rw [h1] <;> rfl
  refine ⟨f, fd, ps, fun a b => a ++ b, fun a b => a ++ b, F, hm, FD.kp, ⟨fun s us ws _ l1 l2 => ?_, fun a b => a.append b⟩, fun M H ds vs es us a b => a.append b⟩
  obtain ⟨oc, od, dV, kV, doc, pm, an, cdv, ct, osl, rfl, _, _, hD, _⟩ := FD.ex
  rcases hD with ⟨_, rfl⟩ | ⟨z, _⟩
  · exact .of_eq (h kV doc pm an cdv ct us ws l1 l2)
  · exact absurd e1 z
end
/-! ### comprehensions as printed -/
section
variable {C : Cn} {X : Cx} {k : Nat} {pos : Pos}
def TsL (t : D → Ss → Option Ss) : Prop := ∀ d s s', t d s = some s' → s'.length = s.length
def TsLs (t : List D → Ss → Option Ss) : Prop := ∀ d s s', t d s = some s' → s'.length = s.length
theorem tsl_name {i : Nat} : TsL (tgN i) := fun d s s' e => by
  unfold tgN at e
  split at e
  · cases e; exact setS_len
  · cases e
theorem tsls_nil : TsLs tgNil := fun d s s' e => by
  cases d with
  | nil => cases e; rfl
  | cons a b => cases e
theorem tsls_cons {t : D → Ss → Option Ss} {u : List D → Ss → Option Ss} (h : TsL t) (h' : TsLs u) : TsLs (tgCons t u) := fun d s s' e => by
  cases d with
  | nil => cases e
  | cons a b =>
    unfold tgCons at e
    dsimp only at e
    cases e1 : t a s with
    | none => rw [e1] at e; cases e
    | some s1 =>
      rw [e1] at e
      rw [h' b s1 s' e, h a s s1 e1]
theorem tsl_tup {n : Nat} {u : List D → Ss → Option Ss} (h : TsLs u) : TsL (tgTup n u) := fun d s s' e => by
  cases d with
  | tup ds =>
    unfold tgTup at e
    dsimp only at e
    split at e
    · exact h ds s s' e
    · cases e
  | _ => cases e
theorem blk_bx (B : Bx C X k) {s : Shared} {H : Hp} {scope : Scope} {ce : Env} {fp : List Addr} : Bx (noX C) (X.blk s H scope ce fp) k := ⟨B.hK, takes0, B.room, B.calm, B.nd, .never⟩
/-- a target that stores by its own slots alone, in any context of these names -/
theorem ql_lcN (B : Bx C X k) {elt iter : Expr} {ifs : List Expr} {scope : Scope} {x : Str} {i : Nat} {p1 : Pos} {fi : EF} {g : Ss → Rs Bool} {tt : TT} {f : EF} (hi : QE C X iter fi) (ok : BlkOk X.N X.env.scope scope [(x, i)]) (hN : X.N[i]? = some x)
    (hx : ∀ (s : Shared) (H : Hp) (c : Addr) (cl : List (Str × Addr)) (fp : List Addr), Loc (X.blk s H scope (compEnvC scope cl c X.env) fp).env.scope x)
    (hf : ∀ (s : Shared) (H : Hp) (c : Addr) (cl : List (Str × Addr)) (fp : List Addr), (X.blk s H scope (compEnvC scope cl c X.env) fp).fn x = true ∨ (X.blk s H scope (compEnvC scope cl c X.env) fp).env.scope.names.lookup x = some .local)
    (ht : ∀ (s : Shared) (H : Hp) (c : Addr) (cl : List (Str × Addr)) (fp : List Addr), PTs (X.blk s H scope (compEnvC scope cl c X.env) fp) ifs tt) (htt : TSt C g tt)
    (he : ∀ (s : Shared) (H : Hp) (c : Addr) (cl : List (Str × Addr)) (fp : List Addr), Bx (noX C) (X.blk s H scope (compEnvC scope cl c X.env) fp) k → PE (X.blk s H scope (compEnvC scope cl c X.env) fp) elt (tD (noX C) f)) (hs : ∀ x, foldedSetIterable iter X.env x = pure x := by intro _; rfl) :
    QL C X (.ListComp elt [⟨.Name x p1, iter, ifs, 0⟩] scope pos) (lcF [i] fi (tgN i) g f) :=
  ql_lc (own := [(x, i)]) B hi ok ⟨gName i, fun s H c cl fp => pg_name B.nd hN (hx s H c cl fp) (hf s H c cl fp), fun {M H σ s s' d v Q} I r e q => by
    unfold tgN at e
    split at e
    · rename_i hi
      cases e
      exact q _ (fun k n => List.getElem?_set_ne fun z => n (by simp [z])) (I.setV hi r)
    · cases e⟩ ht htt (fun s H c cl fp => he s H c cl fp (blk_bx B)) tsl_name hs
end
/-! ### the end of a law -/
theorem end_sp {W : Wd} {g : List D → Res} {H : Hp} {a : Addr} {ns : List Int} (hS : SqL W.K H a (ns.map V.int)) (h : g [.scr (ns.map D.int)] = .ok (.bl true)) : spD W g [.ref a] H (fun v _ => v = .bl true) fun _ _ _ => False := by
  refine ⟨fun _ => False, [.scr (ns.map D.int)], fun _ z => z.elim, .cons ?_ .nil, ?_⟩
  · unfold Rep
    refine ⟨a, ns.map V.int, rfl, ?_, .ints⟩
    rcases hS with (e | ⟨o, e⟩) | e
    · exact .inl ⟨fun z => z, .inl (.inl e), by rw [e]; simp⟩
    · exact .inl ⟨fun z => z, .inl (.inr ⟨o, e⟩), by rw [e]; simp⟩
    · exact .inr fun H => .inr e
  · rw [h]
    intro v H' _ r
    unfold Rep at r
    exact r
theorem cx_none {P : Program} {w : World} (H : Hp) (s : Shared) (e : Value) (s' : Shared) : L2.CX P w [] H s (fun _ _ _ => False) e s' → False := fun h => by
  obtain ⟨_, _, _, _, _, _, _, _, _, _, _, _, z⟩ := h
  exact z
end Dl
namespace Dl
open PySem PySem.Spec PyProof.Rows L2 Evl
theorem FunD.uniq {K : PySem.W.Frag} {x qual x' qual' : Str} {params params' : Arguments} {body body' : List Stmt} {scope scope' : Scope} {dvs dvs' : List V} {kws kws' : List (Str × V)} {f : Addr} {fd fd' : FuncData}
    (F : FunD K x qual params body scope dvs kws f fd) (F' : FunD K x' qual' params' body' scope' dvs' kws' f fd') : fd' = fd := by
  obtain ⟨_, _, _, _, _, _, _, _, _, _, _, l1, _⟩ := F.ex
  obtain ⟨_, _, _, _, _, _, _, _, _, _, _, l2, _⟩ := F'.ex
  rw [l1] at l2
  cases l2
  rfl
end Dl
namespace Dl
open PySem PySem.Spec PyProof.Rows L2 Evl
/-- a law whose defs may raise -/
theorem walk_ofEw {l : PySem.W.OpenLaw} {n k : Nat} {q : Program} {loose : List Str} {XP : (Str → Option Value) → Heap → Prop} {YP : World → Heap → Prop} {d : DefRec} {x : Str}
    (hn : l.most = some n) (hn2 : n ≤ sizeLine) (hdf : d.params.defaults = []) (hr : Room k callerA)
    (F : ∀ (w : World) (mg : Str → Option Value) (fa : Addr) (h : Heap), YP w h → h.Ns mainGlobals mg → mg d.name = some (.ref fa) →
      ∃ (K : PySem.W.Frag) (fd : FuncData) (sp : Sp), K.In h ∧ (∀ (s : Shared) (u : Value), BindsTo s fd ⟨[u], []⟩ [(x, u)]) ∧
        (∀ (H : Hp) (a : Addr) (ns : List Int), ns.length ≤ n → SqL K H a (ns.map V.int) → sp [.ref a] H (fun v _ => v = .bl true) fun _ _ _ => False) ∧
        ∀ base : Heap, K.In base → base.Ns mainGlobals mg → FnOk l.prog w K mg base (L2.CX l.prog w) k fa fd [x] sp) :
    PySem.W.WalkO q loose XP YP l.row.toRowW d [] (fun f vs => PySem.call f vs) := by
  refine Att.attach_call hn hdf fun w s₀ s₁ mg mb fa o pm cd doc a vs ns G Y ho hd hcd hmg hobj hints hlen hg => ?_
  obtain ⟨K, fd, sp, KX, hb, hsp, hF⟩ := F w mg fa _ Y G.T.g hmg
  exact law_call KX G.T.g G.T.b G.T.builtins G.T.nolimit hg hobj hints (Nat.le_trans hlen hn2) hr hF hb (fun H hO hS => hsp H a ns hlen hS) fun H e s' => cx_none H s₁ e s'
end Dl

/-! D-layer, part 10: what simp computes with. -/
namespace Dl
open PySem PySem.Spec PyProof.Rows L2 Evl
section
variable {w : List Nat} {f fa fb fc : EF} {F G : SF} {i j : Nat} {s : Ss} {d : D} {ds : List D}
def bindO (o : Out) (G : SF) : Out := match o with
  | .next s' => G s'
  | o => o
@[simp] theorem bindO_next : bindO (.next s) G = G s := rfl
@[simp] theorem bindO_ret : bindO (.ret d) G = .ret d := rfl
@[simp] theorem bindO_exc (c : Nat) : bindO (.exc c ds s) G = .exc c ds s := rfl
@[simp] theorem bindO_brk : bindO (.brk s) G = .brk s := rfl
@[simp] theorem bindO_cont : bindO (.cont s) G = .cont s := rfl
@[simp] theorem bindO_stuck : bindO .stuck G = .stuck := rfl
@[simp] theorem z_seq : seqF F G s = bindO (F s) G := by
  unfold seqF bindO
  rfl
@[simp] theorem bindO_ite {p : Prop} [Decidable p] {a b : Out} : bindO (if p then a else b) G = if p then bindO a G else bindO b G := by split <;> rfl
@[simp] theorem liftF_ite {α : Type} {p : Prop} [Decidable p] {a b : Rs α} {k : α → Out} : liftF (if p then a else b) s k = if p then liftF a s k else liftF b s k := by split <;> rfl
@[simp] theorem bind_ite {α β : Type} {p : Prop} [Decidable p] {a b : Rs α} {k : α → Rs β} : (if p then a else b).bind k = if p then a.bind k else b.bind k := by split <;> rfl
@[simp] theorem resO_ite {p : Prop} [Decidable p] {a b : Out} : resO (if p then a else b) = if p then resO a else resO b := by split <;> rfl
@[simp] theorem z_atV : atV i s = (match s[i]? with | some (.val d) => .ok d | _ => .stuck) := by unfold atV; rfl
@[simp] theorem z_atB : atB i s = (match s[i]? with
  | some (.val d) => .ok d
  | some (.own ds) => .ok (.lst ds)
  | some (.ali j) => (match s[j]? with
    | some (.own ds) => .ok (.lst ds)
    | _ => .stuck)
  | _ => .stuck) := by unfold atB; rfl
@[simp] theorem z_wo {k : List D → Out} : withOwn i s k = (match s[i]? with | some (.own ds) => k ds | _ => .stuck) := by unfold withOwn; rfl
@[simp] theorem z_frz : frz i s = (match s[i]? with | some (.own ds) => setS s i (.val (.lst ds)) | _ => s) := by unfold frz; rfl
@[simp] theorem z_setSx (x : Sl) : setS s i x = (s.map (unali i)).set i x := rfl
@[simp] theorem z_if {g : Ss → Rs Bool} : ifF g F G s = liftF (g s) s fun b => if b then F s else G s := rfl
@[simp] theorem z_set : setE i f s = liftF (f s) s (setF i s) := rfl
@[simp] theorem z_setF : setF i s d = if i < s.length then .next (setS s i (.val d)) else .stuck := rfl
@[simp] theorem z_own {f : Ss → Rs (List D)} : ownE i f s = liftF (f s) s (ownF i s) := rfl
@[simp] theorem z_ownF : ownF i s ds = if i < s.length then .next (setS s i (.own ds)) else .stuck := rfl
@[simp] theorem z_ret : retE f s = liftF (f s) s .ret := rfl
@[simp] theorem z_expr : exprE f s = liftF (f s) s fun _ => .next s := rfl
@[simp] theorem z_asg {t : D → Ss → Option Ss} : asgE t f s = liftF (f s) s fun d => (match t d s with | some s' => .next s' | none => .stuck) := rfl
@[simp] theorem z_next : nextE s = .next s := rfl
@[simp] theorem z_brk : brkE s = .brk s := rfl
@[simp] theorem z_cont : contE s = .cont s := rfl
@[simp] theorem z_retN : retN s = .ret .non := rfl
@[simp] theorem z_frzE : frzE i F s = F (frz i s) := rfl
@[simp] theorem z_tup {fs : Ss → Rs (List D)} : tupE fs s = (fs s).bind fun ds => .ok (.tup ds) := rfl
@[simp] theorem z_nilA : nilA s = .ok [] := rfl
@[simp] theorem z_consA {g : Ss → Rs (List D)} : consA f g s = (f s).bind fun d => (g s).bind fun ds => .ok (d :: ds) := rfl
@[simp] theorem z_lst {g : Ss → Rs (List D)} : lstE g s = (g s).bind fun ds => .ok (.lst ds) := rfl
@[simp] theorem z_tru : truT f s = (f s).bind truD := rfl
@[simp] theorem z_cmp {g : D → D → Res} : cmpT fa fb g s = (eb fa fb g s).bind blR := rfl
@[simp] theorem z_not {f : Ss → Rs Bool} : notT f s = (f s).bind notR := rfl
@[simp] theorem z_and {f g : Ss → Rs Bool} : andR f g s = (f s).bind fun b => if b then g s else .ok false := rfl
@[simp] theorem z_or {f g : Ss → Rs Bool} : orR f g s = (f s).bind fun b => if b then .ok true else g s := rfl
@[simp] theorem z_andV : andV fa fb s = (fa s).bind fun d => (blR d).bind fun b => if b then fb s else .ok (.bl false) := rfl
@[simp] theorem z_orV : orV fa fb s = (fa s).bind fun d => (blR d).bind fun b => if b then .ok (.bl true) else fb s := rfl
@[simp] theorem z_ifV {f : Ss → Rs Bool} : ifV f fa fb s = (f s).bind fun b => if b then fa s else fb s := rfl
@[simp] theorem z_notV (b : Bool) : notV (.bl b) = .ok (.bl (!b)) := rfl
@[simp] theorem z_call {fs : Ss → Rs (List D)} {g : List D → Res} : callE fs g s = (fs s).bind g := rfl
@[simp] theorem z_callB {fs : Ss → Rs (List D)} {g : List D → Res} : callBE fs g s = (fs s).bind fun ds => chkL (g ds) := rfl
@[simp] theorem z_callD {fs : Ss → Rs (List D)} {dv : List D} {g : List D → Res} : callDE fs dv g s = (fs s).bind fun ds => chkL (g (ds ++ dv)) := rfl
@[simp] theorem z_callK {n m : Nat} {pm : List D → List D → List D} {fs fk : Ss → Rs (List D)} {g : List D → Res} : callKE n m pm fs fk g s = (fs s).bind fun ds => (fk s).bind fun zs => if ds.length = n ∧ zs.length = m then chkL (g (pm ds zs)) else .stuck := rfl
@[simp] theorem z_noP : noP s = .ok none := rfl
@[simp] theorem z_someP : someP f s = (f s).bind intR := rfl
@[simp] theorem z_cut {fl fh : Ss → Rs (Option Int)} : cutE fa fl fh s = (fa s).bind fun d => (fl s).bind fun lo => (fh s).bind fun hi => (match d with | .lst ds => .ok (cutL ds lo hi) | .scr ds => .ok (cutL ds lo hi) | _ => .stuck) := rfl
@[simp] theorem z_nilI : nilI s = .ok [] := rfl
@[simp] theorem z_consI {g : Ss → Rs (List Itm)} : consI f g s = (f s).bind fun d => (g s).bind fun ds => .ok (.d d :: ds) := rfl
@[simp] theorem z_aliI {g : Ss → Rs (List Itm)} : aliI j g s = (ownI j s).bind fun d => (g s).bind fun ds => .ok (d :: ds) := rfl
@[simp] theorem z_eb {g : D → D → Res} : eb fa fb g s = (fa s).bind fun d => (fb s).bind fun d' => g d d' := rfl
@[simp] theorem z_eu {g : D → Res} : eu fa g s = (fa s).bind g := rfl
@[simp] theorem z_list : listR fa s = (fa s).bind itemsD := rfl
@[simp] theorem z_rev : revL fa s = (fa s).bind fun d => (match d with | .lst ds => .ok ds.reverse | .scr ds => .ok ds.reverse | _ => .stuck) := rfl
@[simp] theorem z_for {t : D → Ss → Option Ss} : forF f t F s = liftF ((f s).bind itemsD) s fun ds => forL t F ds s := rfl
@[simp] theorem z_forR1 {t : D → Ss → Option Ss} : forR1 f t F s = liftF ((f s).bind fun d => rngD (.int 0) d) s fun ds => forL t F ds s := rfl
@[simp] theorem z_forR2 {t : D → Ss → Option Ss} : forR2 fa fb t F s = liftF ((fa s).bind fun d => (fb s).bind fun d' => rngD d d') s fun ds => forL t F ds s := rfl
@[simp] theorem z_forD {g : Ss → Rs (List Itm)} : forD i w g F s = liftF (g s) s fun ds => if ds.length ≤ sizeLine ∧ itsOk (i :: w) ds = true then forI i F ds s else .stuck := rfl
@[simp] theorem z_forL_nil {t : D → Ss → Option Ss} : forL t F [] s = .next s := rfl
theorem z_forL_cons {t : D → Ss → Option Ss} : forL t F (d :: ds) s = (match t d s with | none => .stuck | some s1 => match F s1 with | .next s' => forL t F ds s' | .cont s' => forL t F ds s' | .brk s' => .next s' | o => o) := rfl
@[simp] theorem z_forI_nil : forI i F [] s = .next s := rfl
theorem z_forI_cons {d : Itm} {ds : List Itm} : forI i F (d :: ds) s = (match tgI i d s with | none => .stuck | some s1 => match F s1 with | .next s' => forI i F ds s' | .cont s' => forI i F ds s' | .brk s' => .next s' | o => o) := rfl
@[simp] theorem z_tgN : tgN i d s = if i < s.length then some (setS s i (.val d)) else none := rfl
@[simp] theorem z_tgNil : tgNil [] s = some s := rfl
@[simp] theorem z_tgCons {t : D → Ss → Option Ss} {u : List D → Ss → Option Ss} : tgCons t u (d :: ds) s = (t d s).bind (u ds) := rfl
@[simp] theorem z_tgTup {n : Nat} {u : List D → Ss → Option Ss} : tgTup n u (.tup ds) s = if ds.length = n then u ds s else none := rfl
@[simp] theorem z_items_l : itemsD (.lst ds) = .ok ds := rfl
@[simp] theorem z_items_s : itemsD (.scr ds) = .ok ds := rfl
@[simp] theorem z_items_t : itemsD (.tup ds) = .ok ds := rfl
theorem z_setS : setS s i (.val d) = (s.map (unali i)).set i (.val d) := rfl
@[simp] theorem z_init {N : Nat} : initS N ds = ds.map Sl.val ++ List.replicate (N - ds.length) Sl.un := rfl
@[simp] theorem z_res_ret : resO (.ret d) = .ok d := rfl
@[simp] theorem z_res_next : resO (.next s) = .ok .non := rfl
@[simp] theorem z_res_exc (c : Nat) : resO (.exc c ds s) = .exc c ds := rfl
@[simp] theorem z_run {np N : Nat} {B : SF} : runD np N B ds = if ds.length = np then resO (B (initS N ds)) else .stuck := rfl
@[simp] theorem z_appF : appF i f s = withOwn i s fun ds => liftF (f s) s fun d => if ds.length < sizeLine then .next (s.set i (.own (ds ++ [d]))) else .stuck := rfl
@[simp] theorem z_setI : setI i fa fb s = liftF (fa s) s fun d => withOwn i s fun ds => liftF (fb s) s fun k => (match k with
  | .int z => (match ixN ds.length z with
    | some j => .next (s.set i (.own (ds.set j d)))
    | none => .stuck)
  | _ => .stuck) := rfl
/-! operations on ints -/
@[simp] theorem z_io {ok : Int → Int → Bool} {g : Int → Int → D} (i j : Int) : intOp ok g (.int i) (.int j) = if ok i j then .ok (g i j) else .stuck := rfl
@[simp] theorem z_add (i j : Int) : addD (.int i) (.int j) = .ok (.int (i + j)) := rfl
@[simp] theorem z_sub (i j : Int) : subD (.int i) (.int j) = .ok (.int (i - j)) := rfl
@[simp] theorem z_lt (i j : Int) : ltD (.int i) (.int j) = .ok (.bl (decide (i < j))) := rfl
@[simp] theorem z_le (i j : Int) : leD (.int i) (.int j) = .ok (.bl (decide (i ≤ j))) := rfl
@[simp] theorem z_gt (i j : Int) : gtD (.int i) (.int j) = .ok (.bl (decide (j < i))) := rfl
@[simp] theorem z_ge (i j : Int) : geD (.int i) (.int j) = .ok (.bl (decide (j ≤ i))) := rfl
theorem max_swap (i j : Int) : (if j > i then j else i) = max i j := by
  simp only [Int.max_def]
  split <;> split <;> omega
theorem min_swap (i j : Int) : (if j < i then j else i) = min i j := by
  simp only [Int.min_def]
  split <;> split <;> omega
@[simp] theorem z_max (i j : Int) : maxD (.int i) (.int j) = .ok (.int (max i j)) := by rw [← max_swap]; rfl
@[simp] theorem z_min (i j : Int) : minD (.int i) (.int j) = .ok (.int (min i j)) := by rw [← min_swap]; rfl
@[simp] theorem z_neg (i : Int) : negD (.int i) = .ok (.int (-i)) := rfl
@[simp] theorem z_int (i : Int) : int1D (.int i) = .ok (.int i) := rfl
@[simp] theorem z_intb (b : Bool) : int1D (.bl b) = .ok (.int (if b then 1 else 0)) := rfl
@[simp] theorem z_mod (i j : Int) : modD (.int i) (.int j) = if 0 < j then .ok (.int (i % j)) else .stuck := by
  show (if decide (0 < j) = true then _ else _) = _
  simp
@[simp] theorem z_mul (i j : Int) : mulD (.int i) (.int j) = if mulOk i j then .ok (.int (i * j)) else .stuck := rfl
@[simp] theorem z_div (i j : Int) : divD (.int i) (.int j) = if divOk i j then .ok (.int (i / j)) else .stuck := rfl
@[simp] theorem z_pow (i j : Int) : powD (.int i) (.int j) = if powOk i j then .ok (.int (i ^ j.toNat)) else .stuck := rfl
@[simp] theorem z_bl (b : Bool) : blR (.bl b) = .ok b := rfl
@[simp] theorem z_trub (b : Bool) : truD (.bl b) = .ok b := rfl
@[simp] theorem z_notR (b : Bool) : notR b = .ok (!b) := rfl
@[simp] theorem z_isN (k : Bool → Bool) : isND k .non .non = .ok (.bl (k true)) := rfl
@[simp] theorem z_isNi (k : Bool → Bool) (i : Int) : isND k (.int i) .non = .ok (.bl (k false)) := rfl
@[simp] theorem z_isNt (k : Bool → Bool) : isND k (.tup ds) .non = .ok (.bl (k false)) := rfl
@[simp] theorem z_isNl (k : Bool → Bool) : isND k (.lst ds) .non = .ok (.bl (k false)) := rfl
@[simp] theorem z_isNb (k : Bool → Bool) (b : Bool) : isND k (.bl b) .non = .ok (.bl (k false)) := rfl
@[simp] theorem z_isNs (k : Bool → Bool) (b : Str) : isND k (.str b) .non = .ok (.bl (k false)) := rfl
@[simp] theorem z_isNo (k : Bool → Bool) (c : Nat) : isND k (.obj c ds) .non = .ok (.bl (k false)) := rfl
theorem v_int (i j : Int) : decide (V.int i = V.int j) = decide (i = j) := by
  by_cases h : i = j
  · subst h; simp
  · rw [decide_eq_false h, decide_eq_false fun z => h (V.int.inj z)]
@[simp] theorem z_eqi (i j : Int) : eqD (.int i) (.int j) = .ok (.bl (decide (i = j))) := by
  show Rs.ok (D.bl (id (decide (V.int i = V.int j)))) = _
  rw [v_int] <;> rfl
@[simp] theorem z_nei (i j : Int) : neD (.int i) (.int j) = .ok (.bl (!decide (i = j))) := by
  show Rs.ok (D.bl (!(decide (V.int i = V.int j)))) = _
  rw [v_int]
@[simp] theorem z_eqn : eqD .non .non = .ok (.bl true) := rfl
@[simp] theorem z_nen : neD .non .non = .ok (.bl false) := rfl
@[simp] theorem z_eqni (i : Int) : eqD .non (.int i) = .ok (.bl false) := rfl
@[simp] theorem z_eqin (i : Int) : eqD (.int i) .non = .ok (.bl false) := rfl
@[simp] theorem z_neni (i : Int) : neD .non (.int i) = .ok (.bl true) := rfl
@[simp] theorem z_nein (i : Int) : neD (.int i) .non = .ok (.bl true) := rfl
@[simp] theorem z_lenl : lenD (.lst ds) = .ok (.int ds.length) := rfl
@[simp] theorem z_lens : lenD (.scr ds) = .ok (.int ds.length) := rfl
@[simp] theorem z_lent : lenD (.tup ds) = .ok (.int ds.length) := rfl
@[simp] theorem z_tupl : tupleD (.lst ds) = .ok (.tup ds) := rfl
@[simp] theorem z_tupt : tupleD (.tup ds) = .ok (.tup ds) := rfl
@[simp] theorem z_revl : revD (.lst ds) = .ok (.lst ds.reverse) := rfl
@[simp] theorem z_revt : revD (.tup ds) = .ok (.tup ds.reverse) := rfl
@[simp] theorem z_intR (i : Int) : intR (.int i) = .ok (some i) := rfl
@[simp] theorem z_intRn : intR .non = .stuck := rfl
@[simp] theorem z_noLi (i : Int) : noL (.int i) = true := rfl
@[simp] theorem z_noLn : noL .non = true := rfl
@[simp] theorem z_noLb (b : Bool) : noL (.bl b) = true := rfl
@[simp] theorem z_noLs (b : Str) : noL (.str b) = true := rfl
@[simp] theorem z_noLt : noL (.tup ds) = noLs ds := rfl
@[simp] theorem z_noLs0 : noLs [] = true := rfl
@[simp] theorem z_noLs1 : noLs (d :: ds) = (noL d && noLs ds) := rfl
@[simp] theorem z_chk : chkL (.ok d) = if noL d then .ok d else .stuck := rfl
theorem kit_ii : kitB "int" "int" = some true := by decide +kernel
theorem kit_ib : kitB "int" "bool" = some false := by decide +kernel
theorem kit_ni : kitB "NoneType" "int" = some false := by decide +kernel
theorem kit_nb : kitB "NoneType" "bool" = some false := by decide +kernel
theorem kit_tt : kitB "tuple" "tuple" = some true := by decide +kernel
theorem kit_lt : kitB "list" "tuple" = some false := by decide +kernel
@[simp] theorem z_isi (i : Int) : isTD "int" (.int i) = .ok (.bl true) := by unfold isTD; simp only [tyN, kit_ii]
@[simp] theorem z_isb (i : Int) : isTD "bool" (.int i) = .ok (.bl false) := by unfold isTD; simp only [tyN, kit_ib]
@[simp] theorem z_isni : isTD "int" .non = .ok (.bl false) := by unfold isTD; simp only [tyN, kit_ni]
@[simp] theorem z_istt : isTD "tuple" (.tup ds) = .ok (.bl true) := by unfold isTD; simp only [tyN, kit_tt]
@[simp] theorem z_istl : isTD "tuple" (.lst ds) = .ok (.bl false) := by unfold isTD; simp only [tyN, kit_lt]
/-! items -/
@[simp] theorem z_ixl (i : Int) : ixD (.lst ds) (.int i) = (match atI ds i with | some d => .ok d | none => .stuck) := rfl
@[simp] theorem z_ixs (i : Int) : ixD (.scr ds) (.int i) = (match atI ds i with | some d => .ok d | none => .stuck) := rfl
@[simp] theorem z_ixt (i : Int) : ixD (.tup ds) (.int i) = (match atI ds i with | some d => .ok d | none => .stuck) := rfl
end
theorem atI_map {α β : Type} {xs : List α} {f : α → β} {i : Int} : atI (xs.map f) i = (atI xs i).map f := by
  unfold atI
  rw [List.length_map]
  cases ixN xs.length i with
  | none => rfl
  | some j =>
    show (xs.map f)[j]? = _
    rw [List.getElem?_map]
    rfl
theorem atI_lt {α : Type} {xs : List α} {n : Nat} : atI xs (n : Int) = xs[n]? := by
  unfold atI ixN
  rw [if_pos (Int.natCast_nonneg n)]
  by_cases h : n < xs.length
  · rw [if_pos (by omega)]
    rfl
  · rw [if_neg (by omega)]
    exact (List.getElem?_eq_none (by omega)).symm
@[simp] theorem atI_0 {α : Type} {a : α} {xs : List α} : atI (a :: xs) 0 = some a := atI_lt (n := 0)
@[simp] theorem atI_1 {α : Type} {a b : α} {xs : List α} : atI (a :: b :: xs) 1 = some b := atI_lt (n := 1)
@[simp] theorem atI_2 {α : Type} {a b c : α} {xs : List α} : atI (a :: b :: c :: xs) 2 = some c := atI_lt (n := 2)
theorem mulOk_l {i j : Int} (h1 : -(2 ^ 64) < i) (h2 : i < 2 ^ 64) : mulOk i j = true := by
  unfold mulOk
  rw [decide_eq_true h1, decide_eq_true h2]
  rfl
theorem mulOk_r {i j : Int} (h1 : -(2 ^ 64) < j) (h2 : j < 2 ^ 64) : mulOk i j = true := by
  unfold mulOk
  rw [decide_eq_true h1, decide_eq_true h2, Bool.and_self, Bool.or_true, Bool.true_or]
end Dl

/-! D-layer, part 11: plain facts for the laws' own arithmetic. -/
namespace Dl
open PySem PySem.Spec PyProof.Rows L2 Evl
/-- A loop whose every turn goes on. -/
theorem forL_keep {t : D → Ss → Option Ss} {F : SF} (P : Nat → Ss → Prop) : ∀ (ds : List D) (n : Nat) (s : Ss), P n s →
    (∀ d ∈ ds, ∀ m s, m < n + ds.length → P m s → ∃ s1, t d s = some s1 ∧ ∃ s2, F s1 = .next s2 ∧ P (m + 1) s2) → ∃ s', forL t F ds s = .next s' ∧ P (n + ds.length) s'
  | [], n, s, h, _ => ⟨s, rfl, by simpa using h⟩
  | d :: ds, n, s, h, hs => by
    obtain ⟨s1, e1, s2, e2, h2⟩ := hs d (by simp) n s (by simp) h
    obtain ⟨s', e3, h3⟩ := forL_keep P ds (n + 1) s2 h2 fun d m k s b => hs d (by simp [m]) k s (by simp; omega)
    refine ⟨s', ?_, ?_⟩
    · rw [z_forL_cons, e1]
      simp only [e2, e3]
    · rw [List.length_cons, Nat.add_comm ds.length 1, ← Nat.add_assoc]
      exact h3
/-- A loop that folds. -/
theorem forL_fold {β : Type} {t : D → Ss → Option Ss} {F : SF} (P : β → Ss → Prop) (step : β → Int → β) :
    ∀ (xs : List Int) (b : β) (s : Ss), P b s →
    (∀ x ∈ xs, ∀ b s, P b s → ∃ s1, t (.int x) s = some s1 ∧ ∃ s2, F s1 = .next s2 ∧ P (step b x) s2) →
    ∃ s', forL t F (xs.map .int) s = .next s' ∧ P (xs.foldl step b) s'
  | [], b, s, h, _ => ⟨s, rfl, h⟩
  | x :: xs, b, s, h, hs => by
    obtain ⟨s1, e1, s2, e2, h2⟩ := hs x (by simp) b s h
    obtain ⟨s', e3, h3⟩ := forL_fold P step xs (step b x) s2 h2 fun d m => hs d (by simp [m])
    refine ⟨s', ?_, h3⟩
    rw [List.map_cons, z_forL_cons, e1]
    simp only [e2, e3]
theorem rangeL_eq (n : Nat) : rangeL 0 n = (List.range n).map fun i => D.int ((i : Nat) : Int) := by
  unfold rangeL
  simp
theorem rangeL_mem {n : Nat} {d : D} (h : d ∈ rangeL 0 n) : ∃ i : Nat, i < n ∧ d = .int i := by
  rw [rangeL_eq] at h
  simp at h
  obtain ⟨i, h1, h2⟩ := h
  exact ⟨i, h1, h2.symm⟩
theorem rngD_nat {n : Nat} (h : n < 2 ^ 62) : rngD (.int 0) (.int n) = .ok (rangeL 0 n) := by
  show (if rngOk 0 n then Rs.ok (rangeL 0 n) else .stuck) = _
  rw [if_pos]
  unfold rngOk
  simp only [Bool.and_eq_true, decide_eq_true_eq]
  omega
theorem cutL_to {α : Type} (xs : List α) (n : Nat) : cutL xs none (some (n : Int)) = xs.take n := by
  unfold cutL
  rw [HT.sIx_none, HT.sIx_nat, List.drop_zero, Nat.sub_zero]
  rcases Nat.le_total n xs.length with h | h
  · rw [Nat.min_eq_left h]
  · rw [Nat.min_eq_right h, List.take_length, List.take_of_length_le h]
theorem cutL_from {α : Type} (xs : List α) (n : Nat) : cutL xs (some (n : Int)) none = xs.drop n := by
  unfold cutL
  rw [HT.sIx_none, HT.sIx_nat]
  rcases Nat.le_total n xs.length with h | h
  · rw [Nat.min_eq_left h, List.take_of_length_le (by simp)]
  · rw [Nat.min_eq_right h, Nat.sub_self, List.take_zero, List.drop_eq_nil_of_le h]
theorem cutL_mid {α : Type} (xs : List α) (m n : Nat) : cutL xs (some (m : Int)) (some (n : Int)) = (xs.drop m).take (n - m) := by
  unfold cutL
  rw [HT.sIx_nat, HT.sIx_nat]
  rcases Nat.le_total m xs.length with h | h
  · rw [Nat.min_eq_left h]
    rcases Nat.le_total n xs.length with h' | h'
    · rw [Nat.min_eq_left h']
    · rw [Nat.min_eq_right h', List.take_of_length_le (by simp), List.take_of_length_le (by simp; omega)]
  · rw [Nat.min_eq_right h, List.drop_eq_nil_of_le (Nat.le_refl _), List.drop_eq_nil_of_le h]
    simp
theorem take_ints {ns : List Int} {n : Nat} {d : D} (h : d ∈ (ns.map D.int).take n) : ∃ a, a ∈ ns ∧ d = .int a := by
  have := List.mem_of_mem_take h
  simp at this
  obtain ⟨a, h1, h2⟩ := this
  exact ⟨a, h1, h2.symm⟩
theorem lc_map {α : Type} {t : D → Ss → Option Ss} {g : Ss → Rs Bool} {f : EF} {s : Ss} (q : α → D) (h : α → D) : ∀ (xs : List α) (acc : List D), acc.length + xs.length ≤ sizeLine →
    (∀ x ∈ xs, ∃ s1, t (q x) s = some s1 ∧ g s1 = .ok true ∧ f s1 = .ok (h x)) → lcL t g f s (xs.map q) acc = .ok (acc ++ xs.map h)
  | [], acc, _, _ => by
    unfold lcL
    simp
  | x :: xs, acc, l, hs => by
    obtain ⟨s1, e1, e2, e3⟩ := hs x (by simp)
    rw [List.map_cons]
    unfold lcL
    rw [List.length_cons] at l
    simp only [e1, e2, e3]
    rw [if_pos (by omega), lc_map q h xs (acc ++ [h x]) (by simp; omega) fun x m => hs x (by simp [m])]
    simp
/-! deep equality of lists of ints -/
theorem toPyL_ints : ∀ xs : List Int, toPyL (xs.map .int) = some (xs.map .int)
  | [] => rfl
  | x :: xs => by
    show (match toPy (.int x), toPyL (xs.map .int) with
      | some x, some xs => some (x :: xs)
      | _, _ => none) = _
    rw [toPyL_ints xs]
    rfl
theorem lay_ints : ∀ xs : List Int, PyData.canLayAll0 (xs.map .int) = true
  | [] => by simp [PyData.canLayAll0]
  | x :: xs => by simp [PyData.canLayAll0, PyData.canLay0, lay_ints xs]
theorem depth_ints : ∀ xs : List Int, PyData.depthAll (xs.map .int) ≤ 1
  | [] => by simp [PyData.depthAll]
  | x :: xs => by have := depth_ints xs; simp [PyData.depthAll, PyData.depth] <;> omega
theorem shaped_ints (xs : List Int) : SeqAt.shaped (.list (xs.map .int)) = true := by
  have := depth_ints xs
  simp [SeqAt.shaped, PyData.canLay0, lay_ints, PyData.depth]
  omega
theorem eqv_ints : ∀ xs ys : List Int, PyData.eqvAll (xs.map .int) (ys.map .int) = decide (xs = ys)
  | [], [] => by simp [PyData.eqvAll]
  | [], y :: ys => by simp [PyData.eqvAll]
  | x :: xs, [] => by simp [PyData.eqvAll]
  | x :: xs, y :: ys => by
    simp [PyData.eqvAll, PyData.eqv, eqv_ints xs ys]
    rfl
theorem eqK_ints (k : Bool → Bool) (xs ys : List Int) : eqK k (.lst (xs.map .int)) (.lst (ys.map .int)) = .ok (.bl (k (decide (xs = ys)))) := by
  show deepEq _ _ k = _
  have q : ∀ xs : List Int, toPy (.lst (xs.map .int)) = some (.list (xs.map .int)) := fun xs => by
    show (toPyL _).map _ = _
    rw [toPyL_ints]
    rfl
  unfold deepEq
  rw [q, q]
  simp only [shaped_ints, Bool.and_self, if_true]
  rw [show PyData.eqv (.list (xs.map .int)) (.list (ys.map .int)) = PyData.eqvAll (xs.map .int) (ys.map .int) from by simp [PyData.eqv], eqv_ints]
theorem eqD_ints (xs ys : List Int) : eqD (.lst (xs.map .int)) (.lst (ys.map .int)) = .ok (.bl (decide (xs = ys))) := eqK_ints id xs ys
theorem neD_ints (xs ys : List Int) : neD (.lst (xs.map .int)) (.lst (ys.map .int)) = .ok (.bl (!decide (xs = ys))) := eqK_ints not xs ys
theorem addD_ints {xs ys : List Int} (h : xs.length + ys.length ≤ sizeLine) : addD (.lst (xs.map .int)) (.lst (ys.map .int)) = .ok (.lst ((xs ++ ys).map .int)) := by
  show (if _ then _ else _) = _
  rw [if_pos (by simpa using h), List.map_append]
theorem mul_small {i j : Int} (h : -(2 ^ 64) < j ∧ j < 2 ^ 64 ∨ -(2 ^ 64) < i ∧ i < 2 ^ 64) : mulOk i j = true := h.elim (fun h => mulOk_r h.1 h.2) fun h => mulOk_l h.1 h.2
theorem ixN_neg1 {α : Type} (xs : List α) (x : α) : atI (xs ++ [x]) (-1) = some x := by
  unfold atI ixN
  rw [if_neg (by omega), if_pos (by simp; omega)]
  have e : ((-1 : Int) + ((xs ++ [x]).length : Nat)).toNat = xs.length := by simp; omega
  rw [e]
  simp
end Dl

set_option maxHeartbeats 0

namespace Law
open PySem PySem.Spec PyProof.Rows L2 Evl Dl
def top (i : Nat) : Stmt := PySem.Challenge.pw_leastpurse_k43_need_of_a_run.main.body.getD i (.Pass ⟨0, 0, 0, 0⟩)
abbrev s_law_draws : Stmt := top 5
abbrev s_law_at : Stmt := top 6
abbrev s_law_row : Stmt := top 9
abbrev s_law_is_integer : Stmt := top 3
abbrev s_law_equal : Stmt := top 7
abbrev s_run_need : Stmt := top 1
abbrev s_law_due : Stmt := top 8
abbrev s_law_cell : Stmt := top 4
abbrev s_law : Stmt := top 10
def fn0 : He.DefD := ⟨("_law_draws", none), "_law_draws", "_law_draws", defArgs s_law_draws, defBody s_law_draws, defScope s_law_draws, [], []⟩
def fn1 : He.DefD := ⟨("_law_at", none), "_law_at", "_law_at", defArgs s_law_at, defBody s_law_at, defScope s_law_at, [], []⟩
def fn2 : He.DefD := ⟨("_law_row", none), "_law_row", "_law_row", defArgs s_law_row, defBody s_law_row, defScope s_law_row, [], []⟩
def fn3 : He.DefD := ⟨("_law_is_integer", none), "_law_is_integer", "_law_is_integer", defArgs s_law_is_integer, defBody s_law_is_integer, defScope s_law_is_integer, [], []⟩
def fn4 : He.DefD := ⟨("_law_equal", none), "_law_equal", "_law_equal", defArgs s_law_equal, defBody s_law_equal, defScope s_law_equal, [], []⟩
def fn5 : He.DefD := ⟨("run_need", none), "run_need", "run_need", defArgs s_run_need, defBody s_run_need, defScope s_run_need, [], [("needed", .int 0)]⟩
def fn6 : He.DefD := ⟨("_law_due", none), "_law_due", "_law_due", defArgs s_law_due, defBody s_law_due, defScope s_law_due, [], []⟩
def fn7 : He.DefD := ⟨("_law_cell", none), "_law_cell", "_law_cell", defArgs s_law_cell, defBody s_law_cell, defScope s_law_cell, [], []⟩
def fn8 : He.DefD := ⟨("law", none), "law", "law", defArgs s_law, defBody s_law, defScope s_law, [], []⟩
def fn : List He.DefD := [fn0, fn1, fn2, fn3, fn4, fn5, fn6, fn7, fn8]
def fa : List He.Fa := [.free "range", .free "int", .glo "_law_draws", .free "len", .glo "_law_at", .free "min", .glo "_law_row", .free "isinstance", .free "bool", .glo "_law_is_integer", .glo "_law_equal", .free "max", .glo "run_need", .glo "_law_due", .glo "_law_cell", .free "list", .free "tuple", .glo "law"]
abbrev HdX (W : Wd) (mg : Str → Option Value) (base : Heap) : Prop := Hd fa fn W mg base
section
variable {P : Program} {w : World} {W : Wd} {mg : Str → Option Value} {base : Heap}
/-! ### _law_draws -/
theorem sc_law_draws : FnScope ["_law_script", "_law_found", "_law_cell_here", "_law_rest", "_law_k", "_law_mixed"] ["_law_script"] (defScope s_law_draws) := ⟨rfl, rfl, rfl, by decide +kernel, rfl, by decide +kernel, by decide +kernel⟩
def B_law_draws : SF :=
  (seqF (ownE 1 nilA)
  (seqF (forF (lstE (cutE (atB 0) noP (someP (cE (.int 63))))) (tgN 2)
  (ifF (cmpT (atB 2) (eb (cE (.int 10)) (cE (.int 18)) powD) geD)
  (seqF (setE 3 (atV 2))
  (forR1 (cE (.int 60)) (tgN 4)
  (ifF (cmpT (atB 3) (cE (.int 0)) gtD)
  (seqF (appF 1 (eb (eu (atB 3) int1D) (cE (.int 1000)) modD))
  (setE 3 (eb (atB 3) (cE (.int 1000)) divD)))
  nextE)))
  (forR1 (cE (.int 4)) (tgN 4)
  (seqF (setE 5 (eb (eu (eb (eb (eb (atB 2) (cE (.int 48271)) mulD) (eb (atB 4) (cE (.int 69621)) mulD) addD) (cE (.int 11)) addD) int1D) (cE (.int 2147483647)) modD))
  (seqF (setE 5 (eb (eu (eb (eb (atB 5) (cE (.int 16807)) mulD) (eb (atB 5) (cE (.int 127773)) divD) addD) int1D) (cE (.int 998244353)) modD))
  (appF 1 (eb (eb (atB 5) (cE (.int 7)) divD) (cE (.int 1000)) modD)))))))
  (frzE 1 (retE (atV 1)))))
def F_law_draws : List D → Res := runD 1 6 B_law_draws
theorem ok_law_draws (h : HdX W mg base) : Cal P w W mg base 1 "_law_draws" [] F_law_draws :=
  h.cal 0 2 rfl rfl rfl rfl rfl sc_law_draws (fun _ _ _ _ _ _ us hl => match us, hl with | [_], _ => rfl) fun f cdv A outer s H M0 E hr B =>
    (qss_cons (g_own B 1 (g_lst g_nilA lenA_nil))
    (qss_cons (qs_for B (g_lstE (g_cut rfl (qb_name 0) g_noP (g_someP qe_int))) (qg_name (i := 2) B)
    (qss_one (qs_if (g_cmpT op_geA (qb_name 2) (QE.tob (qe_pow (QE.tob qe_int) (QE.tob qe_int))))
    (qss_cons (g_set B 3 (qe_name 2))
    (qss_one (qs_forR1 B (h.free 0) qe_int (qg_name (i := 4) B)
    (qss_one (qs_if (g_cmpT op_gtA (qb_name 3) (QE.tob qe_int))
    (qss_cons (g_append 1 (qe_mod (QE.tob (qe_int1 (h.free 1) (qb_name 3))) (QE.tob qe_int)))
    (qss_one (g_set B 3 (qe_div (qb_name 3) (QE.tob qe_int)))))
    g_nil)))))
    (qss_one (qs_forR1 B (h.free 0) qe_int (qg_name (i := 4) B)
    (qss_cons (g_set B 5 (qe_mod (QE.tob (qe_int1 (h.free 1) (QE.tob (qe_add rfl (QE.tob (qe_add rfl (QE.tob (qe_mul (qb_name 2) (QE.tob qe_int))) (QE.tob (qe_mul (qb_name 4) (QE.tob qe_int))))) (QE.tob qe_int))))) (QE.tob qe_int)))
    (qss_cons (g_set B 5 (qe_mod (QE.tob (qe_int1 (h.free 1) (QE.tob (qe_add rfl (QE.tob (qe_mul (qb_name 5) (QE.tob qe_int))) (QE.tob (qe_div (qb_name 5) (QE.tob qe_int))))))) (QE.tob qe_int)))
    (qss_one (g_append 1 (qe_mod (QE.tob (qe_div (qb_name 5) (QE.tob qe_int))) (QE.tob qe_int)))))))))))
    (qss_one (g_frz 1 (g_ret (qe_name 1))))))
/-! ### _law_at -/
theorem sc_law_at : FnScope ["_law_draws_here", "_law_k"] ["_law_draws_here", "_law_k"] (defScope s_law_at) := ⟨rfl, rfl, rfl, by decide +kernel, rfl, by decide +kernel, by decide +kernel⟩
def B_law_at : SF :=
  (seqF (ifF (cmpT (atB 1) (eu (atB 0) lenD) ltD)
  (retE (eb (atB 0) (atB 1) ixD))
  nextE)
  (retE (cE (.int 0))))
def F_law_at : List D → Res := runD 2 2 B_law_at
theorem ok_law_at (h : HdX W mg base) : Cal P w W mg base 1 "_law_at" [] F_law_at :=
  h.cal 1 4 rfl rfl rfl rfl rfl sc_law_at (fun _ _ _ _ _ _ us hl => match us, hl with | [_, _], _ => rfl) fun f cdv A outer s H M0 E hr B =>
    (qss_cons (qs_if (g_cmpT op_ltA (qb_name 1) (QE.tob (qe_len rfl (h.free 3) (qb_name 0))))
    (qss_one (g_ret (qe_ix rfl (qb_name 0) (qb_name 1))))
    g_nil)
    (qss_one (g_ret qe_int)))
/-! ### _law_row -/
theorem sc_law_row : FnScope ["_law_script", "_law_draws_here", "_law_found", "_law_k", "_law_draw", "_law_cell_here"] ["_law_script", "_law_draws_here"] (defScope s_law_row) := ⟨rfl, rfl, rfl, by decide +kernel, rfl, by decide +kernel, by decide +kernel⟩
def B_law_row : SF :=
  (seqF (ifF (cmpT (eb (callE (consA (atV 1) (consA (cE (.int 0)) nilA)) F_law_at) (cE (.int 4)) modD) (cE (.int 1)) eqD)
  (retE (lstE (lcF [5] (lstE (cutE (atB 0) noP (someP (cE (.int 60))))) (tgN 5) (fun _ => .ok true) (eb (eb (eu (atB 5) int1D) (eb (eb (cE (.int 2)) (eb (cE (.int 10)) (cE (.int 60)) powD) mulD) (cE (.int 1)) addD) modD) (eb (cE (.int 10)) (cE (.int 60)) powD) subD))))
  nextE)
  (seqF (ownE 2 nilA)
  (seqF (forR1 (eb (cE (.int 60)) (eu (atB 1) lenD) minD) (tgN 3)
  (seqF (setE 4 (callE (consA (atV 1) (consA (atV 3) nilA)) F_law_at))
  (appF 2 (eb (eb (lstE (consA (cE (.int 1)) (consA (eu (cE (.int 1)) negD) nilA))) (eb (atB 4) (cE (.int 2)) modD) ixD) (eb (eb (atB 4) (cE (.int 2)) divD) (cE (.int 41)) modD) mulD))))
  (frzE 2 (retE (atV 2))))))
def F_law_row : List D → Res := runD 2 6 B_law_row
theorem ok_law_row (h : HdX W mg base) (c_law_at : Cal P w W mg base 1 "_law_at" [] F_law_at) : Cal P w W mg base 2 "_law_row" [] F_law_row :=
  h.cal 2 6 rfl rfl rfl rfl rfl sc_law_row (fun _ _ _ _ _ _ us hl => match us, hl with | [_, _], _ => rfl) fun f cdv A outer s H M0 E hr B =>
    (qss_cons (qs_if (g_cmpT (op_eqA rfl hr.units) (QE.tob (qe_mod (QE.tob (g_call B c_law_at (qa_cons (qe_name 1) (qa_cons qe_int g_nilA)))) (QE.tob qe_int))) (QE.tob qe_int))
    (qss_one (g_ret (g_lstE (ql_lcN (i := 5) B (g_lstE (g_cut rfl (qb_name 0) g_noP (g_someP qe_int))) (blkOk_by (N := ["_law_script", "_law_draws_here", "_law_found", "_law_k", "_law_draw", "_law_cell_here"]) (sc := defScope s_law_row) (by decide +kernel)) rfl (fun _ _ _ _ _ => Or.inl rfl) (fun _ _ _ _ _ => Or.inr rfl) (fun _ _ _ _ _ => pts_nil) tst_yes (fun _ _ _ _ _ B => (qe_sub (QE.tob (qe_mod (QE.tob (qe_int1 (h.free 1) (qb_name 5))) (QE.tob (qe_add rfl (QE.tob (qe_mul (QE.tob qe_int) (QE.tob (qe_pow (QE.tob qe_int) (QE.tob qe_int))))) (QE.tob qe_int))))) (QE.tob (qe_pow (QE.tob qe_int) (QE.tob qe_int)))))))))
    g_nil)
    (qss_cons (g_own B 2 (g_lst g_nilA lenA_nil))
    (qss_cons (qs_forR1 B (h.free 0) (qe_min B (h.free 5) (QE.tob qe_int) (QE.tob (qe_len rfl (h.free 3) (qb_name 1)))) (qg_name (i := 3) B)
    (qss_cons (g_set B 4 (g_call B c_law_at (qa_cons (qe_name 1) (qa_cons (qe_name 3) g_nilA))))
    (qss_one (g_append 2 (qe_mul (QE.tob (qe_ix rfl (QE.tob (g_lstE (g_lst (qa_cons qe_int (qa_cons (qe_neg (QE.tob qe_int)) g_nilA)) (lenA_cons (lenA_cons lenA_nil))))) (QE.tob (qe_mod (qb_name 4) (QE.tob qe_int))))) (QE.tob (qe_mod (QE.tob (qe_div (qb_name 4) (QE.tob qe_int))) (QE.tob qe_int))))))))
    (qss_one (g_frz 2 (g_ret (qe_name 2)))))))
/-! ### _law_is_integer -/
theorem sc_law_is_integer : FnScope ["_law_value"] ["_law_value"] (defScope s_law_is_integer) := ⟨rfl, rfl, rfl, by decide +kernel, rfl, by decide +kernel, by decide +kernel⟩
def B_law_is_integer : SF :=
  (retE (andV (eu (atB 0) (isTD "int")) (eu (eu (atB 0) (isTD "bool")) notV)))
def F_law_is_integer : List D → Res := runD 1 1 B_law_is_integer
theorem ok_law_is_integer (h : HdX W mg base) : Cal P w W mg base 1 "_law_is_integer" [] F_law_is_integer :=
  h.cal 3 9 rfl rfl rfl rfl rfl sc_law_is_integer (fun _ _ _ _ _ _ us hl => match us, hl with | [_], _ => rfl) fun f cdv A outer s H M0 E hr B =>
    (qss_one (g_ret (qe_and (qe_isT rfl (h.free 7) (qb_name 0) (g_tblt (h.free 1) (by decide +kernel))) (qe_one (qe_not (qe_isT rfl (h.free 7) (qb_name 0) (g_tblt (h.free 8) (by decide +kernel))))))))
/-! ### _law_equal -/
theorem sc_law_equal : FnScope ["_law_value", "_law_due_here"] ["_law_value", "_law_due_here"] (defScope s_law_equal) := ⟨rfl, rfl, rfl, by decide +kernel, rfl, by decide +kernel, by decide +kernel⟩
def B_law_equal : SF :=
  (seqF (ifF (orR (cmpT (atB 1) (cE .non) (isND id)) (cmpT (atB 0) (cE .non) (isND id)))
  (retE (andV (eb (atB 0) (cE .non) (isND id)) (eb (atB 1) (cE .non) (isND id))))
  nextE)
  (retE (andV (callE (consA (atV 0) nilA) F_law_is_integer) (eb (atB 0) (atB 1) eqD))))
def F_law_equal : List D → Res := runD 2 2 B_law_equal
theorem ok_law_equal (h : HdX W mg base) (c_law_is_integer : Cal P w W mg base 1 "_law_is_integer" [] F_law_is_integer) : Cal P w W mg base 2 "_law_equal" [] F_law_equal :=
  h.cal 4 10 rfl rfl rfl rfl rfl sc_law_equal (fun _ _ _ _ _ _ us hl => match us, hl with | [_, _], _ => rfl) fun f cdv A outer s H M0 E hr B =>
    (qss_cons (qs_if (QW.t (qw_or (g_cmpT op_isA (qb_name 1) (QE.tob qe_non)) (qw_or1 (g_cmpT op_isA (qb_name 0) (QE.tob qe_non)))))
    (qss_one (g_ret (qe_and (qe_cmp op_isA (qb_name 0) (QE.tob qe_non)) (qe_one (qe_cmp op_isA (qb_name 1) (QE.tob qe_non))))))
    g_nil)
    (qss_one (g_ret (qe_and (g_call B c_law_is_integer (qa_cons (qe_name 0) g_nilA)) (qe_one (qe_cmp (op_eqA rfl hr.units) (qb_name 0) (qb_name 1)))))))
/-! ### run_need -/
theorem sc_run_need : FnScope ["amounts", "needed", "least", "amount"] ["amounts", "needed"] (defScope s_run_need) := ⟨rfl, rfl, rfl, by decide +kernel, rfl, by decide +kernel, by decide +kernel⟩
def B_run_need : SF :=
  (seqF (ifF (cmpT (atB 1) (cE .non) (isND id))
  (retE (cE .non))
  nextE)
  (seqF (setE 2 (atV 1))
  (seqF (forF (eu (atB 0) revD) (tgN 3)
  (setE 2 (eb (cE (.int 0)) (eb (atB 2) (atB 3) subD) maxD)))
  (retE (atV 2)))))
def F_run_need : List D → Res := runD 2 4 B_run_need
theorem raw_run_need (h : HdX W mg base) : Raw P w W mg base 1 "run_need" (fn.getD 5 fn0) ["amounts", "needed"] F_run_need :=
  h.raw 5 12 rfl rfl rfl sc_run_need fun f cdv A outer s H M0 E hr B =>
    (qss_cons (qs_if (g_cmpT op_isA (qb_name 1) (QE.tob qe_non))
    (qss_one (g_ret qe_non))
    g_nil)
    (qss_cons (g_set B 2 (qe_name 1))
    (qss_cons (qs_for B (qe_rev rfl (qb_name 0)) (qg_name (i := 3) B)
    (qss_one (g_set B 2 (qe_max B (h.free 11) (QE.tob qe_int) (QE.tob (qe_sub (qb_name 2) (qb_name 3)))))))
    (qss_one (g_ret (qe_name 2))))))
/-! ### _law_due -/
theorem sc_law_due : FnScope ["_law_amounts", "_law_wanted", "_law_total", "_law_least", "_law_amount"] ["_law_amounts", "_law_wanted"] (defScope s_law_due) := ⟨rfl, rfl, rfl, by decide +kernel, rfl, by decide +kernel, by decide +kernel⟩
def B_law_due : SF :=
  (seqF (ifF (cmpT (atB 1) (cE .non) (isND id))
  (retE (cE .non))
  nextE)
  (seqF (setE 2 (cE (.int 0)))
  (seqF (setE 3 (cE (.int 0)))
  (seqF (forF (atV 0) (tgN 4)
  (seqF (setE 2 (eb (atB 2) (atB 4) addD))
  (setE 3 (eb (eu (eb (cE (.int 0)) (atB 2) subD) int1D) (atB 3) maxD))))
  (retE (eb (eu (eb (atB 1) (atB 2) subD) int1D) (atB 3) maxD))))))
def F_law_due : List D → Res := runD 2 5 B_law_due
theorem ok_law_due (h : HdX W mg base) : Cal P w W mg base 1 "_law_due" [] F_law_due :=
  h.cal 6 13 rfl rfl rfl rfl rfl sc_law_due (fun _ _ _ _ _ _ us hl => match us, hl with | [_, _], _ => rfl) fun f cdv A outer s H M0 E hr B =>
    (qss_cons (qs_if (g_cmpT op_isA (qb_name 1) (QE.tob qe_non))
    (qss_one (g_ret qe_non))
    g_nil)
    (qss_cons (g_set B 2 qe_int)
    (qss_cons (g_set B 3 qe_int)
    (qss_cons (qs_for B (qe_name 0) (qg_name (i := 4) B)
    (qss_cons (g_set B 2 (qe_add rfl (qb_name 2) (qb_name 4)))
    (qss_one (g_set B 3 (qe_max B (h.free 11) (QE.tob (qe_int1 (h.free 1) (QE.tob (qe_sub (QE.tob qe_int) (qb_name 2))))) (qb_name 3))))))
    (qss_one (g_ret (qe_max B (h.free 11) (QE.tob (qe_int1 (h.free 1) (QE.tob (qe_sub (qb_name 1) (qb_name 2))))) (qb_name 3))))))))
/-! ### _law_cell -/
theorem sc_law_cell : FnScope ["_law_script", "_law_k"] ["_law_script", "_law_k"] (defScope s_law_cell) := ⟨rfl, rfl, rfl, by decide +kernel, rfl, by decide +kernel, by decide +kernel⟩
def B_law_cell : SF :=
  (seqF (ifF (cmpT (atB 1) (eu (atB 0) lenD) ltD)
  (retE (eb (atB 0) (atB 1) ixD))
  nextE)
  (retE (cE (.int 0))))
def F_law_cell : List D → Res := runD 2 2 B_law_cell
theorem ok_law_cell (h : HdX W mg base) : Cal P w W mg base 1 "_law_cell" [] F_law_cell :=
  h.cal 7 14 rfl rfl rfl rfl rfl sc_law_cell (fun _ _ _ _ _ _ us hl => match us, hl with | [_, _], _ => rfl) fun f cdv A outer s H M0 E hr B =>
    (qss_cons (qs_if (g_cmpT op_ltA (qb_name 1) (QE.tob (qe_len rfl (h.free 3) (qb_name 0))))
    (qss_one (g_ret (qe_ix rfl (qb_name 0) (qb_name 1))))
    g_nil)
    (qss_one (g_ret qe_int)))
/-! ### law -/
theorem sc_law : FnScope ["_law_script", "_law_draws_here", "_law_amounts", "_law_wanted", "_law_given", "_law_passed"] ["_law_script"] (defScope s_law) := ⟨rfl, rfl, rfl, by decide +kernel, rfl, by decide +kernel, by decide +kernel⟩
def B_law : SF :=
  (seqF (setE 1 (callE (consA (atV 0) nilA) F_law_draws))
  (seqF (setE 2 (callE (consA (atV 0) (consA (atV 1) nilA)) F_law_row))
  (seqF (forF (lstE (consA (cE (.int 0)) (consA (eb (callE (consA (atV 1) (consA (cE (.int 1)) nilA)) F_law_at) (cE (.int 25)) modD) (consA (eb (eu (callE (consA (atV 0) (consA (cE (.int 1)) nilA)) F_law_cell) int1D) (eb (eb (eb (cE (.int 10)) (cE (.int 60)) powD) (eb (cE (.int 10)) (cE (.int 20)) powD) mulD) (cE (.int 1)) addD) modD) (consA (cE .non) nilA))))) (tgN 3)
  (seqF (ownE 4 (listR (atB 2)))
  (seqF (forD 5 [] (aliI 4 (consI (eu (atB 2) tupleD) (aliI 4 nilI)))
  (ifF (notT (truT (callE (consA (callKE 1 1 (fun a b => a ++ b) (consA (atB 5) nilA) (consA (atB 3) nilA) F_run_need) (consA (callE (consA (atV 2) (consA (atV 3) nilA)) F_law_due) nilA)) F_law_equal)))
  (retE (cE (.bl false)))
  nextE))
  (seqF (ifF (cmpT (atB 4) (atB 2) neD)
  (retE (cE (.bl false)))
  nextE)
  (seqF (appF 4 (eu (cE (.int 3)) negD))
  (ifF (notT (truT (callE (consA (callKE 1 1 (fun a b => a ++ b) (consA (atB 4) nilA) (consA (atB 3) nilA) F_run_need) (consA (callE (consA (eb (atB 2) (lstE (consA (eu (cE (.int 3)) negD) nilA)) addD) (consA (atV 3) nilA)) F_law_due) nilA)) F_law_equal)))
  (retE (cE (.bl false)))
  nextE))))))
  (retE (andV (callE (consA (callDE (consA (lstE (listR (atB 2))) nilA) [.int 0] F_run_need) (consA (callE (consA (atV 2) (consA (cE (.int 0)) nilA)) F_law_due) nilA)) F_law_equal) (eb (callDE (consA (lstE nilA) nilA) [.int 0] F_run_need) (cE (.int 0)) eqD))))))
def F_law : List D → Res := runD 1 6 B_law
theorem raw_law (h : HdX W mg base) (c_law_draws : Cal P w W mg base 1 "_law_draws" [] F_law_draws) (c_law_row : Cal P w W mg base 2 "_law_row" [] F_law_row) (c_law_cell : Cal P w W mg base 1 "_law_cell" [] F_law_cell) (c_law_at : Cal P w W mg base 1 "_law_at" [] F_law_at) (c_law_equal : Cal P w W mg base 2 "_law_equal" [] F_law_equal) (c_law_due : Cal P w W mg base 1 "_law_due" [] F_law_due) (k1_run_need_needed : CalK P w W mg base 1 "run_need" 1 ["needed"] (fun a b => a ++ b) F_run_need) (d1_run_need : Cal P w W mg base 1 "run_need" [.int 0] F_run_need) : Raw P w W mg base 3 "law" (fn.getD 8 fn0) ["_law_script"] F_law :=
  h.raw 8 17 rfl rfl rfl sc_law fun f cdv A outer s H M0 E hr B =>
    (qss_cons (g_set B 1 (g_call B c_law_draws (qa_cons (qe_name 0) g_nilA)))
    (qss_cons (g_set B 2 (g_call B c_law_row (qa_cons (qe_name 0) (qa_cons (qe_name 1) g_nilA))))
    (qss_cons (qs_for B (g_lstE (g_lst (qa_cons qe_int (qa_cons (qe_mod (QE.tob (g_call B c_law_at (qa_cons (qe_name 1) (qa_cons qe_int g_nilA)))) (QE.tob qe_int)) (qa_cons (qe_mod (QE.tob (qe_int1 (h.free 1) (QE.tob (g_call B c_law_cell (qa_cons (qe_name 0) (qa_cons qe_int g_nilA)))))) (QE.tob (qe_add rfl (QE.tob (qe_mul (QE.tob (qe_pow (QE.tob qe_int) (QE.tob qe_int))) (QE.tob (qe_pow (QE.tob qe_int) (QE.tob qe_int))))) (QE.tob qe_int)))) (qa_cons qe_non g_nilA)))) (lenA_cons (lenA_cons (lenA_cons (lenA_cons lenA_nil)))))) (qg_name (i := 3) B)
    (qss_cons (g_own B 4 (ql_list rfl (h.free 15) (qb_name 2)))
    (qss_cons (qs_forD (i := 5) B (g_aliI 4 (g_consI (qe_tuple rfl (h.free 16) (qb_name 2)) (g_aliI 4 g_nilI)))
    (qss_one (qs_if (g_notT (g_tru rfl (QE.tob (g_call B c_law_equal (qa_cons (g_callK B k1_run_need_needed (qab_cons (qb_name 5) g_nilAB) (qk_cons (qb_name 3) g_nilK fun a b => pk_cons a b)) (qa_cons (g_call B c_law_due (qa_cons (qe_name 2) (qa_cons (qe_name 3) g_nilA))) g_nilA))))))
    (qss_one (g_ret qe_bl))
    g_nil)))
    (qss_cons (qs_if (g_cmpT (op_neA rfl hr.units) (qb_name 4) (qb_name 2))
    (qss_one (g_ret qe_bl))
    g_nil)
    (qss_cons (g_append 4 (qe_neg (QE.tob qe_int)))
    (qss_one (qs_if (g_notT (g_tru rfl (QE.tob (g_call B c_law_equal (qa_cons (g_callK B k1_run_need_needed (qab_cons (qb_name 4) g_nilAB) (qk_cons (qb_name 3) g_nilK fun a b => pk_cons a b)) (qa_cons (g_call B c_law_due (qa_cons (qe_add rfl (qb_name 2) (QE.tob (g_lstE (g_lst (qa_cons (qe_neg (QE.tob qe_int)) g_nilA) (lenA_cons lenA_nil))))) (qa_cons (qe_name 3) g_nilA))) g_nilA))))))
    (qss_one (g_ret qe_bl))
    g_nil)))))))
    (qss_one (g_ret (qe_and (g_call B c_law_equal (qa_cons (g_callD B d1_run_need (qab_cons (QE.tob (g_lstE (ql_list rfl (h.free 15) (qb_name 2)))) g_nilAB)) (qa_cons (g_call B c_law_due (qa_cons (qe_name 2) (qa_cons qe_int g_nilA))) g_nilA))) (qe_one (qe_cmp (op_eqA rfl hr.units) (QE.tob (g_callD B d1_run_need (qab_cons (QE.tob (g_lstE (g_lst g_nilA lenA_nil))) g_nilAB))) (QE.tob qe_int)))))))))
theorem all_ok (h : HdX W mg base) : Raw P w W mg base 3 "law" (fn.getD 8 fn0) ["_law_script"] F_law := by
  have c_law_draws : Cal P w W mg base 1 "_law_draws" [] F_law_draws := ok_law_draws h
  have c_law_at : Cal P w W mg base 1 "_law_at" [] F_law_at := ok_law_at h
  have c_law_row : Cal P w W mg base 2 "_law_row" [] F_law_row := ok_law_row h c_law_at
  have c_law_is_integer : Cal P w W mg base 1 "_law_is_integer" [] F_law_is_integer := ok_law_is_integer h
  have c_law_equal : Cal P w W mg base 2 "_law_equal" [] F_law_equal := ok_law_equal h c_law_is_integer
  have k1_run_need_needed : CalK P w W mg base 1 "run_need" 1 ["needed"] (fun a b => a ++ b) F_run_need := (raw_run_need h).calK 1 ["needed"] rfl (by decide) (fun _ _ _ _ _ _ us ws l1 l2 => match us, ws, l1, l2 with | [_], [_], _, _ => rfl)
  have d1_run_need : Cal P w W mg base 1 "run_need" [.int 0] F_run_need := (raw_run_need h).calD 1 rfl (by decide) rfl (fun _ _ => (.cons (rep_int _) .nil)) (fun _ _ _ _ _ _ us ks l1 l2 => match us, ks, l1, l2 with | [_], [_], _, _ => ⟨_, _, _, _, _, _, rfl, rfl, rfl⟩)
  have c_law_due : Cal P w W mg base 1 "_law_due" [] F_law_due := ok_law_due h
  have c_law_cell : Cal P w W mg base 1 "_law_cell" [] F_law_cell := ok_law_cell h
  exact raw_law h c_law_draws c_law_row c_law_cell c_law_at c_law_equal c_law_due k1_run_need_needed d1_run_need
end
abbrev R : PySem.W.OpenRow := PySem.W.OpenLaw.row PySem.Challenge.rw_leastpurse_k43_need_of_a_run
abbrev hk : PySem.W.Hook := He.hookD 5 fa fn
def ob (s : PySem.W.SharedT) : He.AlD := He.obsDG 5 fa fn (HandSHeadRun.getT s)
theorem ob_eq (s : PySem.W.SharedT) : ob s = hk.obs s.abs := He.obsDG_eq (HandSHeadRun.getT_eq s)
def loose : List Str := (["run_need", "_law_is_integer", "_law_cell", "_law_draws", "_law_at", "_law_equal", "_law_due", "_law_row"] : List Str)
theorem run (w : World) : HandSHeadRun.RunEq R (PySem.W.view R.prog [10]) hk ob 3000 loose w := by
  intro os
  kernel_rfl
theorem facts {P : Program} {w : World} {K : PySem.W.Frag} {h : Heap} {mg : Str → Option Value} {f : Addr} (X : K.In h) (G : h.Ns mainGlobals mg) (hfa : mg ("law" : Str) = some (.ref f)) (c : He.SaysD fa fn K)
    (true_ : ∀ ns : List Int, ns.length ≤ 63 → F_law [.scr (ns.map D.int)] = .ok (.bl true)) :
    ∃ (fd : FuncData) (sp : Sp), (∀ (s : Shared) (v : Value), BindsTo s fd ⟨[v], []⟩ [("_law_script", v)]) ∧ (∀ (H : Hp) (a : Addr) (ns : List Int), ns.length ≤ 63 → SqL K H a (ns.map V.int) → sp [.ref a] H (fun v _ => v = .bl true) fun _ _ _ => False) ∧
      ∀ base : Heap, K.In base → base.Ns mainGlobals mg → FnOk P w K mg base (L2.CX P w) 3 f fd ["_law_script"] sp := by
  obtain ⟨fd, F⟩ := c.def_ 8 (d := fn8) rfl
  have e := hfa.symm.trans (He.glo_ok X G (c.fact 17 (f := .glo "law") rfl))
  cases e
  have b := FunD.bindsA (ps := ["_law_script"]) F fun _ _ _ _ _ _ us hl => match us, hl with | [_], _ => rfl
  let W : Wd := ⟨K, fun _ => 0, fun _ => []⟩
  refine ⟨fd, spD W F_law, fun s v => b s [v] rfl, fun H a ns hn hS => end_sp (W := W) hS (true_ ns hn), fun base hK hG => ?_⟩
  obtain ⟨f', fd', FO, hm, FD⟩ := (all_ok (P := P) (w := w) (W := W) (base := base) ⟨c, hK, hG⟩).ex
  have e2 := hfa.symm.trans hm
  cases e2
  have e3 := FunD.uniq F FD
  cases e3
  exact FO
/-! the shared parts of the laws -/
theorem is_integer_i (i : Int) : F_law_is_integer [.int i] = .ok (.bl true) := by
  simp [F_law_is_integer, B_law_is_integer]
theorem is_integer_n : F_law_is_integer [.non] = .ok (.bl false) := by
  simp [F_law_is_integer, B_law_is_integer]
theorem at_ok (ws : List Int) (k : Nat) : F_law_at [.lst (ws.map .int), .int k] = .ok (.int (ws.getD k 0)) := by
  simp [F_law_at, B_law_at]
  by_cases h : k < ws.length
  · rw [if_pos h, atI_map, atI_lt]
    simp [h, liftF, resO, Rs.bind]
  · rw [if_neg h]
    simp [h, liftF, resO, List.getD_eq_getElem?_getD]
theorem cell_ok (ws : List Int) (k : Nat) : F_law_cell [.scr (ws.map .int), .int k] = .ok (.int (ws.getD k 0)) := by
  simp [F_law_cell, B_law_cell]
  by_cases h : k < ws.length
  · rw [if_pos h, atI_map, atI_lt]
    simp [h, liftF, resO, Rs.bind]
  · rw [if_neg h]
    simp [h, liftF, resO, List.getD_eq_getElem?_getD]
theorem pow_1018 : powOk 10 18 = true := by decide
theorem div_k (i : Int) : divOk i 1000 = true := by unfold divOk; decide
theorem div_7 (i : Int) : divOk i 7 = true := by unfold divOk; decide
theorem div_n (i : Int) : divOk i 127773 = true := by unfold divOk; decide
def DrawSt (d : D) (n : Nat) (s : Ss) : Prop := ∃ (ws : List Int) (x2 x3 x4 x5 : Sl), s = [.val d, .own (ws.map .int), x2, x3, x4, x5] ∧ ws.length ≤ n ∧ ∀ x ∈ ws, 0 ≤ x ∧ x < 1000
theorem rng60 : rngD (.int 0) (.int 60) = .ok (rangeL 0 60) := rngD_nat (n := 60) (by omega)
theorem rng4 : rngD (.int 0) (.int 4) = .ok (rangeL 0 4) := rngD_nat (n := 4) (by omega)
def BigB : SF := (ifF (cmpT (atB 3) (cE (.int 0)) gtD)
  (seqF (appF 1 (eb (eu (atB 3) int1D) (cE (.int 1000)) modD))
  (setE 3 (eb (atB 3) (cE (.int 1000)) divD)))
  nextE)
def SmallB : SF := (seqF (setE 5 (eb (eu (eb (eb (eb (atB 2) (cE (.int 48271)) mulD) (eb (atB 4) (cE (.int 69621)) mulD) addD) (cE (.int 11)) addD) int1D) (cE (.int 2147483647)) modD))
  (seqF (setE 5 (eb (eu (eb (eb (atB 5) (cE (.int 16807)) mulD) (eb (atB 5) (cE (.int 127773)) divD) addD) int1D) (cE (.int 998244353)) modD))
  (appF 1 (eb (eb (atB 5) (cE (.int 7)) divD) (cE (.int 1000)) modD))))
def LowW (n : Nat) (ws : List Int) : Prop := ws.length ≤ n ∧ ∀ x ∈ ws, 0 ≤ x ∧ x < 1000
theorem LowW.push {n : Nat} {ws : List Int} {z : Int} (h : LowW n ws) : LowW (n + 1) (ws ++ [z % 1000]) := by
  refine ⟨by simp; exact h.1, fun x hx => ?_⟩
  simp at hx
  rcases hx with hx | hx
  · exact h.2 x hx
  · omega
theorem LowW.le {n m : Nat} {ws : List Int} (h : LowW n ws) (l : n ≤ m) : LowW m ws := ⟨Nat.le_trans h.1 l, h.2⟩
theorem big_turn {d : D} {a b : Int} {ws : List Int} {n : Nat} {x4 x5 : Sl} (hn : n ≤ 4000) (h : LowW n ws) (i : Nat) : ∃ s1, tgN 4 (.int i) [.val d, .own (ws.map .int), .val (.int a), .val (.int b), x4, x5] = some s1 ∧
    ∃ s2, BigB s1 = .next s2 ∧ ∃ (ws : List Int) (b : Int) (x4 x5 : Sl), s2 = [.val d, .own (ws.map .int), .val (.int a), .val (.int b), x4, x5] ∧ LowW (n + 1) ws := by
  have sl : sizeLine = 16777216 := rfl
  have h1 := h.1
  refine ⟨[.val d, .own (ws.map .int), .val (.int a), .val (.int b), .val (.int i), unali 4 x5], by simp, ?_⟩
  by_cases hb : 0 < b
  · refine ⟨[.val d, .own ((ws ++ [b % 1000]).map .int), .val (.int a), .val (.int (b / 1000)), .val (.int i), unali 3 (unali 4 x5)], ?_, ws ++ [b % 1000], _, _, _, rfl, h.push⟩
    have : ws.length < sizeLine := by omega
    simp [BigB, hb, div_k, this]
  · exact ⟨[.val d, .own (ws.map .int), .val (.int a), .val (.int b), .val (.int i), unali 4 x5], by simp [BigB, hb], ws, b, _, _, rfl, h.le (by omega)⟩
theorem mul_48271 (i : Int) : mulOk i 48271 = true := mulOk_r (by decide) (by decide)
theorem mul_69621 (i : Int) : mulOk i 69621 = true := mulOk_r (by decide) (by decide)
theorem mul_16807 (i : Int) : mulOk i 16807 = true := mulOk_r (by decide) (by decide)
theorem small_turn {d : D} {a : Int} {ws : List Int} {n : Nat} {x3 x4 x5 : Sl} (hn : n ≤ 4000) (h : LowW n ws) (i : Nat) : ∃ s1, tgN 4 (.int i) [.val d, .own (ws.map .int), .val (.int a), x3, x4, x5] = some s1 ∧
    ∃ s2, SmallB s1 = .next s2 ∧ ∃ (ws : List Int) (x3 x4 x5 : Sl), s2 = [.val d, .own (ws.map .int), .val (.int a), x3, x4, x5] ∧ LowW (n + 1) ws := by
  have sl : sizeLine = 16777216 := rfl
  have h1 := h.1
  refine ⟨[.val d, .own (ws.map .int), .val (.int a), unali 4 x3, .val (.int i), unali 4 x5], by simp, ?_⟩
  generalize hq : (a * 48271 + ↑i * 69621 + 11) % 2147483647 = q
  generalize hq2 : (q * 16807 + q / 127773) % 998244353 = q2
  refine ⟨[.val d, .own ((ws ++ [q2 / 7 % 1000]).map .int), .val (.int a), unali 5 (unali 5 (unali 4 x3)), .val (.int i), .val (.int q2)], ?_, ws ++ [q2 / 7 % 1000], _, _, _, rfl, h.push⟩
  have : ws.length < sizeLine := by omega
  simp -implicitDefEqProofs [SmallB, div_7, div_n, this, mul_48271, mul_69621, mul_16807, hq, hq2]
theorem big_loop {d : D} {a b : Int} {ws : List Int} {n : Nat} {x4 x5 : Sl} (hn : n ≤ 3900) (h : LowW n ws) : ∃ s', forL (tgN 4) BigB (rangeL 0 60) [.val d, .own (ws.map .int), .val (.int a), .val (.int b), x4, x5] = .next s' ∧
    ∃ (ws : List Int) (x3 x4 x5 : Sl), s' = [.val d, .own (ws.map .int), .val (.int a), x3, x4, x5] ∧ LowW (n + 60) ws := by
  obtain ⟨s', e, ws', b', x4', x5', e', h'⟩ := forL_keep (fun k s => ∃ (ws : List Int) (b : Int) (x4 x5 : Sl), s = [.val d, .own (ws.map .int), .val (.int a), .val (.int b), x4, x5] ∧ LowW (n + k) ws)
    (t := tgN 4) (F := BigB) (rangeL 0 60) 0 _ ⟨ws, b, x4, x5, rfl, h⟩ (by
      intro d m k s hk ⟨ws, b, x4, x5, e, h1⟩
      obtain ⟨i, hi, rfl⟩ := rangeL_mem (n := 60) m
      rw [rangeL_len] at hk
      subst e
      exact big_turn (by omega) h1 i)
  exact ⟨s', e, ws', _, _, _, e', h'.le (by rw [rangeL_len]; omega)⟩
theorem small_loop {d : D} {a : Int} {ws : List Int} {n : Nat} {x3 x4 x5 : Sl} (hn : n ≤ 3900) (h : LowW n ws) : ∃ s', forL (tgN 4) SmallB (rangeL 0 4) [.val d, .own (ws.map .int), .val (.int a), x3, x4, x5] = .next s' ∧
    ∃ (ws : List Int) (x3 x4 x5 : Sl), s' = [.val d, .own (ws.map .int), .val (.int a), x3, x4, x5] ∧ LowW (n + 60) ws := by
  obtain ⟨s', e, ws', x3', x4', x5', e', h'⟩ := forL_keep (fun k s => ∃ (ws : List Int) (x3 x4 x5 : Sl), s = [.val d, .own (ws.map .int), .val (.int a), x3, x4, x5] ∧ LowW (n + k) ws)
    (t := tgN 4) (F := SmallB) (rangeL 0 4) 0 _ ⟨ws, x3, x4, x5, rfl, h⟩ (by
      intro d m k s hk ⟨ws, x3, x4, x5, e, h1⟩
      obtain ⟨i, hi, rfl⟩ := rangeL_mem (n := 4) m
      rw [rangeL_len] at hk
      subst e
      exact small_turn (by omega) h1 i)
  exact ⟨s', e, ws', _, _, _, e', h'.le (by rw [rangeL_len]; omega)⟩
def DrawB : SF := (ifF (cmpT (atB 2) (eb (cE (.int 10)) (cE (.int 18)) powD) geD)
  (seqF (setE 3 (atV 2))
  (forR1 (cE (.int 60)) (tgN 4) BigB))
  (forR1 (cE (.int 4)) (tgN 4) SmallB))
theorem draw_turn {d : D} {a : Int} {ws : List Int} {n : Nat} {x2 x3 x4 x5 : Sl} (hn : n ≤ 3900) (h : LowW n ws) : ∃ s1, tgN 2 (.int a) [.val d, .own (ws.map .int), x2, x3, x4, x5] = some s1 ∧
    ∃ s2, DrawB s1 = .next s2 ∧ ∃ (ws : List Int) (x2 x3 x4 x5 : Sl), s2 = [.val d, .own (ws.map .int), x2, x3, x4, x5] ∧ LowW (n + 60) ws := by
  refine ⟨[.val d, .own (ws.map .int), .val (.int a), unali 2 x3, unali 2 x4, unali 2 x5], by simp, ?_⟩
  by_cases h2 : ((10 : Int) ^ 18) ≤ a
  · obtain ⟨s', e, ws', x3', x4', x5', e', h'⟩ := big_loop (d := d) (a := a) (b := a) (x4 := unali 3 (unali 2 x4)) (x5 := unali 3 (unali 2 x5)) hn h
    refine ⟨s', ?_, ws', _, _, _, _, e', h'⟩
    have p : powD (.int 10) (.int 18) = .ok (.int (10 ^ 18)) := by rw [z_pow, if_pos pow_1018]; rfl
    unfold DrawB
    rw [z_if]
    simp [-z_pow, -Int.reducePow, p, h2, e, rng60]
  · obtain ⟨s', e, ws', x3', x4', x5', e', h'⟩ := small_loop (d := d) (a := a) (x3 := unali 2 x3) (x4 := unali 2 x4) (x5 := unali 2 x5) hn h
    refine ⟨s', ?_, ws', _, _, _, _, e', h'⟩
    have p : powD (.int 10) (.int 18) = .ok (.int (10 ^ 18)) := by rw [z_pow, if_pos pow_1018]; rfl
    unfold DrawB
    rw [z_if]
    simp [-z_pow, -Int.reducePow, p, h2, e, rng4]
theorem draws_ok (ns : List Int) : ∃ ws : List Int, F_law_draws [.scr (ns.map .int)] = .ok (.lst (ws.map .int)) ∧ LowW 3780 ws := by
  have lt63 : ((ns.map D.int).take 63).length ≤ 63 := by
    rw [List.length_take]
    exact Nat.min_le_left ..
  obtain ⟨s', e, n1, ws, x2, x3, x4, x5, e', h'⟩ := forL_keep (fun n s => n ≤ 63 ∧ ∃ (ws : List Int) (x2 x3 x4 x5 : Sl), s = [.val (.scr (ns.map .int)), .own (ws.map .int), x2, x3, x4, x5] ∧ LowW (60 * n) ws)
    (t := tgN 2) (F := DrawB) ((ns.map D.int).take 63) 0 [.val (.scr (ns.map .int)), .own [], .un, .un, .un, .un] ⟨by omega, [], .un, .un, .un, .un, rfl, by simp, by simp⟩ (by
      intro d m n s hn ⟨n1, ws, x2, x3, x4, x5, e, h1⟩
      obtain ⟨a, m, rfl⟩ := take_ints m
      subst e
      obtain ⟨s1, e1, s2, e2, ws', x2', x3', x4', x5', e', h'⟩ := draw_turn (d := .scr (ns.map .int)) (a := a) (x2 := x2) (x3 := x3) (x4 := x4) (x5 := x5) (by omega) h1
      exact ⟨s1, e1, s2, e2, by omega, ws', _, _, _, _, e', h'.le (by omega)⟩)
  refine ⟨ws, ?_, h'.le (by omega)⟩
  have c : cutL (ns.map D.int) none (some 63) = (ns.map D.int).take 63 := cutL_to _ 63
  subst e'
  unfold F_law_draws
  show runD 1 6 (seqF (ownE 1 nilA) (seqF (forF (lstE (cutE (atB 0) noP (someP (cE (.int 63))))) (tgN 2) DrawB) (frzE 1 (retE (atV 1))))) _ = _
  simp [e, c]

/-! k43 -/
def wD : Option Int → D
  | none => .non
  | some k => .int k
def needZ (k : Int) (xs : List Int) : Int := xs.foldr (fun a l => max 0 (l - a)) k
def needO (o : Option Int) (xs : List Int) : D := wD (o.map fun k => needZ k xs)
theorem needZ_pos {k : Int} (h : 0 ≤ k) : ∀ xs, 0 ≤ needZ k xs
  | [] => h
  | x :: xs => by show 0 ≤ max 0 _; omega
def NeedB : SF := (setE 2 (eb (cE (.int 0)) (eb (atB 2) (atB 3) subD) maxD))
theorem need_loop {d e : D} (xs : List Int) (k : Int) (x3 : Sl) : ∃ s', forL (tgN 3) NeedB (xs.map .int) [.val d, .val e, .val (.int k), x3] = .next s' ∧ ∃ x3, s' = [.val d, .val e, .val (.int (xs.foldl (fun l a => max 0 (l - a)) k)), x3] :=
  forL_fold (fun k s => ∃ x3, s = [.val d, .val e, .val (.int k), x3]) (fun l a => max 0 (l - a)) xs k _ ⟨x3, rfl⟩ (by
    intro x m k s ⟨x3, e⟩
    subst e
    exact ⟨_, by simp; rfl, _, by simp [NeedB]; rfl, _, rfl⟩)
theorem need_ok (xs : List Int) (o : Option Int) (d : D) (h : d = .lst (xs.map .int) ∨ d = .tup (xs.map .int)) : F_run_need [d, wD o] = .ok (needO o xs) := by
  unfold F_run_need
  cases o with
  | none => rcases h with h | h <;> subst h <;> simp [B_run_need, wD, needO]
  | some k =>
    obtain ⟨s', e1, x3, e2⟩ := need_loop (d := d) (e := .int k) xs.reverse k .un
    have e3 : xs.reverse.foldl (fun l a => max 0 (l - a)) k = needZ k xs := by unfold needZ; rw [List.foldl_reverse]
    rw [e3] at e2
    subst e2
    show runD 2 4 (seqF (ifF (cmpT (atB 1) (cE .non) (isND id)) (retE (cE .non)) nextE) (seqF (setE 2 (atV 1)) (seqF (forF (eu (atB 0) revD) (tgN 3) NeedB) (retE (atV 2))))) _ = _
    rcases h with h | h <;> subst h <;> simp [wD, needO, ← List.map_reverse, e1]
def DueB : SF := (seqF (setE 2 (eb (atB 2) (atB 4) addD))
  (setE 3 (eb (eu (eb (cE (.int 0)) (atB 2) subD) int1D) (atB 3) maxD)))
def dueZ (b : Int × Int) (x : Int) : Int × Int := (b.1 + x, max (0 - (b.1 + x)) b.2)
theorem due_loop {d e : D} (xs : List Int) (b : Int × Int) (x4 : Sl) : ∃ s', forL (tgN 4) DueB (xs.map .int) [.val d, .val e, .val (.int b.1), .val (.int b.2), x4] = .next s' ∧ ∃ x4, s' = [.val d, .val e, .val (.int (xs.foldl dueZ b).1), .val (.int (xs.foldl dueZ b).2), x4] :=
  forL_fold (fun b s => ∃ x4, s = [.val d, .val e, .val (.int b.1), .val (.int b.2), x4]) dueZ xs b _ ⟨x4, rfl⟩ (by
    intro x m b s ⟨x4, e⟩
    subst e
    exact ⟨_, by simp; rfl, _, by simp [DueB]; rfl, _, by simp [dueZ]; rfl⟩)
theorem due_need {k : Int} (hk : 0 ≤ k) : ∀ (xs : List Int) (t m : Int), -t ≤ m → max (k - (xs.foldl dueZ (t, m)).1) (xs.foldl dueZ (t, m)).2 = max m (needZ k xs - t)
  | [], t, m, h => by
    show max (k - t) m = max m (k - t)
    omega
  | x :: xs, t, m, h => by
    have h1 := due_need hk xs (t + x) (max (0 - (t + x)) m) (by omega)
    have h2 := needZ_pos hk xs
    have e : (x :: xs).foldl dueZ (t, m) = xs.foldl dueZ (t + x, max (0 - (t + x)) m) := rfl
    have e2 : needZ k (x :: xs) = max 0 (needZ k xs - x) := rfl
    rw [e, h1, e2]
    omega
theorem due_ok (xs : List Int) (o : Option Int) (h : ∀ k, o = some k → 0 ≤ k) : F_law_due [.lst (xs.map .int), wD o] = .ok (needO o xs) := by
  unfold F_law_due
  cases o with
  | none => simp [B_law_due, wD, needO]
  | some k =>
    obtain ⟨s', e1, x3, e2⟩ := due_loop (d := .lst (xs.map .int)) (e := .int k) xs (0, 0) .un
    have e3 := due_need (h k rfl) xs 0 0 (by omega)
    have e4 := needZ_pos (h k rfl) xs
    subst e2
    show runD 2 5 (seqF (ifF (cmpT (atB 1) (cE .non) (isND id)) (retE (cE .non)) nextE) (seqF (setE 2 (cE (.int 0))) (seqF (setE 3 (cE (.int 0))) (seqF (forF (atV 0) (tgN 4) DueB)
      (retE (eb (eu (eb (atB 1) (atB 2) subD) int1D) (atB 3) maxD)))))) _ = _
    simp [wD, needO, e1]
    rw [e3]
    omega
theorem equal_ok (o : Option Int) : F_law_equal [wD o, wD o] = .ok (.bl true) := by
  cases o <;> simp [F_law_equal, B_law_equal, wD, is_integer_i]
theorem p1060 : powD (.int 10) (.int 60) = .ok (.int (10 ^ 60)) := by rw [z_pow, if_pos (by decide)]; rfl
theorem p1020 : powD (.int 10) (.int 20) = .ok (.int (10 ^ 20)) := by rw [z_pow, if_pos (by decide)]; rfl
def RowB : SF := (seqF (setE 4 (callE (consA (atV 1) (consA (atV 3) nilA)) F_law_at))
  (appF 2 (eb (eb (lstE (consA (cE (.int 1)) (consA (eu (cE (.int 1)) negD) nilA))) (eb (atB 4) (cE (.int 2)) modD) ixD) (eb (eb (atB 4) (cE (.int 2)) divD) (cE (.int 41)) modD) mulD)))
theorem div_2 (i : Int) : divOk i 2 = true := by unfold divOk; decide
theorem sign_at (z : Int) : atI [D.int 1, D.int (-1)] (z % 2) = some (.int (if z % 2 = 0 then 1 else -1)) := by
  have : z % 2 = 0 ∨ z % 2 = 1 := by omega
  rcases this with h | h <;> rw [h] <;> rfl
theorem row_turn {d : D} {ws xs : List Int} {n : Nat} {x3 x4 x5 : Sl} (hn : n < 60) (h : xs.length ≤ n) (i : Nat) : ∃ s1, tgN 3 (.int i) [.val d, .val (.lst (ws.map .int)), .own (xs.map .int), x3, x4, x5] = some s1 ∧
    ∃ s2, RowB s1 = .next s2 ∧ ∃ (xs : List Int) (x3 x4 x5 : Sl), s2 = [.val d, .val (.lst (ws.map .int)), .own (xs.map .int), x3, x4, x5] ∧ xs.length ≤ n + 1 := by
  have sl : sizeLine = 16777216 := rfl
  refine ⟨[.val d, .val (.lst (ws.map .int)), .own (xs.map .int), .val (.int i), unali 3 x4, unali 3 x5], by simp, ?_⟩
  have q := at_ok ws i
  generalize ws.getD i 0 = z at q
  refine ⟨[.val d, .val (.lst (ws.map .int)), .own ((xs ++ [(if z % 2 = 0 then 1 else -1) * (z / 2 % 41)]).map .int), .val (.int i), .val (.int z), unali 4 (unali 3 x5)], ?_, _, _, _, _, rfl, by simp; omega⟩
  have : xs.length < sizeLine := by omega
  have m : ∀ j : Int, mulOk (if z % 2 = 0 then 1 else -1) j = true := fun j => mulOk_l (by split <;> decide) (by split <;> decide)
  simp -implicitDefEqProofs [RowB, q, this, sign_at, div_2, m]
theorem row_ok (ns ws : List Int) (h : LowW 3780 ws) : ∃ xs : List Int, F_law_row [.scr (ns.map .int), .lst (ws.map .int)] = .ok (.lst (xs.map .int)) ∧ xs.length ≤ 60 := by
  have a0 : F_law_at [.lst (ws.map .int), .int 0] = .ok (.int (ws.getD 0 0)) := at_ok ws 0
  have sl : sizeLine = 16777216 := rfl
  generalize ws.getD 0 0 = z at a0
  unfold F_law_row
  by_cases hz : z % 4 = 1
  · have c : cutL (ns.map D.int) none (some 60) = (ns.take 60).map .int := by rw [List.map_take]; exact cutL_to _ 60
    have l : (ns.take 60).length ≤ 60 := by rw [List.length_take]; exact Nat.min_le_left ..
    refine ⟨(ns.take 60).map fun x => x % (2 * 10 ^ 60 + 1) - 10 ^ 60, ?_, by rw [List.length_map]; exact l⟩
    have e := lc_map (t := tgN 5) (g := fun _ => .ok true) (f := (eb (eb (eu (atB 5) int1D) (eb (eb (cE (.int 2)) (eb (cE (.int 10)) (cE (.int 60)) powD) mulD) (cE (.int 1)) addD) modD) (eb (cE (.int 10)) (cE (.int 60)) powD) subD))
      (s := [.val (.scr (ns.map .int)), .val (.lst (ws.map .int)), .un, .un, .un, .un]) D.int (fun x => .int (x % (2 * 10 ^ 60 + 1) - 10 ^ 60)) (ns.take 60) [] (by simp at l ⊢; omega) (by
        intro x m
        refine ⟨_, by simp; rfl, rfl, ?_⟩
        have m : ∀ j : Int, mulOk 2 j = true := fun j => mulOk_l (by decide) (by decide)
        have pos : (0 : Int) < 2 * 10 ^ 60 + 1 := by decide
        simp -implicitDefEqProofs [-z_pow, -Int.reducePow, p1060, m, pos, -Int.reduceMul, -Int.reduceAdd])
    simp -implicitDefEqProofs only [List.nil_append] at e
    simp -implicitDefEqProofs [B_law_row, a0, hz, lcF, c, wipeS, e, -List.map_take, -z_pow, -Int.reducePow]
  · obtain ⟨s', e, xs, x3, x4, x5, e', h'⟩ := forL_keep (fun k s => ∃ (xs : List Int) (x3 x4 x5 : Sl), s = [.val (.scr (ns.map .int)), .val (.lst (ws.map .int)), .own (xs.map .int), x3, x4, x5] ∧ xs.length ≤ k)
      (t := tgN 3) (F := RowB) (rangeL 0 (min 60 ws.length : Nat)) 0 [.val (.scr (ns.map .int)), .val (.lst (ws.map .int)), .own [], .un, .un, .un] ⟨[], _, _, _, rfl, by simp⟩ (by
        intro d m k s hk ⟨xs, x3, x4, x5, e, h1⟩
        obtain ⟨i, hi, rfl⟩ := rangeL_mem m
        rw [rangeL_len] at hk
        subst e
        exact row_turn (by omega) h1 i)
    rw [rangeL_len] at h'
    refine ⟨xs, ?_, by omega⟩
    have r : rngD (.int 0) (.int (min 60 (ws.length : Int))) = .ok (rangeL 0 (min 60 ws.length : Nat)) := by
      rw [show min 60 (ws.length : Int) = ((min 60 ws.length : Nat) : Int) by omega]
      exact rngD_nat (by omega)
    show runD 2 6 (seqF (ifF (cmpT (eb (callE (consA (atV 1) (consA (cE (.int 0)) nilA)) F_law_at) (cE (.int 4)) modD) (cE (.int 1)) eqD) _ nextE)
      (seqF (ownE 2 nilA) (seqF (forR1 (eb (cE (.int 60)) (eu (atB 1) lenD) minD) (tgN 3) RowB) (frzE 2 (retE (atV 2)))))) _ = _
    simp -implicitDefEqProofs [a0, hz, r, e, e']

def AmtB : SF := (forD 5 [] (aliI 4 (consI (eu (atB 2) tupleD) (aliI 4 nilI)))
  (ifF (notT (truT (callE (consA (callKE 1 1 (fun a b => a ++ b) (consA (atB 5) nilA) (consA (atB 3) nilA) F_run_need) (consA (callE (consA (atV 2) (consA (atV 3) nilA)) F_law_due) nilA)) F_law_equal)))
  (retE (cE (.bl false)))
  nextE))
def TurnB : SF := (seqF (ownE 4 (listR (atB 2)))
  (seqF AmtB
  (seqF (ifF (cmpT (atB 4) (atB 2) neD)
  (retE (cE (.bl false)))
  nextE)
  (seqF (appF 4 (eu (cE (.int 3)) negD))
  (ifF (notT (truT (callE (consA (callKE 1 1 (fun a b => a ++ b) (consA (atB 4) nilA) (consA (atB 3) nilA) F_run_need) (consA (callE (consA (eb (atB 2) (lstE (consA (eu (cE (.int 3)) negD) nilA)) addD) (consA (atV 3) nilA)) F_law_due) nilA)) F_law_equal)))
  (retE (cE (.bl false)))
  nextE)))))
theorem noL_w (o : Option Int) : noL (wD o) = true := by cases o <;> rfl
theorem amt_ok {d e : D} (xs : List Int) (o : Option Int) (h : ∀ k, o = some k → 0 ≤ k) (x5 : Sl) : ∃ x5', AmtB [d', .val e, .val (.lst (xs.map .int)), .val (wD o), .own (xs.map .int), x5] = .next [unali 5 (unali 5 (unali 5 d')), .val e, .val (.lst (xs.map .int)), .val (wD o), .own (xs.map .int), x5'] := by
  have n1 := need_ok xs o _ (.inl rfl)
  have n2 := need_ok xs o _ (.inr rfl)
  have d1 := due_ok xs o h
  have q1 : ∀ o, F_law_equal [wD o, wD o] = .ok (.bl true) := equal_ok
  have n3 := noL_w
  refine ⟨.ali 4, ?_⟩
  simp -implicitDefEqProofs [AmtB, ownI, itsOk, z_forI_cons, tgI, n1, n2, d1, needO, q1, n3, sizeLine]
theorem turn_ok {d e : D} (xs : List Int) (l : xs.length ≤ 60) (o : Option Int) (h : ∀ k, o = some k → 0 ≤ k) (x3 x4 x5 : Sl) : ∃ s1, tgN 3 (wD o) [.val d, .val e, .val (.lst (xs.map .int)), x3, x4, x5] = some s1 ∧ ∃ s2, TurnB s1 = .next s2 ∧
    ∃ x3 x4 x5, s2 = [.val d, .val e, .val (.lst (xs.map .int)), x3, x4, x5] := by
  have sl : sizeLine = 16777216 := rfl
  refine ⟨[.val d, .val e, .val (.lst (xs.map .int)), .val (wD o), unali 3 x4, unali 3 x5], by simp, ?_⟩
  obtain ⟨x5', a⟩ := amt_ok (d' := .val d) (d := d) (e := e) xs o h (unali 4 (unali 3 x5))
  have n1 := need_ok (xs ++ [-3]) o _ (.inl rfl)
  have d1 := due_ok (xs ++ [-3]) o h
  have q1 : ∀ o, F_law_equal [wD o, wD o] = .ok (.bl true) := equal_ok
  have n3 := noL_w
  have l1 : xs.length < sizeLine := by omega
  have ad := addD_ints (xs := xs) (ys := [-3]) (by simp; omega)
  simp only [List.map_cons, List.map_nil, List.map_append, unali_val] at a n1 d1 ad
  refine ⟨[.val d, .val e, .val (.lst (xs.map .int)), .val (wD o), .own ((xs ++ [-3]).map .int), x5'], ?_, _, _, _, rfl⟩
  simp -implicitDefEqProofs [TurnB, a, neD_ints, l1, n1, d1, q1, n3, needO, ad]
theorem law_true (ns : List Int) (hn : ns.length ≤ 63) : F_law [.scr (ns.map .int)] = .ok (.bl true) := by
  obtain ⟨ws, e1, h1⟩ := draws_ok ns
  obtain ⟨xs, e2, h2⟩ := row_ok ns ws h1
  have a1 : F_law_at [.lst (ws.map .int), .int 1] = .ok (.int (ws.getD 1 0)) := at_ok ws 1
  have c1 : F_law_cell [.scr (ns.map .int), .int 1] = .ok (.int (ns.getD 1 0)) := cell_ok ns 1
  generalize ws.getD 1 0 = z at a1
  generalize ns.getD 1 0 = y at c1
  have t0 := turn_ok (d := .scr (ns.map .int)) (e := .lst (ws.map .int)) xs h2 (some 0) (by simp)
  have t1 := turn_ok (d := .scr (ns.map .int)) (e := .lst (ws.map .int)) xs h2 (some (z % 25)) (by intro k hk; cases hk; omega)
  have t2 := turn_ok (d := .scr (ns.map .int)) (e := .lst (ws.map .int)) xs h2 (some (y % (10 ^ 60 * 10 ^ 20 + 1))) (by intro k hk; cases hk; exact Int.emod_nonneg _ (by decide))
  have t3 := turn_ok (d := .scr (ns.map .int)) (e := .lst (ws.map .int)) xs h2 none (by simp)
  obtain ⟨s', e3, -, x3, x4, x5, e4⟩ := forL_keep (fun k s => True ∧ ∃ x3 x4 x5, s = [.val (.scr (ns.map .int)), .val (.lst (ws.map .int)), .val (.lst (xs.map .int)), x3, x4, x5]) (t := tgN 3) (F := TurnB)
    [.int 0, .int (z % 25), .int (y % (10 ^ 60 * 10 ^ 20 + 1)), .non] 0 [.val (.scr (ns.map .int)), .val (.lst (ws.map .int)), .val (.lst (xs.map .int)), .un, .un, .un] ⟨trivial, _, _, _, rfl⟩ (by
      intro d m k s hk ⟨_, x3, x4, x5, e⟩
      subst e
      simp only [List.mem_cons, List.not_mem_nil, or_false] at m
      rcases m with rfl | rfl | rfl | rfl
      · obtain ⟨s1, q1, s2, q2, q3⟩ := t0 x3 x4 x5
        exact ⟨s1, q1, s2, q2, trivial, q3⟩
      · obtain ⟨s1, q1, s2, q2, q3⟩ := t1 x3 x4 x5
        exact ⟨s1, q1, s2, q2, trivial, q3⟩
      · obtain ⟨s1, q1, s2, q2, q3⟩ := t2 x3 x4 x5
        exact ⟨s1, q1, s2, q2, trivial, q3⟩
      · obtain ⟨s1, q1, s2, q2, q3⟩ := t3 x3 x4 x5
        exact ⟨s1, q1, s2, q2, trivial, q3⟩)
  subst e4
  have n1 : F_run_need [.lst (xs.map .int), .int 0] = .ok (needO (some 0) xs) := need_ok xs (some 0) _ (.inl rfl)
  have n0 : F_run_need [.lst [], .int 0] = .ok (.int 0) := need_ok [] (some 0) _ (.inl rfl)
  have d1 : F_law_due [.lst (xs.map .int), .int 0] = .ok (needO (some 0) xs) := due_ok xs (some 0) (by simp)
  have q1 : ∀ o, F_law_equal [wD o, wD o] = .ok (.bl true) := equal_ok
  have n3 := noL_w
  unfold F_law
  show runD 1 6 (seqF (setE 1 (callE (consA (atV 0) nilA) F_law_draws))
    (seqF (setE 2 (callE (consA (atV 0) (consA (atV 1) nilA)) F_law_row))
    (seqF (forF (lstE (consA (cE (.int 0)) (consA (eb (callE (consA (atV 1) (consA (cE (.int 1)) nilA)) F_law_at) (cE (.int 25)) modD) (consA (eb (eu (callE (consA (atV 0) (consA (cE (.int 1)) nilA)) F_law_cell) int1D) (eb (eb (eb (cE (.int 10)) (cE (.int 60)) powD) (eb (cE (.int 10)) (cE (.int 20)) powD) mulD) (cE (.int 1)) addD) modD) (consA (cE .non) nilA))))) (tgN 3) TurnB)
    (retE (andV (callE (consA (callDE (consA (lstE (listR (atB 2))) nilA) [.int 0] F_run_need) (consA (callE (consA (atV 2) (consA (cE (.int 0)) nilA)) F_law_due) nilA)) F_law_equal) (eb (callDE (consA (lstE nilA) nilA) [.int 0] F_run_need) (cE (.int 0)) eqD)))))) _ = _
  have m : mulOk (10 ^ 60) (10 ^ 20) = true := by decide
  have pos : (0 : Int) < 10 ^ 60 * 10 ^ 20 + 1 := by decide
  simp -implicitDefEqProofs [e1, e2, a1, c1, p1060, p1020, m, pos, e3, n1, n0, d1, needO, q1, n3, -z_pow, -Int.reducePow, -Int.reduceMul, -Int.reduceAdd]

end Law
open PySem PySem.W PySem.Calls PyProof.Rows
theorem PySem.Challenge.cw_leastpurse_k43_need_of_a_run_holds : PySem.Challenge.rw_leastpurse_k43_need_of_a_run.Holds := by
  w_on; o_law
  refine HandSHeadRun.head_any (r := OpenLaw.row PySem.Challenge.rw_leastpurse_k43_need_of_a_run) (q := view (OpenLaw.row PySem.Challenge.rw_leastpurse_k43_need_of_a_run).prog [10]) (H := Law.hk) (ob := Law.ob) (M := 3000) (loose := Law.loose) (d := HandSHeadRun.topDef (OpenLaw.row PySem.Challenge.rw_leastpurse_k43_need_of_a_run).prog 10) (kwd := []) Law.ob_eq
    (by kernel_rfl) (fun s => by kernel_rfl) Law.run (by kernel_rfl) (by kernel_rfl) (by kernel_rfl) (by rfl) (by first | assumption | decide +kernel) (by decide +kernel) ⟨rfl, rfl, rfl, rfl, rfl, by decide +kernel⟩ ?hw ?hc
  case hw => w_witness2
  case hc =>
    refine Dl.walk_ofEw (l := PySem.Challenge.rw_leastpurse_k43_need_of_a_run) (n := 63) (k := 3) (x := "_law_script") rfl (by decide) (by kernel_rfl) ⟨rfl, by decide, by decide⟩ ?F
    intro w mg fa h Y G hmg0
    obtain ⟨K, KX, c⟩ := Y
    have hmg : mg ("law" : PySem.Str) = some (.ref fa) := by
      have e : (HandSHeadRun.topDef (OpenLaw.row PySem.Challenge.rw_leastpurse_k43_need_of_a_run).prog 10).name = ("law" : PySem.Str) := by kernel_rfl
      rw [← e]
      exact hmg0
    obtain ⟨fd, sp, h1, h2, h3⟩ := Law.facts (P := (PySem.Challenge.rw_leastpurse_k43_need_of_a_run).prog) (w := w) KX G hmg c Law.law_true
    exact ⟨K, fd, sp, KX, h1, h2, h3⟩
