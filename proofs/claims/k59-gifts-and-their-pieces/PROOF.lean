import PyProof.Rows.All
import Wide.All
import OpenK.AllK
import Wide.FinOn
import HandS.ForMost
import HandS.Wide
import HandS.TupAny
import HandS.SortInts
import HandS.Style
import HandS.SortRule
import HandS.More
import HandS.IsInst
import PyProof.ReprRoads
import HandS.TupSets
import HandS.Strs
import KE.KIsAll
import KE.KExcIs
import HandS.ExcInit
import HandS.ExcField
import HandS.ExcIs
import HandS.ExcOwn
import HandS.WordsExc
import HandS.Star
import HandS.SetFor
import HandS.Set
import PySem.Challenge.RW_spoolbox_k59_gifts_and_their_pieces
set_option Elab.async false
set_option linter.all false
set_option maxRecDepth 100000
/-! typed readings over the hand layer: an expression's value as a Lean term, its side conditions as a proposition -/
set_option autoImplicit false
namespace L3
open PySem L2

/-! ### heaps, hidden addresses -/
abbrev Own := Addr → Option Nat
def hid (o : Own) (H : Hp) : Hp := fun b => if (o b).isSome then none else H b
theorem hid_some {o : Own} {H : Hp} {b : Addr} {u : HO} (h : hid o H b = some u) : o b = none ∧ H b = some u := by
  unfold hid at h
  cases e : o b with
  | none => rw [e] at h; exact ⟨rfl, h⟩
  | some j => rw [e] at h; cases h
theorem hid_mk {o : Own} {H : Hp} {b : Addr} {u : HO} (h1 : o b = none) (h : H b = some u) : hid o H b = some u := by
  unfold hid; rw [h1]; exact h
theorem hid_same {o : Own} {H H' : Hp} (s : Same H H') : Same (hid o H) (hid o H') := fun b u h => by
  obtain ⟨h1, h2⟩ := hid_some h
  exact hid_mk h1 (s b u h2)
theorem hid_le {o : Own} {H : Hp} : Same (hid o H) H := fun b u h => (hid_some h).2
theorem hid_sub {o o' : Own} {H H' : Hp} (s : Same H H') (k : ∀ b, o b = none → H b ≠ none → o' b = none) : Same (hid o H) (hid o' H') := fun b u h => by
  obtain ⟨h1, h2⟩ := hid_some h
  exact hid_mk (k b h1 (by rw [h2]; simp)) (s b u h2)
def Al (o : Own) (H : Hp) : Prop := ∀ b, (o b).isSome = true → H b ≠ none
theorem Al.mono {o : Own} {H H' : Hp} (a : Al o H) (s : Same H H') : Al o H' := fun b h e => by
  cases q : H b with
  | none => exact a b h q
  | some u => rw [s b u q] at e; cases e
theorem Al.free {o : Own} {H : Hp} (a : Al o H) {p : Addr} (h : H p = none) : o p = none := by
  cases q : o p with
  | none => rfl
  | some j => exact absurd h (a p (by rw [q]; rfl))
def mark (o : Own) (a : Addr) (i : Nat) : Own := fun b => if b = a then some i else o b
theorem mark_same {o : Own} {a : Addr} {i : Nat} : mark o a i a = some i := by unfold mark; rw [if_pos rfl]
theorem mark_ne {o : Own} {a b : Addr} {i : Nat} (h : b ≠ a) : mark o a i b = o b := by unfold mark; rw [if_neg h]
def unmark (o : Own) (a : Addr) : Own := fun b => if b = a then none else o b
theorem same_upd {H : Hp} {p : Addr} {u : HO} (h : H p = none) : Same H (upd H p u) := fun b x e => by
  rw [upd_ne (ne_of_none e h)]; exact e

/-! ### how Python's values stand for Lean's -/
structure Rp (α : Type) where
  rep : Hp → V → α → Prop
  mono : ∀ {H H' : Hp} {v : V} {x : α}, Same H H' → rep H v x → rep H' v x
structure AL {ω α : Type} (P : ω → α → Prop) (ws : List ω) (xs : List α) : Prop where
  len : ws.length = xs.length
  at_ : ∀ (i : Nat) (w : ω) (x : α), ws[i]? = some w → xs[i]? = some x → P w x
section
variable {ω α β : Type} {P P' : ω → α → Prop} {ws ws' : List ω} {xs xs' : List α} {w : ω} {x : α}
theorem AL.nil : AL P [] [] := ⟨rfl, fun i w x h _ => by simp at h⟩
theorem AL.imp (h : AL P ws xs) (k : ∀ w x, P w x → P' w x) : AL P' ws xs := ⟨h.len, fun i w x a b => k _ _ (h.at_ i w x a b)⟩
theorem AL.get (h : AL P ws xs) {i : Nat} (hx : xs[i]? = some x) : ∃ w, ws[i]? = some w ∧ P w x := by
  have hi : i < ws.length := by rw [h.len]; exact (List.getElem?_eq_some_iff.mp hx).1
  exact ⟨ws[i], List.getElem?_eq_getElem hi, h.at_ i _ x (List.getElem?_eq_getElem hi) hx⟩
theorem AL.app (h : AL P ws xs) (h' : AL P ws' xs') : AL P (ws ++ ws') (xs ++ xs') := by
  refine ⟨by rw [List.length_append, List.length_append, h.len, h'.len], fun i w x a b => ?_⟩
  by_cases hi : i < ws.length
  · rw [List.getElem?_append_left hi] at a
    rw [List.getElem?_append_left (by rw [← h.len]; exact hi)] at b
    exact h.at_ i w x a b
  · have hi := Nat.le_of_not_lt hi
    rw [List.getElem?_append_right hi] at a
    rw [List.getElem?_append_right (by rw [← h.len]; exact hi), ← h.len] at b
    exact h'.at_ _ w x a b
theorem AL.one (h : P w x) : AL P [w] [x] := ⟨rfl, fun i w' x' a b => by
  cases i with
  | zero => simp at a b; subst a b; exact h
  | succ i => simp at a⟩
theorem AL.cons (h : P w x) (t : AL P ws xs) : AL P (w :: ws) (x :: xs) := AL.app (AL.one h) t
theorem AL.take (h : AL P ws xs) (n : Nat) : AL P (ws.take n) (xs.take n) := by
  refine ⟨by rw [List.length_take, List.length_take, h.len], fun i w x a b => ?_⟩
  rw [List.getElem?_take] at a b
  split at a
  · rename_i hi; rw [if_pos hi] at b; exact h.at_ i w x a b
  · cases a
theorem AL.drop (h : AL P ws xs) (n : Nat) : AL P (ws.drop n) (xs.drop n) := by
  refine ⟨by rw [List.length_drop, List.length_drop, h.len], fun i w x a b => ?_⟩
  rw [List.getElem?_drop] at a b
  exact h.at_ _ w x a b
theorem AL.set (h : AL P ws xs) (j : Nat) (hw : P w x) : AL P (ws.set j w) (xs.set j x) := by
  refine ⟨by rw [List.length_set, List.length_set, h.len], fun i w' x' a b => ?_⟩
  rw [List.getElem?_set] at a b
  by_cases e : j = i
  · subst e
    rw [if_pos rfl] at a b
    split at a
    · rename_i hj
      rw [if_pos (by rw [← h.len]; exact hj)] at b
      cases a; cases b; exact hw
    · cases a
  · rw [if_neg e] at a b
    exact h.at_ i w' x' a b
theorem AL.dropLast (h : AL P ws xs) : AL P ws.dropLast xs.dropLast := by
  rw [List.dropLast_eq_take, List.dropLast_eq_take, h.len]; exact h.take _
theorem AL.reverse (h : AL P ws xs) : AL P ws.reverse xs.reverse := by
  refine ⟨by rw [List.length_reverse, List.length_reverse, h.len], fun i w x a b => ?_⟩
  have hi : i < ws.length := by
    have := (List.getElem?_eq_some_iff.mp a).1; rwa [List.length_reverse] at this
  rw [List.getElem?_reverse hi] at a
  rw [List.getElem?_reverse (by rw [← h.len]; exact hi), ← h.len] at b
  exact h.at_ _ w x a b
theorem AL.head {ws : List ω} {xs : List α} (h : AL P (w :: ws) (x :: xs)) : P w x ∧ AL P ws xs :=
  ⟨h.at_ 0 w x rfl rfl, ⟨by have := h.len; simpa using this, fun i w x a b => h.at_ (i + 1) w x a b⟩⟩
theorem AL.nil_iff (h : AL P ws xs) : ws = [] ↔ xs = [] := by
  have := h.len
  constructor <;> (intro e; subst e; simp at this; first | exact this.symm | exact this | exact List.eq_nil_of_length_eq_zero this.symm | exact List.eq_nil_of_length_eq_zero this)
end

def rI : Rp Int := ⟨fun _ v x => v = .int x, fun _ h => h⟩
def rB : Rp Bool := ⟨fun _ v x => v = .bl x, fun _ h => h⟩
def rS : Rp Str := ⟨fun _ v x => v = .str x, fun _ h => h⟩
def rN : Rp Unit := ⟨fun _ v _ => v = .non, fun _ h => h⟩
/-- None or a value that is never None -/
def rO {α : Type} (r : Rp α) : Rp (Option α) := ⟨fun H v x => match x with | none => v = .non | some y => v ≠ .non ∧ r.rep H v y, fun {H H' v x} s h => by
  cases x with
  | none => exact h
  | some y => exact ⟨h.1, r.mono s h.2⟩⟩
/-- a row of values -/
structure Tp (τ : Type) where
  n : Nat
  rep : Hp → List V → τ → Prop
  mono : ∀ {H H' : Hp} {vs : List V} {x : τ}, Same H H' → rep H vs x → rep H' vs x
  len : ∀ {H : Hp} {vs : List V} {x : τ}, rep H vs x → vs.length = n
def t0 : Tp Unit := ⟨0, fun _ vs _ => vs = [], fun _ h => h, fun h => by rw [h]; rfl⟩
def t1 {α : Type} (r : Rp α) : Tp α := ⟨1, fun H vs x => ∃ v, vs = [v] ∧ r.rep H v x, fun s ⟨v, e, h⟩ => ⟨v, e, r.mono s h⟩, fun ⟨v, e, _⟩ => by rw [e]; rfl⟩
def tc {α τ : Type} (r : Rp α) (t : Tp τ) : Tp (α × τ) := ⟨t.n + 1, fun H vs x => ∃ v ws, vs = v :: ws ∧ r.rep H v x.1 ∧ t.rep H ws x.2,
  fun s ⟨v, ws, e, h, h'⟩ => ⟨v, ws, e, r.mono s h, t.mono s h'⟩, fun ⟨v, ws, e, _, h'⟩ => by rw [e, List.length_cons, t.len h']⟩
/-- a tuple of just these -/
def rT {τ : Type} (t : Tp τ) : Rp τ := ⟨fun H v x => ∃ a ws, v = .ref a ∧ H a = some (.tup ws) ∧ t.rep H ws x, fun s ⟨a, ws, e, h, h'⟩ => ⟨a, ws, e, s _ _ h, t.mono s h'⟩⟩
/-- an object's content (F: the heap of what never changes) -/
structure Mo (α : Type) where
  rep : Hp → HO → α → Prop
  mono : ∀ {H H' : Hp} {u : HO} {x : α}, Same H H' → rep H u x → rep H' u x
def moL {α : Type} (r : Rp α) : Mo (List α) := ⟨fun H u xs => ∃ ws, u = .lst ws ∧ AL (r.rep H) ws xs, fun s ⟨ws, e, h⟩ => ⟨ws, e, h.imp fun _ _ q => r.mono s q⟩⟩
def rM {α : Type} (m : Mo α) : Rp α := ⟨fun H v x => ∃ a u, v = .ref a ∧ H a = some u ∧ m.rep H u x, fun s ⟨a, u, e, h, h'⟩ => ⟨a, u, e, s _ _ h, m.mono s h'⟩⟩
abbrev rL {α : Type} (r : Rp α) : Rp (List α) := rM (moL r)
/-- a list that is only read: the script -/
def rQ {α : Type} (K : PySem.W.Frag) (r : Rp α) : Rp (List α) := ⟨fun H v xs => ∃ a ws, v = .ref a ∧ SqL K H a ws ∧ AL (r.rep H) ws xs, fun s ⟨a, ws, e, h, h'⟩ => ⟨a, ws, e, s.seq h, h'.imp fun _ _ q => r.mono s q⟩⟩

/-! ### slots -/
/-- what a deep own thing may consist of: its own lists, and any tuples that are seen -/
def hidy (o : Own) (i : Nat) (H : Hp) : Hp := fun b => match H b with
  | some (.tup w) => if o b = none then some (.tup w) else none
  | u => if o b = some i then u else none
theorem hidy_some {o : Own} {i : Nat} {H : Hp} {b : Addr} {u : HO} (h : hidy o i H b = some u) : H b = some u ∧ ((o b = none ∧ ∃ w, u = .tup w) ∨ (o b = some i ∧ ∀ w, u ≠ .tup w)) := by
  unfold hidy at h
  split at h
  · rename_i w e
    split at h
    · rename_i h1; cases h; exact ⟨e, .inl ⟨h1, w, rfl⟩⟩
    · cases h
  · rename_i e
    split at h
    · rename_i h1; exact ⟨h, .inr ⟨h1, fun w q => e w (by rw [h, q])⟩⟩
    · cases h
theorem hidy_tup {o : Own} {i : Nat} {H : Hp} {b : Addr} {w : List V} (h : H b = some (.tup w)) (h1 : o b = none) : hidy o i H b = some (.tup w) := by
  unfold hidy; rw [h]; simp [h1]
theorem hidy_lst {o : Own} {i : Nat} {H : Hp} {b : Addr} {u : HO} (h : H b = some u) (h1 : o b = some i) (h2 : ∀ w, u ≠ .tup w) : hidy o i H b = some u := by
  unfold hidy
  split
  · rename_i w e; rw [h] at e; cases e; exact absurd rfl (h2 w)
  · rw [if_pos h1]; exact h
theorem hidy_sub {o o' : Own} {i : Nat} {H H' : Hp} (k : ∀ b u, H b = some u → (o b = none → (∃ w, u = .tup w) → H' b = some u ∧ o' b = none) ∧ (o b = some i → (∀ w, u ≠ .tup w) → H' b = some u ∧ o' b = some i)) : Same (hidy o i H) (hidy o' i H') := fun b u h => by
  obtain ⟨h1, h2⟩ := hidy_some h
  obtain ⟨k1, k2⟩ := k b u h1
  rcases h2 with ⟨h2, w, rfl⟩ | ⟨h2, h3⟩
  · obtain ⟨a, c⟩ := k1 h2 ⟨w, rfl⟩; exact hidy_tup a c
  · obtain ⟨a, c⟩ := k2 h2 h3; exact hidy_lst a c h3
inductive SV : Type 1 where
  | dp {α : Type} (r : Rp α) (x : α)
  | junk
  | val {α : Type} (r : Rp α) (x : α)
  | own {α : Type} (m : Mo α) (x : α)
  | mb {α : Type} (r : Rp α) (x : Option α)
def SV.ok (o : Own) (H : Hp) (i : Nat) (ov : Option V) : SV → Prop
  | .junk => True
  | .val r x => ∃ v, ov = some v ∧ r.rep (hid o H) v x
  | .own m x => ∃ a u, ov = some (.ref a) ∧ o a = some i ∧ H a = some u ∧ m.rep (hid o H) u x
  | .mb r x => ∀ y, x = some y → ∃ v, ov = some v ∧ r.rep (hid o H) v y
  | .dp r x => ∃ v, ov = some v ∧ r.rep (hidy o i H) v x
theorem SV.ok.mono {o : Own} {H H' : Hp} {i : Nat} {ov : Option V} {sv : SV} (s : Same H H') (h : sv.ok o H i ov) : sv.ok o H' i ov := by
  cases sv with
  | junk => trivial
  | val r x => obtain ⟨v, e, q⟩ := h; exact ⟨v, e, r.mono (hid_same s) q⟩
  | own m x => obtain ⟨a, u, e, q1, q2, q3⟩ := h; exact ⟨a, u, e, q1, s _ _ q2, m.mono (hid_same s) q3⟩
  | mb r x => exact fun y e => let ⟨v, e1, e2⟩ := h y e; ⟨v, e1, r.mono (hid_same s) e2⟩
  | dp r x => obtain ⟨v, e, q⟩ := h; exact ⟨v, e, r.mono (hidy_sub fun b u e => ⟨fun a _ => ⟨s _ _ e, a⟩, fun a _ => ⟨s _ _ e, a⟩⟩) q⟩
abbrev Gm := List SV
/-- the slots' facts -/
structure Slots (Γ : Gm) (o : Own) (σ : St) (H : Hp) : Prop where
  len : σ.length = Γ.length
  at_ : ∀ (i : Nat) (sv : SV), Γ[i]? = some sv → ∃ ov, σ[i]? = some ov ∧ sv.ok o H i ov
theorem Slots.mono {Γ : Gm} {o : Own} {σ : St} {H H' : Hp} (s : Same H H') (h : Slots Γ o σ H) : Slots Γ o σ H' :=
  ⟨h.len, fun i sv e => let ⟨ov, e1, e2⟩ := h.at_ i sv e; ⟨ov, e1, e2.mono s⟩⟩
structure ES (Γ : Gm) (o : Own) (σ : St) (H : Hp) : Prop where
  sl : Slots Γ o σ H
  al : Al o H
theorem ES.mono {Γ : Gm} {o : Own} {σ : St} {H H' : Hp} (s : Same H H') (h : ES Γ o σ H) : ES Γ o σ H' := ⟨h.sl.mono s, h.al.mono s⟩
theorem Slots.set {Γ : Gm} {o : Own} {σ : St} {H : Hp} (h : Slots Γ o σ H) (i : Nat) (sv : SV) (v : V) (k : sv.ok o H i (some v)) : Slots (Γ.set i sv) o (σ.set i (some v)) H := by
  refine ⟨by rw [List.length_set, List.length_set, h.len], fun j sv' e => ?_⟩
  rw [List.getElem?_set] at e
  by_cases q : i = j
  · subst q
    rw [if_pos rfl] at e
    split at e
    · rename_i hi
      cases e
      exact ⟨some v, by rw [List.getElem?_set_self (by rw [h.len]; exact hi)], k⟩
    · cases e
  · rw [if_neg q] at e
    obtain ⟨ov, e1, e2⟩ := h.at_ j sv' e
    exact ⟨ov, by rw [List.getElem?_set_ne q]; exact e1, e2⟩

/-! ### the context of a body -/
def visB (sc : Scope) (z : Str) : Bool := match sc.names.lookup z with
  | some .local => true
  | some .cell => true
  | some .free => true
  | _ => false
def locB (sc : Scope) (z : Str) : Bool := match sc.names.lookup z with
  | some .local => true
  | some .cell => true
  | _ => false
def glB (sc : Scope) (z : Str) : Bool := match sc.names.lookup z with
  | some .globalImplicit => true
  | _ => false
theorem vis_of {sc : Scope} {z : Str} (h : visB sc z = true) : Vis sc z := by
  unfold visB at h
  split at h
  · exact .inl (by assumption)
  · exact .inr (.inl (by assumption))
  · exact .inr (.inr (by assumption))
  · cases h
theorem loc_of {sc : Scope} {z : Str} (h : locB sc z = true) : Loc sc z := by
  unfold locB at h
  split at h
  · exact .inl (by assumption)
  · exact .inr (by assumption)
  · cases h
theorem gl_of {sc : Scope} {z : Str} (h : glB sc z = true) : sc.names.lookup z = some .globalImplicit := by
  unfold glB at h
  split at h
  · assumption
  · cases h
/-- X runs a body (or a block) of the names N and the scope sc -/
structure CF (X : Cx) (N : List Str) (sc : Scope) : Prop where
  hN : X.N = N
  nd : N.Nodup
  hS : X.env.scope = sc
  calm : X.calm = true
  hu : X.A.units + 64 < cLine
/-- a name that may be stored -/
structure Tgt (X : Cx) (z : Str) : Prop where
  loc : Loc X.env.scope z
  fn : X.fn z = true ∨ X.env.scope.names.lookup z = some .local

/-! ### readings, all of them at once -/
def WE (X : Cx) (e : Expr) : TE := fun σ H Q => ∃ t, PE X e t ∧ t σ H Q
theorem we {X : Cx} {e : Expr} : PE X e (WE X e) := ⟨fun pins s σ H Q I ⟨_, h, q⟩ => h.run pins s σ H Q I q⟩
def WT (X : Cx) (e : Expr) : TT := fun σ H Q => ∃ t, PT X e t ∧ t σ H Q
theorem wt {X : Cx} {e : Expr} : PT X e (WT X e) := ⟨fun pins s σ H Q I ⟨_, h, q⟩ => h.run pins s σ H Q I q⟩
def WW (X : Cx) (e : Expr) : TT := fun σ H Q => ∃ t, PW X e t ∧ t σ H Q
theorem ww {X : Cx} {e : Expr} : PW X e (WW X e) := ⟨fun w pins s σ H Q I ⟨_, h, q⟩ => h.run w pins s σ H Q I q⟩
def WA (X : Cx) (es : List Expr) : TA := fun σ H Q => ∃ t, PA X es t ∧ t σ H Q
theorem wa {X : Cx} {es : List Expr} : PA X es (WA X es) := ⟨fun pos pins s σ H Q I ⟨_, h, q⟩ => h.run pos pins s σ H Q I q⟩
def WS (X : Cx) (st : Stmt) : TS := fun D σ H => ∃ t, PS X st t ∧ t D σ H
theorem ws {X : Cx} {st : Stmt} : PS X st (WS X st) := ⟨fun pins s σ H D I ⟨_, h, q⟩ => h.run pins s σ H D I q⟩
def WB (X : Cx) (ss : List Stmt) : TS := fun D σ H => ∃ t, PSs X ss t ∧ t D σ H
theorem wb {X : Cx} {ss : List Stmt} : PSs X ss (WB X ss) := ⟨fun pins s σ H D I ⟨_, h, q⟩ => h.run pins s σ H D I q⟩
def WG (X : Cx) (tg : Expr) : TG := fun v σ H Q => ∃ t, PG X tg t ∧ t v σ H Q
theorem wg {X : Cx} {tg : Expr} : PG X tg (WG X tg) := ⟨fun pins s σ H v u Q I r ⟨_, h, q⟩ => h.run pins s σ H v u Q I r q⟩
def WGs (X : Cx) (ts : List Expr) : TGs := fun v σ H Q => ∃ t, PGs X ts t ∧ t v σ H Q
theorem wgs {X : Cx} {ts : List Expr} : PGs X ts (WGs X ts) := ⟨fun pins s σ H v u Q I r ⟨_, h, q⟩ => h.run pins s σ H v u Q I r q⟩
def WI (X : Cx) (tg it : Expr) : TI := fun σ H R => ∃ t, PI X tg it t ∧ t σ H R
theorem wi {X : Cx} {tg it : Expr} : PI X tg it (WI X tg it) := ⟨fun pins s σ H R I ⟨_, h, q⟩ => h.run pins s σ H R I q⟩
def WO (X : Cx) (e : Option Expr) : TO := fun σ H Q => ∃ t, PO X e t ∧ t σ H Q
theorem wo {X : Cx} {e : Option Expr} : PO X e (WO X e) := ⟨fun pins s σ H Q I ⟨_, h, q⟩ => h.run pins s σ H Q I q⟩
def WTs (X : Cx) (es : List Expr) : TT := fun σ H Q => ∃ t, PTs X es t ∧ t σ H Q
theorem wts {X : Cx} {es : List Expr} : PTs X es (WTs X es) := ⟨fun pins s σ H Q I ⟨_, h, q⟩ => h.run pins s σ H Q I q⟩

/-! ### the judgements -/
/-- e gives x (as r), if p -/
def EvF {α : Type} (X : Cx) (Γ : Gm) (e : Expr) (r : Rp α) (p : Prop) (x : α) : Prop :=
  ∀ (o : Own) (σ : St) (H : Hp) (Q : VK), ES Γ o σ H → p → (∀ v H', Same H H' → r.rep (hid o H') v x → Q v H') → WE X e σ H Q
/-- e gives a list that is read at once (its own list may be hidden) -/
def EvC {α : Type} (X : Cx) (Γ : Gm) (e : Expr) (r : Rp α) (p : Prop) (xs : List α) : Prop :=
  ∀ (o : Own) (σ : St) (H : Hp) (Q : VK), ES Γ o σ H → p → (∀ a ws H', Same H H' → SqL X.K H' a ws → AL (r.rep (hid o H')) ws xs → Q (.ref a) H') → WE X e σ H Q
/-- the same, tracked as a list -/
def EvL {α : Type} (X : Cx) (Γ : Gm) (e : Expr) (r : Rp α) (p : Prop) (xs : List α) : Prop :=
  ∀ (o : Own) (σ : St) (H : Hp) (Q : VK), ES Γ o σ H → p → (∀ a ws H', Same H H' → H' a = some (.lst ws) → AL (r.rep (hid o H')) ws xs → Q (.ref a) H') → WE X e σ H Q
/-- e gives something new of content x -/
def EvN {α : Type} (X : Cx) (Γ : Gm) (e : Expr) (m : Mo α) (p : Prop) (x : α) : Prop :=
  ∀ (o : Own) (σ : St) (H : Hp) (Q : VK), ES Γ o σ H → p → (∀ a u H', Same H H' → H a = none → H' a = some u → m.rep (hid (mark o a 0) H') u x → Q (.ref a) H') → WE X e σ H Q
/-- e gives a value that is only looked at (hidden lists within it may stand) -/
def EvQ {α : Type} (X : Cx) (Γ : Gm) (e : Expr) (r : Rp α) (p : Prop) (x : α) : Prop :=
  ∀ (o : Own) (σ : St) (H : Hp) (Q : VK), ES Γ o σ H → p → (∀ v H', Same H H' → r.rep H' v x → Q v H') → WE X e σ H Q
/-- a test -/
def EvT (X : Cx) (Γ : Gm) (e : Expr) (p : Prop) (b : Bool) : Prop :=
  ∀ (o : Own) (σ : St) (H : Hp) (Q : Bool → Hp → Prop), ES Γ o σ H → p → (∀ H', Same H H' → Q b H') → WT X e σ H Q
def EvW (X : Cx) (Γ : Gm) (e : Expr) (p : Prop) (b : Bool) : Prop :=
  ∀ (o : Own) (σ : St) (H : Hp) (Q : Bool → Hp → Prop), ES Γ o σ H → p → (∀ H', Same H H' → Q b H') → WW X e σ H Q
/-- arguments -/
def EvA {τ : Type} (X : Cx) (Γ : Gm) (es : List Expr) (t : Tp τ) (p : Prop) (x : τ) : Prop :=
  ∀ (o : Own) (σ : St) (H : Hp) (Q : List V → Hp → Prop), ES Γ o σ H → p → (∀ vs H', Same H H' → t.rep (hid o H') vs x → Q vs H') → WA X es σ H Q
/-- a slice's end -/
def EvO (X : Cx) (Γ : Gm) (e : Option Expr) (p : Prop) (x : Option Int) : Prop :=
  ∀ (o : Own) (σ : St) (H : Hp) (Q : Option Int → Hp → Prop), ES Γ o σ H → p → (∀ H', Same H H' → Q x H') → WO X e σ H Q

section
variable {X : Cx} {N : List Str} {sc : Scope} {Γ : Gm} {α β τ : Type} {e e' a b : Expr} {es : List Expr} {r : Rp α} {r' : Rp β} {p p' : Prop} {x : α} {y : β} {xs : List α} {pos : Pos} {m : Mo α}

/-! ### from one to another -/
theorem hid_mark {o : Own} {a : Addr} {i : Nat} {H : Hp} : Same (hid (mark o a i) H) (hid o H) := hid_sub (Same.refl _) fun b h _ => by
  by_cases q : b = a
  · subst q; rw [mark_same] at h; cases h
  · rw [mark_ne q] at h; exact h
theorem EvN.f (h : EvN X Γ e m p x) : EvF X Γ e (rM m) p x := fun o σ H Q hs hp k =>
  h o σ H Q hs hp fun a u H' s hn hu hm => k _ _ s ⟨a, u, rfl, hid_mk (hs.al.free hn) hu, m.mono hid_mark hm⟩
theorem EvF.l (h : EvF X Γ e (rL r) p xs) : EvL X Γ e r p xs := fun o σ H Q hs hp k =>
  h o σ H Q hs hp fun v H' s ⟨a, u, e1, e2, ws, e3, e4⟩ => by subst e1 e3; exact k a ws H' s (hid_some e2).2 e4
theorem EvL.c (h : EvL X Γ e r p xs) : EvC X Γ e r p xs := fun o σ H Q hs hp k =>
  h o σ H Q hs hp fun a ws H' s e1 e2 => k a ws H' s (SqL.of e1) e2
theorem EvF.qc (h : EvF X Γ e (rQ X.K r) p xs) : EvC X Γ e r p xs := fun o σ H Q hs hp k =>
  h o σ H Q hs hp fun v H' s ⟨a, ws, e1, e2, e3⟩ => by
    subst e1
    exact k a ws H' s (Same.seq hid_le e2) e3
theorem EvF.q (h : EvF X Γ e r p x) : EvQ X Γ e r p x := fun o σ H Q hs hp k =>
  h o σ H Q hs hp fun v H' s e => k v H' s (r.mono hid_le e)
theorem EvL.q (h : EvL X Γ e r p xs) : EvQ X Γ e (rL r) p xs := fun o σ H Q hs hp k =>
  h o σ H Q hs hp fun a ws H' s e1 e2 => k _ H' s ⟨a, _, rfl, e1, ws, rfl, e2.imp fun _ _ q => r.mono hid_le q⟩
theorem EvF.c (h : EvF X Γ e (rL r) p xs) : EvC X Γ e r p xs := h.l.c
theorem EvF.t {b' : Bool} (h : EvF X Γ e rB p b') (he : ∀ whole, isTrue e X.env whole = (do let v ← whole; standAt e.pos; holding [v] (truthy v)) := by intro _; rfl) : EvT X Γ e p b' := fun o σ H Q hs hp k =>
  ⟨_, pt_val we he, h o σ H _ hs hp fun v H' s e => ⟨_, e, k H' s⟩⟩
theorem EvW.t {bb : Bool} (h : EvW X Γ e p bb) : EvT X Γ e p bb := fun o σ H Q hs hp k => ⟨_, ww.pt, h o σ H Q hs hp k⟩

/-! ### names and constants -/
theorem ev_var {i : Nat} {z : Str} (C : CF X N sc) (hN : N[i]? = some z) (hv : visB sc z = true) (hΓ : Γ[i]? = some (.val r x)) (hd : (z == ("__debug__" : Str)) = false := by decide) (hcd : (z == ("__classdict__" : Str)) = false := by decide) : EvF X Γ (.Name z pos) r True x := fun o σ H Q hs _ k => by
  refine ⟨_, pe_var (i := i) (by rw [C.hN]; exact hN) (by rw [C.hS]; exact vis_of hv) hd hcd, ?_⟩
  obtain ⟨ov, e1, v, rfl, e2⟩ := hs.sl.at_ i _ hΓ
  exact ⟨v, e1, k v H (Same.refl _) e2⟩
theorem ev_mb [Inhabited α] {y : Option α} {i : Nat} {z : Str} (C : CF X N sc) (hN : N[i]? = some z) (hv : visB sc z = true) (hΓ : Γ[i]? = some (.mb r y)) (hd : (z == ("__debug__" : Str)) = false := by decide) (hcd : (z == ("__classdict__" : Str)) = false := by decide) : EvF X Γ (.Name z pos) r (y.isSome = true) (y.getD default) := fun o σ H Q hs hp k => by
  refine ⟨_, pe_var (i := i) (by rw [C.hN]; exact hN) (by rw [C.hS]; exact vis_of hv) hd hcd, ?_⟩
  obtain ⟨ov, e1, h⟩ := hs.sl.at_ i _ hΓ
  cases y with
  | none => cases hp
  | some w =>
    obtain ⟨v, rfl, e2⟩ := h w rfl
    exact ⟨v, e1, k v H (Same.refl _) e2⟩
theorem el_own {i : Nat} {z : Str} (C : CF X N sc) (hN : N[i]? = some z) (hv : visB sc z = true) (hΓ : Γ[i]? = some (.own (moL r) xs)) (hd : (z == ("__debug__" : Str)) = false := by decide) (hcd : (z == ("__classdict__" : Str)) = false := by decide) : EvL X Γ (.Name z pos) r True xs := fun o σ H Q hs _ k => by
  refine ⟨_, pe_var (i := i) (by rw [C.hN]; exact hN) (by rw [C.hS]; exact vis_of hv) hd hcd, ?_⟩
  obtain ⟨ov, e1, l, u, rfl, e2, e3, ws, rfl, e4⟩ := hs.sl.at_ i _ hΓ
  exact ⟨_, e1, k l ws H (Same.refl _) e3 e4⟩
theorem ev_int {i j} : EvF X Γ (.Constant (.int i) j pos) rI True i := fun o σ H Q hs _ k => ⟨_, pe_int, k _ H (Same.refl _) rfl⟩
theorem ev_bl {b j} : EvF X Γ (.Constant (.bool b) j pos) rB True b := fun o σ H Q hs _ k => ⟨_, pe_bl, k _ H (Same.refl _) rfl⟩
theorem ev_none {j} : EvF X Γ (.Constant .none j pos) (rO r) True none := fun o σ H Q hs _ k => ⟨_, pe_non, k _ H (Same.refl _) rfl⟩
theorem ev_unit {j} : EvF X Γ (.Constant .none j pos) rN True () := fun o σ H Q hs _ k => ⟨_, pe_non, k _ H (Same.refl _) rfl⟩
theorem ev_str {z j} : EvF X Γ (.Constant (.str z) j pos) rS True z := fun o σ H Q hs _ k => ⟨_, pe_str, k _ H (Same.refl _) rfl⟩
theorem gl_cf {z : Str} (C : CF X N sc) (hg : glB sc z = true) : Gl X z := by
  show X.env.scope.names.lookup z = _
  rw [C.hS]; exact gl_of hg
theorem ev_globI {z : Str} {i : Int} {t : Tok} (C : CF X N sc) (hg : glB sc z = true) (hm : X.mg z = some (.int i t)) (hd : (z == ("__debug__" : Str)) = false := by decide) : EvF X Γ (.Name z pos) rI True i := fun o σ H Q hs _ k =>
  ⟨_, pe_glob (v := .int i) (gl_cf C hg) hm ⟨_, rfl⟩ hd, k _ H (Same.refl _) rfl⟩
/-- what is never None, as one of two -/
class NotNone {α : Type} (r : Rp α) : Prop where
  ne : ∀ {H : Hp} {v : V} {x : α}, r.rep H v x → v ≠ .non
instance : NotNone rI := ⟨fun h => by rw [show _ = _ from h]; intro z; cases z⟩
instance : NotNone rB := ⟨fun h => by rw [show _ = _ from h]; intro z; cases z⟩
instance : NotNone rS := ⟨fun h => by rw [show _ = _ from h]; intro z; cases z⟩
instance {τ : Type} {t : Tp τ} : NotNone (rT t) := ⟨fun ⟨a, ws, e, _⟩ => by rw [e]; intro z; cases z⟩
instance {α : Type} {m : Mo α} : NotNone (rM m) := ⟨fun ⟨a, ws, e, _⟩ => by rw [e]; intro z; cases z⟩
theorem ev_some [NotNone r] (h : EvF X Γ e r p x) : EvF X Γ e (rO r) p (some x) := fun o σ H Q hs hp k =>
  h o σ H Q hs hp fun v H' s q => k v H' s ⟨NotNone.ne q, q⟩
theorem ev_get {x : Option α} {d : α} (h : EvF X Γ e (rO r) p x) : EvF X Γ e r (p ∧ x.isSome = true) (x.getD d) := fun o σ H Q hs hp k =>
  h o σ H Q hs hp.1 fun v H' s q => k v H' s (by
    cases x with
    | none => exact absurd hp.2 (by simp)
    | some y => exact q.2)

/-! ### two at a time -/
theorem ev_op2 {γ : Type} {rc : Rp γ} {op : Operator} {rr : R2} {z : γ} {cond : Prop} (ho : OpR X (binaryOp op) rr) (ha : EvF X Γ a r p x) (hb : EvF X Γ b r' p' y)
    (hr : ∀ (o : Own) (v w : V) (H : Hp) (Q : VK), Al o H → cond → r.rep (hid o H) v x → r'.rep (hid o H) w y → (∀ u H', Same H H' → rc.rep (hid o H') u z → Q u H') → rr v w H Q) : EvF X Γ (.BinOp a op b pos) rc (p ∧ p' ∧ cond) z := fun o σ H Q hs hp k => by
  refine ⟨_, pe_op ho we we, ?_⟩
  refine ha o σ H _ hs hp.1 fun v H1 s1 q1 => ?_
  refine hb o σ H1 _ (hs.mono s1) hp.2.1 fun w H2 s2 q2 => ?_
  exact hr o v w H2 Q (hs.al.mono (s1.trans s2)) hp.2.2 (r.mono (hid_same s2) q1) q2 fun u H' s3 q3 => k u H' ((s1.trans s2).trans s3) q3
end
section
variable {X : Cx} {N : List Str} {sc : Scope} {Γ : Gm} {a b c : Expr} {p p' p'' : Prop} {i j k : Int} {pos : Pos}
theorem ev_opI {op : Operator} {f : Int → Int → Int} (ho : OpR X (binaryOp op) (rI0 fun i j => .int (f i j))) (ha : EvF X Γ a rI p i) (hb : EvF X Γ b rI p' j) : EvF X Γ (.BinOp a op b pos) rI (p ∧ p') (f i j) := fun o σ H Q hs hp k =>
  ev_op2 (pos := pos) (rc := rI) (z := f i j) (cond := True) ho ha hb (fun o v w H Q _ _ e1 e2 k => ⟨i, j, e1, e2, k _ H (Same.refl _) rfl⟩) o σ H Q hs ⟨hp.1, hp.2, trivial⟩ k
theorem ev_opIC {op : Operator} {C : Int → Int → Prop} {f : Int → Int → Int} (ho : OpR X (binaryOp op) (L2.rI C fun i j => .int (f i j))) (ha : EvF X Γ a rI p i) (hb : EvF X Γ b rI p' j) : EvF X Γ (.BinOp a op b pos) rI (p ∧ p' ∧ C i j) (f i j) :=
  ev_op2 (rc := rI) (z := f i j) (cond := C i j) ho ha hb fun o v w H Q _ hc e1 e2 k => ⟨i, j, e1, e2, hc, k _ H (Same.refl _) rfl⟩
theorem ev_add (ha : EvF X Γ a rI p i) (hb : EvF X Γ b rI p' j) : EvF X Γ (.BinOp a .Add b pos) rI (p ∧ p') (i + j) := ev_opI op_add ha hb
theorem ev_sub (ha : EvF X Γ a rI p i) (hb : EvF X Γ b rI p' j) : EvF X Γ (.BinOp a .Sub b pos) rI (p ∧ p') (i - j) := ev_opI op_sub ha hb
theorem ev_mul (ha : EvF X Γ a rI p i) (hb : EvF X Γ b rI p' j) : EvF X Γ (.BinOp a .Mult b pos) rI (p ∧ p' ∧ CMul i j) (i * j) := ev_opIC op_mul ha hb
theorem ev_fdiv (ha : EvF X Γ a rI p i) (hb : EvF X Γ b rI p' j) : EvF X Γ (.BinOp a .FloorDiv b pos) rI (p ∧ p' ∧ CDiv i j) (i / j) := ev_opIC op_fdiv ha hb
theorem ev_mod (ha : EvF X Γ a rI p i) (hb : EvF X Γ b rI p' j) : EvF X Γ (.BinOp a .Mod b pos) rI (p ∧ p' ∧ 0 < j) (i % j) := ev_opIC (C := fun _ j => 0 < j) op_mod ha hb
theorem ev_pow (ha : EvF X Γ a rI p i) (hb : EvF X Γ b rI p' j) : EvF X Γ (.BinOp a .Pow b pos) rI (p ∧ p' ∧ CPow i j) (i ^ j.toNat) := ev_opIC op_pow ha hb
theorem ev_shr (ha : EvF X Γ a rI p i) (hb : EvF X Γ b rI p' j) : EvF X Γ (.BinOp a .RShift b pos) rI (p ∧ p' ∧ 0 ≤ j) (i / 2 ^ j.toNat) := ev_opIC (C := fun _ j => 0 ≤ j) op_shr ha hb
theorem ev_shl (ha : EvF X Γ a rI p i) (hb : EvF X Γ b rI p' j) : EvF X Γ (.BinOp a .LShift b pos) rI (p ∧ p' ∧ CPow i j) (i * 2 ^ j.toNat) := ev_opIC op_shl ha hb
theorem ev_and (ha : EvF X Γ a rI p i) (hb : EvF X Γ b rI p' j) : EvF X Γ (.BinOp a .BitAnd b pos) rI (p ∧ p') (Builtin.bitAnd i j) := ev_opI op_and ha hb
theorem ev_xor (ha : EvF X Γ a rI p i) (hb : EvF X Γ b rI p' j) : EvF X Γ (.BinOp a .BitXor b pos) rI (p ∧ p') (Builtin.bitXor i j) := ev_opI op_xor ha hb
theorem ev_neg (ha : EvF X Γ a rI p i) : EvF X Γ (.UnaryOp .USub a pos) rI p (-i) := fun o σ H Q hs hp k =>
  ⟨_, pe_un un_neg we, ha o σ H _ hs hp fun v H' s q => ⟨i, q, k _ H' s rfl⟩⟩

/-! ### comparisons and tests -/
theorem ev_cmpI {op : CmpOp} {f : Int → Int → Bool} (ho : OpR X (compareOp op) (rI0 fun i j => .bl (f i j))) (ha : EvF X Γ a rI p i) (hb : EvF X Γ b rI p' j) (hm : behindInMarks op b = false) : EvF X Γ (.Compare a [op] [b] pos) rB (p ∧ p') (f i j) := fun o σ H Q hs hp k => by
  refine ⟨_, pe_cmpR ho we we hm, ?_⟩
  refine ha o σ H _ hs hp.1 fun v H1 s1 q1 => hb o σ H1 _ (hs.mono s1) hp.2 fun w H2 s2 q2 => ?_
  exact ⟨i, j, q1, q2, k _ H2 (s1.trans s2) rfl⟩
theorem et_cmpI {op : CmpOp} {f : Int → Int → Bool} (ho : OpR X (compareOp op) (rI0 fun i j => .bl (f i j))) (ha : EvF X Γ a rI p i) (hb : EvF X Γ b rI p' j) (hm : behindInMarks op b = false) : EvT X Γ (.Compare a [op] [b] pos) (p ∧ p') (f i j) := fun o σ H Q hs hp k => by
  refine ⟨_, pt_cmpR ho we we hm, ?_⟩
  refine ha o σ H _ hs hp.1 fun v H1 s1 q1 => hb o σ H1 _ (hs.mono s1) hp.2 fun w H2 s2 q2 => ?_
  exact ⟨i, j, q1, q2, _, rfl, k H2 (s1.trans s2)⟩
theorem ev_lt (ha : EvF X Γ a rI p i) (hb : EvF X Γ b rI p' j) : EvF X Γ (.Compare a [.Lt] [b] pos) rB (p ∧ p') (decide (i < j)) := ev_cmpI (f := fun i j => decide (i < j)) op_lt ha hb (nomark _)
theorem ev_le (ha : EvF X Γ a rI p i) (hb : EvF X Γ b rI p' j) : EvF X Γ (.Compare a [.LtE] [b] pos) rB (p ∧ p') (decide (i ≤ j)) := ev_cmpI (f := fun i j => decide (i ≤ j)) op_le ha hb (nomark _)
theorem ev_gt (ha : EvF X Γ a rI p i) (hb : EvF X Γ b rI p' j) : EvF X Γ (.Compare a [.Gt] [b] pos) rB (p ∧ p') (decide (j < i)) := ev_cmpI (f := fun i j => decide (j < i)) op_gt ha hb (nomark _)
theorem ev_ge (ha : EvF X Γ a rI p i) (hb : EvF X Γ b rI p' j) : EvF X Γ (.Compare a [.GtE] [b] pos) rB (p ∧ p') (decide (j ≤ i)) := ev_cmpI (f := fun i j => decide (j ≤ i)) op_ge ha hb (nomark _)
theorem et_lt (ha : EvF X Γ a rI p i) (hb : EvF X Γ b rI p' j) : EvT X Γ (.Compare a [.Lt] [b] pos) (p ∧ p') (decide (i < j)) := et_cmpI (f := fun i j => decide (i < j)) op_lt ha hb (nomark _)
theorem et_le (ha : EvF X Γ a rI p i) (hb : EvF X Γ b rI p' j) : EvT X Γ (.Compare a [.LtE] [b] pos) (p ∧ p') (decide (i ≤ j)) := et_cmpI (f := fun i j => decide (i ≤ j)) op_le ha hb (nomark _)
theorem et_gt (ha : EvF X Γ a rI p i) (hb : EvF X Γ b rI p' j) : EvT X Γ (.Compare a [.Gt] [b] pos) (p ∧ p') (decide (j < i)) := et_cmpI (f := fun i j => decide (j < i)) op_gt ha hb (nomark _)
theorem et_ge (ha : EvF X Γ a rI p i) (hb : EvF X Γ b rI p' j) : EvT X Γ (.Compare a [.GtE] [b] pos) (p ∧ p') (decide (j ≤ i)) := et_cmpI (f := fun i j => decide (j ≤ i)) op_ge ha hb (nomark _)
end

end L3

namespace L3
open PySem L2

/-! ### data: what can be compared and shown -/
class Dt {α : Type} (r : Rp α) where
  dat : α → PyData
  dep : Nat
  ok : ∀ {K : PySem.W.Frag} {H : Hp} {v : V} {x : α}, r.rep H v x → Dp K H v (dat x)
  can : ∀ x, (dat x).canLay0 = true
  dp : ∀ x, (dat x).depth ≤ dep
  eq : ∀ x y : α, PyData.eqv (dat x) (dat y) = true ↔ x = y
class DtT {τ : Type} (t : Tp τ) where
  dat : τ → List PyData
  dep : Nat
  ok : ∀ {K : PySem.W.Frag} {H : Hp} {vs : List V} {x : τ}, t.rep H vs x → DpAll K H vs (dat x)
  can : ∀ x, PyData.canLayAll0 (dat x) = true
  dp : ∀ x, PyData.depthAll (dat x) ≤ dep
  eq : ∀ x y : τ, PyData.eqvAll (dat x) (dat y) = true ↔ x = y
instance dtI : Dt rI where
  dat := .int
  dep := 0
  ok := fun h => by rw [show _ = _ from h]; exact .int _
  can := fun _ => rfl
  dp := fun _ => Nat.le_refl _
  eq := fun x y => by unfold PyData.eqv; simp
instance dtB : Dt rB where
  dat := .bool
  dep := 0
  ok := fun h => by rw [show _ = _ from h]; exact .bl _
  can := fun _ => rfl
  dp := fun _ => Nat.le_refl _
  eq := fun x y => by unfold PyData.eqv; simp
instance dtN : Dt rN where
  dat := fun _ => .none
  dep := 0
  ok := fun h => by rw [show _ = _ from h]; exact .non
  can := fun _ => rfl
  dp := fun _ => Nat.le_refl _
  eq := fun x y => by unfold PyData.eqv; simp
class NoNon {α : Type} (r : Rp α) [Dt r] : Prop where
  ne : ∀ x : α, Dt.dat r x ≠ .none
instance : NoNon rI := ⟨fun _ h => by cases h⟩
instance : NoNon rB := ⟨fun _ h => by cases h⟩
theorem eqv_none {d : PyData} : PyData.eqv .none d = true ↔ d = .none := by
  cases d <;> simp [PyData.eqv]
theorem eqv_none' {d : PyData} : PyData.eqv d .none = true ↔ d = .none := by
  cases d <;> simp [PyData.eqv]
instance dtO {α : Type} {r : Rp α} [Dt r] [NoNon r] : Dt (rO r) where
  dat := fun x => match x with | none => .none | some y => Dt.dat r y
  dep := Dt.dep r
  ok := fun {K H v x} h => by
    cases x with
    | none => rw [show v = _ from h]; exact .non
    | some y => exact Dt.ok h.2
  can := fun x => by
    cases x with
    | none => rfl
    | some y => exact Dt.can y
  dp := fun x => by
    cases x with
    | none => exact Nat.zero_le _
    | some y => exact Dt.dp y
  eq := fun x y => by
    cases x <;> cases y
    · simp [PyData.eqv]
    · rename_i y
      show PyData.eqv .none (Dt.dat r y) = true ↔ _
      rw [eqv_none]; simp [NoNon.ne y]
    · rename_i y
      show PyData.eqv (Dt.dat r y) .none = true ↔ _
      rw [eqv_none']; simp [NoNon.ne y]
    · rename_i y z
      show PyData.eqv (Dt.dat r y) (Dt.dat r z) = true ↔ _
      rw [Dt.eq]; simp
instance dtT0 : DtT t0 where
  dat := fun _ => []
  dep := 0
  ok := fun h => by rw [show _ = _ from h]; exact .nil
  can := fun _ => rfl
  dp := fun _ => Nat.le_refl _
  eq := fun x y => by unfold PyData.eqvAll; simp
instance dtT1 {α : Type} {r : Rp α} [Dt r] : DtT (t1 r) where
  dat := fun x => [Dt.dat r x]
  dep := Dt.dep r
  ok := fun ⟨v, e, h⟩ => by rw [e]; exact .cons (Dt.ok h) .nil
  can := fun x => by simp [PyData.canLayAll0, Dt.can x]
  dp := fun x => by simp only [PyData.depthAll]; have := Dt.dp (r := r) x; omega
  eq := fun x y => by simp only [PyData.eqvAll, Bool.and_true]; exact Dt.eq x y
instance dtTc {α τ : Type} {r : Rp α} {t : Tp τ} [Dt r] [DtT t] : DtT (tc r t) where
  dat := fun x => Dt.dat r x.1 :: DtT.dat t x.2
  dep := max (Dt.dep r) (DtT.dep t)
  ok := fun ⟨v, ws, e, h, h'⟩ => by rw [e]; exact .cons (Dt.ok h) (DtT.ok h')
  can := fun x => by simp [PyData.canLayAll0, Dt.can x.1, DtT.can x.2]
  dp := fun x => by
    simp only [PyData.depthAll]
    have := Dt.dp (r := r) x.1
    have := DtT.dp (t := t) x.2
    omega
  eq := fun x y => by
    simp only [PyData.eqvAll, Bool.and_eq_true]
    rw [Dt.eq, DtT.eq, Prod.ext_iff]
instance dtT {τ : Type} {t : Tp τ} [DtT t] : Dt (rT t) where
  dat := fun x => .tuple (DtT.dat t x)
  dep := DtT.dep t + 1
  ok := fun ⟨a, ws, e, h, h'⟩ => by rw [e]; exact .tup (SqT.of h) (DtT.ok h')
  can := fun x => by unfold PyData.canLay0; exact DtT.can x
  dp := fun x => by unfold PyData.depth; have := DtT.dp (t := t) x; omega
  eq := fun x y => by unfold PyData.eqv; exact DtT.eq x y
instance {τ : Type} {t : Tp τ} [DtT t] : NoNon (rT t) := ⟨fun _ h => by cases h⟩
theorem dpAll_of {α : Type} {r : Rp α} [Dt r] {K : PySem.W.Frag} {H : Hp} : ∀ {ws : List V} {xs : List α}, AL (r.rep H) ws xs → DpAll K H ws (xs.map (Dt.dat r))
  | [], [], _ => .nil
  | [], _ :: _, h => by have := h.len; simp at this
  | _ :: _, [], h => by have := h.len; simp at this
  | w :: ws, x :: xs, h => .cons (Dt.ok h.head.1) (dpAll_of h.head.2)
instance dtL {α : Type} {r : Rp α} [Dt r] : Dt (rL r) where
  dat := fun xs => .list (xs.map (Dt.dat r))
  dep := Dt.dep r + 1
  ok := fun ⟨a, u, e, h, ws, e2, h'⟩ => by subst e2; rw [e]; exact .lst (SqL.of h) (dpAll_of h')
  can := fun xs => by
    unfold PyData.canLay0
    induction xs with
    | nil => rfl
    | cons x xs ih => simp [PyData.canLayAll0, Dt.can x, ih]
  dp := fun xs => by
    unfold PyData.depth
    suffices PyData.depthAll (xs.map (Dt.dat r)) ≤ Dt.dep r by omega
    induction xs with
    | nil => exact Nat.zero_le _
    | cons x xs ih => simp only [List.map_cons, PyData.depthAll]; have := Dt.dp (r := r) x; omega
  eq := fun xs ys => by
    unfold PyData.eqv
    induction xs generalizing ys with
    | nil => cases ys <;> simp [PyData.eqvAll]
    | cons x xs ih =>
      cases ys with
      | nil => simp [PyData.eqvAll]
      | cons y ys => simp only [List.map_cons, PyData.eqvAll, Bool.and_eq_true, List.cons.injEq]; rw [ih, Dt.eq]
instance {α : Type} {r : Rp α} [Dt r] : NoNon (rL r) := ⟨fun _ h => by cases h⟩

section
variable {X : Cx} {N : List Str} {sc : Scope} {Γ : Gm} {α β τ : Type} {e a b c : Expr} {es : List Expr} {r : Rp α} {r' : Rp β} {t : Tp τ} {p p' p'' : Prop} {x : α} {y : β} {xs ys : List α} {pos : Pos} {m : Mo α}

theorem eqv_dec [Dt r] [DecidableEq α] (x y : α) : PyData.eqv (Dt.dat r x) (Dt.dat r y) = decide (x = y) := by
  by_cases h : x = y
  · rw [decide_eq_true h]; exact (Dt.eq x y).mpr h
  · rw [decide_eq_false h]
    cases e : PyData.eqv (Dt.dat r x) (Dt.dat r y) with
    | false => rfl
    | true => exact absurd ((Dt.eq x y).mp e) h
theorem shaped_of [Dt r] (hd : Dt.dep r ≤ 64) (x : α) : SeqAt.shaped (Dt.dat r x) = true := by
  unfold SeqAt.shaped
  rw [Dt.can, Bool.true_and]
  exact decide_eq_true (Nat.le_trans (Dt.dp x) hd)
theorem ev_eq [Dt r] [DecidableEq α] {y : α} (C : CF X N sc) (ha : EvQ X Γ a r p x) (hb : EvQ X Γ b r p' y) (hd : Dt.dep r ≤ 64 := by decide) : EvF X Γ (.Compare a [.Eq] [b] pos) rB (p ∧ p') (decide (x = y)) := fun o σ H Q hs hp k => by
  refine ⟨_, pe_cmpR (op_eqD C.hu) we we (nomark _), ?_⟩
  refine ha o σ H _ hs hp.1 fun v H1 s1 q1 => hb o σ H1 _ (hs.mono s1) hp.2 fun w H2 s2 q2 => ?_
  exact ⟨_, _, Dt.ok (r.mono s2 q1), Dt.ok q2, shaped_of hd x, shaped_of hd y, k _ H2 (s1.trans s2) (by rw [eqv_dec]; rfl)⟩
theorem ev_ne [Dt r] [DecidableEq α] {y : α} (C : CF X N sc) (ha : EvQ X Γ a r p x) (hb : EvQ X Γ b r p' y) (hd : Dt.dep r ≤ 64 := by decide) : EvF X Γ (.Compare a [.NotEq] [b] pos) rB (p ∧ p') (!decide (x = y)) := fun o σ H Q hs hp k => by
  refine ⟨_, pe_cmpR (op_neD C.hu) we we (nomark _), ?_⟩
  refine ha o σ H _ hs hp.1 fun v H1 s1 q1 => hb o σ H1 _ (hs.mono s1) hp.2 fun w H2 s2 q2 => ?_
  exact ⟨_, _, Dt.ok (r.mono s2 q1), Dt.ok q2, shaped_of hd x, shaped_of hd y, k _ H2 (s1.trans s2) (by rw [eqv_dec]; rfl)⟩
theorem et_eq [Dt r] [DecidableEq α] {y : α} (C : CF X N sc) (ha : EvQ X Γ a r p x) (hb : EvQ X Γ b r p' y) (hd : Dt.dep r ≤ 64 := by decide) : EvT X Γ (.Compare a [.Eq] [b] pos) (p ∧ p') (decide (x = y)) := fun o σ H Q hs hp k => by
  refine ⟨_, pt_cmpR (op_eqD C.hu) we we (nomark _), ?_⟩
  refine ha o σ H _ hs hp.1 fun v H1 s1 q1 => hb o σ H1 _ (hs.mono s1) hp.2 fun w H2 s2 q2 => ?_
  exact ⟨_, _, Dt.ok (r.mono s2 q1), Dt.ok q2, shaped_of hd x, shaped_of hd y, _, rfl, by rw [eqv_dec]; exact k H2 (s1.trans s2)⟩
theorem et_ne [Dt r] [DecidableEq α] {y : α} (C : CF X N sc) (ha : EvQ X Γ a r p x) (hb : EvQ X Γ b r p' y) (hd : Dt.dep r ≤ 64 := by decide) : EvT X Γ (.Compare a [.NotEq] [b] pos) (p ∧ p') (!decide (x = y)) := fun o σ H Q hs hp k => by
  refine ⟨_, pt_cmpR (op_neD C.hu) we we (nomark _), ?_⟩
  refine ha o σ H _ hs hp.1 fun v H1 s1 q1 => hb o σ H1 _ (hs.mono s1) hp.2 fun w H2 s2 q2 => ?_
  exact ⟨_, _, Dt.ok (r.mono s2 q1), Dt.ok q2, shaped_of hd x, shaped_of hd y, _, rfl, by rw [eqv_dec]; exact k H2 (s1.trans s2)⟩
/-- is None, is not None -/
theorem ev_isN {x : Option α} {j pos'} (ha : EvF X Γ a (rO r) p x) : EvF X Γ (.Compare a [.Is] [.Constant .none j pos'] pos) rB p x.isNone := fun o σ H Q hs hp k => by
  refine ⟨_, pe_cmpR op_isN we pe_non (nomark _), ha o σ H _ hs hp fun v H1 s1 q1 => ⟨rfl, k _ H1 s1 ?_⟩⟩
  cases x with
  | none => rw [show v = _ from q1]; rfl
  | some y => show V.bl _ = V.bl _; rw [decide_eq_false q1.1]; rfl
theorem et_isN {x : Option α} {j pos'} (ha : EvF X Γ a (rO r) p x) : EvT X Γ (.Compare a [.Is] [.Constant .none j pos'] pos) p x.isNone := fun o σ H Q hs hp k => by
  refine ⟨_, pt_cmpR op_isN we pe_non (nomark _), ha o σ H _ hs hp fun v H1 s1 q1 => ⟨rfl, _, rfl, ?_⟩⟩
  cases x with
  | none => rw [show v = _ from q1]; exact k H1 s1
  | some y => rw [decide_eq_false q1.1]; exact k H1 s1
theorem ev_notN {x : Option α} {j pos'} (ha : EvF X Γ a (rO r) p x) : EvF X Γ (.Compare a [.IsNot] [.Constant .none j pos'] pos) rB p x.isSome := fun o σ H Q hs hp k => by
  refine ⟨_, pe_cmpR op_notN we pe_non (nomark _), ha o σ H _ hs hp fun v H1 s1 q1 => ⟨rfl, k _ H1 s1 ?_⟩⟩
  cases x with
  | none => rw [show v = _ from q1]; rfl
  | some y => show V.bl _ = V.bl _; rw [decide_eq_false q1.1]; rfl
theorem et_notN {x : Option α} {j pos'} (ha : EvF X Γ a (rO r) p x) : EvT X Γ (.Compare a [.IsNot] [.Constant .none j pos'] pos) p x.isSome := fun o σ H Q hs hp k => by
  refine ⟨_, pt_cmpR op_notN we pe_non (nomark _), ha o σ H _ hs hp fun v H1 s1 q1 => ⟨rfl, _, rfl, ?_⟩⟩
  cases x with
  | none => rw [show v = _ from q1]; exact k H1 s1
  | some y => rw [decide_eq_false q1.1]; exact k H1 s1

/-! ### and, or, not, if else -/
variable {rest : List Expr} {bb cc : Bool}
theorem ew_and1 (ha : EvT X Γ a p bb) : EvW X Γ (.BoolOp .And [a] pos) p bb := fun o σ H Q hs hp k => ⟨_, pw_and1 wt, ha o σ H Q hs hp k⟩
theorem ew_or1 (ha : EvT X Γ a p bb) : EvW X Γ (.BoolOp .Or [a] pos) p bb := fun o σ H Q hs hp k => ⟨_, pw_or1 wt, ha o σ H Q hs hp k⟩
theorem ew_and (ha : EvT X Γ a p bb) (hb : EvW X Γ (.BoolOp .And (b :: rest) pos) p' cc) : EvW X Γ (.BoolOp .And (a :: b :: rest) pos) (p ∧ (bb = true → p')) (bb && cc) := fun o σ H Q hs hp k => by
  refine ⟨_, pw_and wt ww, ha o σ H _ hs hp.1 fun H1 s1 => ?_⟩
  cases bb with
  | true => exact iteT (hb o σ H1 Q (hs.mono s1) (hp.2 rfl) fun H2 s2 => k H2 (s1.trans s2))
  | false => exact iteF (k H1 s1)
theorem ew_or (ha : EvT X Γ a p bb) (hb : EvW X Γ (.BoolOp .Or (b :: rest) pos) p' cc) : EvW X Γ (.BoolOp .Or (a :: b :: rest) pos) (p ∧ (bb = false → p')) (bb || cc) := fun o σ H Q hs hp k => by
  refine ⟨_, pw_or wt ww, ha o σ H _ hs hp.1 fun H1 s1 => ?_⟩
  cases bb with
  | true => exact iteT (k H1 s1)
  | false => exact iteF (hb o σ H1 Q (hs.mono s1) (hp.2 rfl) fun H2 s2 => k H2 (s1.trans s2))
theorem et_not (ha : EvT X Γ a p bb) : EvT X Γ (.UnaryOp .Not a pos) p (!bb) := fun o σ H Q hs hp k => ⟨_, pt_not wt, ha o σ H _ hs hp k⟩
theorem ev_one {op} (ha : EvF X Γ a r p x) : EvF X Γ (.BoolOp op [a] pos) r p x := fun o σ H Q hs hp k => ⟨_, pe_one we, ha o σ H Q hs hp k⟩
theorem ev_andV (ha : EvF X Γ a rB p bb) (hb : EvF X Γ (.BoolOp .And (b :: rest) pos) rB p' cc) : EvF X Γ (.BoolOp .And (a :: b :: rest) pos) rB (p ∧ (bb = true → p')) (bb && cc) := fun o σ H Q hs hp k => by
  refine ⟨_, pe_and we we, ha o σ H _ hs hp.1 fun v H1 s1 q1 => ⟨bb, q1, ?_⟩⟩
  cases bb with
  | true => exact iteT (hb o σ H1 Q (hs.mono s1) (hp.2 rfl) fun v H2 s2 q => k v H2 (s1.trans s2) q)
  | false => exact iteF (k _ H1 s1 rfl)
theorem ev_orV (ha : EvF X Γ a rB p bb) (hb : EvF X Γ (.BoolOp .Or (b :: rest) pos) rB p' cc) : EvF X Γ (.BoolOp .Or (a :: b :: rest) pos) rB (p ∧ (bb = false → p')) (bb || cc) := fun o σ H Q hs hp k => by
  refine ⟨_, pe_or we we, ha o σ H _ hs hp.1 fun v H1 s1 q1 => ⟨bb, q1, ?_⟩⟩
  cases bb with
  | true => exact iteT (k _ H1 s1 rfl)
  | false => exact iteF (hb o σ H1 Q (hs.mono s1) (hp.2 rfl) fun v H2 s2 q => k v H2 (s1.trans s2) q)
theorem ev_notV (ha : EvF X Γ a rB p bb) : EvF X Γ (.UnaryOp .Not a pos) rB p (!bb) := fun o σ H Q hs hp k => ⟨_, pe_not we, ha o σ H _ hs hp fun v H1 s1 q => ⟨bb, q, k _ H1 s1 rfl⟩⟩
theorem ev_if {y : α} (hc : EvT X Γ c p bb) (ha : EvF X Γ a r p' x) (hb : EvF X Γ b r p'' y) : EvF X Γ (.IfExp c a b pos) r (p ∧ (bb = true → p') ∧ (bb = false → p'')) (if bb = true then x else y) := fun o σ H Q hs hp k => by
  refine ⟨_, pe_ifExp wt we we, hc o σ H _ hs hp.1 fun H1 s1 => ?_⟩
  cases bb with
  | true => exact iteT (ha o σ H1 Q (hs.mono s1) (hp.2.1 rfl) fun v H2 s2 q => k v H2 (s1.trans s2) (by rw [if_pos rfl]; exact q))
  | false => exact iteF (hb o σ H1 Q (hs.mono s1) (hp.2.2 rfl) fun v H2 s2 q => k v H2 (s1.trans s2) (by rw [if_neg Bool.false_ne_true]; exact q))
/-- a <= b < c -/
theorem et_chain {op op' : CmpOp} {f g : Int → Int → Bool} {i j l : Int} (ho : OpR X (compareOp op) (rI0 fun i j => .bl (f i j))) (ho' : OpR X (compareOp op') (rI0 fun i j => .bl (g i j))) (ha : EvF X Γ a rI p i) (hb : EvF X Γ b rI p' j) (hc : EvF X Γ c rI p'' l)
    (hm : lastMarks [op, op'] [b, c] = false := by with_unfolding_all rfl) : EvT X Γ (.Compare a [op, op'] [b, c] pos) (p ∧ p' ∧ (f i j = true → p'')) (f i j && g j l) := fun o σ H Q hs hp k => by
  refine ⟨_, pt_chain ho ho' we we we hm, ?_⟩
  refine ha o σ H _ hs hp.1 fun v H1 s1 q1 => hb o σ H1 _ (hs.mono s1) hp.2.1 fun w H2 s2 q2 => ?_
  refine ⟨i, j, q1, q2, _, rfl, ?_⟩
  cases e : f i j with
  | true =>
    refine iteT (hc o σ H2 _ (hs.mono (s1.trans s2)) (hp.2.2 e) fun u H3 s3 q3 => ⟨j, l, q2, q3, _, rfl, ?_⟩)
    rw [e, Bool.true_and] at k
    exact k H3 ((s1.trans s2).trans s3)
  | false =>
    rw [e, Bool.false_and] at k
    exact iteF ⟨_, rfl, k H2 (s1.trans s2)⟩
end
end L3

namespace L3
open PySem L2

section
variable {X : Cx} {N : List Str} {sc : Scope} {Γ : Gm} {α β τ : Type} {e a b c : Expr} {es : List Expr} {r : Rp α} {r' : Rp β} {t : Tp τ} {p p' p'' : Prop} {x : α} {y : β} {xs ys : List α} {pos : Pos} {m : Mo α} {xt : τ}

/-! ### argument lists -/
theorem ea_nil : EvA X Γ [] t0 True () := fun o σ H Q hs _ k => ⟨_, pa_nil, k [] H (Same.refl _) rfl⟩
theorem ea_one (ha : EvF X Γ e r p x) (h1 : starEach [e] X.env = (false, eval e X.env) :: starEach [] X.env := by rfl) : EvA X Γ [e] (t1 r) p x := fun o σ H Q hs hp k =>
  ⟨_, pa_cons we pa_nil h1, ha o σ H _ hs hp fun v H1 s1 q1 => k [v] H1 s1 ⟨v, rfl, q1⟩⟩
theorem ea_cons (ha : EvF X Γ e r p x) (hb : EvA X Γ es t p' xt) (h1 : starEach (e :: es) X.env = (false, eval e X.env) :: starEach es X.env := by rfl) : EvA X Γ (e :: es) (tc r t) (p ∧ p') (x, xt) := fun o σ H Q hs hp k => by
  refine ⟨_, pa_cons we wa h1, ha o σ H _ hs hp.1 fun v H1 s1 q1 => hb o σ H1 _ (hs.mono s1) hp.2 fun vs H2 s2 q2 => ?_⟩
  exact k (v :: vs) H2 (s1.trans s2) ⟨v, vs, rfl, r.mono (hid_same s2) q1, q2⟩
/-- all of one kind -/
def EvEs (X : Cx) (Γ : Gm) (es : List Expr) (r : Rp α) (p : Prop) (xs : List α) : Prop :=
  ∀ (o : Own) (σ : St) (H : Hp) (Q : List V → Hp → Prop), ES Γ o σ H → p → (∀ vs H', Same H H' → AL (r.rep (hid o H')) vs xs → Q vs H') → WA X es σ H Q
theorem es_nil : EvEs X Γ [] r True [] := fun o σ H Q hs _ k => ⟨_, pa_nil, k [] H (Same.refl _) AL.nil⟩
theorem es_cons (ha : EvF X Γ e r p x) (hb : EvEs X Γ es r p' xs) (h1 : starEach (e :: es) X.env = (false, eval e X.env) :: starEach es X.env := by rfl) : EvEs X Γ (e :: es) r (p ∧ p') (x :: xs) := fun o σ H Q hs hp k => by
  refine ⟨_, pa_cons we wa h1, ha o σ H _ hs hp.1 fun v H1 s1 q1 => hb o σ H1 _ (hs.mono s1) hp.2 fun vs H2 s2 q2 => ?_⟩
  exact k (v :: vs) H2 (s1.trans s2) (AL.cons (r.mono (hid_same s2) q1) q2)
theorem ev_tup {k : Nat} (ha : EvA X Γ es t p xt) (hn : t.n ≤ sizeLine := by first | decide | (rw [sizeLine_eq]; decide)) : EvF X Γ (.Tuple es k pos) (rT t) p xt := fun o σ H Q hs hp k => by
  refine ⟨_, pe_tup wa, ha o σ H _ hs hp fun vs H1 s1 q1 => ⟨by rw [t.len q1]; exact hn, fun a na => ?_⟩⟩
  have oa : o a = none := (hs.al.mono s1).free na
  exact k _ _ (s1.trans (same_upd na)) ⟨a, vs, rfl, hid_mk oa upd_same, t.mono (hid_same (same_upd na)) q1⟩
theorem hid_new {o : Own} {H : Hp} {a : Addr} {u : HO} {i : Nat} (na : H a = none) : Same (hid o H) (hid (mark o a i) (upd H a u)) := fun b z h => by
  obtain ⟨h1, h2⟩ := hid_some h
  have ne : b ≠ a := ne_of_none h2 na
  exact hid_mk (by rw [mark_ne ne]; exact h1) (by rw [upd_ne ne]; exact h2)
theorem hid_new' {o : Own} {H0 H' : Hp} {a : Addr} {i : Nat} (na : H0 a = none) (s : Same H0 H') : Same (hid o H0) (hid (mark o a i) H') := fun b z h => by
  obtain ⟨h1, h2⟩ := hid_some h
  have ne : b ≠ a := ne_of_none h2 na
  exact hid_mk (by rw [mark_ne ne]; exact h1) (s _ _ h2)
theorem en_list (ha : EvEs X Γ es r p xs) (hn : xs.length ≤ sizeLine := by rw [sizeLine_eq]; exact Nat.le_of_ble_eq_true rfl) : EvN X Γ (.List es pos) (moL r) p xs := fun o σ H Q hs hp k => by
  refine ⟨_, pe_lst wa, ha o σ H _ hs hp fun vs H1 s1 q1 => ⟨by rw [q1.len]; exact hn, fun a na => ?_⟩⟩
  exact k a _ _ (s1.trans (same_upd na)) (s1.free na) upd_same ⟨vs, rfl, q1.imp fun _ _ q => r.mono (hid_new na) q⟩

/-! ### subscripts -/
def ixI (n : Nat) (i : Int) : Nat := if 0 ≤ i then i.toNat else (i + n).toNat
def gi [Inhabited α] (xs : List α) (i : Int) : α := xs.getD (ixI xs.length i) default
def InB (i : Int) (n : Nat) : Prop := -(n : Int) ≤ i ∧ i < n
theorem atI_of {α : Type} [Inhabited α] {xs : List α} {i : Int} (h : InB i xs.length) : L2.atI xs i = some (gi xs i) := by
  obtain ⟨h1, h2⟩ := h
  unfold L2.atI L2.ixN gi ixI
  by_cases q : 0 ≤ i
  · rw [if_pos q, if_pos h2, if_pos q]
    show xs[i.toNat]? = _
    rw [List.getD_eq_getElem?_getD, List.getElem?_eq_getElem (by omega)]; rfl
  · rw [if_neg q, if_pos h1, if_neg q]
    show xs[(i + xs.length).toNat]? = _
    rw [List.getD_eq_getElem?_getD, List.getElem?_eq_getElem (by omega)]; rfl
theorem atI_AL {P : V → α → Prop} {ws : List V} [Inhabited α] {i : Int} (h : AL P ws xs) (hb : InB i xs.length) : ∃ w, L2.atI ws i = some w ∧ P w (gi xs i) := by
  have e := atI_of hb
  unfold L2.atI at e ⊢
  rw [h.len]
  cases q : L2.ixN xs.length i with
  | none => rw [q] at e; cases e
  | some j =>
    rw [q] at e
    exact h.get (show xs[j]? = _ from e)
theorem ev_ix [Inhabited α] {i : Int} (ha : EvC X Γ a r p xs) (hb : EvF X Γ b rI p' i) (hs : PlainIx b := by exact fun _ _ => rfl) : EvF X Γ (.Subscript a b pos) r (p ∧ p' ∧ InB i xs.length) (gi xs i) := fun o σ H Q hS hp k => by
  refine ⟨_, pe_ix ix_list we we hs, ha o σ H _ hS hp.1 fun l ws H1 s1 q1 q2 => hb o σ H1 _ (hS.mono s1) hp.2.1 fun v H2 s2 q3 => ?_⟩
  obtain ⟨w, e1, e2⟩ := atI_AL q2 hp.2.2
  exact ⟨l, ws, i, w, rfl, q3, s2.seq q1, e1, k w H2 (s1.trans s2) (r.mono (hid_same s2) e2)⟩
structure TpAt (t : Tp τ) (k : Nat) (r : Rp α) (f : τ → α) : Prop where
  at_ : ∀ {H : Hp} {vs : List V} {x : τ}, t.rep H vs x → ∃ v, vs[k]? = some v ∧ r.rep H v (f x)
theorem ta_1 : TpAt (t1 r) 0 r (fun x => x) := ⟨fun ⟨v, e, h⟩ => ⟨v, by rw [e]; rfl, h⟩⟩
theorem ta_0 : TpAt (tc r t) 0 r (fun x => x.1) := ⟨fun ⟨v, ws, e, h, _⟩ => ⟨v, by rw [e]; rfl, h⟩⟩
theorem ta_s {k : Nat} {f : τ → β} (h : TpAt t k r' f) : TpAt (tc r t) (k + 1) r' (fun x => f x.2) := ⟨fun ⟨v, ws, e, _, h'⟩ => by
  obtain ⟨w, e1, e2⟩ := h.at_ h'
  exact ⟨w, by rw [e]; exact e1, e2⟩⟩
theorem ev_tix {k : Nat} {f : τ → α} {j pos'} (ha : EvF X Γ a (rT t) p xt) (h : TpAt t k r f) : EvF X Γ (.Subscript a (.Constant (.int (k : Int)) j pos') pos) r p (f xt) := fun o σ H Q hS hp kk => by
  refine ⟨_, pe_ix ix_tup we pe_int (fun _ _ => rfl), ha o σ H _ hS hp fun v H1 s1 ⟨l, ws, e1, e2, e3⟩ => ?_⟩
  obtain ⟨w, e4, e5⟩ := h.at_ e3
  exact ⟨l, ws, k, w, e1, rfl, SqT.of (hid_some e2).2, atI_nat e4, kk w H1 s1 e5⟩
theorem ev_tixC {k : Nat} {f : τ → α} {i : Int} (ha : EvF X Γ a (rT t) p xt) (hb : EvF X Γ b rI p' i) (h : TpAt t k r f) (e : i = (k : Int)) (hs : PlainIx b := by exact fun _ _ => rfl) : EvF X Γ (.Subscript a b pos) r (p ∧ p') (f xt) := fun o σ H Q hS hp kk => by
  refine ⟨_, pe_ix ix_tup we we hs, ha o σ H _ hS hp.1 fun v H1 s1 ⟨l, ws, e1, e2, e3⟩ => hb o σ H1 _ (hS.mono s1) hp.2 fun u H2 s2 q2 => ?_⟩
  obtain ⟨w, e4, e5⟩ := h.at_ e3
  exact ⟨l, ws, k, w, e1, by rw [← e]; exact q2, SqT.of (s2 _ _ (hid_some e2).2), atI_nat e4, kk w H2 (s1.trans s2) (r.mono (hid_same s2) e5)⟩

/-! ### slices -/
theorem eo_none : EvO X Γ none True none := fun o σ H Q hs _ k => ⟨_, po_none, k H (Same.refl _)⟩
theorem eo_some {i : Int} (h : EvF X Γ e rI p i) : EvO X Γ (some e) p (some i) := fun o σ H Q hs hp k => ⟨_, po_some we, h o σ H _ hs hp fun v H1 s1 q1 => ⟨i, q1, k H1 s1⟩⟩
def cut (xs : List α) (lo hi : Option Int) : List α := (xs.drop (HT.sIx xs.length 0 lo)).take (HT.sIx xs.length xs.length hi - HT.sIx xs.length 0 lo)
theorem cut_AL {P : V → α → Prop} {ws : List V} (h : AL P ws xs) (lo hi : Option Int) : AL P (cutV ws lo hi) (cut xs lo hi) := by
  unfold cutV cut
  rw [h.len]
  exact (h.drop _).take _
theorem en_slice {lo hi : Option Expr} {i j : Option Int} {p2} (ha : EvC X Γ a r p xs) (hl : EvO X Γ lo p' i) (hh : EvO X Γ hi p'' j) : EvN X Γ (.Subscript a (.Slice lo hi none p2) pos) (moL r) (p ∧ p' ∧ p'') (cut xs i j) := fun o σ H Q hS hp k => by
  refine ⟨_, pe_slice sl_list we wo wo, ha o σ H _ hS hp.1 fun l ws H1 s1 q1 q2 => hl o σ H1 _ (hS.mono s1) hp.2.1 fun H2 s2 => hh o σ H2 _ (hS.mono (s1.trans s2)) hp.2.2 fun H3 s3 => ?_⟩
  refine ⟨l, ws, rfl, (s2.trans s3).seq q1, fun n hn => ?_⟩
  have s := (s1.trans s2).trans s3
  exact k n _ _ (s.trans (same_upd hn)) (s.free hn) upd_same ⟨_, rfl, cut_AL (q2.imp fun _ _ q => r.mono ((hid_same (s2.trans s3)).trans (hid_new hn)) q) i j⟩
/-- a slice of a tuple -/
structure TpCut {σ' : Type} (t : Tp τ) (lo hi : Option Int) (t' : Tp σ') (f : τ → σ') : Prop where
  cut : ∀ {H : Hp} {vs : List V} {x : τ}, t.rep H vs x → t'.rep H (cutV vs lo hi) (f x)
theorem cutV_whole {ws : List V} {lo hi : Option Int} (h : HT.sIx ws.length 0 lo = 0 ∧ HT.sIx ws.length ws.length hi = ws.length) : cutV ws lo hi = ws := by
  unfold cutV
  rw [h.1, h.2]
  simp
theorem ev_sliceT {σ' : Type} {t' : Tp σ'} {lo hi : Option Expr} {i j : Option Int} {p2} {f : τ → σ'} (ha : EvF X Γ a (rT t) p xt) (hl : EvO X Γ lo p' i) (hh : EvO X Γ hi p'' j)
    (hc : TpCut t i j t' f) : EvF X Γ (.Subscript a (.Slice lo hi none p2) pos) (rT t') (p ∧ p' ∧ p'') (f xt) := fun o σ H Q hS hp k => by
  refine ⟨_, pe_slice sl_tupA we wo wo, ha o σ H _ hS hp.1 fun v H1 s1 ⟨l, ws, e1, e2, e3⟩ => hl o σ H1 _ (hS.mono s1) hp.2.1 fun H2 s2 => hh o σ H2 _ (hS.mono (s1.trans s2)) hp.2.2 fun H3 s3 => ?_⟩
  have s := (s1.trans s2).trans s3
  have e2' := hid_same (s2.trans s3) _ _ e2
  have e3' := t.mono (hid_same (s2.trans s3)) e3
  refine ⟨l, ws, e1, SqT.of (hid_some e2').2, fun hw => ?_, fun _ n hn => ?_⟩
  · rw [← e1]
    refine k v H3 s ⟨l, ws, e1, e2', ?_⟩
    have := hc.cut e3'
    rwa [cutV_whole hw] at this
  · have on : o n = none := (hS.al.mono s).free hn
    exact k _ _ (s.trans (same_upd hn)) ⟨n, _, rfl, hid_mk on upd_same, t'.mono (hid_same (same_upd hn)) (hc.cut e3')⟩
structure TpApp {σ' ρ : Type} (t : Tp τ) (t' : Tp σ') (t2 : Tp ρ) (f : τ → σ' → ρ) : Prop where
  app : ∀ {H : Hp} {vs ws : List V} {x : τ} {y : σ'}, t.rep H vs x → t'.rep H ws y → t2.rep H (vs ++ ws) (f x y)
/-- t + u -/
theorem ev_catT {σ' ρ : Type} {t' : Tp σ'} {t2 : Tp ρ} {f : τ → σ' → ρ} {y : σ'} (ha : EvF X Γ a (rT t) p xt) (hb : EvF X Γ b (rT t') p' y) (hc : TpApp t t' t2 f)
    (hn : t.n + t'.n ≤ sizeLine := by first | decide | (rw [sizeLine_eq]; decide)) : EvF X Γ (.BinOp a .Add b pos) (rT t2) (p ∧ p') (f xt y) := fun o σ H Q hS hp k => by
  refine ⟨_, pe_op op_catA we we, ha o σ H _ hS hp.1 fun v H1 s1 ⟨l, ws, e1, e2, e3⟩ => hb o σ H1 _ (hS.mono s1) hp.2 fun u H2 s2 ⟨l', ws', e1', e2', e3'⟩ => ?_⟩
  have s := s1.trans s2
  have f2 := hid_same s2 _ _ e2
  have f3 := hc.app (t.mono (hid_same s2) e3) e3'
  refine ⟨l, l', ws, ws', e1, e1', SqT.of (hid_some f2).2, SqT.of (hid_some e2').2, by rw [t.len e3, t'.len e3']; exact hn, fun z => ?_, fun _ z => ?_, fun _ _ n nn => ?_⟩
  · subst z
    rw [← e1']
    exact k u H2 s ⟨l', ws', e1', e2', f3⟩
  · subst z
    rw [← e1]
    rw [List.append_nil] at f3
    exact k v H2 s ⟨l, ws, e1, f2, f3⟩
  · have on : o n = none := (hS.al.mono s).free nn
    exact k _ _ (s.trans (same_upd nn)) ⟨n, _, rfl, hid_mk on upd_same, t2.mono (hid_same (same_upd nn)) f3⟩
/-- xs + ys -/
theorem en_cat {ys : List α} (ha : EvL X Γ a r p xs) (hb : EvL X Γ b r p' ys) : EvN X Γ (.BinOp a .Add b pos) (moL r) (p ∧ p' ∧ xs.length + ys.length ≤ sizeLine) (xs ++ ys) := fun o σ H Q hS hp k => by
  refine ⟨_, pe_op op_cat we we, ha o σ H _ hS hp.1 fun l ws H1 s1 e1 e2 => hb o σ H1 _ (hS.mono s1) hp.2.1 fun l' ws' H2 s2 e1' e2' => ?_⟩
  have s := s1.trans s2
  refine ⟨l, l', ws, ws', rfl, rfl, s2 _ _ e1, e1', by rw [e2.len, e2'.len]; exact hp.2.2, fun n nn => ?_⟩
  exact k n _ _ (s.trans (same_upd nn)) (s.free nn) upd_same ⟨_, rfl, (e2.imp fun _ _ q => r.mono ((hid_same s2).trans (hid_new nn)) q).app (e2'.imp fun _ _ q => r.mono (hid_new nn) q)⟩

/-! ### built-ins -/
theorem ev_cb {γ : Type} {rc : Rp γ} {z : γ} {cond : Prop} {nm : Str} {id : String} {rr : List V → Hp → VK → Prop} {np : Pos} (C : CF X N sc) (hg : glB sc nm = true) (hm : X.mg nm = none) (hv : bootBuiltins nm = some (.builtin id)) (hc : CallR X (.builtin id) rr) (ha : EvA X Γ (e :: es) t p xt)
    (hr : ∀ (o : Own) (H : Hp) (vs : List V) (Q : VK), Al o H → cond → t.rep (hid o H) vs xt → (∀ v H', Same H H' → rc.rep (hid o H') v z → Q v H') → rr vs H Q)
    (hn : nm ≠ "__name__" := by decide) (hdb : (nm == ("__debug__" : Str)) = false := by decide) (he : starEach (e :: es) X.env = (false, eval e X.env) :: starEach es X.env := by rfl) (hpl : (backTo pos (starEach es X.env)).any (·.1) = false := by rfl) :
    EvF X Γ (.Call (.Name nm np) (e :: es) [] pos) rc (p ∧ cond) z := fun o σ H Q hS hp k =>
  ⟨_, pe_callB hc (gl_cf C hg) hm hv wa hn hdb he hpl, ha o σ H _ hS hp.1 fun vs H1 s1 q1 => hr o H1 vs Q (hS.al.mono s1) hp.2 q1 fun v H' s2 q2 => k v H' (s1.trans s2) q2⟩
theorem ev_cty {γ : Type} {rc : Rp γ} {z : γ} {cond : Prop} {nm : Str} {T : String} {rr : List V → Hp → VK → Prop} {np : Pos} (C : CF X N sc) (hg : glB sc nm = true) (hm : X.mg nm = none) (hv : bootBuiltins nm = some (.type T)) (hc : CallR X (.type T) rr) (ha : EvA X Γ (e :: es) t p xt)
    (hr : ∀ (o : Own) (H : Hp) (vs : List V) (Q : VK), Al o H → cond → t.rep (hid o H) vs xt → (∀ v H', Same H H' → rc.rep (hid o H') v z → Q v H') → rr vs H Q)
    (hn : nm ≠ "__name__" := by decide) (hdb : (nm == ("__debug__" : Str)) = false := by decide) (he : starEach (e :: es) X.env = (false, eval e X.env) :: starEach es X.env := by rfl) (hpl : (backTo pos (starEach es X.env)).any (·.1) = false := by rfl) :
    EvF X Γ (.Call (.Name nm np) (e :: es) [] pos) rc (p ∧ cond) z := fun o σ H Q hS hp k =>
  ⟨_, pe_callTy hc (gl_cf C hg) hm hv wa hn hdb he hpl, ha o σ H _ hS hp.1 fun vs H1 s1 q1 => hr o H1 vs Q (hS.al.mono s1) hp.2 q1 fun v H' s2 q2 => k v H' (s1.trans s2) q2⟩
/-- a built-in of one list, read at once -/
theorem ev_cbC {γ : Type} {rc : Rp γ} {z : γ} {cond : Prop} {nm : Str} {id : String} {rr : List V → Hp → VK → Prop} {np : Pos} (C : CF X N sc) (hg : glB sc nm = true) (hm : X.mg nm = none) (hv : bootBuiltins nm = some (.builtin id)) (hc : CallR X (.builtin id) rr) (ha : EvC X Γ e r p xs)
    (hr : ∀ (o : Own) (H : Hp) (a : Addr) (ws : List V) (Q : VK), Al o H → cond → SqL X.K H a ws → AL (r.rep (hid o H)) ws xs → (∀ v H', Same H H' → rc.rep (hid o H') v z → Q v H') → rr [.ref a] H Q)
    (hn : nm ≠ "__name__" := by decide) (hdb : (nm == ("__debug__" : Str)) = false := by decide) (he : starEach [e] X.env = (false, eval e X.env) :: starEach [] X.env := by rfl) (hpl : (backTo pos (starEach [] X.env)).any (·.1) = false := by rfl) :
    EvF X Γ (.Call (.Name nm np) [e] [] pos) rc (p ∧ cond) z := fun o σ H Q hS hp k =>
  ⟨_, pe_callB hc (gl_cf C hg) hm hv (pa_cons we pa_nil he) hn hdb he hpl, ha o σ H _ hS hp.1 fun a ws H1 s1 q1 q1' => hr o H1 a ws Q (hS.al.mono s1) hp.2 q1 q1' fun v H' s2 q2 => k v H' (s1.trans s2) q2⟩
theorem en_cbC {γ : Type} {mc : Mo γ} {z : γ} {cond : Prop} {nm : Str} {id : String} {rr : List V → Hp → VK → Prop} {np : Pos} (C : CF X N sc) (hg : glB sc nm = true) (hm : X.mg nm = none) (hv : bootBuiltins nm = some (.builtin id)) (hc : CallR X (.builtin id) rr) (ha : EvC X Γ e r p xs)
    (hr : ∀ (o : Own) (H : Hp) (a : Addr) (ws : List V) (Q : VK), Al o H → cond → SqL X.K H a ws → AL (r.rep (hid o H)) ws xs → (∀ n u H', Same H H' → H n = none → H' n = some u → mc.rep (hid (mark o n 0) H') u z → Q (.ref n) H') → rr [.ref a] H Q)
    (hn : nm ≠ "__name__" := by decide) (hdb : (nm == ("__debug__" : Str)) = false := by decide) (he : starEach [e] X.env = (false, eval e X.env) :: starEach [] X.env := by rfl) (hpl : (backTo pos (starEach [] X.env)).any (·.1) = false := by rfl) :
    EvN X Γ (.Call (.Name nm np) [e] [] pos) mc (p ∧ cond) z := fun o σ H Q hS hp k =>
  ⟨_, pe_callB hc (gl_cf C hg) hm hv (pa_cons we pa_nil he) hn hdb he hpl, ha o σ H _ hS hp.1 fun a ws H1 s1 q1 q1' => hr o H1 a ws Q (hS.al.mono s1) hp.2 q1 q1' fun n u H' s2 q2 q3 q4 => k n u H' (s1.trans s2) (s1.free q2) q3 q4⟩
variable {i j : Int} {np : Pos}
theorem ev_len (C : CF X N sc) (hg : glB sc "len" = true) (hm : X.mg "len" = none) (ha : EvC X Γ e r p xs) (he : starEach [e] X.env = (false, eval e X.env) :: starEach [] X.env := by rfl) : EvF X Γ (.Call (.Name "len" np) [e] [] pos) rI (p ∧ True) (xs.length : Int) :=
  ev_cbC C hg hm PySem.boot_len call_len_seq ha (fun o H a ws Q _ _ q1 q2 k => ⟨a, ws, rfl, .inl q1, k _ H (Same.refl _) (by rw [q2.len]; rfl)⟩) (he := he)
theorem ev_lenS {z : Str} (C : CF X N sc) (hg : glB sc "len" = true) (hm : X.mg "len" = none) (ha : EvF X Γ e rS p z) (he : starEach [e] X.env = (false, eval e X.env) :: starEach [] X.env := by rfl) : EvF X Γ (.Call (.Name "len" np) [e] [] pos) rI (p ∧ z.length ≤ sizeLine) (z.length : Int) :=
  ev_cb C hg hm PySem.boot_len call_len_str (ea_one ha he) (fun o H vs Q _ hc ⟨v, e1, e2⟩ k => ⟨z, by rw [e1, show v = _ from e2], hc, k _ H (Same.refl _) rfl⟩) (he := he)
theorem ev_abs (C : CF X N sc) (hg : glB sc "abs" = true) (hm : X.mg "abs" = none) (ha : EvF X Γ e rI p i) (he : starEach [e] X.env = (false, eval e X.env) :: starEach [] X.env := by rfl) : EvF X Γ (.Call (.Name "abs" np) [e] [] pos) rI (p ∧ True) (if i < 0 then -i else i) :=
  ev_cb C hg hm (by decide +kernel) call_abs (ea_one ha he) (fun o H vs Q _ hc ⟨v, e1, e2⟩ k => ⟨i, by rw [e1, show v = _ from e2], k _ H (Same.refl _) rfl⟩) (he := he)
theorem ev_intI (C : CF X N sc) (hg : glB sc "int" = true) (hm : X.mg "int" = none) (ha : EvF X Γ e rI p i) (he : starEach [e] X.env = (false, eval e X.env) :: starEach [] X.env := by rfl) : EvF X Γ (.Call (.Name "int" np) [e] [] pos) rI (p ∧ True) i :=
  ev_cty C hg hm (by decide +kernel) call_int1 (ea_one ha he) (fun o H vs Q _ hc ⟨v, e1, e2⟩ k => .inl ⟨i, by rw [e1, show v = _ from e2], k _ H (Same.refl _) rfl⟩) (he := he)
theorem ev_intB {bb : Bool} (C : CF X N sc) (hg : glB sc "int" = true) (hm : X.mg "int" = none) (ha : EvF X Γ e rB p bb) (he : starEach [e] X.env = (false, eval e X.env) :: starEach [] X.env := by rfl) : EvF X Γ (.Call (.Name "int" np) [e] [] pos) rI (p ∧ True) (if bb then 1 else 0) :=
  ev_cty C hg hm (by decide +kernel) call_int1 (ea_one ha he) (fun o H vs Q _ hc ⟨v, e1, e2⟩ k => .inr ⟨bb, by rw [e1, show v = _ from e2], k _ H (Same.refl _) rfl⟩) (he := he)
theorem ev_max2 {e2 : Expr} (C : CF X N sc) (hg : glB sc "max" = true) (hm : X.mg "max" = none) (ha : EvF X Γ e rI p i) (hb : EvF X Γ e2 rI p' j) (he : starEach [e, e2] X.env = (false, eval e X.env) :: starEach [e2] X.env := by rfl) (he2 : starEach [e2] X.env = (false, eval e2 X.env) :: starEach [] X.env := by rfl)
    (hpl : (backTo pos (starEach [e2] X.env)).any (·.1) = false := by rfl) : EvF X Γ (.Call (.Name "max" np) [e, e2] [] pos) rI ((p ∧ p') ∧ True) (if i < j then j else i) :=
  ev_cb C hg hm (by decide +kernel) (call_max2 C.calm) (ea_cons ha (ea_one hb he2) he) (fun o H vs Q _ hc ⟨v, ws, e1, e2, w, e3, e4⟩ k => ⟨i, j, by rw [e1, e3, show v = _ from e2, show w = _ from e4], k _ H (Same.refl _) rfl⟩) (he := he) (hpl := hpl)
theorem ev_min2 {e2 : Expr} (C : CF X N sc) (hg : glB sc "min" = true) (hm : X.mg "min" = none) (ha : EvF X Γ e rI p i) (hb : EvF X Γ e2 rI p' j) (he : starEach [e, e2] X.env = (false, eval e X.env) :: starEach [e2] X.env := by rfl) (he2 : starEach [e2] X.env = (false, eval e2 X.env) :: starEach [] X.env := by rfl)
    (hpl : (backTo pos (starEach [e2] X.env)).any (·.1) = false := by rfl) : EvF X Γ (.Call (.Name "min" np) [e, e2] [] pos) rI ((p ∧ p') ∧ True) (if j < i then j else i) :=
  ev_cb C hg hm (by decide +kernel) (call_min2 C.calm) (ea_cons ha (ea_one hb he2) he) (fun o H vs Q _ hc ⟨v, ws, e1, e2, w, e3, e4⟩ k => ⟨i, j, by rw [e1, e3, show v = _ from e2, show w = _ from e4], k _ H (Same.refl _) rfl⟩) (he := he) (hpl := hpl)
theorem al_int {F : Hp} : ∀ {ws : List V} {ns : List Int}, AL (rI.rep F) ws ns → ws = ns.map V.int
  | [], [], _ => rfl
  | [], _ :: _, h => by have := h.len; simp at this
  | _ :: _, [], h => by have := h.len; simp at this
  | w :: ws, n :: ns, h => by rw [show w = _ from h.head.1, al_int h.head.2]; rfl
theorem al_bl {F : Hp} : ∀ {ws : List V} {ns : List Bool}, AL (rB.rep F) ws ns → ws = ns.map V.bl
  | [], [], _ => rfl
  | [], _ :: _, h => by have := h.len; simp at this
  | _ :: _, [], h => by have := h.len; simp at this
  | w :: ws, n :: ns, h => by rw [show w = _ from h.head.1, al_bl h.head.2]; rfl
theorem al_ints {F : Hp} : ∀ (ns : List Int), AL (rI.rep F) (ns.map V.int) ns
  | [] => AL.nil
  | n :: ns => AL.cons rfl (al_ints ns)
variable {ns : List Int} {bs : List Bool}
theorem ev_sum (C : CF X N sc) (hg : glB sc "sum" = true) (hm : X.mg "sum" = none) (ha : EvC X Γ e rI p ns) (he : starEach [e] X.env = (false, eval e X.env) :: starEach [] X.env := by rfl) : EvF X Γ (.Call (.Name "sum" np) [e] [] pos) rI (p ∧ True) ns.sum :=
  ev_cbC C hg hm (by decide +kernel) (cr_sum C.calm) ha (fun o H a ws Q _ _ q1 q2 k => ⟨a, ns, rfl, by rw [← al_int q2]; exact q1, k _ H (Same.refl _) rfl⟩) (he := he)
def maxI : List Int → Int
  | [] => 0
  | x :: xs => xs.foldl (fun a b => if a < b then b else a) x
def minI : List Int → Int
  | [] => 0
  | x :: xs => xs.foldl (fun a b => if b < a then b else a) x
theorem foldmax (xs : List Int) : ∀ x : Int, (xs.foldl (fun a b => if a < b then b else a) x ∈ x :: xs) ∧ ∀ y ∈ x :: xs, y ≤ xs.foldl (fun a b => if a < b then b else a) x := by
  induction xs with
  | nil => intro x; simp
  | cons z zs ih =>
    intro x
    rw [List.foldl_cons]
    generalize hw : (if x < z then z else x) = w
    have hq : (x ≤ w ∧ z ≤ w) ∧ (w = x ∨ w = z) := by rw [← hw]; split <;> omega
    obtain ⟨h1, h2⟩ := ih w
    refine ⟨?_, fun y hy => ?_⟩
    · rcases List.mem_cons.mp h1 with h | h
      · rw [h]; rcases hq.2 with q | q <;> simp [q]
      · simp [h]
    · have h3 := h2 _ List.mem_cons_self
      rcases List.mem_cons.mp hy with h | h
      · omega
      · rcases List.mem_cons.mp h with h | h
        · omega
        · exact h2 y (List.mem_cons_of_mem _ h)
theorem foldmin (xs : List Int) : ∀ x : Int, (xs.foldl (fun a b => if b < a then b else a) x ∈ x :: xs) ∧ ∀ y ∈ x :: xs, xs.foldl (fun a b => if b < a then b else a) x ≤ y := by
  induction xs with
  | nil => intro x; simp
  | cons z zs ih =>
    intro x
    rw [List.foldl_cons]
    generalize hw : (if z < x then z else x) = w
    have hq : (w ≤ x ∧ w ≤ z) ∧ (w = x ∨ w = z) := by rw [← hw]; split <;> omega
    obtain ⟨h1, h2⟩ := ih w
    refine ⟨?_, fun y hy => ?_⟩
    · rcases List.mem_cons.mp h1 with h | h
      · rw [h]; rcases hq.2 with q | q <;> simp [q]
      · simp [h]
    · have h3 := h2 _ List.mem_cons_self
      rcases List.mem_cons.mp hy with h | h
      · omega
      · rcases List.mem_cons.mp h with h | h
        · omega
        · exact h2 y (List.mem_cons_of_mem _ h)
theorem maxI_spec {ns : List Int} (h : ns ≠ []) : maxI ns ∈ ns ∧ ∀ y ∈ ns, y ≤ maxI ns := by
  cases ns with
  | nil => exact absurd rfl h
  | cons x xs => exact foldmax xs x
theorem minI_spec {ns : List Int} (h : ns ≠ []) : minI ns ∈ ns ∧ ∀ y ∈ ns, minI ns ≤ y := by
  cases ns with
  | nil => exact absurd rfl h
  | cons x xs => exact foldmin xs x
theorem ev_max (C : CF X N sc) (hg : glB sc "max" = true) (hm : X.mg "max" = none) (ha : EvC X Γ e rI p ns) (he : starEach [e] X.env = (false, eval e X.env) :: starEach [] X.env := by rfl) : EvF X Γ (.Call (.Name "max" np) [e] [] pos) rI (p ∧ ns ≠ []) (maxI ns) :=
  ev_cbC C hg hm (by decide +kernel) (cr_max C.calm) ha (fun o H a ws Q _ hc q1 q2 k => ⟨a, ns, rfl, by rw [← al_int q2]; exact q1, List.length_pos_iff.mpr hc, fun m hm hle => k _ H (Same.refl _) (by
    have := maxI_spec hc
    have h1 := hle _ this.1
    have h2 := this.2 _ hm
    have : m = maxI ns := by omega
    rw [this]; rfl)⟩) (he := he)
theorem ev_min (C : CF X N sc) (hg : glB sc "min" = true) (hm : X.mg "min" = none) (ha : EvC X Γ e rI p ns) (he : starEach [e] X.env = (false, eval e X.env) :: starEach [] X.env := by rfl) : EvF X Γ (.Call (.Name "min" np) [e] [] pos) rI (p ∧ ns ≠ []) (minI ns) :=
  ev_cbC C hg hm (by decide +kernel) (cr_min C.calm) ha (fun o H a ws Q _ hc q1 q2 k => ⟨a, ns, rfl, by rw [← al_int q2]; exact q1, List.length_pos_iff.mpr hc, fun m hm hle => k _ H (Same.refl _) (by
    have := minI_spec hc
    have h1 := hle _ this.1
    have h2 := this.2 _ hm
    have : m = minI ns := by omega
    rw [this]; rfl)⟩) (he := he)
theorem ev_any (C : CF X N sc) (hg : glB sc "any" = true) (hm : X.mg "any" = none) (ha : EvC X Γ e rB p bs) (he : starEach [e] X.env = (false, eval e X.env) :: starEach [] X.env := by rfl) : EvF X Γ (.Call (.Name "any" np) [e] [] pos) rB (p ∧ True) (bs.any id) :=
  ev_cbC C hg hm (by decide +kernel) (cr_any C.calm) ha (fun o H a ws Q _ _ q1 q2 k => ⟨a, bs, rfl, by rw [← al_bl q2]; exact q1, k _ H (Same.refl _) rfl⟩) (he := he)
theorem ev_all (C : CF X N sc) (hg : glB sc "all" = true) (hm : X.mg "all" = none) (ha : EvC X Γ e rB p bs) (he : starEach [e] X.env = (false, eval e X.env) :: starEach [] X.env := by rfl) : EvF X Γ (.Call (.Name "all" np) [e] [] pos) rB (p ∧ True) (bs.all id) :=
  ev_cbC C hg hm (by decide +kernel) (cr_all C.calm) ha (fun o H a ws Q _ _ q1 q2 k => ⟨a, bs, rfl, by rw [← al_bl q2]; exact q1, k _ H (Same.refl _) rfl⟩) (he := he)
theorem en_listof (C : CF X N sc) (hg : glB sc "list" = true) (hm : X.mg "list" = none) (ha : EvC X Γ e r p xs) (he : starEach [e] X.env = (false, eval e X.env) :: starEach [] X.env := by rfl) (hpl : (backTo pos (starEach [] X.env)).any (·.1) = false := by rfl) : EvN X Γ (.Call (.Name "list" np) [e] [] pos) (moL r) p xs := fun o σ H Q hS hp k =>
  ⟨_, pe_callTy call_list_of (gl_cf C hg) hm (by decide +kernel) (pa_cons we pa_nil he) (by decide) (by decide) he hpl, ha o σ H _ hS hp fun a ws H1 s1 q1 q2 => ⟨a, ws, rfl, .inl q1, fun n nn =>
    k n _ _ (s1.trans (same_upd nn)) (s1.free nn) upd_same ⟨ws, rfl, q2.imp fun _ _ q => r.mono (hid_new nn) q⟩⟩⟩
end

/-! ### sorted: ints -/
def sortI (ns : List Int) : List Int := ns.mergeSort (fun a b => decide (a ≤ b))
theorem sorted_unique {α : Type} {le : α → α → Prop} (anti : ∀ a b, le a b → le b a → a = b) : ∀ {xs ys : List α}, xs.Perm ys → xs.Pairwise le → ys.Pairwise le → xs = ys
  | [], ys, h, _, _ => (List.Perm.nil_eq h)
  | x :: xs, ys, h, hx, hy => by
    cases ys with
    | nil => exact absurd h.length_eq (by simp)
    | cons y ys =>
      have e : x = y := by
        have hx' := List.pairwise_cons.mp hx
        have hy' := List.pairwise_cons.mp hy
        have m1 : x ∈ y :: ys := h.mem_iff.mp List.mem_cons_self
        have m2 : y ∈ x :: xs := h.mem_iff.mpr List.mem_cons_self
        rcases List.mem_cons.mp m1 with q | q
        · exact q
        · rcases List.mem_cons.mp m2 with q' | q'
          · exact q'.symm
          · exact anti _ _ (hx'.1 _ q') (hy'.1 _ q)
      subst e
      rw [sorted_unique anti (List.Perm.cons_inv h) (List.pairwise_cons.mp hx).2 (List.pairwise_cons.mp hy).2]
theorem sortI_spec (ns : List Int) : (sortI ns).Perm ns ∧ (sortI ns).Pairwise (· ≤ ·) := by
  refine ⟨List.mergeSort_perm _ _, ?_⟩
  have := List.pairwise_mergeSort (le := fun a b : Int => decide (a ≤ b)) (fun a b c h1 h2 => by simp at *; omega) (fun a b => by simp; omega) ns
  exact this.imp fun h => by simpa using h
theorem sortI_of {ns ns' : List Int} (h : ns'.Perm ns) (hp : ns'.Pairwise (· ≤ ·)) : ns' = sortI ns :=
  sorted_unique (le := (· ≤ ·)) (fun a b h1 h2 => by omega) (h.trans (sortI_spec ns).1.symm) hp (sortI_spec ns).2
theorem en_sortI {X : Cx} {N : List Str} {sc : Scope} {Γ : Gm} {e : Expr} {p : Prop} {ns : List Int} {np pos : Pos} (C : CF X N sc) (hg : glB sc "sorted" = true) (hm : X.mg "sorted" = none) (ha : EvC X Γ e rI p ns) (he : starEach [e] X.env = (false, eval e X.env) :: starEach [] X.env := by rfl) :
    EvN X Γ (.Call (.Name "sorted" np) [e] [] pos) (moL rI) (p ∧ True) (sortI ns) :=
  en_cbC C hg hm (by decide +kernel) cr_sortedI ha (fun o H a ws Q _ _ q1 q2 k => ⟨a, ns, rfl, by rw [← al_int q2]; exact q1, fun ns' n h1 h2 nn =>
    k n _ _ (same_upd nn) nn upd_same ⟨_, rfl, by rw [sortI_of h1 h2]; exact al_ints _⟩⟩) (he := he)
end L3

namespace L3
open PySem L2

/-! ### defs: promises with no repr around -/
structure FnG (P : Program) (w : World) (K : PySem.W.Frag) (mg : Str → Option Value) (base : Heap) (C : CXT) (k : Nat) (f : Addr) (fd : FuncData) (ps : List Str) (sp : Sp) : Prop where
  len : ∀ vs H Q E, sp vs H Q E → vs.length = ps.length
  run : ∀ (A : Around) (outer : List Env) (s : Shared) (H : Hp) (args : Args) (us : List Value) (vs : List V) (Q : VK) (E : XK), A.guards = some [] → Room k A → Env0 P w K mg base A outer s H →
    BindsTo s fd args (ps.zip us) → Vals vs us → sp vs H Q E → codeAny (model P w) A (.call (.ref f) args) (CR C outer P w H s Q E) s
theorem FnG.up {P : Program} {w : World} {K : PySem.W.Frag} {mg : Str → Option Value} {base : Heap} {C : CXT} {j k : Nat} {f : Addr} {fd : FuncData} {ps : List Str} {sp : Sp} (F : FnG P w K mg base C j f fd ps sp) (h : j ≤ k) :
    FnG P w K mg base C k f fd ps sp := ⟨F.len, fun A outer s H args us vs Q E hg hr => F.run A outer s H args us vs Q E hg (hr.mono h)⟩

/-- X runs a body whose names and scope are these; where nothing is shown, with room for k calls -/
structure CF2 (X : Cx) (k : Nat) : Prop where
  gd : X.A.guards = some []
  rm : Room k X.A
  po : PassesOwn (model X.prog X.w) X.A X.env X.xe

section
variable {X : Cx} {C : CXT} {k : Nat} {f : Addr} {fd : FuncData} {ps : List Str} {sp : Sp} {dvs : List V} {ds : List Value} {E : XK} {z : Str} {np pos : Pos} {e : Expr} {es : List Expr} {t : TA}
theorem run_fnG {pins : List (Addr × Obj)} {σ : St} {H : Hp} {s : Shared} {Q : VK} {us : List Value} {vs : List V} (F : FnG X.prog X.w X.K X.mg X.base C k f fd ps sp) (hc : X.A.guards = some []) (hr : Room k X.A) (hb : Binds X.K fd ps ds) (hd : Vals dvs ds) (hx : Passes C X E)
    (I : Inv X pins σ H s) (rv : Vals vs us) (h : sp (vs ++ dvs) H Q E) : wpAny (model X.prog X.w) X.A (call (.ref f) us) (EP X pins σ Q) X.xe s := by
  have all : Vals (vs ++ dvs) (us ++ ds) := rv.append hd
  have many : (us ++ ds).length = ps.length := by rw [← all.length, F.len _ _ _ _ h]
  have go := F.run X.A X.stack s H ⟨us, []⟩ (us ++ ds) (vs ++ dvs) Q E hc hr I.env0 (hb s us I.kIn many) all h
  apply wpAny_call
  apply codeAny_mono go
  rintro (x | fl) s' hq
  · exact hx pins σ H s x s' I hq
  · match fl, hq with
    | .ret u, hq => exact I.after hq
theorem pe_callG (F : FnG X.prog X.w X.K X.mg X.base C k f fd ps sp) (hc : X.A.guards = some []) (hr : Room k X.A) (hg : Gl X z) (hm : X.mg z = some (.ref f)) (hk : PySem.W.keepIn X.K (.ref f) = true) (hb : Binds X.K fd ps ds) (hd : Vals dvs ds) (hx : Passes C X E)
    (ha : PA X (e :: es) t) (hdb : (z == ("__debug__" : Str)) = false) (he : starEach (e :: es) X.env = (false, eval e X.env) :: starEach es X.env) (hpl : (backTo pos (starEach es X.env)).any (·.1) = false) :
    PE X (.Call (.Name z np) (e :: es) [] pos) (tCall sp dvs E t) := by
  constructor
  intro pins s σ H Q I h
  apply wpAny_Call_Name_kw
  apply ld_glob I hg hm _ hdb
  refine PySem.W.callWith_K (h₀ := X.base) I.ok.mod.kin hk ?_ he hpl
  refine thn (ha.run pos pins s σ H _ I h) ?_
  rintro us s1 ⟨vs, H1, I1, rv, q⟩
  exact ⟨I1.kIn, run_fnG F hc hr hb hd hx I1 rv q⟩
end

/-- a def's body keeps its promise -/
theorem fn_ofG {C : CXT} {P : Program} {w : World} {K : PySem.W.Frag} {mg : Str → Option Value} {base : Heap} {k : Nat} {f : Addr} {x qual : Str} {st : Stmt} {fd : FuncData} {N ps : List Str} {sp : Sp} (F : Fun K x qual st f fd) (S : FnScope N ps (defScope st))
    (len : ∀ vs H Q E, sp vs H Q E → vs.length = ps.length)
    (hbody : ∀ (cdv : Value) (A : Around) (outer : List Env) (s : Shared) (H : Hp) (vs : List V) (Q : VK) (E : XK), A.guards = some [] → Room k (A.deeper (PyProof.Rows.envOfC qual (defScope st) s.heap.objs.size f cdv)) → sp vs H Q E →
      ∃ t, PSs (cxOf C P w K mg base N qual (defScope st) f cdv A outer s H E) (defBody st) t ∧ t { nx := fun _ H' => Q .non H', rt := Q } (start N vs) H) : FnG P w K mg base C (k + 1) f fd ps sp := by
  obtain ⟨oc, od, kV, doc, pm, an, cdv, ct, osl, rfl, lk, hcd⟩ := F.ex
  constructor
  · exact len
  intro A outer s H args us vs Q E hgd hr e0 hb rv hsp
  have many := len _ _ _ _ hsp
  have KX : K.In s.heap := e0.mod.kin.keeps fun b o e => (e0.bs b o e).1
  have lim : s.heap.NoLimit := e0.mod.nolimit.keeps fun b o e => (e0.bs b o e).1
  have kinds : ∀ y ∈ ps.zip us, (defScope st).names.lookup y.1 = some .local ∨ ((defScope st).names.lookup y.1 = some .cell ∧ ((cellsFrom (s.heap.objs.size + 1) (defScope st).names []).lookup y.1).isSome = true) := by
    rintro ⟨n, v⟩ hy
    rcases S.par n (List.of_mem_zip hy).1 with q | q
    · exact Or.inl q
    · exact Or.inr ⟨q, PySem.W.cellsFrom_some _ _ _ (Or.inl q)⟩
  apply codeAny_call_function hr.depth (KX _ _ lk) rfl S.co S.gen rfl (PySem.W.codeRec_of KX hcd)
  apply hb
  apply wpAny_newFunctionEnv_cells S.kind kinds
  intro env he s1 x
  subst he
  refine ⟨lim.keeps x.toInCall.keep, ?_⟩
  apply codeAny_func
  obtain ⟨t, ht, hq⟩ := hbody cdv A outer s H vs Q E hgd (hr.deeper _) hsp
  have I := inv_start (CX := C) (E := E) S hr.hd e0 many rv x
  apply wpAny_mono (ht.run [] s1 (start N vs) H _ I hq)
  · intro fl s' hs
    match fl, hs with
    | .ret u, ⟨v, σ', H', J, rv', q⟩ => exact ⟨v, H', J.os, J.bare, J.base, J.hok, rv', q⟩
    | .next, ⟨σ', H', J, q⟩ => exact ⟨V.non, H', J.os, J.bare, J.base, J.hok, rfl, q⟩
    | .brk, ⟨_, _, _, q⟩ => exact q.elim
    | .cont, ⟨_, _, _, q⟩ => exact q.elim
  · exact fun e s' hs => hs

/-! ### calls of defs -/
def hidO (O : Addr → Bool) (H : Hp) : Hp := hid (fun b => if O b = true then some 1000 else none) H
/-- given x (hidden addresses are never met), f x comes back; nothing that stood is changed -/
def spF {τ ρ : Type} (t : Tp τ) (rr : Rp ρ) (vc : τ → Prop) (f : τ → ρ) : Sp := fun vs H Q _ => ∃ (O : Addr → Bool) (x : τ), (∀ b, O b = true → H b ≠ none) ∧ t.rep (hidO O H) vs x ∧ vc x ∧ ∀ v H', Same H H' → rr.rep (hidO O H') v (f x) → Q v H'
theorem spF_len {τ ρ : Type} {t : Tp τ} {rr : Rp ρ} {vc : τ → Prop} {f : τ → ρ} {ps : List Str} (h : ps.length = t.n) : ∀ vs H Q E, spF t rr vc f vs H Q E → vs.length = ps.length := by
  rintro vs H Q E ⟨O, x, _, h2, _⟩
  rw [t.len h2, h]
theorem hidO_of {o : Own} {H : Hp} : hidO (fun b => (o b).isSome) H = hid o H := by
  funext b
  unfold hidO hid
  cases e : o b <;> simp [e]
section
variable {X : Cx} {N : List Str} {sc : Scope} {Γ : Gm} {α β τ ρ : Type} {e : Expr} {es : List Expr} {r : Rp α} {t : Tp τ} {rr : Rp ρ} {vc : τ → Prop} {g : τ → ρ} {p : Prop} {x : τ} {np pos : Pos} {k k' : Nat} {f : Addr} {fd : FuncData} {ps : List Str} {z : Str}
theorem ev_call (F : FnG X.prog X.w X.K X.mg X.base CX0 k f fd ps (spF t rr vc g)) (C : CF X N sc) (C2 : CF2 X k') (hk' : k ≤ k') (hg : glB sc z = true) (hm : X.mg z = some (.ref f)) (hk : PySem.W.keepIn X.K (.ref f) = true) (hb : Binds X.K fd ps [])
    (ha : EvA X Γ (e :: es) t p x) (hdb : (z == ("__debug__" : Str)) = false := by decide) (he : starEach (e :: es) X.env = (false, eval e X.env) :: starEach es X.env := by rfl) (hpl : (backTo pos (starEach es X.env)).any (·.1) = false := by rfl) :
    EvF X Γ (.Call (.Name z np) (e :: es) [] pos) rr (p ∧ vc x) (g x) := fun o σ H Q hS hp kk => by
  refine ⟨_, pe_callG F C2.gd (C2.rm.mono hk') (gl_cf C hg) hm hk hb .nil pass0 wa hdb he hpl, ha o σ H _ hS hp.1 fun vs H1 s1 q1 => ?_⟩
  refine ⟨fun b => (o b).isSome, x, hS.al.mono s1, by rw [hidO_of, List.append_nil]; exact q1, hp.2, fun v H' s2 q2 => kk v H' (s1.trans s2) (by rw [hidO_of] at q2; exact q2)⟩
end

/-! ### walks -/
def Iter {α : Type} (o : Own) (H1 : Hp) (r : Rp α) (xs : List α) (J : It) : Prop :=
  ∀ (o2 : Own) (H2 : Hp), Same (hid o H1) (hid o2 H2) → Al o2 H2 → ∀ i, i ≤ xs.length →
    (∀ y, xs[i]? = some y → J.go i H2 ∧ ∀ v H3, J.yld i H2 v H3 → Same H2 H3 ∧ r.rep (hid o2 H3) v y) ∧ (i = xs.length → J.stop i H2)
def EvI {α : Type} (X : Cx) (Γ : Gm) (tg it : Expr) (r : Rp α) (p : Prop) (xs : List α) : Prop :=
  ∀ (o : Own) (σ : St) (H : Hp) (R : It → Hp → Prop), ES Γ o σ H → p → (∀ J H1, Same H H1 → Iter o H1 r xs J → R J H1) → WI X tg it σ H R
section
variable {X : Cx} {N : List Str} {sc : Scope} {Γ : Gm} {α β τ ρ : Type} {tg e a b : Expr} {es : List Expr} {r : Rp α} {r' : Rp β} {p p' : Prop} {xs : List α} {ys : List β} {np pos : Pos}
theorem iter_list {o : Own} {H1 : Hp} {K : PySem.W.Frag} {l : Addr} {ws : List V} (h1 : SqL K (hid o H1) l ws) (h2 : AL (r.rep (hid o H1)) ws xs) : Iter o H1 r xs (Itl K l) := by
  intro o2 H2 s al i hi
  have q : SqL K H2 l ws := Same.seq hid_le (s.seq h1)
  refine ⟨fun y hy => ?_, fun e => ⟨ws, q, by rw [h2.len]; exact Nat.le_of_eq e.symm⟩⟩
  obtain ⟨w, e1, e2⟩ := h2.get hy
  refine ⟨⟨ws, w, q, e1⟩, fun v H3 ⟨e3, e4⟩ => ?_⟩
  subst e3
  have := e4 ws q
  rw [e1] at this
  cases this
  exact ⟨Same.refl _, r.mono s e2⟩
theorem ei_list (h : EvF X Γ e (rL r) p xs) : EvI X Γ tg e r p xs := fun o σ H R hS hp k =>
  ⟨_, pi_list we, h o σ H _ hS hp fun v H1 s1 ⟨l, u, e1, e2, ws, e3, e4⟩ => by
    subst e3
    exact ⟨l, e1, ⟨ws, SqL.of (hid_some e2).2⟩, k _ H1 s1 (iter_list (SqL.of e2) e4)⟩⟩
theorem ei_seq (h : EvF X Γ e (rQ X.K r) p xs) : EvI X Γ tg e r p xs := fun o σ H R hS hp k =>
  ⟨_, pi_list we, h o σ H _ hS hp fun v H1 s1 ⟨l, ws, e1, e2, e3⟩ => ⟨l, e1, ⟨ws, Same.seq hid_le e2⟩, k _ H1 s1 (iter_list e2 e3)⟩⟩
/-- range(n), range(a, b) -/
def rng (lo hi : Int) : List Int := (List.range (hi - lo).toNat).map fun (k : Nat) => lo + (k : Int)
theorem rng_get {lo hi : Int} {i : Nat} {y : Int} (h : (rng lo hi)[i]? = some y) : i < (hi - lo).toNat ∧ y = lo + (i : Int) := by
  unfold rng at h
  rw [List.getElem?_map] at h
  by_cases q : i < (hi - lo).toNat
  · rw [List.getElem?_range q] at h
    exact ⟨q, (Option.some.inj h).symm⟩
  · rw [List.getElem?_eq_none (by rw [List.length_range]; exact Nat.le_of_not_lt q)] at h
    cases h
theorem rng_len {lo hi : Int} : (rng lo hi).length = (hi - lo).toNat := by unfold rng; simp
theorem mem_rng {lo hi y : Int} : y ∈ rng lo hi ↔ lo ≤ y ∧ y < hi := by
  unfold rng
  simp only [List.mem_map, List.mem_range]
  constructor
  · rintro ⟨k, h1, h2⟩; omega
  · rintro ⟨h1, h2⟩; exact ⟨(y - lo).toNat, by omega, by omega⟩
theorem iter_rng {o : Own} {H1 : Hp} {lo hi : Int} : Iter o H1 rI (rng lo hi) (Itr lo (hi - lo).toNat) := by
  intro o2 H2 s al i hi'
  refine ⟨fun y hy => ?_, fun e => by rw [rng_len] at e; exact Nat.le_of_eq e.symm⟩
  obtain ⟨h1, h2⟩ := rng_get hy
  refine ⟨h1, fun v H3 ⟨e1, e2⟩ => ?_⟩
  subst e1
  exact ⟨Same.refl _, by rw [e2, h2]; rfl⟩
def RgB (i : Int) : Prop := -(2 ^ 62) ≤ i ∧ i < 2 ^ 62
theorem ei_range1 {i : Int} (C : CF X N sc) (hg : glB sc "range" = true) (hm : X.mg "range" = none) (ha : EvF X Γ a rI p i) (h1 : starEach [a] X.env = (false, eval a X.env) :: starEach [] X.env := by rfl) (h2 : starEach [a] X.env = [(false, eval a X.env)] := by rfl) :
    EvI X Γ tg (.Call (.Name "range" np) [a] [] pos) rI (p ∧ RgB i) (rng 0 i) := fun o σ H R hS hp k =>
  ⟨_, pi_range1 (gl_cf C hg) hm (pa_cons we pa_nil h1) h2, ha o σ H _ hS hp.1 fun v H1 s1 q1 => ⟨i, by rw [show v = _ from q1], hp.2.1, hp.2.2, k _ H1 s1 (by
    have := iter_rng (o := o) (H1 := H1) (lo := 0) (hi := i)
    rwa [Int.sub_zero] at this)⟩⟩
theorem ei_range2 {i j : Int} (C : CF X N sc) (hg : glB sc "range" = true) (hm : X.mg "range" = none) (ha : EvF X Γ a rI p i) (hb : EvF X Γ b rI p' j) (h1 : starEach [a, b] X.env = (false, eval a X.env) :: starEach [b] X.env := by rfl) (h1' : starEach [b] X.env = (false, eval b X.env) :: starEach [] X.env := by rfl)
    (h2 : starEach [a, b] X.env = [(false, eval a X.env), (false, eval b X.env)] := by rfl) (h3 : starEach [b] X.env = [(false, eval b X.env)] := by rfl) :
    EvI X Γ tg (.Call (.Name "range" np) [a, b] [] pos) rI (p ∧ p' ∧ RgB i ∧ RgB j) (rng i j) := fun o σ H R hS hp k =>
  ⟨_, pi_range2 (gl_cf C hg) hm (pa_cons we (pa_cons we pa_nil h1') h1) h2 h3, ha o σ H _ hS hp.1 fun v H1 s1 q1 => hb o σ H1 _ (hS.mono s1) hp.2.1 fun w H2 s2 q2 =>
    ⟨i, j, by rw [show v = _ from q1, show w = _ from q2], ⟨hp.2.2.1.1, hp.2.2.1.2, hp.2.2.2.1, hp.2.2.2.2⟩, k _ H2 (s1.trans s2) iter_rng⟩⟩
/-- enumerate -/
def enm (xs : List α) : List (Int × α) := xs.zipIdx.map fun q => ((q.2 : Int), q.1)
theorem enm_get {i : Nat} {y : Int × α} (h : (enm xs)[i]? = some y) : y.1 = (i : Int) ∧ xs[i]? = some y.2 := by
  unfold enm at h
  rw [List.getElem?_map, List.getElem?_zipIdx] at h
  cases q : xs[i]? with
  | none => rw [q] at h; cases h
  | some x => rw [q] at h; cases h; exact ⟨by simp, rfl⟩
theorem enm_len : (enm xs).length = xs.length := by unfold enm; simp
theorem ei_enum {elts : List Expr} {kk : Nat} {tpos : Pos} (C : CF X N sc) (hg : glB sc "enumerate" = true) (hm : X.mg "enumerate" = none) (ha : EvF X Γ a (rL r) p xs) (h1 : starEach [a] X.env = (false, eval a X.env) :: starEach [] X.env := by rfl) (h2 : starEach [a] X.env = [(false, eval a X.env)] := by rfl) :
    EvI X Γ (.Tuple elts kk tpos) (.Call (.Name "enumerate" np) [a] [] pos) (rT (tc rI (t1 r))) p (enm xs) := fun o σ H R hS hp k =>
  ⟨_, pi_enum (gl_cf C hg) hm (pa_cons we pa_nil h1) h2, ha o σ H _ hS hp fun v H1 s1 ⟨l, u, e1, e2, ws, e3, e4⟩ => by
    subst e3
    refine ⟨l, ws, by rw [e1], SqL.of (hid_some e2).2, k _ H1 s1 ?_⟩
    intro o2 H2 s al i hi
    have q : SqL X.K H2 l ws := SqL.of (hid_some (s _ _ e2)).2
    refine ⟨fun y hy => ?_, fun e => ⟨ws, q, by rw [e4.len]; rw [enm_len] at e; exact Nat.le_of_eq e.symm⟩⟩
    obtain ⟨f1, f2⟩ := enm_get hy
    obtain ⟨w, g1, g2⟩ := e4.get f2
    refine ⟨⟨ws, w, q, g1⟩, fun v H3 ⟨T, x', h1, h2, h3, h4⟩ => ?_⟩
    have := h4 ws q
    rw [g1] at this
    cases this
    subst h3
    exact ⟨same_upd h2, T, _, h1, hid_mk (al.free h2) upd_same, _, _, rfl, by rw [f1]; rfl, w, rfl, r.mono (s.trans (hid_same (same_upd h2))) g2⟩⟩
/-- zip of two lists of any lengths -/
theorem ei_zip {elts : List Expr} {kk : Nat} {tpos : Pos} (C : CF X N sc) (hg : glB sc "zip" = true) (hm : X.mg "zip" = none) (ha : EvF X Γ a (rL r) p xs) (hb : EvF X Γ b (rL r') p' ys) (h1 : starEach [a, b] X.env = (false, eval a X.env) :: starEach [b] X.env := by rfl) (h1' : starEach [b] X.env = (false, eval b X.env) :: starEach [] X.env := by rfl)
    (hpl : (backTo pos (starEach [b] X.env)).any (·.1) = false := by rfl) :
    EvI X Γ (.Tuple elts kk tpos) (.Call (.Name "zip" np) [a, b] [] pos) (rT (tc r (t1 r'))) (p ∧ p') (xs.zip ys) := fun o σ H R hS hp k =>
  ⟨_, pi_zip (gl_cf C hg) hm (pa_cons we (pa_cons we pa_nil h1') h1) h1 hpl, ha o σ H _ hS hp.1 fun v H1 s1 ⟨l, u, e1, e2, ws, e3, e4⟩ => hb o σ H1 _ (hS.mono s1) hp.2 fun v' H2 s2 ⟨l', u', e1', e2', ws', e3', e4'⟩ => by
    subst e3 e3'
    have e2 := hid_same s2 _ _ e2
    have e4 := e4.imp fun _ _ q => r.mono (hid_same s2) q
    refine ⟨l, l', ws, ws', by rw [e1, e1'], SqL.of (hid_some e2).2, SqL.of (hid_some e2').2, k _ H2 (s1.trans s2) ?_⟩
    intro o2 H3 s al i hi
    have q : SqL X.K H3 l ws := SqL.of (hid_some (s _ _ e2)).2
    have q' : SqL X.K H3 l' ws' := SqL.of (hid_some (s _ _ e2')).2
    refine ⟨fun y hy => ?_, fun e => ⟨ws, ws', q, q', by rw [e4.len, e4'.len]; rw [List.length_zip] at e; omega⟩⟩
    obtain ⟨f1, f2⟩ := List.getElem?_zip_eq_some.mp hy
    obtain ⟨w, g1, g2⟩ := e4.get f1
    obtain ⟨w', g1', g2'⟩ := e4'.get f2
    refine ⟨⟨ws, ws', w, w', q, q', g1, g1'⟩, fun v H4 ⟨T, x', y', h1, h2, h3, h4, h5⟩ => ?_⟩
    have i1 := h4 ws q
    have i2 := h5 ws' q'
    rw [g1] at i1
    rw [g1'] at i2
    cases i1; cases i2
    subst h3
    exact ⟨same_upd h2, T, _, h1, hid_mk (al.free h2) upd_same, _, _, rfl, r.mono (s.trans (hid_same (same_upd h2))) g2, w', rfl, r'.mono (s.trans (hid_same (same_upd h2))) g2'⟩⟩

/-! ### targets -/
/-- all but the slots js stay -/
def But (js : List Nat) (σ σ' : St) : Prop := σ'.length = σ.length ∧ ∀ j, j ∉ js → σ'[j]? = σ[j]?
def TgJ {α : Type} (X : Cx) (Γ : Gm) (tg : Expr) (r : Rp α) (Γ' : α → Gm) (js : List Nat) : Prop :=
  ∀ (o : Own) (σ : St) (H : Hp) (v : V) (y : α) (Q : St → Hp → Prop), Slots Γ o σ H → r.rep (hid o H) v y → (∀ σ', Slots (Γ' y) o σ' H → But js σ σ' → Q σ' H) → WG X tg v σ H Q
def TgsJ {τ : Type} (X : Cx) (Γ : Gm) (ts : List Expr) (t : Tp τ) (Γ' : τ → Gm) (js : List Nat) : Prop :=
  ∀ (o : Own) (σ : St) (H : Hp) (vs : List V) (y : τ) (Q : St → Hp → Prop), Slots Γ o σ H → t.rep (hid o H) vs y → (∀ σ', Slots (Γ' y) o σ' H → But js σ σ' → Q σ' H) → WGs X ts vs σ H Q
theorem But.one {σ : St} {i : Nat} {v : Option V} : But [i] σ (σ.set i v) := ⟨List.length_set, fun j h => List.getElem?_set_ne (fun e => h (by rw [e]; exact List.mem_singleton.mpr rfl))⟩
theorem But.trans {σ σ' σ2 : St} {is js : List Nat} (h1 : But is σ σ') (h2 : But js σ' σ2) : But (is ++ js) σ σ2 :=
  ⟨h2.1.trans h1.1, fun j h => by rw [h2.2 j (fun m => h (List.mem_append_right _ m)), h1.2 j (fun m => h (List.mem_append_left _ m))]⟩
theorem tg_name {i : Nat} {z : Str} (C : CF X N sc) (hN : N[i]? = some z) (T : Tgt X z) : TgJ X Γ (.Name z pos) r (fun y => Γ.set i (.val r y)) [i] := fun o σ H v y Q h1 h2 k =>
  ⟨_, pg_name (i := i) (by rw [C.hN]; exact C.nd) (by rw [C.hN]; exact hN) T.loc T.fn, k _ (h1.set i _ v ⟨v, rfl, h2⟩) But.one⟩
theorem tgs_nil : TgsJ X Γ [] t0 (fun _ => Γ) [] := fun o σ H vs y Q h1 h2 k => ⟨_, pgs_nil, h2, k σ h1 ⟨rfl, fun _ _ => rfl⟩⟩
theorem tgs_one {Γ' : α → Gm} {js : List Nat} (h : TgJ X Γ e r Γ' js) (hs : (assignEach [e] X.env).map (·.2) = assign e X.env :: (assignEach [] X.env).map (·.2) := by rfl) : TgsJ X Γ [e] (t1 r) Γ' js := fun o σ H vs y Q h1 ⟨v, e1, e2⟩ k =>
  ⟨_, pgs_cons wg pgs_nil hs, v, [], e1, h o σ H v y _ h1 e2 fun σ' q q' => ⟨rfl, k σ' q q'⟩⟩
theorem tgs_cons {t : Tp τ} {Γ1 : α → Gm} {Γ2 : α → τ → Gm} {is js : List Nat} (h : TgJ X Γ e r Γ1 is) (h' : ∀ y, TgsJ X (Γ1 y) es t (Γ2 y) js) (hs : (assignEach (e :: es) X.env).map (·.2) = assign e X.env :: (assignEach es X.env).map (·.2) := by rfl) :
    TgsJ X Γ (e :: es) (tc r t) (fun y => Γ2 y.1 y.2) (is ++ js) := fun o σ H vs y Q h1 ⟨v, ws, e1, e2, e3⟩ k =>
  ⟨_, pgs_cons wg wgs hs, v, ws, e1, h o σ H v y.1 _ h1 e2 fun σ' q q' => h' y.1 o σ' H ws y.2 _ q e3 fun σ2 q2 q2' => k σ2 q2 (q'.trans q2')⟩
theorem tg_tup {t : Tp τ} {Γ' : τ → Gm} {js : List Nat} {k n : Nat} (hc : X.calm = true) (h : TgsJ X Γ es t Γ' js) (hl : t.n = n) (hn : (assignEach es X.env).length = n := by rfl) (hst : (assignEach es X.env).findIdx? (·.1) = none := by rfl) : TgJ X Γ (.Tuple es k pos) (rT t) Γ' js := fun o σ H v y Q h1 ⟨l, ws, e1, e2, e3⟩ kk =>
  ⟨_, pg_tup hc wgs hn hst, l, ws, e1, SqT.of (hid_some e2).2, by rw [t.len e3, hl], h o σ H ws y Q h1 e3 kk⟩
end
end L3

namespace L3
open PySem L2

/-! ### slots under other marks -/
theorem Slots.sub {Γ : Gm} {o o' : Own} {σ : St} {H H' : Hp} (h : Slots Γ o σ H) (s : Same H H') (s' : Same (hid o H) (hid o' H')) (k : ∀ b j, o b = some j → H b ≠ none → o' b = some j) : Slots Γ o' σ H' :=
  ⟨h.len, fun i sv e => by
    obtain ⟨ov, e1, e2⟩ := h.at_ i sv e
    refine ⟨ov, e1, ?_⟩
    cases sv with
    | junk => trivial
    | val r x => obtain ⟨v, q1, q2⟩ := e2; exact ⟨v, q1, r.mono s' q2⟩
    | own m x => obtain ⟨a, u, q1, q2, q3, q4⟩ := e2; exact ⟨a, u, q1, k _ _ q2 (by rw [q3]; simp), s _ _ q3, m.mono s' q4⟩
    | mb r x => exact fun y e => let ⟨v, q1, q2⟩ := e2 y e; ⟨v, q1, r.mono s' q2⟩
    | dp r x =>
      obtain ⟨v, q1, q2⟩ := e2
      refine ⟨v, q1, r.mono (hidy_sub fun b u hb => ⟨fun a _ => ?_, fun a _ => ⟨s _ _ hb, k _ _ a (by rw [hb]; simp)⟩⟩) q2⟩
      have := hid_some (s' b u (hid_mk a hb))
      exact ⟨this.2, this.1⟩⟩
def wipeG (Γ : Gm) : List Nat → Gm
  | [] => Γ
  | v :: vs => (wipeG Γ vs).set v .junk
theorem Slots.junk {Γ : Gm} {o : Own} {σ : St} {H : Hp} (h : Slots Γ o σ H) (i : Nat) (ov : Option V) : Slots (Γ.set i .junk) o (σ.set i ov) H := by
  refine ⟨by rw [List.length_set, List.length_set, h.len], fun j sv' e => ?_⟩
  rw [List.getElem?_set] at e
  by_cases q : i = j
  · subst q
    rw [if_pos rfl] at e
    split at e
    · rename_i hi
      cases e
      exact ⟨ov, by rw [List.getElem?_set_self (by rw [h.len]; exact hi)], trivial⟩
    · cases e
  · rw [if_neg q] at e
    obtain ⟨ov', e1, e2⟩ := h.at_ j sv' e
    exact ⟨ov', by rw [List.getElem?_set_ne q]; exact e1, e2⟩
theorem Slots.wipe {Γ : Gm} {o : Own} {σ : St} {H : Hp} (h : Slots Γ o σ H) : ∀ vs : List Nat, Slots (wipeG Γ vs) o (L2.wipe σ vs) H
  | [] => h
  | v :: vs => (Slots.wipe h vs).junk v none
theorem wipe_get {σ : St} : ∀ {vs : List Nat} {j : Nat}, (L2.wipe σ vs)[j]? = if j ∈ vs ∧ j < σ.length then some none else σ[j]?
  | [], j => by simp [L2.wipe]
  | v :: vs, j => by
    unfold L2.wipe
    rw [List.getElem?_set, L2.wipe_length, wipe_get]
    by_cases q : v = j
    · subst q
      rw [if_pos rfl]
      by_cases l : v < σ.length
      · rw [if_pos l, if_pos ⟨List.mem_cons_self, l⟩]
      · rw [if_neg l, if_neg (fun z => l z.2), List.getElem?_eq_none (Nat.le_of_not_lt l)]
    · rw [if_neg q]
      have hm : (j ∈ v :: vs) ↔ j ∈ vs := by simp [Ne.symm q]
      by_cases w : j ∈ vs ∧ j < σ.length
      · rw [if_pos w, if_pos ⟨hm.mpr w.1, w.2⟩]
      · rw [if_neg w, if_neg (fun z => w ⟨hm.mp z.1, z.2⟩)]
theorem wipe_but {σ σ2 : St} {vs js : List Nat} (h : But js (L2.wipe σ vs) σ2) (hj : ∀ j ∈ js, j ∈ vs) : L2.wipe σ2 vs = L2.wipe σ vs := by
  apply List.ext_getElem?
  intro j
  have hl : σ2.length = σ.length := by rw [h.1, L2.wipe_length]
  rw [wipe_get, wipe_get, hl]
  by_cases q : j ∈ vs ∧ j < σ.length
  · rw [if_pos q, if_pos q]
  · rw [if_neg q, if_neg q]
    by_cases m : j ∈ js
    · have : ¬ j < σ.length := fun z => q ⟨hj j m, z⟩
      rw [List.getElem?_eq_none (by rw [hl]; exact Nat.le_of_not_lt this), List.getElem?_eq_none (Nat.le_of_not_lt this)]
    · rw [h.2 j m, wipe_get, if_neg q]

/-! ### list comprehensions -/
abbrev BX (X : Cx) (scope : Scope) (s : Shared) (H0 : Hp) (A0 : Addr) (cl : List (Str × Addr)) (fp : List Addr) : Cx := X.blk s H0 scope (PySem.compEnvC scope cl A0 X.env) fp
def EvIfs (X : Cx) (Γ : Gm) (es : List Expr) (p : Prop) (b : Bool) : Prop :=
  ∀ (o : Own) (σ : St) (H : Hp) (Q : Bool → Hp → Prop), ES Γ o σ H → p → (∀ H', Same H H' → Q b H') → WTs X es σ H Q
theorem if_nil {X : Cx} {Γ : Gm} : EvIfs X Γ [] True true := fun o σ H Q hS _ k => ⟨_, pts_nil, k H (Same.refl _)⟩
theorem if_one {X : Cx} {Γ : Gm} {e : Expr} {p : Prop} {b : Bool} (h : EvT X Γ e p b) : EvIfs X Γ [e] p b := fun o σ H Q hS hp k => ⟨_, pts_one wt, h o σ H Q hS hp k⟩
section
variable {X : Cx} {N : List Str} {sc scope : Scope} {Γ : Gm} {α β τ ρ : Type} {tg iter elt : Expr} {ifs : List Expr} {own : List (Str × Nat)} {r : Rp α} {r' : Rp β} {p : Prop} {xs : List α} {Γt : α → Gm} {js : List Nat} {pt q : α → Prop} {b : α → Bool} {f : α → β} {pos : Pos}
def gB (X : Cx) (scope : Scope) (tg : Expr) : TG := fun v σ H Q => ∀ s H0 A0 cl fp, WG (BX X scope s H0 A0 cl fp) tg v σ H Q
def tB' (X : Cx) (scope : Scope) (ifs : List Expr) : TT := fun σ H Q => ∀ s H0 A0 cl fp, WTs (BX X scope s H0 A0 cl fp) ifs σ H Q
def eB (X : Cx) (scope : Scope) (elt : Expr) : TE := fun σ H Q => ∀ s H0 A0 cl fp, WE (BX X scope s H0 A0 cl fp) elt σ H Q
theorem pgB {s : Shared} {H0 : Hp} {A0 : Addr} {cl : List (Str × Addr)} {fp : List Addr} : PG (BX X scope s H0 A0 cl fp) tg (gB X scope tg) := ⟨fun pins s' σ H v u Q I rv h => wg.run pins s' σ H v u Q I rv (h s H0 A0 cl fp)⟩
theorem ptB {s : Shared} {H0 : Hp} {A0 : Addr} {cl : List (Str × Addr)} {fp : List Addr} : PTs (BX X scope s H0 A0 cl fp) ifs (tB' X scope ifs) := ⟨fun pins s' σ H Q I h => wts.run pins s' σ H Q I (h s H0 A0 cl fp)⟩
theorem peB {s : Shared} {H0 : Hp} {A0 : Addr} {cl : List (Str × Addr)} {fp : List Addr} : PE (BX X scope s H0 A0 cl fp) elt (eB X scope elt) := ⟨fun pins s' σ H Q I h => we.run pins s' σ H Q I (h s H0 A0 cl fp)⟩
theorem cf_blk (C : CF X N sc) {s : Shared} {H0 : Hp} {A0 : Addr} {cl : List (Str × Addr)} {fp : List Addr} : CF (BX X scope s H0 A0 cl fp) N (relS scope sc) := by
  refine ⟨C.hN, C.nd, ?_, C.calm, C.hu⟩
  rw [← C.hS]; rfl
theorem cf2_blk {k : Nat} (C : CF2 X k) {s : Shared} {H0 : Hp} {A0 : Addr} {cl : List (Str × Addr)} {fp : List Addr} : CF2 (BX X scope s H0 A0 cl fp) k := ⟨C.gd, C.rm, PassesOwn.never⟩
/-- the core of a comprehension -/
def LcOk (X : Cx) (Γ : Gm) (elt tg iter : Expr) (ifs : List Expr) (scope : Scope) (own : List (Str × Nat)) (r' : Rp β) (p : Prop) (ys : List β) : Prop :=
  ∀ (o : Own) (σ : St) (H : Hp) (Q : VK), ES Γ o σ H → p → (∀ a u H', Same H H' → H a = none → H' a = some u → (moL r').rep (hid (mark o a 0) H') u ys → Q (.ref a) H') →
    tLc (WI X tg iter) (gB X scope tg) (tB' X scope ifs) (eB X scope elt) (own.map (·.2)) σ H Q
theorem lc_ok (hi : EvI X Γ tg iter r p xs) (hg : ∀ s H0 A0 cl fp, TgJ (BX X scope s H0 A0 cl fp) (wipeG Γ (own.map (·.2))) tg r Γt js) (hjs : ∀ j ∈ js, j ∈ own.map (·.2))
    (ht : ∀ s H0 A0 cl fp y, EvIfs (BX X scope s H0 A0 cl fp) (Γt y) ifs (pt y) (b y)) (he : ∀ s H0 A0 cl fp y, EvF (BX X scope s H0 A0 cl fp) (Γt y) elt r' (q y) (f y)) :
    LcOk X Γ elt tg iter ifs scope own r' (p ∧ xs.length ≤ sizeLine ∧ ∀ y ∈ xs, pt y ∧ (b y = true → q y)) ((xs.filter b).map f) := by
  intro o σ H Q hS ⟨hp, hz, hq⟩ kk
  refine hi o σ H _ hS hp fun J H1 s1 it D nD => ?_
  have nDH : H D = none := s1.free nD
  refine ⟨fun i m H' => m = xs.length - i ∧ i ≤ xs.length ∧ Same H1 H' ∧ ∃ acc, H' D = some (.lst acc) ∧ acc.length ≤ i ∧ AL (r'.rep (hid (mark o D 999) H')) acc (((xs.take i).filter b).map f),
    ⟨_, rfl, Nat.zero_le _, same_upd nD, [], upd_same, Nat.le_refl _, by simpa using AL.nil⟩, ?_⟩
  rintro i m H' ⟨rfl, hi', s', acc, eD, lD, aD⟩
  have hh : Same (hid o H1) (hid (mark o D 999) H') := hid_new' nD s'
  have al : Al (mark o D 999) H' := fun b hb => by
    by_cases z : b = D
    · rw [z, eD]; simp
    · rw [mark_ne z] at hb
      exact (hS.al.mono (s1.trans s')) b hb
  have sl : Slots Γ (mark o D 999) σ H' := hS.sl.sub (s1.trans s') ((hid_same s1).trans hh) fun c j e1 e2 => by rw [mark_ne (fun z => e2 (by rw [z]; exact nDH))]; exact e1
  obtain ⟨I1, I2⟩ := it (mark o D 999) H' hh al i hi'
  by_cases hlt : i < xs.length
  · have hy : xs[i]? = some xs[i] := List.getElem?_eq_getElem hlt
    obtain ⟨g1, g2⟩ := I1 _ hy
    refine .inr ⟨g1, fun H2 => Same H1 H2 ∧ ∃ acc, H2 D = some (.lst acc) ∧ acc.length ≤ i + 1 ∧ AL (r'.rep (hid (mark o D 999) H2)) acc (((xs.take (i + 1)).filter b).map f), fun H2 ⟨a1, a2⟩ => ⟨_, by omega, rfl, hlt, a1, a2⟩, fun v H2 yl => ?_⟩
    obtain ⟨s2, rv⟩ := g2 v H2 yl
    obtain ⟨q1, q2⟩ := hq _ (List.getElem_mem hlt)
    have take1 : xs.take (i + 1) = xs.take i ++ [xs[i]] := by rw [List.take_add_one, hy]; rfl
    intro s H0 A0 cl fp
    refine hg s H0 A0 cl fp (mark o D 999) _ H2 v _ _ ((sl.mono s2).wipe _) rv fun σ2 sl2 but => ⟨wipe_but but hjs, fun s H0 A0 cl fp => ?_⟩
    refine ht s H0 A0 cl fp _ (mark o D 999) σ2 H2 _ ⟨sl2, al.mono s2⟩ q1 fun H3 s3 => ?_
    have s23 := s2.trans s3
    have aD3 := aD.imp fun _ _ z => r'.mono (hid_same s23) z
    cases eb : b xs[i] with
    | false =>
      refine iteF ⟨s'.trans s23, acc, s23 _ _ eD, by omega, ?_⟩
      rw [take1, List.filter_append, List.filter_cons, eb]
      simpa using aD3
    | true =>
      refine iteT fun s H0 A0 cl fp => he s H0 A0 cl fp _ (mark o D 999) σ2 H3 _ ⟨sl2.mono s3, al.mono s23⟩ (q2 eb) fun w H4 s4 rw' => ?_
      have s234 := s23.trans s4
      refine ⟨acc, s234 _ _ eD, by omega, fun c u hc => ?_, acc ++ [w], upd_same, by rw [List.length_append, List.length_singleton]; omega, ?_⟩
      · rw [upd_ne (ne_of_none hc nD)]
        exact s234 _ _ (s' _ _ hc)
      · have hu : Same (hid (mark o D 999) H4) (hid (mark o D 999) (upd H4 D (.lst (acc ++ [w])))) := fun c u hc => by
          obtain ⟨h1, h2⟩ := hid_some hc
          have : c ≠ D := fun z => by rw [z, mark_same] at h1; cases h1
          exact hid_mk h1 (by rw [upd_ne this]; exact h2)
        rw [take1, List.filter_append, List.filter_cons, eb, List.map_append]
        exact (aD3.imp fun _ _ z => r'.mono ((hid_same s4).trans hu) z).app (by simpa using AL.one (r'.mono hu rw'))
  · have e : i = xs.length := by omega
    refine .inl ⟨I2 e, kk D _ H' (s1.trans s') nDH eD ⟨acc, rfl, ?_⟩⟩
    rw [e, List.take_length] at aD
    exact aD.imp fun _ _ z => r'.mono (hid_sub (Same.refl _) fun c h1 _ => by
      by_cases z : c = D
      · subst z; rw [mark_same] at h1; cases h1
      · rw [mark_ne z] at h1 ⊢; exact h1) z
theorem lc_ok0 (hi : EvI X Γ tg iter r p xs) (hg : ∀ s H0 A0 cl fp, TgJ (BX X scope s H0 A0 cl fp) (wipeG Γ (own.map (·.2))) tg r Γt js) (hjs : ∀ j ∈ js, j ∈ own.map (·.2))
    (he : ∀ s H0 A0 cl fp y, EvF (BX X scope s H0 A0 cl fp) (Γt y) elt r' (q y) (f y)) :
    LcOk X Γ elt tg iter [] scope own r' (p ∧ xs.length ≤ sizeLine ∧ ∀ y ∈ xs, q y) (xs.map f) := by
  have h := lc_ok (b := fun _ => true) (pt := fun _ => True) (ifs := []) hi hg hjs (fun s H0 A0 cl fp y => if_nil) he
  rw [List.filter_eq_self.mpr (fun _ _ => rfl)] at h
  exact fun o σ H Q hS hp kk => h o σ H Q hS ⟨hp.1, hp.2.1, fun y hy => ⟨trivial, fun _ => hp.2.2 y hy⟩⟩ kk
theorem en_lc {ys : List β} (C : CF X N sc) (ok : blkC N sc scope own = true) (h : LcOk X Γ elt tg iter ifs scope own r' p ys) (hs : ∀ x, foldedSetIterable iter X.env x = pure x := by intro _; rfl) :
    EvN X Γ (.ListComp elt [⟨tg, iter, ifs, 0⟩] scope pos) (moL r') p ys := fun o σ H Q hS hp kk =>
  ⟨_, pe_lc C.calm (by rw [C.hN]; exact C.nd) wi (by rw [C.hN, C.hS]; exact blkOk_by ok) (fun _ _ _ _ _ => pgB) (fun _ _ _ _ _ => ptB) (fun _ _ _ _ _ => peB) hs, h o σ H Q hS hp kk⟩
end

/-! ### states of a body -/
structure Stt (G : Hp) (O : Addr → Bool) (Γ : Gm) (o : Own) (σ : St) (H : Hp) : Prop where
  sl : Slots Γ o σ H
  same : Same G H
  al : Al o H
  out : ∀ b, O b = true → o b = some 1000
  inn : ∀ b j, o b = some j → (j < 1000 ∧ G b = none) ∨ (j = 1000 ∧ O b = true)
theorem Stt.es {G : Hp} {O : Addr → Bool} {Γ : Gm} {o : Own} {σ : St} {H : Hp} (h : Stt G O Γ o σ H) : ES Γ o σ H := ⟨h.sl, h.al⟩
theorem Stt.mono {G : Hp} {O : Addr → Bool} {Γ : Gm} {o : Own} {σ : St} {H H' : Hp} (h : Stt G O Γ o σ H) (s : Same H H') : Stt G O Γ o σ H' := ⟨h.sl.mono s, h.same.trans s, h.al.mono s, h.out, h.inn⟩
theorem Stt.hidO {G : Hp} {O : Addr → Bool} {Γ : Gm} {o : Own} {σ : St} {H : Hp} (h : Stt G O Γ o σ H) (H' : Hp) : Same (hid o H') (L3.hidO O H') := hid_sub (Same.refl _) fun b e _ => by
  cases q : O b with
  | false => rfl
  | true => rw [h.out b q] at e; cases e
inductive Res (γ β ρ : Type) where
  | nx (c : γ)
  | brk (c : β)
  | cnt (c : β)
  | ret (x : ρ)
/-- what a def's end is promised: from what is given back (or let out) to the law's wish -/
structure Pr (ρ : Type) where
  ok : Cx → Hp → (Addr → Bool) → VK → ρ → Prop
  mono : ∀ {X : Cx} {G G' : Hp} {O : Addr → Bool} {R : VK} {x : ρ}, Same G G' → ok X G O R x → ok X G' O R x
def prN {ρ : Type} (r : Rp ρ) : Pr ρ := ⟨fun _ G O R x => ∀ v H, Same G H → r.rep (hidO O H) v x → R v H, fun s h v H s2 q => h v H (s.trans s2) q⟩
instance {ρ : Type} : Coe (Rp ρ) (Pr ρ) := ⟨prN⟩
def BlP {γ β ρ : Type} (X : Cx) (G : Hp) (O : Addr → Bool) (Γn : γ → Gm) (Γb : β → Gm) (rr : Pr ρ) (D : Ends) : Res γ β ρ → Prop
  | .nx c => ∀ o σ H, Stt G O (Γn c) o σ H → D.nx σ H
  | .brk c => ∀ o σ H, Stt G O (Γb c) o σ H → D.bk σ H
  | .cnt c => ∀ o σ H, Stt G O (Γb c) o σ H → D.ct σ H
  | .ret x => rr.ok X G O D.rt x
/-- a block -/
def Bl {γ β ρ : Type} (X : Cx) (Γ : Gm) (ss : List Stmt) (Γn : γ → Gm) (Γb : β → Gm) (rr : Pr ρ) (p : Prop) (res : Res γ β ρ) : Prop :=
  ∀ (G : Hp) (O : Addr → Bool) (o : Own) (σ : St) (H : Hp) (D : Ends), Stt G O Γ o σ H → p → BlP X G O Γn Γb rr D res → WB X ss D σ H
/-- a block that hands back -/
abbrev Bt {ρ : Type} (X : Cx) (Γ : Gm) (ss : List Stmt) (rr : Pr ρ) (p : Prop) (x : ρ) : Prop := Bl (γ := Empty) (β := Empty) X Γ ss (fun c => c.elim) (fun c => c.elim) rr p (.ret x)

/-- less is said -/
def Le (s t : SV) : Prop := ∀ (o : Own) (H : Hp) (i : Nat) (ov : Option V), s.ok o H i ov → t.ok o H i ov
inductive Wk : Gm → Gm → Prop where
  | nil : Wk [] []
  | same {s : SV} {Γ Γ' : Gm} (h : Wk Γ Γ') : Wk (s :: Γ) (s :: Γ')
  | junk {s : SV} {Γ Γ' : Gm} (h : Wk Γ Γ') : Wk (s :: Γ) (.junk :: Γ')
  | mb0 {s : SV} {α : Type} {r : Rp α} {Γ Γ' : Gm} (h : Wk Γ Γ') : Wk (s :: Γ) (.mb r none :: Γ')
  | mb1 {α : Type} {r : Rp α} {x : α} {Γ Γ' : Gm} (h : Wk Γ Γ') : Wk (.val r x :: Γ) (.mb r (some x) :: Γ')
theorem Wk.at_ {Γ Γ' : Gm} (h : Wk Γ Γ') : Γ.length = Γ'.length ∧ ∀ (i : Nat) (sv : SV), Γ'[i]? = some sv → ∃ s, Γ[i]? = some s ∧ Le s sv := by
  have step : ∀ {s t : SV} {Γ Γ' : Gm}, Le s t → (Γ.length = Γ'.length ∧ ∀ (i : Nat) (sv : SV), Γ'[i]? = some sv → ∃ s, Γ[i]? = some s ∧ Le s sv) → ((s :: Γ).length = (t :: Γ').length ∧ ∀ (i : Nat) (sv : SV), (t :: Γ')[i]? = some sv → ∃ u, (s :: Γ)[i]? = some u ∧ Le u sv) := fun {s t Γ Γ'} l ih => ⟨by simp [ih.1], fun i sv e => by
    cases i with
    | zero => cases e; exact ⟨s, rfl, l⟩
    | succ i => exact ih.2 i sv e⟩
  induction h with
  | nil => exact ⟨rfl, fun i sv e => by simp at e⟩
  | same h ih => exact step (fun _ _ _ _ q => q) ih
  | junk h ih => exact step (fun _ _ _ _ _ => trivial) ih
  | mb0 h ih => exact step (fun _ _ _ _ _ y e => by cases e) ih
  | mb1 h ih => exact step (fun _ _ _ _ q y e => by cases e; exact q) ih
theorem Slots.wk {Γ Γ' : Gm} {o : Own} {σ : St} {H : Hp} (h : Slots Γ o σ H) (w : Wk Γ Γ') : Slots Γ' o σ H := by
  obtain ⟨w1, w2⟩ := w.at_
  refine ⟨by rw [h.len, w1], fun i sv e => ?_⟩
  obtain ⟨s, e1, l⟩ := w2 i sv e
  obtain ⟨ov, e2, e3⟩ := h.at_ i s e1
  exact ⟨ov, e2, l _ _ _ _ e3⟩
theorem Stt.wk {G : Hp} {O : Addr → Bool} {Γ Γ' : Gm} {o : Own} {σ : St} {H : Hp} (h : Stt G O Γ o σ H) (w : Wk Γ Γ') : Stt G O Γ' o σ H := ⟨h.sl.wk w, h.same, h.al, h.out, h.inn⟩

section
variable {X : Cx} {N : List Str} {sc scope : Scope} {Γ : Gm} {α β γ δ τ ρ : Type} {e : Expr} {r : Rp α} {rr : Pr ρ} {m : Mo α} {p q : Prop} {x : α} {Γn : γ → Gm} {Γb : δ → Gm} {rest ss : List Stmt} {pos pos' : Pos} {res : Res γ δ ρ} {z : Str} {i : Nat}
theorem bl_nx {c : γ} (w : Wk Γ (Γn c)) : Bl X Γ [] Γn Γb rr True (.nx c) := fun G O o σ H D h _ k => ⟨_, pss_nil, k o σ H (h.wk w)⟩
theorem bl_cnt {c : δ} (w : Wk Γ (Γb c)) : Bl X Γ (.Continue pos :: rest) Γn Γb rr True (.cnt c) := fun G O o σ H D h _ k => ⟨_, pss_cons ps_continue wb, k o σ H (h.wk w)⟩
theorem bl_brk {c : δ} (w : Wk Γ (Γb c)) : Bl X Γ (.Break pos :: rest) Γn Γb rr True (.brk c) := fun G O o σ H D h _ k => ⟨_, pss_cons ps_break wb, k o σ H (h.wk w)⟩
theorem bl_ret {r0 : Rp ρ} {x : ρ} (h : EvF X Γ e r0 p x) : Bl X Γ (.Return (some e) pos :: rest) Γn Γb (prN r0) p (.ret x) := fun G O o σ H D hs hp k =>
  ⟨_, pss_cons (ps_ret we) wb, h o σ H _ hs.es hp fun v H' s q => k v H' (hs.same.trans s) (r0.mono (hs.hidO H') q)⟩
theorem bl_pass (h : Bl X Γ rest Γn Γb rr p res) : Bl X Γ (.Pass pos :: rest) Γn Γb rr p res := fun G O o σ H D hs hp k => ⟨_, pss_cons ps_pass wb, h G O o σ H D hs hp k⟩
theorem bl_never {st : Stmt} : Bl X Γ (st :: rest) Γn Γb rr False res := fun G O o σ H D hs hp k => hp.elim
theorem bl_expr (h : EvF X Γ e r p x) (h' : Bl X Γ rest Γn Γb rr q res) (hs : swapsWith e none pos.line X.env = pure false := by rfl) : Bl X Γ (.Expr e pos :: rest) Γn Γb rr (p ∧ q) res := fun G O o σ H D hS hp k =>
  ⟨_, pss_cons (ps_expr we hs) wb, h o σ H _ hS.es hp.1 fun v H' s _ => h' G O o σ H' D (hS.mono s) hp.2 k⟩
theorem bl_asg {qq : α → Prop} {rs : α → Res γ δ ρ} (hX : X.N = N) (nd : N.Nodup) (hN : N[i]? = some z) (T : Tgt X z) (h : EvF X Γ e r p x) (k : ∀ y, Bl X (Γ.set i (.val r y)) rest Γn Γb rr (qq y) (rs y))
    (hs : swapsWith e (some (.Name z pos')) pos.line X.env = pure false := by rfl) : Bl X Γ (.Assign [.Name z pos'] e pos :: rest) Γn Γb rr (p ∧ (let y := x; qq y)) (let y := x; rs y) := fun G O o σ H D hS hp kk =>
  ⟨_, pss_cons (ps_set (i := i) (by rw [hX]; exact nd) (by rw [hX]; exact hN) T.loc we hs T.fn) wb, h o σ H _ hS.es hp.1 fun v H' s q =>
    have hS' := hS.mono s
    k x G O o _ H' D ⟨hS'.sl.set i _ v ⟨v, rfl, q⟩, hS'.same, hS'.al, hS'.out, hS'.inn⟩ hp.2 kk⟩
theorem bt_asg {qq : α → Prop} {rs : α → ρ} (hX : X.N = N) (nd : N.Nodup) (hN : N[i]? = some z) (T : Tgt X z) (h : EvF X Γ e r p x) (k : ∀ y, Bt X (Γ.set i (.val r y)) rest rr (qq y) (rs y))
    (hs : swapsWith e (some (.Name z pos')) pos.line X.env = pure false := by rfl) : Bt X Γ (.Assign [.Name z pos'] e pos :: rest) rr (p ∧ (let y := x; qq y)) (let y := x; rs y) :=
  bl_asg (rs := fun y => .ret (rs y)) hX nd hN T h k hs
/-- what is new becomes the slot's own -/
theorem own_step {G : Hp} {O : Addr → Bool} {o : Own} {σ : St} {H H' : Hp} {a : Addr} {u : HO} (hi : i < 1000) (hS : Stt G O Γ o σ H) (s : Same H H') (na : H a = none) (ha : H' a = some u) (hm : m.rep (hid (mark o a 0) H') u x) :
    Stt G O (Γ.set i (.own m x)) (mark o a i) (σ.set i (some (.ref a))) H' := by
  have hh : Same (hid (mark o a 0) H') (hid (mark o a i) H') := hid_sub (Same.refl _) fun b h _ => by
    by_cases w : b = a
    · subst w; rw [mark_same] at h; cases h
    · rw [mark_ne w] at h ⊢; exact h
  have sl : Slots Γ (mark o a i) σ H' := hS.sl.sub s (hid_new' na s) fun c j e1 e2 => by rw [mark_ne (fun z => e2 (by rw [z]; exact na))]; exact e1
  refine ⟨sl.set i _ _ ⟨a, u, rfl, mark_same, ha, m.mono hh hm⟩, hS.same.trans s, fun b hb => ?_, fun b hb => ?_, fun b j hb => ?_⟩
  · by_cases w : b = a
    · rw [w, ha]; simp
    · rw [mark_ne w] at hb; exact (hS.al.mono s) b hb
  · have := hS.out b hb
    rw [mark_ne (fun w => by
      have := hS.al b (by rw [this]; rfl)
      rw [w] at this; exact this na)]
    exact this
  · by_cases w : b = a
    · subst w
      rw [mark_same] at hb
      cases hb
      exact .inl ⟨hi, hS.same.free na⟩
    · rw [mark_ne w] at hb; exact hS.inn b j hb
theorem bl_own {qq : α → Prop} {rs : α → Res γ δ ρ} (hX : X.N = N) (nd : N.Nodup) (hN : N[i]? = some z) (T : Tgt X z) (h : EvN X Γ e m p x) (k : ∀ y, Bl X (Γ.set i (.own m y)) rest Γn Γb rr (qq y) (rs y)) (hi : i < 1000 := by decide)
    (hs : swapsWith e (some (.Name z pos')) pos.line X.env = pure false := by rfl) : Bl X Γ (.Assign [.Name z pos'] e pos :: rest) Γn Γb rr (p ∧ (let y := x; qq y)) (let y := x; rs y) := fun G O o σ H D hS hp kk =>
  ⟨_, pss_cons (ps_set (i := i) (by rw [hX]; exact nd) (by rw [hX]; exact hN) T.loc we hs T.fn) wb, h o σ H _ hS.es hp.1 fun a u H' s na ha hm =>
    k x G O _ _ H' D (own_step hi hS s na ha hm) hp.2 kk⟩
theorem bt_own {qq : α → Prop} {rs : α → ρ} (hX : X.N = N) (nd : N.Nodup) (hN : N[i]? = some z) (T : Tgt X z) (h : EvN X Γ e m p x) (k : ∀ y, Bt X (Γ.set i (.own m y)) rest rr (qq y) (rs y)) (hi : i < 1000 := by decide)
    (hs : swapsWith e (some (.Name z pos')) pos.line X.env = pure false := by rfl) : Bt X Γ (.Assign [.Name z pos'] e pos :: rest) rr (p ∧ (let y := x; qq y)) (let y := x; rs y) :=
  bl_own (rs := fun y => .ret (rs y)) hX nd hN T h k hi hs
/-- name = [.. for ..] -/
theorem val_step {G : Hp} {O : Addr → Bool} {o : Own} {σ : St} {H H' : Hp} {a : Addr} {u : HO} (hS : Stt G O Γ o σ H) (s : Same H H') (na : H a = none) (ha : H' a = some u) (hm : m.rep (hid (mark o a 0) H') u x) :
    Stt G O (Γ.set i (.val (rM m) x)) o (σ.set i (some (.ref a))) H' := by
  have hS' := hS.mono s
  exact ⟨hS'.sl.set i _ _ ⟨_, rfl, a, u, rfl, hid_mk (hS.al.free na) ha, m.mono hid_mark hm⟩, hS'.same, hS'.al, hS'.out, hS'.inn⟩
theorem swaps_lc {elt tg iter : Expr} {ifs : List Expr} (hy : sc.names.lookup z = some .local) (hS : X.env.scope = sc) (hk : sc.kind = .function) (hl : (pos'.line == pos.line) = true)
    (ha : (scope.names.any fun (n, k) => n == z && (k == .local || k == .cell)) = false) {l : Nat} : swapsWith (.ListComp elt [⟨tg, iter, ifs, 0⟩] scope pos) (some (.Name z pos')) l X.env = pure true :=
  sw_true (by rw [hS]; exact hk) (by rw [hS]; exact hy) hl ha
theorem bl_asgLc {elt tg iter : Expr} {ifs : List Expr} {own : List (Str × Nat)} {spos : Pos} {ys : List α} {qq : List α → Prop} {rs : List α → Res γ δ ρ} (C : CF X N sc) (ok : blkC N sc scope own = true) (h : LcOk X Γ elt tg iter ifs scope own r p ys) (hN : N[i]? = some z) (hy : sc.names.lookup z = some .local)
    (hsw : swapsWith (.ListComp elt [⟨tg, iter, ifs, 0⟩] scope pos) (some (.Name z pos')) spos.line X.env = pure true) (k : ∀ y, Bl X (Γ.set i (.val (rL r) y)) rest Γn Γb rr (qq y) (rs y)) (hs : ∀ x, foldedSetIterable iter X.env x = pure x := by intro _; rfl) :
    Bl X Γ (.Assign [.Name z pos'] (.ListComp elt [⟨tg, iter, ifs, 0⟩] scope pos) spos :: rest) Γn Γb rr (p ∧ (let y := ys; qq y)) (let y := ys; rs y) := fun G O o σ H D hS hp kk => by
  refine ⟨_, pss_cons (ps_setLc (i := i) (own := own) C.calm (by rw [C.hN]; exact C.nd) (by rw [C.hN]; exact hN) (by rw [C.hS]; exact hy) hsw wi (by rw [C.hN, C.hS]; exact blkOk_by ok) (fun _ _ _ _ _ => pgB) (fun _ _ _ _ _ => ptB) (fun _ _ _ _ _ => peB) hs) wb, ?_⟩
  exact h o σ H (fun x H1 => WB X rest D (σ.set i (some x)) H1) hS.es hp.1 fun a u H' s na ha hm => k ys G O _ _ H' D (val_step hS s na ha hm) hp.2 kk
theorem bl_ownLc {elt tg iter : Expr} {ifs : List Expr} {own : List (Str × Nat)} {spos : Pos} {ys : List α} {qq : List α → Prop} {rs : List α → Res γ δ ρ} (C : CF X N sc) (ok : blkC N sc scope own = true) (h : LcOk X Γ elt tg iter ifs scope own r p ys) (hN : N[i]? = some z) (hy : sc.names.lookup z = some .local)
    (hsw : swapsWith (.ListComp elt [⟨tg, iter, ifs, 0⟩] scope pos) (some (.Name z pos')) spos.line X.env = pure true) (k : ∀ y, Bl X (Γ.set i (.own (moL r) y)) rest Γn Γb rr (qq y) (rs y)) (hi : i < 1000 := by decide) (hs : ∀ x, foldedSetIterable iter X.env x = pure x := by intro _; rfl) :
    Bl X Γ (.Assign [.Name z pos'] (.ListComp elt [⟨tg, iter, ifs, 0⟩] scope pos) spos :: rest) Γn Γb rr (p ∧ (let y := ys; qq y)) (let y := ys; rs y) := fun G O o σ H D hS hp kk => by
  refine ⟨_, pss_cons (ps_setLc (i := i) (own := own) C.calm (by rw [C.hN]; exact C.nd) (by rw [C.hN]; exact hN) (by rw [C.hS]; exact hy) hsw wi (by rw [C.hN, C.hS]; exact blkOk_by ok) (fun _ _ _ _ _ => pgB) (fun _ _ _ _ _ => ptB) (fun _ _ _ _ _ => peB) hs) wb, ?_⟩
  exact h o σ H (fun x H1 => WB X rest D (σ.set i (some x)) H1) hS.es hp.1 fun a u H' s na ha hm => k ys G O _ _ H' D (own_step hi hS s na ha hm) hp.2 kk
/-- what is the slot's own is never changed again -/
theorem bl_freeze (hΓ : Γ[i]? = some (.own m x)) (k : Bl X (Γ.set i (.val (rM m) x)) ss Γn Γb rr p res) (hi : i < 1000 := by decide) : Bl X Γ ss Γn Γb rr p res := fun G O o σ H D hS hp kk => by
  obtain ⟨ov, e1, a, u, rfl, e2, e3, e4⟩ := hS.sl.at_ i _ hΓ
  have hh : Same (hid o H) (hid (unmark o a) H) := hid_sub (Same.refl _) fun b h _ => by unfold unmark; rw [h]; split <;> rfl
  have oa : unmark o a a = none := by unfold unmark; rw [if_pos rfl]
  have ne : ∀ b, b ≠ a → unmark o a b = o b := fun b h => by unfold unmark; rw [if_neg h]
  refine k G O (unmark o a) σ H D ⟨⟨by rw [hS.sl.len, List.length_set], fun j sv e => ?_⟩, hS.same, fun b hb => ?_, fun b hb => ?_, fun b j hb => ?_⟩ hp kk
  · rw [List.getElem?_set] at e
    by_cases w : i = j
    · subst w
      rw [if_pos rfl] at e
      split at e
      · cases e
        exact ⟨_, e1, _, rfl, a, u, rfl, hid_mk oa e3, m.mono hh e4⟩
      · cases e
    · rw [if_neg w] at e
      obtain ⟨ov', f1, f2⟩ := hS.sl.at_ j sv e
      refine ⟨ov', f1, ?_⟩
      cases sv with
      | junk => trivial
      | val r x => obtain ⟨v, q1, q2⟩ := f2; exact ⟨v, q1, r.mono hh q2⟩
      | mb r x => exact fun y e => let ⟨v, q1, q2⟩ := f2 y e; ⟨v, q1, r.mono hh q2⟩
      | own m' x' =>
        obtain ⟨a', u', q1, q2, q3, q4⟩ := f2
        refine ⟨a', u', q1, ?_, q3, m'.mono hh q4⟩
        rw [ne a' (fun w' => by rw [w', e2] at q2; exact w (Option.some.inj q2))]
        exact q2
      | dp r x =>
        obtain ⟨v, q1, q2⟩ := f2
        exact ⟨v, q1, r.mono (hidy_sub fun b u hb => ⟨fun c _ => ⟨hb, by unfold unmark; rw [c]; split <;> rfl⟩, fun c _ => ⟨hb, by rw [ne b (fun z => by rw [z, e2] at c; exact w (Option.some.inj c))]; exact c⟩⟩) q2⟩
  · by_cases w : b = a
    · rw [w, oa] at hb; cases hb
    · rw [ne b w] at hb; exact hS.al b hb
  · have h1 := hS.out b hb
    rw [ne b (fun w => by rw [w, e2] at h1; cases h1; omega)]
    exact h1
  · by_cases w : b = a
    · rw [w, oa] at hb; cases hb
    · rw [ne b w] at hb; exact hS.inn b j hb
/-- an own thing is changed -/
theorem own_write {G : Hp} {O : Addr → Bool} {o : Own} {σ : St} {H : Hp} {a : Addr} {u : HO} {β : Type} {m' : Mo β} {y : β} (hS : Stt G O Γ o σ H) (hΓ : i < Γ.length) (hσ : σ[i]? = some (some (.ref a))) (oa : o a = some i) (hi : i < 1000) (hm : m'.rep (hid o H) u y) :
    Stt G O (Γ.set i (.own m' y)) o σ (upd H a u) := by
  have hh : Same (hid o H) (hid o (upd H a u)) := fun b w h => by
    obtain ⟨h1, h2⟩ := hid_some h
    exact hid_mk h1 (by rw [upd_ne (fun z => by rw [z, oa] at h1; cases h1)]; exact h2)
  refine ⟨⟨by rw [hS.sl.len, List.length_set], fun j sv e => ?_⟩, fun b w h => ?_, fun b hb => ?_, hS.out, hS.inn⟩
  · rw [List.getElem?_set] at e
    by_cases w : i = j
    · subst w
      rw [if_pos rfl, if_pos hΓ] at e
      cases e
      exact ⟨_, hσ, a, u, rfl, oa, upd_same, m'.mono hh hm⟩
    · rw [if_neg w] at e
      obtain ⟨ov', f1, f2⟩ := hS.sl.at_ j sv e
      refine ⟨ov', f1, ?_⟩
      cases sv with
      | junk => trivial
      | val r x => obtain ⟨v, q1, q2⟩ := f2; exact ⟨v, q1, r.mono hh q2⟩
      | mb r x => exact fun y e => let ⟨v, q1, q2⟩ := f2 y e; ⟨v, q1, r.mono hh q2⟩
      | own m2 x2 =>
        obtain ⟨a', u', q1, q2, q3, q4⟩ := f2
        refine ⟨a', u', q1, q2, ?_, m2.mono hh q4⟩
        rw [upd_ne (fun w' => by rw [w', oa] at q2; exact w (Option.some.inj q2))]
        exact q3
      | dp r x =>
        obtain ⟨v, q1, q2⟩ := f2
        exact ⟨v, q1, r.mono (hidy_sub fun b u hb => ⟨fun c _ => ⟨by rw [upd_ne (fun z => by rw [z, oa] at c; cases c)]; exact hb, c⟩, fun c _ => ⟨by rw [upd_ne (fun z => by rw [z, oa] at c; exact w (Option.some.inj c))]; exact hb, c⟩⟩) q2⟩
  · rw [upd_ne (fun z => ?_)]
    · exact hS.same b w h
    · rcases hS.inn a i oa with q | q
      · rw [z, q.2] at h; cases h
      · omega
  · by_cases w : b = a
    · rw [w, upd_same]; simp
    · rw [upd_ne w]; exact hS.al b hb
/-- xs.append(e), xs.extend(ys) -/
theorem bl_append {xs : List α} {ap np' : Pos} {qq : List α → Prop} {rs : List α → Res γ δ ρ} (C : CF X N sc) (hN : N[i]? = some z) (hv : visB sc z = true) (hΓ : Γ[i]? = some (.own (moL r) xs)) (h : EvF X Γ e r p x) (k : ∀ y, Bl X (Γ.set i (.own (moL r) y)) rest Γn Γb rr (qq y) (rs y)) (hi : i < 1000 := by decide)
    (hd : (z == ("__debug__" : Str)) = false := by decide) (hcd : (z == ("__classdict__" : Str)) = false := by decide)
    (hfew : ((backTo pos (starEach [e] X.env)).all (fun x => !x.1) && (backToKw pos (keywordEach [] X.env)).all (fun x => x.1.isSome) && decide (([e] : List Expr).length + ([] : List Keyword).length + (if ([] : List Keyword).isEmpty then 0 else 1) < 30)) = true := by rfl)
    (hline : (ap.endLine == pos.line) = true := by rfl) (hs1 : starEach [e] X.env = (false, eval e X.env) :: starEach [] X.env := by rfl) (hpl : (backTo pos (starEach [] X.env)).any (·.1) = false := by rfl)
    (hs : swapsWith (.Call (.Attribute (.Name z np') "append" ap) [e] [] pos) none pos'.line X.env = pure false := by rfl) :
    Bl X Γ (.Expr (.Call (.Attribute (.Name z np') "append" ap) [e] [] pos) pos' :: rest) Γn Γb rr (p ∧ xs.length < sizeLine ∧ (let y := xs ++ [x]; qq y)) (let y := xs ++ [x]; rs y) := fun G O o σ H D hS hp kk => by
  refine ⟨_, pss_cons (ps_expr (pe_bm PySem.F.plainAttrs_list PySem.F.slot_list_append PySem.F.type_list_append mt_append (pe_var (i := i) (by rw [C.hN]; exact hN) (by rw [C.hS]; exact vis_of hv) hd hcd) (pa_cons we pa_nil hs1) rfl hfew hline hs1 hpl) hs) wb, ?_⟩
  obtain ⟨ov, e1, a, u, rfl, e2, e3, ws, rfl, e4⟩ := hS.sl.at_ i _ hΓ
  refine ⟨_, e1, .inl ⟨rfl, ws, SqL.of e3⟩, h o σ H _ hS.es hp.1 fun v H1 s1 q1 => ⟨a, ws, v, rfl, rfl, s1 _ _ e3, by rw [e4.len]; exact hp.2.1, ?_⟩⟩
  have hS1 := hS.mono s1
  have w := own_write (m' := moL r) (y := xs ++ [x]) (u := .lst (ws ++ [v])) hS1 (List.getElem?_eq_some_iff.mp hΓ).1 e1 e2 hi ⟨_, rfl, (e4.imp fun _ _ q => r.mono (hid_same s1) q).app (AL.one q1)⟩
  exact k _ G O o σ _ D w hp.2.2 kk
end
end L3

namespace L3
open PySem L2

/-! ### if, for, while -/
def bindR {ζ γ δ ρ : Type} (r : Res ζ δ ρ) (k : ζ → Res γ δ ρ) : Res γ δ ρ := match r with
  | .nx c => k c
  | .brk c => .brk c
  | .cnt c => .cnt c
  | .ret x => .ret x
def bindP {ζ δ ρ : Type} (r : Res ζ δ ρ) (q : ζ → Prop) : Prop := match r with
  | .nx c => q c
  | _ => True
def liftR {γ δ ρ : Type} (r : Res Empty δ ρ) : Res γ δ ρ := match r with
  | .nx c => c.elim
  | .brk c => .brk c
  | .cnt c => .cnt c
  | .ret x => .ret x
def forR {α γ ρ : Type} (step : γ → α → Res γ γ ρ) : List α → γ → ρ ⊕ γ
  | [], c => .inr c
  | y :: ys, c => match step c y with
    | .nx c' => forR step ys c'
    | .cnt c' => forR step ys c'
    | .brk c' => .inr c'
    | .ret x => .inl x
def forP {α γ ρ : Type} (pb : γ → α → Prop) (step : γ → α → Res γ γ ρ) : List α → γ → Prop
  | [], _ => True
  | y :: ys, c => pb c y ∧ match step c y with
    | .nx c' => forP pb step ys c'
    | .cnt c' => forP pb step ys c'
    | _ => True
def foldP {α γ : Type} (pb : γ → α → Prop) (f : γ → α → γ) : List α → γ → Prop
  | [], _ => True
  | y :: ys, c => pb c y ∧ foldP pb f ys (f c y)
theorem forR_nx {α γ ρ : Type} (f : γ → α → γ) : ∀ (xs : List α) (c : γ), forR (ρ := ρ) (fun c y => .nx (f c y)) xs c = .inr (xs.foldl f c)
  | [], c => rfl
  | y :: ys, c => forR_nx f ys (f c y)
theorem forP_nx {α γ ρ : Type} (pb : γ → α → Prop) (f : γ → α → γ) : ∀ (xs : List α) (c : γ), foldP pb f xs c → forP (ρ := ρ) pb (fun c y => .nx (f c y)) xs c
  | [], c, _ => trivial
  | y :: ys, c, h => ⟨h.1, forP_nx pb f ys (f c y) h.2⟩
def sumR {γ γ' δ ρ : Type} (r : ρ ⊕ γ) (k : γ → Res γ' δ ρ) : Res γ' δ ρ := match r with
  | .inl x => .ret x
  | .inr c => k c
def sumP {γ ρ : Type} (r : ρ ⊕ γ) (q : γ → Prop) : Prop := match r with
  | .inl _ => True
  | .inr c => q c
def sumV {γ ρ : Type} (r : ρ ⊕ γ) (k : γ → ρ) : ρ := match r with
  | .inl x => x
  | .inr c => k c
def whileR {γ ρ : Type} (bb : γ → Bool) (step : γ → Res γ γ ρ) : Nat → γ → ρ ⊕ γ
  | 0, c => .inr c
  | n + 1, c => if bb c = true then (match step c with
    | .nx c' => whileR bb step n c'
    | .cnt c' => whileR bb step n c'
    | .brk c' => .inr c'
    | .ret x => .inl x) else .inr c
def whileP {γ ρ : Type} (pt : γ → Prop) (pb : γ → Prop) (bb : γ → Bool) (step : γ → Res γ γ ρ) : Nat → γ → Prop
  | 0, _ => False
  | n + 1, c => pt c ∧ (bb c = true → pb c ∧ match step c with
    | .nx c' => whileP pt pb bb step n c'
    | .cnt c' => whileP pt pb bb step n c'
    | _ => True)
def whileF {γ : Type} (bb : γ → Bool) (f : γ → γ) : Nat → γ → γ
  | 0, c => c
  | n + 1, c => if bb c = true then whileF bb f n (f c) else c
def whileQ {γ : Type} (pt : γ → Prop) (pb : γ → Prop) (bb : γ → Bool) (f : γ → γ) : Nat → γ → Prop
  | 0, _ => False
  | n + 1, c => pt c ∧ (bb c = true → pb c ∧ whileQ pt pb bb f n (f c))
def optV {α β : Type} (y : Option α) (n : β) (s : α → β) : β := match y with
  | none => n
  | some w => s w
def optP {α : Type} (y : Option α) (n : Prop) (s : α → Prop) : Prop := match y with
  | none => n
  | some w => s w
theorem whileR_nx {γ ρ : Type} (bb : γ → Bool) (f : γ → γ) : ∀ (n : Nat) (c : γ), whileR (ρ := ρ) bb (fun c => .nx (f c)) n c = .inr (whileF bb f n c)
  | 0, c => rfl
  | n + 1, c => by
    unfold whileR whileF
    split
    · exact whileR_nx bb f n (f c)
    · rfl
theorem whileP_nx {γ ρ : Type} (pt pb : γ → Prop) (bb : γ → Bool) (f : γ → γ) : ∀ (n : Nat) (c : γ), whileQ pt pb bb f n c → whileP (ρ := ρ) pt pb bb (fun c => .nx (f c)) n c
  | 0, c, h => h
  | n + 1, c, h => ⟨h.1, fun e => ⟨(h.2 e).1, whileP_nx pt pb bb f n (f c) (h.2 e).2⟩⟩

section
variable {X : Cx} {N : List Str} {sc scope : Scope} {Γ : Gm} {α β γ δ ζ τ ρ : Type} {e c tg it : Expr} {r : Rp α} {rr : Pr ρ} {m : Mo α} {p q pa pb pt : Prop} {x : α} {xs : List α} {Γn : γ → Gm} {Γb : δ → Gm} {Γj : ζ → Gm} {a b rest body ss : List Stmt} {pos pos' : Pos} {bb : Bool} {z : Str} {i : Nat}
theorem bl_ifj {ra rb : Res ζ δ ρ} {qq : ζ → Prop} {rs : ζ → Res γ δ ρ} (ht : EvT X Γ c pt bb) (ha : Bl X Γ a Γj Γb rr pa ra) (hb : Bl X Γ b Γj Γb rr pb rb) (k : ∀ y, Bl X (Γj y) rest Γn Γb rr (qq y) (rs y)) :
    Bl X Γ (.If c a b pos :: rest) Γn Γb rr (pt ∧ (bb = true → pa) ∧ (bb = false → pb) ∧ bindP (if bb = true then ra else rb) qq) (bindR (if bb = true then ra else rb) rs) := fun G O o σ H D hS hp kk => by
  refine ⟨_, pss_cons (ps_if wt wb wb) wb, ht o σ H _ hS.es hp.1 fun H1 s1 => ?_⟩
  have hS1 := hS.mono s1
  have go : ∀ (r : Res ζ δ ρ), bindP r qq → BlP X G O Γn Γb rr D (bindR r rs) → BlP X G O Γj Γb rr { D with nx := WB X rest D } r := fun r h1 h2 => by
    cases r with
    | nx y => exact fun o σ H hS => k y G O o σ H D hS h1 h2
    | brk y => exact h2
    | cnt y => exact h2
    | ret y => exact h2
  cases bb with
  | true => exact iteT (ha G O o σ H1 _ hS1 (hp.2.1 rfl) (go ra hp.2.2.2 kk))
  | false => exact iteF (hb G O o σ H1 _ hS1 (hp.2.2.1 rfl) (go rb hp.2.2.2 kk))
/-- both ways go on -/
theorem bl_if {ca cb : ζ} {qq : ζ → Prop} {rs : ζ → Res γ δ ρ} (ht : EvT X Γ c pt bb) (ha : Bl X Γ a Γj Γb rr pa (.nx ca)) (hb : Bl X Γ b Γj Γb rr pb (.nx cb)) (k : ∀ y, Bl X (Γj y) rest Γn Γb rr (qq y) (rs y)) :
    Bl X Γ (.If c a b pos :: rest) Γn Γb rr (pt ∧ (bb = true → pa) ∧ (bb = false → pb) ∧ (let y := if bb = true then ca else cb; qq y)) (let y := if bb = true then ca else cb; rs y) := fun G O o σ H D hS hp kk =>
  bl_ifj ht ha hb k G O o σ H D hS ⟨hp.1, hp.2.1, hp.2.2.1, by cases bb <;> exact hp.2.2.2⟩ (by cases bb <;> exact kk)
theorem bt_if {ca cb : ζ} {qq : ζ → Prop} {rs : ζ → ρ} (ht : EvT X Γ c pt bb) (ha : Bl (β := Empty) X Γ a Γj (fun c => c.elim) rr pa (.nx ca)) (hb : Bl (β := Empty) X Γ b Γj (fun c => c.elim) rr pb (.nx cb)) (k : ∀ y, Bt X (Γj y) rest rr (qq y) (rs y)) :
    Bt X Γ (.If c a b pos :: rest) rr (pt ∧ (bb = true → pa) ∧ (bb = false → pb) ∧ (let y := if bb = true then ca else cb; qq y)) (let y := if bb = true then ca else cb; rs y) := bl_if (rs := fun y => .ret (rs y)) ht ha hb k
/-- the one way ends here -/
theorem bl_ifx {ra : Res Empty δ ρ} {rs : Res γ δ ρ} (ht : EvT X Γ c pt bb) (ha : Bl X Γ a (fun c => c.elim) Γb rr pa ra) (k : Bl X Γ rest Γn Γb rr q rs) :
    Bl X Γ (.If c a [] pos :: rest) Γn Γb rr (pt ∧ (bb = true → pa) ∧ (bb = false → q)) (if bb = true then liftR ra else rs) := fun G O o σ H D hS hp kk => by
  refine ⟨_, pss_cons (ps_if wt wb pss_nil) wb, ht o σ H _ hS.es hp.1 fun H1 s1 => ?_⟩
  have hS1 := hS.mono s1
  cases bb with
  | true =>
    refine iteT (ha G O o σ H1 _ hS1 (hp.2.1 rfl) ?_)
    cases ra with
    | nx y => exact y.elim
    | brk y => exact kk
    | cnt y => exact kk
    | ret y => exact kk
  | false => exact iteF (k G O o σ H1 D hS1 (hp.2.2 rfl) kk)
/-- a way that is never gone -/
theorem bl_dead {rs : Res γ δ ρ} (ht : EvT X Γ c pt bb) (k : Bl X Γ rest Γn Γb rr q rs) : Bl X Γ (.If c a [] pos :: rest) Γn Γb rr (pt ∧ bb = false ∧ q) rs := fun G O o σ H D hS hp kk => by
  refine ⟨_, pss_cons (ps_if wt pss_never pss_nil) wb, ht o σ H _ hS.es hp.1 fun H1 s1 => ?_⟩
  rw [hp.2.1]
  exact iteF (k G O o σ H1 D (hS.mono s1) hp.2.2 kk)
theorem bt_ifx {xa xb : ρ} (ht : EvT X Γ c pt bb) (ha : Bt X Γ a rr pa xa) (k : Bt X Γ rest rr q xb) :
    Bt X Γ (.If c a [] pos :: rest) rr (pt ∧ (bb = true → pa) ∧ (bb = false → q)) (if bb = true then xa else xb) := fun G O o σ H D hS hp kk => by
  refine bl_ifx ht ha k G O o σ H D hS hp ?_
  cases bb <;> exact kk
/-- both ways end here -/
theorem bl_ifxx {ra rb : Res Empty δ ρ} (ht : EvT X Γ c pt bb) (ha : Bl X Γ a (fun c => c.elim) Γb rr pa ra) (hb : Bl X Γ b (fun c => c.elim) Γb rr pb rb) :
    Bl X Γ (.If c a b pos :: rest) Γn Γb rr (pt ∧ (bb = true → pa) ∧ (bb = false → pb)) (if bb = true then liftR ra else liftR rb) := fun G O o σ H D hS hp kk => by
  refine ⟨_, pss_cons (ps_if wt wb wb) wb, ht o σ H _ hS.es hp.1 fun H1 s1 => ?_⟩
  have hS1 := hS.mono s1
  have go : ∀ r : Res Empty δ ρ, BlP X G O Γn Γb rr D (liftR r) → BlP X G O (fun c => c.elim) Γb rr { D with nx := WB X rest D } r := fun r h => by
    cases r with
    | nx y => exact y.elim
    | brk y => exact h
    | cnt y => exact h
    | ret y => exact h
  cases bb with
  | true => exact iteT (ha G O o σ H1 _ hS1 (hp.2.1 rfl) (go ra kk))
  | false => exact iteF (hb G O o σ H1 _ hS1 (hp.2.2 rfl) (go rb kk))
theorem bt_ifxx {xa xb : ρ} (ht : EvT X Γ c pt bb) (ha : Bt X Γ a rr pa xa) (hb : Bt X Γ b rr pb xb) :
    Bt X Γ (.If c a b pos :: rest) rr (pt ∧ (bb = true → pa) ∧ (bb = false → pb)) (if bb = true then xa else xb) := fun G O o σ H D hS hp kk => by
  refine bl_ifxx (γ := Empty) (Γn := fun c => c.elim) ht ha hb G O o σ H D hS hp ?_
  cases bb <;> exact kk
/-- if x is None: (ends here); behind it x is something -/
theorem bl_ifN {y : Option α} {i : Nat} {nm : Str} {j np cpos} {pn : Prop} {ps : α → Prop} {rn : Res Empty δ ρ} {rs : α → Res γ δ ρ} (C : CF X N sc) (hN : N[i]? = some nm) (hv : visB sc nm = true) (hΓ : Γ[i]? = some (.val (rO r) y)) (ha : Bl X Γ a (fun c => c.elim) Γb rr pn rn)
    (k : ∀ w, Bl X (Γ.set i (.val r w)) rest Γn Γb rr (ps w) (rs w)) (hd : (nm == ("__debug__" : Str)) = false := by decide) (hcd : (nm == ("__classdict__" : Str)) = false := by decide) :
    Bl X Γ (.If (.Compare (.Name nm np) [.Is] [.Constant .none j cpos] pos') a [] pos :: rest) Γn Γb rr (optP y pn ps) (optV y (liftR rn) rs) := fun G O o σ H D hS hp kk => by
  cases y with
  | none => exact bl_ifx (et_isN (ev_var C hN hv hΓ hd hcd)) ha (bl_never' (rs := liftR rn)) G O o σ H D hS ⟨trivial, fun _ => hp, fun h => Bool.noConfusion h⟩ kk
  | some w =>
    refine bl_ifx (rs := rs w) (et_isN (ev_var C hN hv hΓ hd hcd)) ha (q := ps w) ?_ G O o σ H D hS ⟨trivial, fun h => Bool.noConfusion h, fun _ => hp⟩ kk
    intro G O o σ H D hS hp kk
    refine k w G O o σ H D ⟨⟨by rw [hS.sl.len, List.length_set], fun l sv e => ?_⟩, hS.same, hS.al, hS.out, hS.inn⟩ hp kk
    rw [List.getElem?_set] at e
    by_cases w' : i = l
    · subst w'
      rw [if_pos rfl, if_pos (List.getElem?_eq_some_iff.mp hΓ).1] at e
      cases e
      obtain ⟨ov, e1, v, e2, e3⟩ := hS.sl.at_ i _ hΓ
      exact ⟨ov, e1, v, e2, e3.2⟩
    · rw [if_neg w'] at e
      exact hS.sl.at_ l sv e
where
  bl_never' {rs : Res γ δ ρ} : Bl X Γ rest Γn Γb rr False rs := fun G O o σ H D hS hp kk => hp.elim
theorem bt_ifN {y : Option α} {i : Nat} {nm : Str} {j np cpos} {pn : Prop} {ps : α → Prop} {rn : ρ} {rs : α → ρ} (C : CF X N sc) (hN : N[i]? = some nm) (hv : visB sc nm = true) (hΓ : Γ[i]? = some (.val (rO r) y)) (ha : Bt X Γ a rr pn rn)
    (k : ∀ w, Bt X (Γ.set i (.val r w)) rest rr (ps w) (rs w)) (hd : (nm == ("__debug__" : Str)) = false := by decide) (hcd : (nm == ("__classdict__" : Str)) = false := by decide) :
    Bt X Γ (.If (.Compare (.Name nm np) [.Is] [.Constant .none j cpos] pos') a [] pos :: rest) rr (optP y pn ps) (optV y rn rs) := fun G O o σ H D hS hp kk => by
  refine bl_ifN (rs := fun w => .ret (rs w)) C hN hv hΓ ha k hd hcd G O o σ H D hS hp ?_
  cases y <;> exact kk

def bindV {ζ ρ : Type} (r : Res ζ Empty ρ) (k : ζ → ρ) : ρ := match r with
  | .nx c => k c
  | .brk c => c.elim
  | .cnt c => c.elim
  | .ret x => x
theorem bt_ifj {ra rb : Res ζ Empty ρ} {qq : ζ → Prop} {rs : ζ → ρ} (Γj : ζ → Gm) (ht : EvT X Γ c pt bb) (ha : Bl X Γ a Γj (fun c => c.elim) rr pa ra) (hb : Bl X Γ b Γj (fun c => c.elim) rr pb rb) (k : ∀ y, Bt X (Γj y) rest rr (qq y) (rs y)) :
    Bt X Γ (.If c a b pos :: rest) rr (pt ∧ (bb = true → pa) ∧ (bb = false → pb) ∧ bindP (if bb = true then ra else rb) qq) (bindV (if bb = true then ra else rb) rs) := fun G O o σ H D hS hp kk => by
  refine bl_ifj (rs := fun y => .ret (rs y)) ht ha hb k G O o σ H D hS hp ?_
  generalize (if bb = true then ra else rb) = z at kk ⊢
  cases z with
  | nx y => exact kk
  | brk y => exact y.elim
  | cnt y => exact y.elim
  | ret y => exact kk
/-- the heap that a loop leaves as it is -/
def keepH (o : Own) (H : Hp) : Hp := fun b => match o b with
  | some j => if j < 1000 then none else H b
  | none => H b
theorem keep_stt {G : Hp} {O : Addr → Bool} {o : Own} {σ : St} {H : Hp} (hS : Stt G O Γ o σ H) : Stt (keepH o H) O Γ o σ H ∧ Same G (keepH o H) := by
  refine ⟨⟨hS.sl, fun b u h => ?_, hS.al, hS.out, fun b j h => ?_⟩, fun b u h => ?_⟩
  · unfold keepH at h
    split at h
    · split at h
      · cases h
      · exact h
    · exact h
  · rcases hS.inn b j h with w | w
    · refine .inl ⟨w.1, ?_⟩
      unfold keepH
      rw [h]
      exact if_pos w.1
    · exact .inr w
  · unfold keepH
    cases e : o b with
    | none => exact hS.same b u h
    | some j =>
      show (if j < 1000 then none else H b) = some u
      rcases hS.inn b j e with w | w
      · rw [w.2] at h; cases h
      · rw [if_neg (by omega)]
        exact hS.same b u h
theorem Stt.weak {G G' : Hp} {O : Addr → Bool} {o : Own} {σ : St} {H : Hp} (h : Stt G' O Γ o σ H) (s : Same G G') : Stt G O Γ o σ H :=
  ⟨h.sl, s.trans h.same, h.al, h.out, fun b j e => (h.inn b j e).imp (fun w => ⟨w.1, s.free w.2⟩) id⟩
theorem keep_hid {G : Hp} {O : Addr → Bool} {o o2 : Own} {σ σ2 : St} {H H2 : Hp} {Γ2 : Gm} (hS : Stt G O Γ o σ H) (hS2 : Stt (keepH o H) O Γ2 o2 σ2 H2) : Same (hid o H) (hid o2 H2) := fun b u h => by
  obtain ⟨h1, h2⟩ := hid_some h
  have hk : keepH o H b = some u := by unfold keepH; rw [h1]; exact h2
  refine hid_mk ?_ (hS2.same b u hk)
  cases e : o2 b with
  | none => rfl
  | some j =>
    rcases hS2.inn b j e with w | w
    · rw [w.2] at hk; cases hk
    · have := hS.out b w.2
      rw [h1] at this; cases this
theorem bl_for {Γc : ζ → Gm} {c0 : ζ} {Γt : ζ → α → Gm} {js : ζ → List Nat} {pb : ζ → α → Prop} {step : ζ → α → Res ζ ζ ρ} {qq : ζ → Prop} {rs : ζ → Res γ δ ρ} (hc : X.calm = true) (po : PassesOwn (model X.prog X.w) X.A X.env X.xe) (hi : EvI X Γ tg it r p xs) (w : Wk Γ (Γc c0))
    (hg : ∀ c, TgJ X (Γc c) tg r (Γt c) (js c)) (hb : ∀ c y, Bl X (Γt c y) body Γc Γc rr (pb c y) (step c y)) (k : ∀ c, Bl X (Γc c) rest Γn Γb rr (qq c) (rs c)) (hs : ∀ x, foldedSetIterable it X.env x = pure x := by intro _; rfl) :
    Bl X Γ (.For tg it body [] pos :: rest) Γn Γb rr (p ∧ forP pb step xs c0 ∧ sumP (forR step xs c0) qq) (sumR (forR step xs c0) rs) := fun G O o σ H D hS hp kk => by
  refine ⟨_, pss_cons (ps_for po hc wi wg wb hs) wb, ?_⟩
  refine hi o σ H _ hS.es hp.1 fun J H1 s1 itr => ?_
  have hS1 := hS.mono s1
  obtain ⟨k1, k2⟩ := keep_stt hS1
  refine ⟨fun i m σ' H' => m = xs.length - i ∧ i ≤ xs.length ∧ ∃ c o', Stt (keepH o H1) O (Γc c) o' σ' H' ∧ forR step (xs.drop i) c = forR step xs c0 ∧ forP pb step (xs.drop i) c,
    ⟨_, rfl, Nat.zero_le _, c0, o, k1.wk w, rfl, hp.2.1⟩, ?_⟩
  rintro i m σ' H' ⟨rfl, hi', c, o', hS', e1, e2⟩
  obtain ⟨I1, I2⟩ := itr o' H' (keep_hid hS1 hS') hS'.al i hi'
  by_cases hlt : i < xs.length
  · have hy : xs[i]? = some xs[i] := List.getElem?_eq_getElem hlt
    have hd : xs.drop i = xs[i] :: xs.drop (i + 1) := List.drop_eq_getElem_cons hlt
    obtain ⟨g1, g2⟩ := I1 _ hy
    rw [hd] at e1 e2
    refine .inr ⟨g1, fun σ2 H2 => ∃ c o', Stt (keepH o H1) O (Γc c) o' σ2 H2 ∧ forR step (xs.drop (i + 1)) c = forR step xs c0 ∧ forP pb step (xs.drop (i + 1)) c, fun σ2 H2 h => ⟨_, by omega, rfl, hlt, h⟩, fun v H2 yl => ?_⟩
    obtain ⟨s2, rv⟩ := g2 v H2 yl
    have hS2 := hS'.mono s2
    refine hg c o' σ' H2 v _ _ hS2.sl rv fun σ3 sl3 _ => ?_
    have hS3 : Stt (keepH o H1) O (Γt c xs[i]) o' σ3 H2 := ⟨sl3, hS2.same, hS2.al, hS2.out, hS2.inn⟩
    refine hb c xs[i] _ O o' σ3 H2 _ hS3 e2.1 ?_
    cases er : step c xs[i] with
    | nx c' =>
      simp only [forR, er] at e1
      have e3 := e2.2
      rw [er] at e3
      exact fun o2 σ4 H4 hS4 => ⟨c', o2, hS4, e1, e3⟩
    | cnt c' =>
      simp only [forR, er] at e1
      have e3 := e2.2
      rw [er] at e3
      exact fun o2 σ4 H4 hS4 => ⟨c', o2, hS4, e1, e3⟩
    | brk c' =>
      simp only [forR, er] at e1
      rw [← e1] at kk hp
      exact fun o2 σ4 H4 hS4 => k c' G O o2 σ4 H4 D (hS4.weak k2) hp.2.2 kk
    | ret v =>
      simp only [forR, er] at e1
      rw [← e1] at kk
      exact rr.mono k2 kk
  · have e : i = xs.length := by omega
    rw [e, List.drop_length] at e1
    have e1 : (Sum.inr c : ρ ⊕ ζ) = forR step xs c0 := e1
    rw [← e1] at kk hp
    exact .inl ⟨I2 e, k c G O o' σ' H' D (hS'.weak k2) hp.2.2 kk⟩
/-- a loop whose turns all go on -/
theorem bl_forF {Γc : ζ → Gm} {c0 : ζ} {Γt : ζ → α → Gm} {js : ζ → List Nat} {pb : ζ → α → Prop} {f : ζ → α → ζ} {qq : ζ → Prop} {rs : ζ → Res γ δ ρ} (hc : X.calm = true) (po : PassesOwn (model X.prog X.w) X.A X.env X.xe) (hi : EvI X Γ tg it r p xs) (w : Wk Γ (Γc c0))
    (hg : ∀ c, TgJ X (Γc c) tg r (Γt c) (js c)) (hb : ∀ c y, Bl X (Γt c y) body Γc Γc rr (pb c y) (.nx (f c y))) (k : ∀ c, Bl X (Γc c) rest Γn Γb rr (qq c) (rs c)) (hs : ∀ x, foldedSetIterable it X.env x = pure x := by intro _; rfl) :
    Bl X Γ (.For tg it body [] pos :: rest) Γn Γb rr (p ∧ foldP pb f xs c0 ∧ (let y := xs.foldl f c0; qq y)) (let y := xs.foldl f c0; rs y) := fun G O o σ H D hS hp kk =>
  bl_for hc po hi w hg hb k hs G O o σ H D hS ⟨hp.1, forP_nx pb f xs c0 hp.2.1, by rw [forR_nx]; exact hp.2.2⟩ (by rw [forR_nx]; exact kk)
theorem bt_forF {Γc : ζ → Gm} {c0 : ζ} {Γt : ζ → α → Gm} {js : ζ → List Nat} {pb : ζ → α → Prop} {f : ζ → α → ζ} {qq : ζ → Prop} {rs : ζ → ρ} (hc : X.calm = true) (po : PassesOwn (model X.prog X.w) X.A X.env X.xe) (hi : EvI X Γ tg it r p xs) (w : Wk Γ (Γc c0))
    (hg : ∀ c, TgJ X (Γc c) tg r (Γt c) (js c)) (hb : ∀ c y, Bl X (Γt c y) body Γc Γc rr (pb c y) (.nx (f c y))) (k : ∀ c, Bt X (Γc c) rest rr (qq c) (rs c)) (hs : ∀ x, foldedSetIterable it X.env x = pure x := by intro _; rfl) :
    Bt X Γ (.For tg it body [] pos :: rest) rr (p ∧ foldP pb f xs c0 ∧ (let y := xs.foldl f c0; qq y)) (let y := xs.foldl f c0; rs y) := bl_forF (rs := fun y => .ret (rs y)) hc po hi w hg hb k hs
theorem bt_for {Γc : ζ → Gm} {c0 : ζ} {Γt : ζ → α → Gm} {js : ζ → List Nat} {pb : ζ → α → Prop} {step : ζ → α → Res ζ ζ ρ} {qq : ζ → Prop} {rs : ζ → ρ} (hc : X.calm = true) (po : PassesOwn (model X.prog X.w) X.A X.env X.xe) (hi : EvI X Γ tg it r p xs) (w : Wk Γ (Γc c0))
    (hg : ∀ c, TgJ X (Γc c) tg r (Γt c) (js c)) (hb : ∀ c y, Bl X (Γt c y) body Γc Γc rr (pb c y) (step c y)) (k : ∀ c, Bt X (Γc c) rest rr (qq c) (rs c)) (hs : ∀ x, foldedSetIterable it X.env x = pure x := by intro _; rfl) :
    Bt X Γ (.For tg it body [] pos :: rest) rr (p ∧ forP pb step xs c0 ∧ sumP (forR step xs c0) qq) (sumV (forR step xs c0) rs) := fun G O o σ H D hS hp kk => by
  refine bl_for (rs := fun y => .ret (rs y)) hc po hi w hg hb k hs G O o σ H D hS hp ?_
  generalize forR step xs c0 = z at kk ⊢
  cases z <;> exact kk
theorem bl_while {Γc : ζ → Gm} {c0 : ζ} {pt pb : ζ → Prop} {bb : ζ → Bool} {step : ζ → Res ζ ζ ρ} {qq : ζ → Prop} {rs : ζ → Res γ δ ρ} (n : Nat) (po : PassesOwn (model X.prog X.w) X.A X.env X.xe) (w : Wk Γ (Γc c0)) (ht : ∀ c, EvT X (Γc c) e (pt c) (bb c))
    (hb : ∀ c, Bl X (Γc c) body Γc Γc rr (pb c) (step c)) (k : ∀ c, Bl X (Γc c) rest Γn Γb rr (qq c) (rs c)) :
    Bl X Γ (.While e body [] pos :: rest) Γn Γb rr (whileP pt pb bb step n c0 ∧ sumP (whileR bb step n c0) qq) (sumR (whileR bb step n c0) rs) := fun G O o σ H D hS hp kk => by
  refine ⟨_, pss_cons (ps_while po wt wb) wb, ?_⟩
  refine ⟨fun j σ' H' => ∃ c o', Stt G O (Γc c) o' σ' H' ∧ whileR bb step j c = whileR bb step n c0 ∧ whileP pt pb bb step j c, ⟨n, c0, o, hS.wk w, rfl, hp.1⟩, ?_⟩
  rintro j σ' H' ⟨c, o', hS', e1, e2⟩
  cases j with
  | zero => exact e2.elim
  | succ j =>
    refine ht c o' σ' H' _ hS'.es e2.1 fun H2 s2 => ?_
    have hS2 := hS'.mono s2
    cases eb : bb c with
    | false =>
      refine iteF ?_
      simp only [whileR, eb, Bool.false_eq_true, if_false] at e1
      rw [← e1] at kk hp
      exact k c G O o' σ' H2 D hS2 hp.2 kk
    | true =>
      obtain ⟨p1, p2⟩ := e2.2 eb
      refine iteT ⟨fun σ3 H3 => ∃ c o', Stt G O (Γc c) o' σ3 H3 ∧ whileR bb step j c = whileR bb step n c0 ∧ whileP pt pb bb step j c, fun σ3 H3 h => ⟨j, Nat.lt_succ_self j, h⟩, ?_⟩
      simp only [whileR, eb, if_true] at e1
      refine hb c G O o' σ' H2 _ hS2 p1 ?_
      cases er : step c with
      | nx c' =>
        simp only [er] at e1 p2
        exact fun o2 σ4 H4 hS4 => ⟨c', o2, hS4, e1, p2⟩
      | cnt c' =>
        simp only [er] at e1 p2
        exact fun o2 σ4 H4 hS4 => ⟨c', o2, hS4, e1, p2⟩
      | brk c' =>
        simp only [er] at e1
        rw [← e1] at kk hp
        exact fun o2 σ4 H4 hS4 => k c' G O o2 σ4 H4 D hS4 hp.2 kk
      | ret v =>
        simp only [er] at e1
        rw [← e1] at kk
        exact kk
theorem bl_whileF {Γc : ζ → Gm} {c0 : ζ} {pt pb : ζ → Prop} {bb : ζ → Bool} {f : ζ → ζ} {qq : ζ → Prop} {rs : ζ → Res γ δ ρ} (n : Nat) (po : PassesOwn (model X.prog X.w) X.A X.env X.xe) (w : Wk Γ (Γc c0)) (ht : ∀ c, EvT X (Γc c) e (pt c) (bb c))
    (hb : ∀ c, Bl X (Γc c) body Γc Γc rr (pb c) (.nx (f c))) (k : ∀ c, Bl X (Γc c) rest Γn Γb rr (qq c) (rs c)) :
    Bl X Γ (.While e body [] pos :: rest) Γn Γb rr (whileQ pt pb bb f n c0 ∧ (let y := whileF bb f n c0; qq y)) (let y := whileF bb f n c0; rs y) := fun G O o σ H D hS hp kk =>
  bl_while n po w ht hb k G O o σ H D hS ⟨whileP_nx pt pb bb f n c0 hp.1, by rw [whileR_nx]; exact hp.2⟩ (by rw [whileR_nx]; exact kk)
theorem bt_whileF {Γc : ζ → Gm} {c0 : ζ} {pt pb : ζ → Prop} {bb : ζ → Bool} {f : ζ → ζ} {qq : ζ → Prop} {rs : ζ → ρ} (n : Nat) (po : PassesOwn (model X.prog X.w) X.A X.env X.xe) (w : Wk Γ (Γc c0)) (ht : ∀ c, EvT X (Γc c) e (pt c) (bb c))
    (hb : ∀ c, Bl X (Γc c) body Γc Γc rr (pb c) (.nx (f c))) (k : ∀ c, Bt X (Γc c) rest rr (qq c) (rs c)) :
    Bt X Γ (.While e body [] pos :: rest) rr (whileQ pt pb bb f n c0 ∧ (let y := whileF bb f n c0; qq y)) (let y := whileF bb f n c0; rs y) := bl_whileF (rs := fun y => .ret (rs y)) n po w ht hb k
theorem bt_while {Γc : ζ → Gm} {c0 : ζ} {pt pb : ζ → Prop} {bb : ζ → Bool} {step : ζ → Res ζ ζ ρ} {qq : ζ → Prop} {rs : ζ → ρ} (n : Nat) (po : PassesOwn (model X.prog X.w) X.A X.env X.xe) (w : Wk Γ (Γc c0)) (ht : ∀ c, EvT X (Γc c) e (pt c) (bb c))
    (hb : ∀ c, Bl X (Γc c) body Γc Γc rr (pb c) (step c)) (k : ∀ c, Bt X (Γc c) rest rr (qq c) (rs c)) :
    Bt X Γ (.While e body [] pos :: rest) rr (whileP pt pb bb step n c0 ∧ sumP (whileR bb step n c0) qq) (sumV (whileR bb step n c0) rs) := fun G O o σ H D hS hp kk => by
  refine bl_while (rs := fun y => .ret (rs y)) n po w ht hb k G O o σ H D hS hp ?_
  generalize whileR bb step n c0 = z at kk ⊢
  cases z <;> exact kk

/-! ### further stores -/
theorem bl_aug {op : Operator} {g : Int → Int → Int} {v y : Int} {qq : Int → Prop} {rs : Int → Res γ δ ρ} (hX : X.N = N) (nd : N.Nodup) (hN : N[i]? = some z) (T : Tgt X z) (ho : PIp X op (ipI g)) (hΓ : Γ[i]? = some (.val rI v)) (h : EvF X Γ e rI p y) (k : ∀ w, Bl X (Γ.set i (.val rI w)) rest Γn Γb rr (qq w) (rs w)) :
    Bl X Γ (.AugAssign (.Name z pos') op e pos :: rest) Γn Γb rr (p ∧ (let w := g v y; qq w)) (let w := g v y; rs w) := fun G O o σ H D hS hp kk => by
  refine ⟨_, pss_cons (ps_aug (i := i) (by rw [hX]; exact nd) (by rw [hX]; exact hN) T.loc we ho T.fn) wb, ?_⟩
  obtain ⟨ov, e1, v', e2, e3⟩ := hS.sl.at_ i _ hΓ
  subst e2
  refine ⟨v', e1, h o σ H _ hS.es hp.1 fun u H' s q => ⟨v, y, e3, q, ?_⟩⟩
  have hS' := hS.mono s
  exact k _ G O o _ H' D ⟨hS'.sl.set i _ _ ⟨_, rfl, rfl⟩, hS'.same, hS'.al, hS'.out, hS'.inn⟩ hp.2 kk
theorem bl_asgT {es : List Expr} {kk0 : Nat} {tpos : Pos} {Γt : α → Gm} {js : List Nat} {qq : α → Prop} {rs : α → Res γ δ ρ} (h : EvF X Γ e r p x) (hg : TgJ X Γ (.Tuple es kk0 tpos) r Γt js) (k : ∀ y, Bl X (Γt y) rest Γn Γb rr (qq y) (rs y))
    (hs : swapsWithSole [.Tuple es kk0 tpos] e pos.line X.env = pure false := by rfl) (hw : swappedStores [.Tuple es kk0 tpos] e X.env = pure none := by rfl) (h1 : (assignEach [.Tuple es kk0 tpos] X.env).map (·.2) = [assign (.Tuple es kk0 tpos) X.env] := by rfl) :
    Bl X Γ (.Assign [.Tuple es kk0 tpos] e pos :: rest) Γn Γb rr (p ∧ (let y := x; qq y)) (let y := x; rs y) := fun G O o σ H D hS hp kk => by
  refine ⟨_, pss_cons (ps_asg we wg hs hw h1) wb, h o σ H _ hS.es hp.1 fun v H' s q => ?_⟩
  have hS' := hS.mono s
  exact hg o σ H' v x _ hS'.sl q fun σ' sl _ => k x G O o σ' H' D ⟨sl, hS'.same, hS'.al, hS'.out, hS'.inn⟩ hp.2 kk
end

/-! ### a def of the text -/
theorem slots_start {g : Gm} {o : Own} {vs : List V} {H : Hp} (h : Slots g o (vs.map some) H) (k : Nat) : Slots (g ++ List.replicate k .junk) o (vs.map some ++ List.replicate k none) H := by
  refine ⟨by simp [h.len, show vs.length = g.length by simpa using h.len], fun i sv e => ?_⟩
  have hl : vs.length = g.length := by simpa using h.len
  by_cases q : i < g.length
  · rw [List.getElem?_append_left q] at e
    rw [List.getElem?_append_left (by simpa [hl] using q)]
    exact h.at_ i sv e
  · have q := Nat.le_of_not_lt q
    rw [List.getElem?_append_right q, List.getElem?_replicate] at e
    rw [List.getElem?_append_right (by simpa [hl] using q), List.getElem?_replicate]
    split at e
    · rename_i w
      cases e
      refine ⟨none, ?_, trivial⟩
      rw [if_pos (by simpa [hl] using w)]
    · cases e
structure ArgS {τ : Type} (t : Tp τ) (g : τ → Gm) : Prop where
  ok : ∀ {o : Own} {H : Hp} {vs : List V} {x : τ} (i : Nat) (sv : SV), t.rep (hid o H) vs x → (g x)[i]? = some sv → ∃ v, vs[i]? = some v ∧ ∀ j, sv.ok o H j (some v)
  len : ∀ x, (g x).length = t.n
theorem as_0 : ArgS t0 (fun _ => []) := ⟨fun i sv _ e => by simp at e, fun _ => rfl⟩
theorem as_1 {α : Type} {r : Rp α} : ArgS (t1 r) (fun x => [.val r x]) := ⟨fun i sv ⟨v, e1, e2⟩ e => by
  cases i with
  | zero => cases e; exact ⟨v, by rw [e1]; rfl, fun j => ⟨v, rfl, e2⟩⟩
  | succ i => simp at e, fun _ => rfl⟩
theorem as_c {α τ : Type} {r : Rp α} {t : Tp τ} {g : τ → Gm} (h : ArgS t g) : ArgS (tc r t) (fun x => .val r x.1 :: g x.2) := ⟨fun i sv ⟨v, ws, e1, e2, e3⟩ e => by
  cases i with
  | zero => cases e; exact ⟨v, by rw [e1]; rfl, fun j => ⟨v, rfl, e2⟩⟩
  | succ i =>
    obtain ⟨w, f1, f2⟩ := h.ok i sv e3 e
    exact ⟨w, by rw [e1]; exact f1, f2⟩, fun x => by rw [List.length_cons, h.len]; rfl⟩
theorem fn_mk {P : Program} {w : World} {K : PySem.W.Frag} {mg : Str → Option Value} {base : Heap} {k : Nat} {fa : Addr} {nm qual : Str} {st : Stmt} {fd : FuncData} {N ps : List Str} {τ ρ : Type} {t : Tp τ} {rr : Rp ρ} {vc : τ → Prop} {f : τ → ρ} {g : τ → Gm} {Γ0 : τ → Gm}
    (F : Fun K nm qual st fa fd) (S : FnScope N ps (defScope st)) (hn : ps.length = t.n) (ag : ArgS t g) (hΓ : ∀ x, Γ0 x = g x ++ List.replicate (N.length - ps.length) .junk)
    (hbody : ∀ X : Cx, X.prog = P → X.w = w → X.K = K → X.mg = mg → X.base = base → CF X N (defScope st) → CF2 X k → (∀ z, X.fn z = true) → ∀ x, Bt X (Γ0 x) (defBody st) (prN rr) (vc x) (f x)) :
    FnG P w K mg base CX0 (k + 1) fa fd ps (spF t rr vc f) := by
  refine fn_ofG F S (spF_len hn) fun cdv A outer s H vs Q E hg hr ⟨O, x, h1, h2, h3, h4⟩ => ?_
  have hl : vs.length = ps.length := by rw [t.len h2, hn]
  refine ⟨_, PSs.nox wb, ?_⟩
  refine hbody (cxOf CX0 P w K mg base N qual (defScope st) fa cdv A outer s H E).nox rfl rfl rfl rfl rfl ⟨rfl, S.nd, rfl, rfl, hr.units⟩ ⟨hg, hr, PassesOwn.never⟩ (fun _ => rfl) x H O (fun b => if O b = true then some 1000 else none) _ H _ ⟨?_, Same.refl _, ?_, ?_, ?_⟩ h3 ?_
  · rw [hΓ]
    unfold L2.start
    rw [hl]
    refine slots_start ⟨by rw [List.length_map, ag.len, hl, hn], fun i sv e => ?_⟩ _
    obtain ⟨v, e1, e2⟩ := ag.ok i sv h2 e
    exact ⟨some v, by rw [List.getElem?_map, e1]; rfl, e2 i⟩
  · intro b hb
    apply h1
    cases q : O b with
    | true => rfl
    | false =>
      have hb : (if O b = true then some 1000 else none : Option Nat).isSome = true := hb
      rw [q] at hb; cases hb
  · intro b hb
    exact if_pos hb
  · intro b j hb
    have hb : (if O b = true then some 1000 else none : Option Nat) = some j := hb
    split at hb
    · rename_i w
      cases hb
      exact .inr ⟨rfl, w⟩
    · cases hb
  · exact fun v H' s q => h4 v H' s q
/-- a def that falls through -/
theorem fn_mkN {P : Program} {w : World} {K : PySem.W.Frag} {mg : Str → Option Value} {base : Heap} {k : Nat} {fa : Addr} {nm qual : Str} {st : Stmt} {fd : FuncData} {N ps : List Str} {τ : Type} {t : Tp τ} {vc : τ → Prop} {g : τ → Gm} {Γ0 : τ → Gm} {Γe : Gm}
    (F : Fun K nm qual st fa fd) (S : FnScope N ps (defScope st)) (hn : ps.length = t.n) (ag : ArgS t g) (hΓ : ∀ x, Γ0 x = g x ++ List.replicate (N.length - ps.length) .junk)
    (hbody : ∀ X : Cx, X.prog = P → X.w = w → X.K = K → X.mg = mg → X.base = base → CF X N (defScope st) → CF2 X k → (∀ z, X.fn z = true) → ∀ x, Bl (γ := Unit) (β := Empty) X (Γ0 x) (defBody st) (fun _ => Γe) (fun c => c.elim) (prN rN) (vc x) (.nx ())) :
    FnG P w K mg base CX0 (k + 1) fa fd ps (spF t rN vc (fun _ => ())) := by
  refine fn_ofG F S (spF_len hn) fun cdv A outer s H vs Q E hg hr ⟨O, x, h1, h2, h3, h4⟩ => ?_
  have hl : vs.length = ps.length := by rw [t.len h2, hn]
  refine ⟨_, PSs.nox wb, ?_⟩
  refine hbody (cxOf CX0 P w K mg base N qual (defScope st) fa cdv A outer s H E).nox rfl rfl rfl rfl rfl ⟨rfl, S.nd, rfl, rfl, hr.units⟩ ⟨hg, hr, PassesOwn.never⟩ (fun _ => rfl) x H O (fun b => if O b = true then some 1000 else none) _ H _ ⟨?_, Same.refl _, ?_, ?_, ?_⟩ h3 ?_
  · rw [hΓ]
    unfold L2.start
    rw [hl]
    refine slots_start ⟨by rw [List.length_map, ag.len, hl, hn], fun i sv e => ?_⟩ _
    obtain ⟨v, e1, e2⟩ := ag.ok i sv h2 e
    exact ⟨some v, by rw [List.getElem?_map, e1]; rfl, e2 i⟩
  · intro b hb
    apply h1
    cases q : O b with
    | true => rfl
    | false =>
      have hb : (if O b = true then some 1000 else none : Option Nat).isSome = true := hb
      rw [q] at hb; cases hb
  · intro b hb
    exact if_pos hb
  · intro b j hb
    have hb : (if O b = true then some 1000 else none : Option Nat) = some j := hb
    split at hb
    · rename_i w
      cases hb
      exact .inr ⟨rfl, w⟩
    · cases hb
  · exact fun o σ H' hS => h4 .non H' hS.same rfl
theorem tgt_def {X : Cx} {N : List Str} {sc : Scope} {z : Str} (C : CF X N sc) (fn : ∀ z, X.fn z = true) (h : locB sc z = true) : Tgt X z := ⟨by rw [C.hS]; exact loc_of h, .inl (fn z)⟩
theorem tgt_blk {X : Cx} {scope : Scope} {z : Str} {s : Shared} {H0 : Hp} {A0 : Addr} {cl : List (Str × Addr)} {fp : List Addr} (h : scope.names.lookup z = some .local) : Tgt (BX X scope s H0 A0 cl fp) z := by
  have q : (relS scope X.env.scope).names.lookup z = some .local := lookup_relS_keep (by intro w; cases w) h
  exact ⟨.inl q, .inr q⟩
end L3

namespace L3
open PySem L2

/-! ### the same rules, whatever stands around the value (W: id, Res.nx, Res.ret) -/
section
variable {X : Cx} {N : List Str} {sc scope : Scope} {Γ : Gm} {α β γ δ ζ κ τ ρ : Type} {e c tg it : Expr} {r : Rp α} {rr : Pr ρ} {m : Mo α} {p q pa pb pt : Prop} {x : α} {xs : List α} {Γn : γ → Gm} {Γb : δ → Gm} {Γj : ζ → Gm} {a b rest body ss : List Stmt} {pos pos' : Pos} {bb : Bool} {z : Str} {i : Nat}
theorem bw_asg (W : κ → Res γ δ ρ) {qq : α → Prop} {rs : α → κ} (C : CF X N sc) (T : Tgt X z) (i : Nat) (hN : N[i]? = some z) (h : EvF X Γ e r p x) (k : ∀ y, Bl X (Γ.set i (.val r y)) rest Γn Γb rr (qq y) (W (rs y)))
    (hs : swapsWith e (some (.Name z pos')) pos.line X.env = pure false := by rfl) : Bl X Γ (.Assign [.Name z pos'] e pos :: rest) Γn Γb rr (p ∧ (let y := x; qq y)) (W (let y := x; rs y)) := bl_asg (rs := fun y => W (rs y)) C.hN C.nd hN T h k hs
theorem bw_own (W : κ → Res γ δ ρ) {qq : α → Prop} {rs : α → κ} (C : CF X N sc) (T : Tgt X z) (i : Nat) (hN : N[i]? = some z) (h : EvN X Γ e m p x) (k : ∀ y, Bl X (Γ.set i (.own m y)) rest Γn Γb rr (qq y) (W (rs y))) (hi : i < 1000 := by decide)
    (hs : swapsWith e (some (.Name z pos')) pos.line X.env = pure false := by rfl) : Bl X Γ (.Assign [.Name z pos'] e pos :: rest) Γn Γb rr (p ∧ (let y := x; qq y)) (W (let y := x; rs y)) := bl_own (rs := fun y => W (rs y)) C.hN C.nd hN T h k hi hs
theorem bw_asgLc (W : κ → Res γ δ ρ) {elt tg iter : Expr} {ifs : List Expr} {own : List (Str × Nat)} {spos : Pos} {ys : List α} {qq : List α → Prop} {rs : List α → κ} (C : CF X N sc) (ok : blkC N sc scope own = true) (h : LcOk X Γ elt tg iter ifs scope own r p ys) (i : Nat) (hN : N[i]? = some z) (hy : sc.names.lookup z = some .local)
    (hk : sc.kind = .function) (hl : (pos'.line == pos.line) = true) (ha : (scope.names.any fun (n, k) => n == z && (k == .local || k == .cell)) = false) (k : ∀ y, Bl X (Γ.set i (.val (rL r) y)) rest Γn Γb rr (qq y) (W (rs y))) (hs : ∀ x, foldedSetIterable iter X.env x = pure x := by intro _; rfl) :
    Bl X Γ (.Assign [.Name z pos'] (.ListComp elt [⟨tg, iter, ifs, 0⟩] scope pos) spos :: rest) Γn Γb rr (p ∧ (let y := ys; qq y)) (W (let y := ys; rs y)) := bl_asgLc (rs := fun y => W (rs y)) C ok h hN hy (swaps_lc hy C.hS hk hl ha) k hs
theorem bw_ownLc (W : κ → Res γ δ ρ) {elt tg iter : Expr} {ifs : List Expr} {own : List (Str × Nat)} {spos : Pos} {ys : List α} {qq : List α → Prop} {rs : List α → κ} (C : CF X N sc) (ok : blkC N sc scope own = true) (h : LcOk X Γ elt tg iter ifs scope own r p ys) (i : Nat) (hN : N[i]? = some z) (hy : sc.names.lookup z = some .local)
    (hk : sc.kind = .function) (hl : (pos'.line == pos.line) = true) (ha : (scope.names.any fun (n, k) => n == z && (k == .local || k == .cell)) = false) (k : ∀ y, Bl X (Γ.set i (.own (moL r) y)) rest Γn Γb rr (qq y) (W (rs y))) (hi : i < 1000 := by decide) (hs : ∀ x, foldedSetIterable iter X.env x = pure x := by intro _; rfl) :
    Bl X Γ (.Assign [.Name z pos'] (.ListComp elt [⟨tg, iter, ifs, 0⟩] scope pos) spos :: rest) Γn Γb rr (p ∧ (let y := ys; qq y)) (W (let y := ys; rs y)) := bl_ownLc (rs := fun y => W (rs y)) C ok h hN hy (swaps_lc hy C.hS hk hl ha) k hi hs
theorem bw_append (W : κ → Res γ δ ρ) {xs : List α} {ap np' : Pos} {qq : List α → Prop} {rs : List α → κ} (C : CF X N sc) (i : Nat) (hN : N[i]? = some z) (hv : visB sc z = true) (hΓ : Γ[i]? = some (.own (moL r) xs)) (h : EvF X Γ e r p x) (k : ∀ y, Bl X (Γ.set i (.own (moL r) y)) rest Γn Γb rr (qq y) (W (rs y))) (hi : i < 1000 := by decide)
    (hd : (z == ("__debug__" : Str)) = false := by decide) (hcd : (z == ("__classdict__" : Str)) = false := by decide)
    (hfew : ((backTo pos (starEach [e] X.env)).all (fun x => !x.1) && (backToKw pos (keywordEach [] X.env)).all (fun x => x.1.isSome) && decide (([e] : List Expr).length + ([] : List Keyword).length + (if ([] : List Keyword).isEmpty then 0 else 1) < 30)) = true := by rfl)
    (hline : (ap.endLine == pos.line) = true := by rfl) (hs1 : starEach [e] X.env = (false, eval e X.env) :: starEach [] X.env := by rfl) (hpl : (backTo pos (starEach [] X.env)).any (·.1) = false := by rfl)
    (hs : swapsWith (.Call (.Attribute (.Name z np') "append" ap) [e] [] pos) none pos'.line X.env = pure false := by rfl) :
    Bl X Γ (.Expr (.Call (.Attribute (.Name z np') "append" ap) [e] [] pos) pos' :: rest) Γn Γb rr (p ∧ xs.length < sizeLine ∧ (let y := xs ++ [x]; qq y)) (W (let y := xs ++ [x]; rs y)) := bl_append (rs := fun y => W (rs y)) C hN hv hΓ h k hi hd hcd hfew hline hs1 hpl hs
theorem bw_aug (W : κ → Res γ δ ρ) {op : Operator} {g : Int → Int → Int} {v y : Int} {qq : Int → Prop} {rs : Int → κ} (C : CF X N sc) (T : Tgt X z) (i : Nat) (hN : N[i]? = some z) (ho : PIp X op (ipI g)) (hΓ : Γ[i]? = some (.val rI v)) (h : EvF X Γ e rI p y) (k : ∀ w, Bl X (Γ.set i (.val rI w)) rest Γn Γb rr (qq w) (W (rs w))) :
    Bl X Γ (.AugAssign (.Name z pos') op e pos :: rest) Γn Γb rr (p ∧ (let w := g v y; qq w)) (W (let w := g v y; rs w)) := bl_aug (rs := fun y => W (rs y)) C.hN C.nd hN T ho hΓ h k
theorem bw_asgT (W : κ → Res γ δ ρ) {es : List Expr} {kk0 : Nat} {tpos : Pos} {Γt : α → Gm} {js : List Nat} {qq : α → Prop} {rs : α → κ} (h : EvF X Γ e r p x) (hg : TgJ X Γ (.Tuple es kk0 tpos) r Γt js) (k : ∀ y, Bl X (Γt y) rest Γn Γb rr (qq y) (W (rs y)))
    (hs : swapsWithSole [.Tuple es kk0 tpos] e pos.line X.env = pure false := by rfl) (hw : swappedStores [.Tuple es kk0 tpos] e X.env = pure none := by rfl) (h1 : (assignEach [.Tuple es kk0 tpos] X.env).map (·.2) = [assign (.Tuple es kk0 tpos) X.env] := by rfl) :
    Bl X Γ (.Assign [.Tuple es kk0 tpos] e pos :: rest) Γn Γb rr (p ∧ (let y := x; qq y)) (W (let y := x; rs y)) := bl_asgT (rs := fun y => W (rs y)) h hg k hs hw h1
theorem bw_if (W : κ → Res γ δ ρ) {ca cb : ζ} {qq : ζ → Prop} {rs : ζ → κ} (Γj : ζ → Gm) (ht : EvT X Γ c pt bb) (ha : Bl X Γ a Γj Γb rr pa (.nx ca)) (hb : Bl X Γ b Γj Γb rr pb (.nx cb)) (k : ∀ y, Bl X (Γj y) rest Γn Γb rr (qq y) (W (rs y))) :
    Bl X Γ (.If c a b pos :: rest) Γn Γb rr (pt ∧ (bb = true → pa) ∧ (bb = false → pb) ∧ (let y := if bb = true then ca else cb; qq y)) (W (let y := if bb = true then ca else cb; rs y)) := bl_if (rs := fun y => W (rs y)) ht ha hb k
theorem bw_for (W : κ → Res γ δ ρ) (Γc : ζ → Gm) {c0 : ζ} {Γt : ζ → α → Gm} {js : ζ → List Nat} {pb : ζ → α → Prop} {f : ζ → α → ζ} {qq : ζ → Prop} {rs : ζ → κ} {k0 : Nat} (C : CF X N sc) (C2 : CF2 X k0) (hi : EvI X Γ tg it r p xs) (w : Wk Γ (Γc c0))
    (hg : ∀ c, TgJ X (Γc c) tg r (Γt c) (js c)) (hb : ∀ c y, Bl X (Γt c y) body Γc Γc rr (pb c y) (.nx (f c y))) (k : ∀ c, Bl X (Γc c) rest Γn Γb rr (qq c) (W (rs c))) (hs : ∀ x, foldedSetIterable it X.env x = pure x := by intro _; rfl) :
    Bl X Γ (.For tg it body [] pos :: rest) Γn Γb rr (p ∧ foldP pb f xs c0 ∧ (let y := xs.foldl f c0; qq y)) (W (let y := xs.foldl f c0; rs y)) := bl_forF (rs := fun y => W (rs y)) C.calm C2.po hi w hg hb k hs
theorem bw_while (W : κ → Res γ δ ρ) (Γc : ζ → Gm) {c0 : ζ} {pt pb : ζ → Prop} {bb : ζ → Bool} {f : ζ → ζ} {qq : ζ → Prop} {rs : ζ → κ} {k0 : Nat} (n : Nat) (C2 : CF2 X k0) (w : Wk Γ (Γc c0)) (ht : ∀ c, EvT X (Γc c) e (pt c) (bb c))
    (hb : ∀ c, Bl X (Γc c) body Γc Γc rr (pb c) (.nx (f c))) (k : ∀ c, Bl X (Γc c) rest Γn Γb rr (qq c) (W (rs c))) :
    Bl X Γ (.While e body [] pos :: rest) Γn Γb rr (whileQ pt pb bb f n c0 ∧ (let y := whileF bb f n c0; qq y)) (W (let y := whileF bb f n c0; rs y)) := bl_whileF (rs := fun y => W (rs y)) n C2.po w ht hb k
end

/-! ### further stores of an own list -/
section
variable {X : Cx} {N : List Str} {sc scope : Scope} {Γ : Gm} {α γ δ κ ρ : Type} {e : Expr} {r : Rp α} {rr : Pr ρ} {p p' q : Prop} {x : α} {xs ys : List α} {Γn : γ → Gm} {Γb : δ → Gm} {rest : List Stmt} {pos pos' : Pos} {z : Str}
theorem bw_extend (W : κ → Res γ δ ρ) {ap np' : Pos} {qq : List α → Prop} {rs : List α → κ} (C : CF X N sc) (i : Nat) (hN : N[i]? = some z) (hv : visB sc z = true) (hΓ : Γ[i]? = some (.own (moL r) xs)) (h : EvL X Γ e r p ys) (k : ∀ y, Bl X (Γ.set i (.own (moL r) y)) rest Γn Γb rr (qq y) (W (rs y))) (hi : i < 1000 := by decide)
    (hd : (z == ("__debug__" : Str)) = false := by decide) (hcd : (z == ("__classdict__" : Str)) = false := by decide)
    (hfew : ((backTo pos (starEach [e] X.env)).all (fun x => !x.1) && (backToKw pos (keywordEach [] X.env)).all (fun x => x.1.isSome) && decide (([e] : List Expr).length + ([] : List Keyword).length + (if ([] : List Keyword).isEmpty then 0 else 1) < 30)) = true := by rfl)
    (hline : (ap.endLine == pos.line) = true := by rfl) (hs1 : starEach [e] X.env = (false, eval e X.env) :: starEach [] X.env := by rfl) (hpl : (backTo pos (starEach [] X.env)).any (·.1) = false := by rfl)
    (hs : swapsWith (.Call (.Attribute (.Name z np') "extend" ap) [e] [] pos) none pos'.line X.env = pure false := by rfl) :
    Bl X Γ (.Expr (.Call (.Attribute (.Name z np') "extend" ap) [e] [] pos) pos' :: rest) Γn Γb rr (p ∧ xs.length + ys.length ≤ sizeLine ∧ (let y := xs ++ ys; qq y)) (W (let y := xs ++ ys; rs y)) := fun G O o σ H D hS hp kk => by
  refine ⟨_, pss_cons (ps_expr (pe_bm PySem.F.plainAttrs_list PySem.F.slot_list_extend PySem.F.type_list_extend mt_extend (pe_var (i := i) (by rw [C.hN]; exact hN) (by rw [C.hS]; exact vis_of hv) hd hcd) (pa_cons we pa_nil hs1) rfl hfew hline hs1 hpl) hs) wb, ?_⟩
  obtain ⟨ov, e1, a, u, rfl, e2, e3, ws, rfl, e4⟩ := hS.sl.at_ i _ hΓ
  refine ⟨_, e1, .inl ⟨rfl, ws, SqL.of e3⟩, h o σ H _ hS.es hp.1 fun b us H1 s1 q1 q2 => ⟨a, b, ws, us, rfl, rfl, s1 _ _ e3, q1, by rw [e4.len, q2.len]; exact hp.2.1, ?_⟩⟩
  have hS1 := hS.mono s1
  have w := own_write (m' := moL r) (y := xs ++ ys) (u := .lst (ws ++ us)) hS1 (List.getElem?_eq_some_iff.mp hΓ).1 e1 e2 hi ⟨_, rfl, (e4.imp fun _ _ q => r.mono (hid_same s1) q).app q2⟩
  exact k _ G O o σ _ D w hp.2.2 kk
theorem bw_pop (W : κ → Res γ δ ρ) {ap np' : Pos} {qq : List α → Prop} {rs : List α → κ} (C : CF X N sc) (i : Nat) (hN : N[i]? = some z) (hv : visB sc z = true) (hΓ : Γ[i]? = some (.own (moL r) xs)) (k : ∀ y, Bl X (Γ.set i (.own (moL r) y)) rest Γn Γb rr (qq y) (W (rs y))) (hi : i < 1000 := by decide)
    (hd : (z == ("__debug__" : Str)) = false := by decide) (hcd : (z == ("__classdict__" : Str)) = false := by decide) (hline : (ap.endLine == pos.line) = true := by rfl)
    (hs : swapsWith (.Call (.Attribute (.Name z np') "pop" ap) [] [] pos) none pos'.line X.env = pure false := by rfl) :
    Bl X Γ (.Expr (.Call (.Attribute (.Name z np') "pop" ap) [] [] pos) pos' :: rest) Γn Γb rr (xs ≠ [] ∧ (let y := xs.dropLast; qq y)) (W (let y := xs.dropLast; rs y)) := fun G O o σ H D hS hp kk => by
  refine ⟨_, pss_cons (ps_expr (pe_bm0 PySem.F.plainAttrs_list PySem.F.slot_list_pop PySem.F.type_list_pop mt_pop (pe_var (i := i) (by rw [C.hN]; exact hN) (by rw [C.hS]; exact vis_of hv) hd hcd) rfl hline) hs) wb, ?_⟩
  obtain ⟨ov, e1, a, u, rfl, e2, e3, ws, rfl, e4⟩ := hS.sl.at_ i _ hΓ
  have hl : 0 < ws.length := by rw [e4.len]; exact List.length_pos_iff.mpr hp.1
  refine ⟨_, e1, .inl ⟨rfl, ws, SqL.of e3⟩, a, ws, ws[ws.length - 1], rfl, rfl, e3, List.getElem?_eq_getElem (by omega), ?_⟩
  have w := own_write (m' := moL r) (y := xs.dropLast) (u := .lst ws.dropLast) hS (List.getElem?_eq_some_iff.mp hΓ).1 e1 e2 hi ⟨_, rfl, e4.dropLast⟩
  exact k _ G O o σ _ D w hp.2 kk
theorem ixN_of {n : Nat} {i : Int} (h : InB i n) : L2.ixN n i = some (ixI n i) := by
  obtain ⟨h1, h2⟩ := h
  unfold L2.ixN ixI
  by_cases q : 0 ≤ i
  · rw [if_pos q, if_pos h2, if_pos q]
  · rw [if_neg q, if_pos h1, if_neg q]
theorem bw_setix (W : κ → Res γ δ ρ) {e2 : Expr} {j : Int} {sp np' : Pos} {qq : List α → Prop} {rs : List α → κ} (C : CF X N sc) (i : Nat) (hN : N[i]? = some z) (hv : visB sc z = true) (hΓ : Γ[i]? = some (.own (moL r) xs)) (h : EvF X Γ e r p x) (h2 : EvF X Γ e2 rI p' j) (k : ∀ y, Bl X (Γ.set i (.own (moL r) y)) rest Γn Γb rr (qq y) (W (rs y))) (hi : i < 1000 := by decide)
    (hd : (z == ("__debug__" : Str)) = false := by decide) (hcd : (z == ("__classdict__" : Str)) = false := by decide)
    (ha : ∀ v, assign (.Subscript (.Name z np') e2 sp) X.env v = (do
      let ov ← holding [v] (eval (.Name z np') X.env)
      let iv ← holding [v, ov] (eval e2 X.env)
      standAt sp
      holding [v, ov, iv] (setItem ov iv v)
      release [v, ov, iv] []) := by intro _; rfl)
    (hs : swapsWithSole [.Subscript (.Name z np') e2 sp] e pos.line X.env = pure false := by rfl) (hw : swappedStores [.Subscript (.Name z np') e2 sp] e X.env = pure none := by rfl) (h1 : (assignEach [.Subscript (.Name z np') e2 sp] X.env).map (·.2) = [assign (.Subscript (.Name z np') e2 sp) X.env] := by rfl) :
    Bl X Γ (.Assign [.Subscript (.Name z np') e2 sp] e pos :: rest) Γn Γb rr (p ∧ p' ∧ InB j xs.length ∧ (let y := xs.set (ixI xs.length j) x; qq y)) (W (let y := xs.set (ixI xs.length j) x; rs y)) := fun G O o σ H D hS hp kk => by
  refine ⟨_, pss_cons (ps_asg we (pg_sub (pe_var (i := i) (by rw [C.hN]; exact hN) (by rw [C.hS]; exact vis_of hv) hd hcd) we set_list ha) hs hw h1) wb, ?_⟩
  refine h o σ H _ hS.es hp.1 fun v H1 s1 q1 => ?_
  have hS1 := hS.mono s1
  obtain ⟨ov, e1, a, u, rfl, e2, e3, ws, rfl, e4⟩ := hS1.sl.at_ i _ hΓ
  refine ⟨_, e1, h2 o σ H1 _ hS1.es hp.2.1 fun w H2 s2 q2 => ?_⟩
  have hS2 := hS1.mono s2
  refine ⟨a, ws, j, ixI xs.length j, rfl, q2, s2 _ _ e3, by rw [e4.len]; exact ixN_of hp.2.2.1, ?_⟩
  have w := own_write (m' := moL r) (y := xs.set (ixI xs.length j) x) (u := .lst (ws.set (ixI xs.length j) v)) hS2 (List.getElem?_eq_some_iff.mp hΓ).1 e1 e2 hi ⟨_, rfl, (e4.imp fun _ _ q => r.mono (hid_same s2) q).set _ (r.mono (hid_same s2) q1)⟩
  exact k _ G O o σ _ D w hp.2.2.2 kk
end
end L3

namespace L3
open PySem L2

section
variable {X : Cx} {N : List Str} {sc : Scope} {Γ : Gm} {α β γ δ κ τ ρ : Type} {e a b c : Expr} {es : List Expr} {r : Rp α} {r' : Rp β} {t : Tp τ} {p p' p'' : Prop} {x : α} {y : β} {xs ys : List α} {pos pos' : Pos} {m : Mo α} {xt : τ} {rr : Pr ρ}

/-! ### tuples, further -/
theorem app_1 {σ' : Type} {t' : Tp σ'} : TpApp (t1 r) t' (tc r t') (fun x y => (x, y)) := ⟨fun ⟨v, e, h⟩ h' => ⟨v, _, by rw [e]; rfl, h, h'⟩⟩
theorem app_c {σ' ρ' : Type} {t' : Tp σ'} {t2 : Tp ρ'} {f : τ → σ' → ρ'} (h : TpApp t t' t2 f) : TpApp (tc r t) t' (tc r t2) (fun x y => (x.1, f x.2 y)) :=
  ⟨fun ⟨v, ws, e, h1, h2⟩ h' => ⟨v, _, by rw [e]; rfl, h1, h.app h2 h'⟩⟩
theorem ev_tixM {k : Nat} {f : τ → α} {i : Int} (ha : EvF X Γ a (rT t) p xt) (hb : EvF X Γ b rI p' i) (h : TpAt t k r f) (e : (k : Int) - t.n = i) (hk : k < t.n) (hs : PlainIx b := by exact fun _ _ => rfl) : EvF X Γ (.Subscript a b pos) r (p ∧ p') (f xt) := fun o σ H Q hS hp kk => by
  refine ⟨_, pe_ix ix_tup we we hs, ha o σ H _ hS hp.1 fun v H1 s1 ⟨l, ws, e1, e2, e3⟩ => hb o σ H1 _ (hS.mono s1) hp.2 fun u H2 s2 q2 => ?_⟩
  obtain ⟨w, e4, e5⟩ := h.at_ e3
  refine ⟨l, ws, i, w, e1, q2, SqT.of (s2 _ _ (hid_some e2).2), ?_, kk w H2 (s1.trans s2) (r.mono (hid_same s2) e5)⟩
  have hl := t.len e3
  unfold L2.atI L2.ixN
  rw [if_neg (by omega), if_pos (by omega), hl]
  show ws[(i + (t.n : Int)).toNat]? = _
  rw [show (i + (t.n : Int)).toNat = k by omega]
  exact e4

/-! ### in, not in -/
theorem flat_ints (ns : List Int) : (ns.map V.int).all flatV = true := by
  rw [List.all_eq_true]
  intro v hv
  obtain ⟨n, _, rfl⟩ := List.mem_map.mp hv
  rfl
theorem inV_ints (k : Int) (ns : List Int) : inV (.int k) (ns.map V.int) = decide (k ∈ ns) := by
  induction ns with
  | nil => rfl
  | cons n ns ih =>
    show (eqV (.int n) (.int k) || inV (.int k) (ns.map V.int)) = _
    rw [ih]
    have e : eqV (.int n) (.int k) = decide (k = n) := by
      show (n == k) = decide (k = n)
      by_cases h : k = n
      · subst h; simp
      · rw [decide_eq_false h]; simp [Ne.symm h]
    rw [e]
    simp [Bool.decide_or]
theorem et_in {k : Int} {ns : List Int} (ha : EvF X Γ a rI p k) (hb : EvC X Γ b rI p' ns) (hm : behindInMarks .In b = false := by rfl) : EvT X Γ (.Compare a [.In] [b] pos) (p ∧ p') (decide (k ∈ ns)) := fun o σ H Q hs hp kk => by
  refine ⟨_, pt_cmpR op_in_seq we we hm, ha o σ H _ hs hp.1 fun v H1 s1 q1 => hb o σ H1 _ (hs.mono s1) hp.2 fun l ws H2 s2 q2 q3 => ?_⟩
  rw [al_int q3] at q2
  rw [show v = _ from q1]
  refine ⟨l, _, rfl, .inl q2, rfl, flat_ints ns, _, rfl, ?_⟩
  show Q (inV (.int k) (ns.map V.int)) H2
  rw [inV_ints]
  exact kk H2 (s1.trans s2)
theorem et_nin {k : Int} {ns : List Int} (ha : EvF X Γ a rI p k) (hb : EvC X Γ b rI p' ns) (hm : behindInMarks .NotIn b = false := by rfl) : EvT X Γ (.Compare a [.NotIn] [b] pos) (p ∧ p') (!decide (k ∈ ns)) := fun o σ H Q hs hp kk => by
  refine ⟨_, pt_cmpR op_notIn_seq we we hm, ha o σ H _ hs hp.1 fun v H1 s1 q1 => hb o σ H1 _ (hs.mono s1) hp.2 fun l ws H2 s2 q2 q3 => ?_⟩
  rw [al_int q3] at q2
  rw [show v = _ from q1]
  refine ⟨l, _, rfl, .inl q2, rfl, flat_ints ns, _, rfl, ?_⟩
  show Q (!inV (.int k) (ns.map V.int)) H2
  rw [inV_ints]
  exact kk H2 (s1.trans s2)
/-- a list's truth -/
theorem EvC.tr (h : EvC X Γ e r p xs) (he : ∀ whole, isTrue e X.env whole = (do let v ← whole; standAt e.pos; holding [v] (truthy v)) := by intro _; rfl) : EvT X Γ e p (!xs.isEmpty) := fun o σ H Q hs hp k =>
  ⟨_, pt_truth we he, h o σ H _ hs hp fun l ws H1 s1 q1 q2 => ⟨!ws.isEmpty, .inl ⟨ws, q1, rfl⟩, by
    have : ws.isEmpty = xs.isEmpty := by
      have := q2.len
      cases ws <;> cases xs <;> simp_all
    rw [this]; exact k H1 s1⟩⟩

/-! ### numbers -/
theorem ev_mulW {i j : Int} (ha : EvF X Γ a rI p i) (hb : EvF X Γ b rI p' j) : EvF X Γ (.BinOp a .Mult b pos) rI (p ∧ p' ∧ CMulW i j) (i * j) := ev_opIC op_mulW ha hb
theorem ev_fdivW {i j : Int} (ha : EvF X Γ a rI p i) (hb : EvF X Γ b rI p' j) : EvF X Γ (.BinOp a .FloorDiv b pos) rI (p ∧ p' ∧ CDivW i j) (i / j) := ev_opIC op_fdivW ha hb
/-- xs[::-1] -/
theorem en_rev {k : Nat} {p1 p2 p3 : Pos} (h : EvC X Γ e r p xs) : EvN X Γ (.Subscript e (.Slice none none (some (.UnaryOp .USub (.Constant (.int 1) k p1) p2)) p3) pos) (moL r) p xs.reverse := fun o σ H Q hs hp kk =>
  ⟨_, pe_revL we, h o σ H _ hs hp fun l ws H1 s1 q1 q2 => ⟨l, ws, rfl, q1, fun n hn => kk n _ _ (s1.trans (same_upd hn)) (s1.free hn) upd_same ⟨_, rfl, (q2.imp fun _ _ q => r.mono (hid_new hn) q).reverse⟩⟩⟩
def repL (xs : List α) (k : Int) : List α := (List.replicate k.toNat xs).flatten
def RepB (n : Nat) (k : Int) : Prop := -(2 ^ 63) ≤ k ∧ k < 2 ^ 63 ∧ n * k.toNat ≤ sizeLine
theorem rep_AL {ω : Type} {P : ω → α → Prop} {ws : List ω} (h : AL P ws xs) : ∀ k : Nat, AL P (List.replicate k ws).flatten (List.replicate k xs).flatten
  | 0 => AL.nil
  | k + 1 => by
    rw [List.replicate_succ, List.replicate_succ, List.flatten_cons, List.flatten_cons]
    exact h.app (rep_AL h k)
theorem en_rep {i : Int} (ha : EvL X Γ a r p xs) (hb : EvF X Γ b rI p' i) : EvN X Γ (.BinOp a .Mult b pos) (moL r) (p ∧ p' ∧ RepB xs.length i) (repL xs i) := fun o σ H Q hs hp kk =>
  ⟨_, pe_op op_rep we we, ha o σ H _ hs hp.1 fun l ws H1 s1 q1 q2 => hb o σ H1 _ (hs.mono s1) hp.2.1 fun v H2 s2 q3 => ⟨l, i, ws, rfl, q3, s2 _ _ q1, hp.2.2.1, hp.2.2.2.1, by rw [q2.len]; exact hp.2.2.2.2, fun n hn =>
    kk n _ _ ((s1.trans s2).trans (same_upd hn)) ((s1.trans s2).free hn) upd_same ⟨_, rfl, rep_AL (q2.imp fun _ _ q => r.mono ((hid_same s2).trans (hid_new hn)) q) _⟩⟩⟩

/-! ### a, b = x, y -/
theorem bw_par (W : κ → Res γ δ ρ) {y1 : β} {z z' : Str} {px py pt pt2 : Pos} {kt k2 : Nat} {qq : α → β → Prop} {rs : α → β → κ} {Γn : γ → Gm} {Γb : δ → Gm} {rest : List Stmt} (C : CF X N sc) (i j : Nat) (hi : N[i]? = some z) (hj : N[j]? = some z') (hij : i ≠ j) (hx : sc.names.lookup z = some .local) (hy : sc.names.lookup z' = some .local)
    (ha : EvF X Γ a r p x) (hb : EvF X Γ b r' p' y1) (k : ∀ u v, Bl X ((Γ.set i (.val r u)).set j (.val r' v)) rest Γn Γb rr (qq u v) (W (rs u v)))
    (hw : swappedStores [.Tuple [.Name z px, .Name z' py] kt pt] (.Tuple [a, b] k2 pt2) X.env = pure (some [z, z']) := by rfl)
    (hs : swapsWithSole [.Tuple [.Name z px, .Name z' py] kt pt] (.Tuple [a, b] k2 pt2) pos.line X.env = pure false := by rfl)
    (h1 : starEach [a, b] X.env = (false, eval a X.env) :: starEach [b] X.env := by rfl) (h2 : starEach [b] X.env = (false, eval b X.env) :: starEach [] X.env := by rfl) :
    Bl X Γ (.Assign [.Tuple [.Name z px, .Name z' py] kt pt] (.Tuple [a, b] k2 pt2) pos :: rest) Γn Γb rr (p ∧ p' ∧ (let u := x; let v := y1; qq u v)) (W (let u := x; let v := y1; rs u v)) := fun G O o σ H D hS hp kk =>
  ⟨_, pss_cons (ps_par (i := i) (j := j) C.calm (by rw [C.hN]; exact C.nd) (by rw [C.hN]; exact hi) (by rw [C.hN]; exact hj) hij (by rw [C.hS]; exact hx) (by rw [C.hS]; exact hy) (pa_cons we (pa_cons we pa_nil h2) h1) hw hs) wb,
    ha o σ H _ hS.es hp.1 fun v H1 s1 q1 => hb o σ H1 _ (hS.mono s1).es hp.2.1 fun w H2 s2 q2 => ⟨v, w, rfl, by
      have hS2 := (hS.mono s1).mono s2
      refine k x y1 G O o _ H2 D ⟨(hS2.sl.set i (.val r x) v ⟨v, rfl, r.mono (hid_same s2) q1⟩).set j (.val r' y1) w ⟨w, rfl, q2⟩, hS2.same, hS2.al, hS2.out, hS2.inn⟩ hp.2.2 kk⟩⟩

/-! ### isinstance, by the kind that is there -/
theorem isi_core {α : Type} {r : Rp α} {x : α} {b : Bool} {cl : Str} {T ty : String} {np np2 : Pos} {e : Expr} {p : Prop} (hty : ∀ (H : Hp) (v : V), r.rep H v x → TyX X.K H v (.type T)) (C : CF X N sc) (hg : glB sc "isinstance" = true) (hm : X.mg "isinstance" = none) (ha : EvQ X Γ e r p x) (hg2 : glB sc cl = true) (hm2 : X.mg cl = none)
    (hv : bootBuiltins cl = some (.type ty)) (hk : kitB T ty = some b) (hn : cl ≠ "__name__") (hdb : (cl == ("__debug__" : Str)) = false) (he : starEach [e, .Name cl np2] X.env = (false, eval e X.env) :: starEach [.Name cl np2] X.env := by rfl) (he2 : starEach [.Name cl np2] X.env = (false, eval (.Name cl np2) X.env) :: starEach [] X.env := by rfl)
    (hpl : (backTo pos (starEach [.Name cl np2] X.env)).any (·.1) = false := by rfl) : EvF X Γ (.Call (.Name "isinstance" np) [e, .Name cl np2] [] pos) rB (p ∧ True) b := fun o σ H Q hs hp kk =>
  ⟨_, pe_callB call_isi (gl_cf C hg) hm PyProof.Rows.boot_isinstance (pa_cons we (pa_cons (pe_bltn (v := .ty ty) (gl_cf C hg2) hm2 hv rfl hn hdb) pa_nil he2) he) (by decide) (by decide) he hpl,
    ha o σ H _ hs hp.1 fun v H1 s1 q1 => ⟨v, .ty ty, _, _, b, rfl, .ty ty, hty H1 v q1, kit_ty hk, kk _ H1 s1 rfl⟩⟩
end

/-! ### repr -/
mutual
theorem showable_nodict : ∀ d : PyData, d.canLay0 = true → d.hasDict = false
  | .none, _ | .bool _, _ | .int _, _ | .str _, _ => by simp [PyData.hasDict]
  | .list xs, h => by
    have h' : PyData.canLayAll0 xs = true := by simpa [PyData.canLay0] using h
    simpa [PyData.hasDict] using showable_nodictAll xs h'
  | .tuple xs, h => by
    have h' : PyData.canLayAll0 xs = true := by simpa [PyData.canLay0] using h
    simpa [PyData.hasDict] using showable_nodictAll xs h'
  | .dict _, h => by simp [PyData.canLay0] at h
theorem showable_nodictAll : ∀ ds : List PyData, PyData.canLayAll0 ds = true → PyData.hasDictAll ds = false
  | [], _ => by simp [PyData.hasDictAll]
  | d :: ds, h => by
    simp only [PyData.canLayAll0, Bool.and_eq_true] at h
    simp [PyData.hasDictAll, showable_nodict d h.1, showable_nodictAll ds h.2]
end
theorem call_reprD {X : Cx} (hg : X.A.guards = some []) (hu : X.A.units + 66 < cLine) : CallR X (.builtin "repr") (fun xs H Q => ∃ x d, xs = [x] ∧ Dp X.K H x d ∧ d.canLay0 = true ∧ d.showable = true ∧ d.depth ≤ 64 ∧ d.shown.length ≤ sizeLine ∧ (∃ a, x = .ref a) ∧ Q (.str d.shown) H) := by
  rintro pins s σ H xs us Q I rv ⟨x, d, rfl, hd, hl, hsh, hdp, hz, ⟨a, rfl⟩, q⟩
  obtain ⟨u, rfl, rx⟩ := vals1 rv
  cases rx
  obtain ⟨as, rds⟩ := Dp.reads I d _ _ hd rfl
  have nd := showable_nodict d hl
  exact repr_of_reads' rds hsh (fun e => by rw [nd] at e; cases e) hg (by omega) (fun _ _ e => e) (fun h' u tk hk => ⟨.str d.shown, H, I.kept (t' := tk) hk, ⟨u, rfl⟩, q⟩) hz
def shw {α : Type} (r : Rp α) [Dt r] (x : α) : Str := (Dt.dat r x).shown
def ShwB {α : Type} (r : Rp α) [Dt r] (x : α) : Prop := (Dt.dat r x).showable = true ∧ (shw r x).length ≤ sizeLine
class IsRef {α : Type} (r : Rp α) : Prop where
  ref : ∀ {H : Hp} {v : V} {x : α}, r.rep H v x → ∃ a, v = .ref a
instance {τ : Type} {t : Tp τ} : IsRef (rT t) := ⟨fun ⟨a, ws, e, _⟩ => ⟨a, e⟩⟩
instance {α : Type} {m : Mo α} : IsRef (rM m) := ⟨fun ⟨a, ws, e, _⟩ => ⟨a, e⟩⟩
section
variable {X : Cx} {N : List Str} {sc : Scope} {Γ : Gm} {α : Type} {e : Expr} {r : Rp α} {p : Prop} {x : α} {pos np : Pos} {k : Nat}
theorem ev_repr [Dt r] [IsRef r] (C : CF X N sc) (C2 : CF2 X k) (hg : glB sc "repr" = true) (hm : X.mg "repr" = none) (ha : EvQ X Γ e r p x) (hd : Dt.dep r ≤ 64 := by decide) (he : starEach [e] X.env = (false, eval e X.env) :: starEach [] X.env := by rfl) (hpl : (backTo pos (starEach [] X.env)).any (·.1) = false := by rfl) :
    EvF X Γ (.Call (.Name "repr" np) [e] [] pos) rS (p ∧ ShwB r x) (shw r x) := fun o σ H Q hs hp kk =>
  ⟨_, pe_callB (call_reprD C2.gd (by have := C2.rm.un; omega)) (gl_cf C hg) hm (by decide +kernel) (pa_cons we pa_nil he) (by decide) (by decide) he hpl,
    ha o σ H _ hs hp.1 fun v H1 s1 q1 => ⟨v, _, rfl, Dt.ok q1, Dt.can x, hp.2.1, Nat.le_trans (Dt.dp x) hd, hp.2.2, IsRef.ref q1, kk _ H1 s1 rfl⟩⟩
end
theorem dec_strV {i j : Str} : decide (V.str i = V.str j) = decide (i = j) := by
  by_cases h : i = j
  · subst h; simp
  · rw [decide_eq_false h, decide_eq_false (fun q => h (V.str.inj q))]
section
variable {X : Cx} {N : List Str} {sc : Scope} {Γ : Gm} {a b : Expr} {p p' : Prop} {x y : Str} {pos : Pos}
theorem ev_eqS (ha : EvF X Γ a rS p x) (hb : EvF X Γ b rS p' y) : EvF X Γ (.Compare a [.Eq] [b] pos) rB (p ∧ p') (decide (x = y)) := fun o σ H Q hs hp k => by
  refine ⟨_, pe_cmpR op_eq we we (nomark _), ha o σ H _ hs hp.1 fun v H1 s1 q1 => hb o σ H1 _ (hs.mono s1) hp.2 fun w H2 s2 q2 => ?_⟩
  rw [show v = _ from q1, show w = _ from q2]
  exact ⟨rfl, k _ H2 (s1.trans s2) (by rw [dec_strV]; rfl)⟩
theorem ev_neS (ha : EvF X Γ a rS p x) (hb : EvF X Γ b rS p' y) : EvF X Γ (.Compare a [.NotEq] [b] pos) rB (p ∧ p') (!decide (x = y)) := fun o σ H Q hs hp k => by
  refine ⟨_, pe_cmpR op_ne we we (nomark _), ha o σ H _ hs hp.1 fun v H1 s1 q1 => hb o σ H1 _ (hs.mono s1) hp.2 fun w H2 s2 q2 => ?_⟩
  rw [show v = _ from q1, show w = _ from q2]
  exact ⟨rfl, k _ H2 (s1.trans s2) (by rw [dec_strV]; rfl)⟩
theorem et_eqS (ha : EvF X Γ a rS p x) (hb : EvF X Γ b rS p' y) : EvT X Γ (.Compare a [.Eq] [b] pos) (p ∧ p') (decide (x = y)) := fun o σ H Q hs hp k => by
  refine ⟨_, pt_cmpR op_eq we we (nomark _), ha o σ H _ hs hp.1 fun v H1 s1 q1 => hb o σ H1 _ (hs.mono s1) hp.2 fun w H2 s2 q2 => ?_⟩
  rw [show v = _ from q1, show w = _ from q2]
  exact ⟨rfl, _, rfl, by rw [dec_strV]; exact k H2 (s1.trans s2)⟩
theorem et_neS (ha : EvF X Γ a rS p x) (hb : EvF X Γ b rS p' y) : EvT X Γ (.Compare a [.NotEq] [b] pos) (p ∧ p') (!decide (x = y)) := fun o σ H Q hs hp k => by
  refine ⟨_, pt_cmpR op_ne we we (nomark _), ha o σ H _ hs hp.1 fun v H1 s1 q1 => hb o σ H1 _ (hs.mono s1) hp.2 fun w H2 s2 q2 => ?_⟩
  rw [show v = _ from q1, show w = _ from q2]
  exact ⟨rfl, _, rfl, by rw [dec_strV]; exact k H2 (s1.trans s2)⟩
end
end L3
namespace L3
open PySem L2
theorem ty_int {K : PySem.W.Frag} {x : Int} (H : Hp) (v : V) (h : rI.rep H v x) : TyX K H v (.type "int") := by rw [show v = _ from h]; exact .base (.int x)
theorem ty_bool {K : PySem.W.Frag} {x : Bool} (H : Hp) (v : V) (h : rB.rep H v x) : TyX K H v (.type "bool") := by rw [show v = _ from h]; exact .base (.bl x)
theorem ty_str {K : PySem.W.Frag} {x : Str} (H : Hp) (v : V) (h : rS.rep H v x) : TyX K H v (.type "str") := by rw [show v = _ from h]; exact .base (.str x)
theorem ty_list {K : PySem.W.Frag} {α : Type} {r : Rp α} {x : List α} (H : Hp) (v : V) (h : (rL r).rep H v x) : TyX K H v (.type "list") := by
  obtain ⟨a, u, e, e2, ws, e3, _⟩ := h
  subst e e3
  exact .base (.lst e2)
theorem ty_tup {K : PySem.W.Frag} {τ : Type} {t : Tp τ} {x : τ} (H : Hp) (v : V) (h : (rT t).rep H v x) : TyX K H v (.type "tuple") := by
  obtain ⟨a, ws, e, e2, _⟩ := h
  subst e
  exact .base (.tup e2)

/-! ### sorted: pairs of ints -/
def leP (a b : Int × Int) : Bool := decide (a.1 < b.1 ∨ (a.1 = b.1 ∧ a.2 ≤ b.2))
def sortP (xs : List (Int × Int)) : List (Int × Int) := xs.mergeSort leP
theorem leP_iff {a b : Int × Int} : leP a b = true ↔ a.1 < b.1 ∨ (a.1 = b.1 ∧ a.2 ≤ b.2) := by unfold leP; simp
theorem sortP_spec (xs : List (Int × Int)) : (sortP xs).Perm xs ∧ (sortP xs).Pairwise (fun a b => leP a b = true) :=
  ⟨List.mergeSort_perm _ _, List.pairwise_mergeSort (fun a b c h1 h2 => by rw [leP_iff] at *; omega) (fun a b => by rw [Bool.or_eq_true, leP_iff, leP_iff]; omega) xs⟩
theorem leP_anti (a b : Int × Int) (h1 : leP a b = true) (h2 : leP b a = true) : a = b := by
  rw [leP_iff] at *
  obtain ⟨a1, a2⟩ := a
  obtain ⟨b1, b2⟩ := b
  simp only at h1 h2
  have : a1 = b1 := by omega
  have : a2 = b2 := by omega
  subst_vars; rfl
theorem sortP_of {xs ys : List (Int × Int)} (h : ys.Perm xs) (hp : ys.Pairwise (fun a b => leP a b = true)) : ys = sortP xs :=
  sorted_unique (le := fun a b => leP a b = true) leP_anti (h.trans (sortP_spec xs).1.symm) hp (sortP_spec xs).2
abbrev rPP : Rp (Int × Int) := rT (tc rI (t1 rI))
/-- the pair that a value stands for -/
noncomputable def pairOf (F : Hp) (v : V) : Int × Int := match v with
  | .ref a => match F a with
    | some (.tup [.int i, .int j]) => (i, j)
    | _ => (0, 0)
  | _ => (0, 0)
theorem pairOf_rep {F : Hp} {v : V} {x : Int × Int} (h : rPP.rep F v x) : pairOf F v = x ∧ ∃ t, v = .ref t ∧ F t = some (.tup [.int x.1, .int x.2]) := by
  obtain ⟨a, ws, rfl, e, v1, w1, rfl, h1, v2, rfl, h2⟩ := h
  obtain rfl : v1 = .int x.1 := h1
  obtain rfl : v2 = .int x.2 := h2
  refine ⟨?_, a, rfl, e⟩
  show (match F a with | some (.tup [.int i, .int j]) => (i, j) | _ => (0, 0)) = x
  rw [e]
theorem al_pairs {F : Hp} {ws : List V} {xs : List (Int × Int)} (h : AL (rPP.rep F) ws xs) : ws.map (pairOf F) = xs := by
  apply List.ext_getElem?
  intro i
  rw [List.getElem?_map]
  cases e : xs[i]? with
  | none =>
    rw [List.getElem?_eq_none (by rw [h.len]; exact List.getElem?_eq_none_iff.mp e)]; rfl
  | some x =>
    obtain ⟨w, e1, e2⟩ := h.get e
    rw [e1]
    show some (pairOf F w) = some x
    rw [(pairOf_rep e2).1]
theorem en_sortP {X : Cx} {N : List Str} {sc : Scope} {Γ : Gm} {e : Expr} {p : Prop} {xs : List (Int × Int)} {np pos : Pos} (C : CF X N sc) (hg : glB sc "sorted" = true) (hm : X.mg "sorted" = none) (ha : EvC X Γ e rPP p xs) (he : starEach [e] X.env = (false, eval e X.env) :: starEach [] X.env := by rfl) :
    EvN X Γ (.Call (.Name "sorted" np) [e] [] pos) (moL rPP) (p ∧ True) (sortP xs) :=
  en_cbC C hg hm (by decide +kernel) cr_sortedPO ha (fun o H a ws Q _ _ q1 q2 k => by
    refine ⟨a, ws, pairOf (hid o H), rfl, q1, fun v hv => ?_, fun ys n h1 h2 nn => ?_⟩
    · obtain ⟨i, hi⟩ := List.getElem?_of_mem hv
      have hx : ∃ x, xs[i]? = some x := by
        have := (List.getElem?_eq_some_iff.mp hi).1
        rw [q2.len] at this
        exact ⟨_, List.getElem?_eq_getElem this⟩
      obtain ⟨x, hx⟩ := hx
      obtain ⟨f1, t, f2, f3⟩ := pairOf_rep (q2.at_ i v x hi hx)
      exact ⟨t, f2, by rw [f1]; exact (hid_some f3).2⟩
    · have hp : (ys.map (pairOf (hid o H))).Perm xs := by
        have := h2.perm.map (pairOf (hid o H))
        rwa [al_pairs q2] at this
      have hs : (ys.map (pairOf (hid o H))).Pairwise (fun a b => leP a b = true) := by
        rw [List.pairwise_map]
        refine h1.imp fun {u v} h => ?_
        have h : SrtO.lexB (pairOf (hid o H) v) (pairOf (hid o H) u) = false := h
        rw [leP_iff]
        have := SrtO.lexB_no.mp h
        omega
      have ey := sortP_of hp hs
      refine k n _ _ (same_upd nn) nn upd_same ⟨ys, rfl, ?_⟩
      rw [← ey]
      refine ⟨by rw [List.length_map], fun i w x e1 e2 => ?_⟩
      rw [List.getElem?_map, e1] at e2
      cases e2
      obtain ⟨j, hj⟩ := List.getElem?_of_mem (h2.perm.mem_iff.mp (List.mem_of_getElem? e1))
      have hx : ∃ x, xs[j]? = some x := by
        have := (List.getElem?_eq_some_iff.mp hj).1
        rw [q2.len] at this
        exact ⟨_, List.getElem?_eq_getElem this⟩
      obtain ⟨x, hx⟩ := hx
      have := q2.at_ j w x hj hx
      rw [(pairOf_rep this).1]
      exact rPP.mono (hid_new nn) this) (he := he)
end L3

namespace L3
open PySem L2

/-! ### dicts: pairs in their order -/
section
variable {κ β : Type} [DecidableEq κ]
def hasD (m : List (κ × β)) (k : κ) : Bool := m.any fun e => decide (e.1 = k)
def lookD (m : List (κ × β)) (k : κ) : Option β := (m.find? fun e => decide (e.1 = k)).map (·.2)
def getD [Inhabited β] (m : List (κ × β)) (k : κ) : β := (lookD m k).getD default
def setD (m : List (κ × β)) (k : κ) (v : β) : List (κ × β) := if hasD m k = true then m.map (fun e => if e.1 = k then (e.1, v) else e) else m ++ [(k, v)]
def keysD (m : List (κ × β)) : List κ := m.map (·.1)
theorem lookD_has (m : List (κ × β)) (k : κ) : (lookD m k).isSome = hasD m k := by
  induction m with
  | nil => rfl
  | cons e m ih =>
    unfold lookD hasD at *
    rw [List.find?_cons, List.any_cons]
    by_cases h : e.1 = k
    · simp [h]
    · simp only [decide_eq_false h, Bool.false_or]; exact ih
end
section
variable {κ κ' β : Type} [DecidableEq κ] [DecidableEq κ'] {g : κ → κ'} {R : V → β → Prop}
def EnP (g : κ → κ') (R : V → β → Prop) (kv : κ' × V) (e : κ × β) : Prop := kv.1 = g e.1 ∧ R kv.2 e.2
theorem lookD_AL (hg : ∀ a b, g a = g b → a = b) : ∀ {kvs : List (κ' × V)} {m : List (κ × β)}, AL (EnP g R) kvs m → ∀ k, (valV kvs (g k) = none ∧ lookD m k = none) ∨ ∃ v x, valV kvs (g k) = some v ∧ lookD m k = some x ∧ R v x
  | [], [], _, k => .inl ⟨rfl, rfl⟩
  | [], _ :: _, h, _ => by have := h.len; simp at this
  | _ :: _, [], h, _ => by have := h.len; simp at this
  | kv :: kvs, e :: m, h, k => by
    obtain ⟨⟨h1, h2⟩, h3⟩ := h.head
    by_cases q : e.1 = k
    · refine .inr ⟨kv.2, e.2, valV_pos (by rw [h1, q]), ?_, h2⟩
      unfold lookD; simp [q]
    · have q' : ¬ kv.1 = g k := fun z => q (hg _ _ (by rw [← h1]; exact z))
      rw [valV_neg q']
      have : lookD (e :: m) k = lookD m k := by unfold lookD; rw [List.find?_cons, decide_eq_false q]
      rw [this]
      exact lookD_AL hg h3 k
theorem any_AL (hg : ∀ a b, g a = g b → a = b) {kvs : List (κ' × V)} {m : List (κ × β)} (h : AL (EnP g R) kvs m) (k : κ) : (kvs.any fun kv => decide (kv.1 = g k)) = hasD m k := by
  rw [valV_any, ← lookD_has]
  rcases lookD_AL hg h k with ⟨h1, h2⟩ | ⟨v, x, h1, h2, _⟩ <;> rw [h1, h2] <;> rfl
theorem setD_AL (hg : ∀ a b, g a = g b → a = b) {kvs : List (κ' × V)} {m : List (κ × β)} (h : AL (EnP g R) kvs m) {k : κ} {v : V} {x : β} (hr : R v x) : AL (EnP g R) (putK kvs (g k) v) (setD m k x) := by
  unfold putK setD
  rw [any_AL hg h k]
  split
  · refine ⟨by rw [List.length_map, List.length_map, h.len], fun i w y a b => ?_⟩
    rw [List.getElem?_map] at a b
    cases e1 : kvs[i]? with
    | none => rw [e1] at a; cases a
    | some kv =>
      cases e2 : m[i]? with
      | none => rw [e2] at b; cases b
      | some e =>
        rw [e1] at a
        rw [e2] at b
        cases a; cases b
        obtain ⟨h1, h2⟩ := h.at_ i kv e e1 e2
        show EnP g R (if kv.1 = g k then (kv.1, v) else kv) (if e.1 = k then (e.1, x) else e)
        by_cases q : e.1 = k
        · rw [if_pos (by rw [h1, q]), if_pos q]
          exact ⟨h1, hr⟩
        · rw [if_neg (fun z => q (hg _ _ (by rw [← h1]; exact z))), if_neg q]
          exact ⟨h1, h2⟩
  · exact h.app (AL.one ⟨rfl, hr⟩)
theorem keys_AL {kvs : List (κ' × V)} : ∀ {m : List (κ × β)}, AL (EnP g R) kvs m → kvs.map (·.1) = (keysD m).map g := by
  induction kvs with
  | nil => intro m h; cases m with
    | nil => rfl
    | cons e m => have := h.len; simp at this
  | cons kv kvs ih =>
    intro m h
    cases m with
    | nil => have := h.len; simp at this
    | cons e m =>
      obtain ⟨h1, h2⟩ := h.head
      show kv.1 :: kvs.map (·.1) = g e.1 :: (keysD m).map g
      rw [h1.1, ih h2]
end
def kI : Int → Key := Sum.inl
def kP : Int × Int → List Key := fun p => [Sum.inl p.1, Sum.inl p.2]
theorem kI_inj (a b : Int) (h : kI a = kI b) : a = b := Sum.inl.inj h
theorem kP_inj (a b : Int × Int) (h : kP a = kP b) : a = b := by
  obtain ⟨a1, a2⟩ := a
  obtain ⟨b1, b2⟩ := b
  have h1 := List.cons.inj h
  have h2 := List.cons.inj h1.2
  have e1 : a1 = b1 := Sum.inl.inj h1.1
  have e2 : a2 = b2 := Sum.inl.inj h2.1
  rw [e1, e2]
/-- keys: ints -/
def moDI {β : Type} (r : Rp β) : Mo (List (Int × β)) := ⟨fun H u m => ∃ kvs, u = .dK kvs ∧ AL (EnP kI (r.rep H)) kvs m, fun s ⟨kvs, e, h⟩ => ⟨kvs, e, h.imp fun _ _ q => ⟨q.1, r.mono s q.2⟩⟩⟩
/-- keys: pairs of ints -/
def moDP {β : Type} (r : Rp β) : Mo (List ((Int × Int) × β)) := ⟨fun H u m => ∃ kvs, u = .dT kvs ∧ AL (EnP kP (r.rep H)) kvs m, fun s ⟨kvs, e, h⟩ => ⟨kvs, e, h.imp fun _ _ q => ⟨q.1, r.mono s q.2⟩⟩⟩

section
variable {X : Cx} {N : List Str} {sc : Scope} {Γ : Gm} {α β γ δ κ ρ : Type} {e a b d : Expr} {r : Rp α} {p p' : Prop} {x : α} {k : Int} {kp : Int × Int} {m : List (Int × α)} {mp : List ((Int × Int) × α)} {pos pos' np : Pos} {rr : Pr ρ}
/-- a dict that is read (its own object may be hidden) -/
def EvD (X : Cx) (Γ : Gm) (e : Expr) (r : Rp α) (p : Prop) (m : List (Int × α)) : Prop :=
  ∀ (o : Own) (σ : St) (H : Hp) (Q : VK), ES Γ o σ H → p → (∀ l kvs H', Same H H' → H' l = some (.dK kvs) → AL (EnP kI (r.rep (hid o H'))) kvs m → Q (.ref l) H') → WE X e σ H Q
def EvDP (X : Cx) (Γ : Gm) (e : Expr) (r : Rp α) (p : Prop) (m : List ((Int × Int) × α)) : Prop :=
  ∀ (o : Own) (σ : St) (H : Hp) (Q : VK), ES Γ o σ H → p → (∀ l kvs H', Same H H' → H' l = some (.dT kvs) → AL (EnP kP (r.rep (hid o H'))) kvs m → Q (.ref l) H') → WE X e σ H Q
theorem EvF.di (h : EvF X Γ e (rM (moDI r)) p m) : EvD X Γ e r p m := fun o σ H Q hs hp kk =>
  h o σ H Q hs hp fun v H' s ⟨l, u, e1, e2, kvs, e3, e4⟩ => by subst e1 e3; exact kk l kvs H' s (hid_some e2).2 e4
theorem EvF.dp (h : EvF X Γ e (rM (moDP r)) p mp) : EvDP X Γ e r p mp := fun o σ H Q hs hp kk =>
  h o σ H Q hs hp fun v H' s ⟨l, u, e1, e2, kvs, e3, e4⟩ => by subst e1 e3; exact kk l kvs H' s (hid_some e2).2 e4
theorem ed_own {i : Nat} {z : Str} (C : CF X N sc) (hN : N[i]? = some z) (hv : visB sc z = true) (hΓ : Γ[i]? = some (.own (moDI r) m)) (hd : (z == ("__debug__" : Str)) = false := by decide) (hcd : (z == ("__classdict__" : Str)) = false := by decide) : EvD X Γ (.Name z pos) r True m := fun o σ H Q hs _ kk => by
  refine ⟨_, pe_var (i := i) (by rw [C.hN]; exact hN) (by rw [C.hS]; exact vis_of hv) hd hcd, ?_⟩
  obtain ⟨ov, e1, l, u, rfl, e2, e3, kvs, rfl, e4⟩ := hs.sl.at_ i _ hΓ
  exact ⟨_, e1, kk l kvs H (Same.refl _) e3 e4⟩
theorem edp_own {i : Nat} {z : Str} (C : CF X N sc) (hN : N[i]? = some z) (hv : visB sc z = true) (hΓ : Γ[i]? = some (.own (moDP r) mp)) (hd : (z == ("__debug__" : Str)) = false := by decide) (hcd : (z == ("__classdict__" : Str)) = false := by decide) : EvDP X Γ (.Name z pos) r True mp := fun o σ H Q hs _ kk => by
  refine ⟨_, pe_var (i := i) (by rw [C.hN]; exact hN) (by rw [C.hS]; exact vis_of hv) hd hcd, ?_⟩
  obtain ⟨ov, e1, l, u, rfl, e2, e3, kvs, rfl, e4⟩ := hs.sl.at_ i _ hΓ
  exact ⟨_, e1, kk l kvs H (Same.refl _) e3 e4⟩
theorem en_dict : EvN X Γ (.Dict [] [] pos) (moDI r) True [] := fun o σ H Q hs _ kk => ⟨_, pe_dnewK, fun l nl => kk l _ _ (same_upd nl) nl upd_same ⟨[], rfl, AL.nil⟩⟩
theorem en_dictP : EvN X Γ (.Dict [] [] pos) (moDP r) True [] := fun o σ H Q hs _ kk => ⟨_, pe_dnewT, fun l nl => kk l _ _ (same_upd nl) nl upd_same ⟨[], rfl, AL.nil⟩⟩
theorem kV_int {k : Int} {v : V} (h : v = .int k) : v = kV (kI k) := h
theorem dget_v {F H : Hp} {v : V} {l : Addr} {kvs : List (Key × V)} (q : rI.rep F v k) (h : H l = some (.dK kvs)) : DGet H l v (valV kvs (kI k)) := by
  rw [show v = _ from q]
  exact DGet.k (k := kI k) h
theorem kP_tup {F : Hp} {v : V} (h : rPP.rep F v kp) : ∃ t, v = .ref t ∧ F t = some (.tup ((kP kp).map kV)) := by
  obtain ⟨_, t, e1, e2⟩ := pairOf_rep h
  exact ⟨t, e1, e2⟩
/-- k in d, k not in d -/
theorem ev_inD (C : CF X N sc) (ha : EvF X Γ a rI p k) (hb : EvD X Γ d r p' m) (hm : behindInMarks .In d = false := by rfl) : EvF X Γ (.Compare a [.In] [d] pos) rB (p ∧ p') (hasD m k) := fun o σ H Q hs hp kk => by
  refine ⟨_, pe_cmp (pc_din (by have := C.hu; omega) we we) hm, ha o σ H _ hs hp.1 fun v H1 s1 q1 => hb o σ H1 _ (hs.mono s1) hp.2 fun l kvs H2 s2 q2 q3 => ⟨l, _, rfl, dget_v q1 q2, kk _ H2 (s1.trans s2) ?_⟩⟩
  rw [← valV_any, any_AL kI_inj q3]; rfl
theorem et_inD (C : CF X N sc) (ha : EvF X Γ a rI p k) (hb : EvD X Γ d r p' m) (hm : behindInMarks .In d = false := by rfl) : EvT X Γ (.Compare a [.In] [d] pos) (p ∧ p') (hasD m k) := fun o σ H Q hs hp kk => by
  refine ⟨_, pt_cmp (pc_din (by have := C.hu; omega) we we) hm, ha o σ H _ hs hp.1 fun v H1 s1 q1 => hb o σ H1 _ (hs.mono s1) hp.2 fun l kvs H2 s2 q2 q3 => ⟨l, _, rfl, dget_v q1 q2, _, rfl, ?_⟩⟩
  rw [← valV_any, any_AL kI_inj q3]; exact kk H2 (s1.trans s2)
theorem et_ninD (C : CF X N sc) (ha : EvF X Γ a rI p k) (hb : EvD X Γ d r p' m) (hm : behindInMarks .NotIn d = false := by rfl) : EvT X Γ (.Compare a [.NotIn] [d] pos) (p ∧ p') (!hasD m k) := fun o σ H Q hs hp kk => by
  refine ⟨_, pt_cmp (pc_dnotin (by have := C.hu; omega) we we) hm, ha o σ H _ hs hp.1 fun v H1 s1 q1 => hb o σ H1 _ (hs.mono s1) hp.2 fun l kvs H2 s2 q2 q3 => ⟨l, _, rfl, dget_v q1 q2, _, rfl, ?_⟩⟩
  rw [← valV_any, any_AL kI_inj q3]; exact kk H2 (s1.trans s2)
theorem et_inDP (C : CF X N sc) (ha : EvF X Γ a rPP p kp) (hb : EvDP X Γ d r p' mp) (hm : behindInMarks .In d = false := by rfl) : EvT X Γ (.Compare a [.In] [d] pos) (p ∧ p') (hasD mp kp) := fun o σ H Q hs hp kk => by
  refine ⟨_, pt_cmp (pc_din (by have := C.hu; omega) we we) hm, ha o σ H _ hs hp.1 fun v H1 s1 q1 => hb o σ H1 _ (hs.mono s1) hp.2 fun l kvs H2 s2 q2 q3 => ?_⟩
  obtain ⟨t, e1, e2⟩ := kP_tup q1
  refine ⟨l, _, rfl, by rw [e1]; exact DGet.t q2 (s2 _ _ (hid_some e2).2), _, rfl, ?_⟩
  rw [← valV_any, any_AL kP_inj q3]; exact kk H2 (s1.trans s2)
theorem et_ninDP (C : CF X N sc) (ha : EvF X Γ a rPP p kp) (hb : EvDP X Γ d r p' mp) (hm : behindInMarks .NotIn d = false := by rfl) : EvT X Γ (.Compare a [.NotIn] [d] pos) (p ∧ p') (!hasD mp kp) := fun o σ H Q hs hp kk => by
  refine ⟨_, pt_cmp (pc_dnotin (by have := C.hu; omega) we we) hm, ha o σ H _ hs hp.1 fun v H1 s1 q1 => hb o σ H1 _ (hs.mono s1) hp.2 fun l kvs H2 s2 q2 q3 => ?_⟩
  obtain ⟨t, e1, e2⟩ := kP_tup q1
  refine ⟨l, _, rfl, by rw [e1]; exact DGet.t q2 (s2 _ _ (hid_some e2).2), _, rfl, ?_⟩
  rw [← valV_any, any_AL kP_inj q3]; exact kk H2 (s1.trans s2)
/-- d[k] -/
theorem ev_getD [Inhabited α] (C : CF X N sc) (hb : EvD X Γ d r p m) (ha : EvF X Γ a rI p' k) (hs : NoSl a := by exact fun _ _ => rfl) : EvF X Γ (.Subscript d a pos) r (p ∧ p' ∧ hasD m k = true) (getD m k) := fun o σ H Q hS hp kk => by
  refine ⟨_, pe_dget (by have := C.hu; omega) we we hs, hb o σ H _ hS hp.1 fun l kvs H1 s1 q1 q2 => ha o σ H1 _ (hS.mono s1) hp.2.1 fun v H2 s2 q3 => ?_⟩
  rcases lookD_AL kI_inj q2 k with ⟨h1, h2⟩ | ⟨w, y, h1, h2, h3⟩
  · have := hp.2.2
    rw [← lookD_has, h2] at this
    cases this
  · refine ⟨l, w, rfl, by rw [← h1]; exact dget_v q3 (s2 _ _ q1), kk w H2 (s1.trans s2) ?_⟩
    unfold getD
    rw [h2]
    exact r.mono (hid_same s2) h3
theorem ev_getDP [Inhabited α] (C : CF X N sc) (hb : EvDP X Γ d r p mp) (ha : EvF X Γ a rPP p' kp) (hs : NoSl a := by exact fun _ _ => rfl) : EvF X Γ (.Subscript d a pos) r (p ∧ p' ∧ hasD mp kp = true) (getD mp kp) := fun o σ H Q hS hp kk => by
  refine ⟨_, pe_dget (by have := C.hu; omega) we we hs, hb o σ H _ hS hp.1 fun l kvs H1 s1 q1 q2 => ha o σ H1 _ (hS.mono s1) hp.2.1 fun v H2 s2 q3 => ?_⟩
  rcases lookD_AL kP_inj q2 kp with ⟨h1, h2⟩ | ⟨w, y, h1, h2, h3⟩
  · have := hp.2.2
    rw [← lookD_has, h2] at this
    cases this
  · obtain ⟨t, e1, e2⟩ := kP_tup q3
    refine ⟨l, w, rfl, by rw [e1, ← h1]; exact DGet.t (s2 _ _ q1) (hid_some e2).2, kk w H2 (s1.trans s2) ?_⟩
    unfold getD
    rw [h2]
    exact r.mono (hid_same s2) h3
/-- sorted(d): fewer than 64 keys -/
theorem en_sortD (C : CF X N sc) (hg : glB sc "sorted" = true) (hm : X.mg "sorted" = none) (hb : EvD X Γ d r p m) (he : starEach [d] X.env = (false, eval d X.env) :: starEach [] X.env := by rfl) (hpl : (backTo pos (starEach [] X.env)).any (·.1) = false := by rfl) :
    EvN X Γ (.Call (.Name "sorted" np) [d] [] pos) (moL rI) (p ∧ m.length < 64) (sortI (keysD m)) := fun o σ H Q hS hp kk =>
  ⟨_, pe_callB (call_sortedDI C.calm) (gl_cf C hg) hm (by decide +kernel) (pa_cons we pa_nil he) (by decide) (by decide) he hpl, hb o σ H _ hS hp.1 fun l kvs H1 s1 q1 q2 =>
    ⟨l, kvs, keysD m, rfl, .of q1, keys_AL q2, by unfold keysD; rw [List.length_map]; exact hp.2, fun ys n h1 h2 nn => kk n _ _ (s1.trans (same_upd nn)) (s1.free nn) upd_same ⟨_, rfl, by rw [sortI_of h1 h2]; exact al_ints _⟩⟩⟩
variable {Γn : γ → Gm} {Γb : δ → Gm} {rest : List Stmt} {z : Str}
theorem bw_setD (W : κ → Res γ δ ρ) {sp np' : Pos} {qq : List (Int × α) → Prop} {rs : List (Int × α) → κ} (C : CF X N sc) (i : Nat) (hN : N[i]? = some z) (hv : visB sc z = true) (hΓ : Γ[i]? = some (.own (moDI r) m)) (h : EvF X Γ e r p x) (h2 : EvF X Γ a rI p' k) (kk0 : ∀ y, Bl X (Γ.set i (.own (moDI r) y)) rest Γn Γb rr (qq y) (W (rs y))) (hi : i < 1000 := by decide)
    (hd : (z == ("__debug__" : Str)) = false := by decide) (hcd : (z == ("__classdict__" : Str)) = false := by decide) (hs : swapsWith e (some (.Subscript (.Name z np') a sp)) pos.line X.env = pure false := by rfl) :
    Bl X Γ (.Assign [.Subscript (.Name z np') a sp] e pos :: rest) Γn Γb rr (p ∧ p' ∧ m.length < sizeLine ∧ (let y := setD m k x; qq y)) (W (let y := setD m k x; rs y)) := fun G O o σ H D hS hp kk => by
  refine ⟨_, pss_cons (ps_dput (by have := C.hu; omega) (pe_var (i := i) (by rw [C.hN]; exact hN) (by rw [C.hS]; exact vis_of hv) hd hcd) we we hs) wb, ?_⟩
  refine h o σ H _ hS.es hp.1 fun v H1 s1 q1 => ?_
  have hS1 := hS.mono s1
  obtain ⟨ov, e1, l, u, rfl, e2, e3, kvs, rfl, e4⟩ := hS1.sl.at_ i _ hΓ
  refine ⟨_, e1, h2 o σ H1 _ hS1.es hp.2.1 fun w H2 s2 q2 => ?_⟩
  have hS2 := hS1.mono s2
  have hw : w = kV (kI k) := q2
  refine ⟨l, _, rfl, by rw [hw]; exact DPut.k (s2 _ _ e3) (by rw [e4.len]; exact hp.2.2.1), ?_⟩
  have st := own_write (m' := moDI r) (y := setD m k x) (u := .dK (putK kvs (kI k) v)) hS2 (List.getElem?_eq_some_iff.mp hΓ).1 e1 e2 hi
    ⟨_, rfl, setD_AL kI_inj (e4.imp fun _ _ q => ⟨q.1, r.mono (hid_same s2) q.2⟩) (r.mono (hid_same s2) q1)⟩
  exact kk0 _ G O o σ _ D st hp.2.2.2 kk
theorem bw_setDP (W : κ → Res γ δ ρ) {sp np' : Pos} {qq : List ((Int × Int) × α) → Prop} {rs : List ((Int × Int) × α) → κ} (C : CF X N sc) (i : Nat) (hN : N[i]? = some z) (hv : visB sc z = true) (hΓ : Γ[i]? = some (.own (moDP r) mp)) (h : EvF X Γ e r p x) (h2 : EvF X Γ a rPP p' kp) (kk0 : ∀ y, Bl X (Γ.set i (.own (moDP r) y)) rest Γn Γb rr (qq y) (W (rs y))) (hi : i < 1000 := by decide)
    (hd : (z == ("__debug__" : Str)) = false := by decide) (hcd : (z == ("__classdict__" : Str)) = false := by decide) (hs : swapsWith e (some (.Subscript (.Name z np') a sp)) pos.line X.env = pure false := by rfl) :
    Bl X Γ (.Assign [.Subscript (.Name z np') a sp] e pos :: rest) Γn Γb rr (p ∧ p' ∧ mp.length < sizeLine ∧ (let y := setD mp kp x; qq y)) (W (let y := setD mp kp x; rs y)) := fun G O o σ H D hS hp kk => by
  refine ⟨_, pss_cons (ps_dput (by have := C.hu; omega) (pe_var (i := i) (by rw [C.hN]; exact hN) (by rw [C.hS]; exact vis_of hv) hd hcd) we we hs) wb, ?_⟩
  refine h o σ H _ hS.es hp.1 fun v H1 s1 q1 => ?_
  have hS1 := hS.mono s1
  obtain ⟨ov, e1, l, u, rfl, e2, e3, kvs, rfl, e4⟩ := hS1.sl.at_ i _ hΓ
  refine ⟨_, e1, h2 o σ H1 _ hS1.es hp.2.1 fun w H2 s2 q2 => ?_⟩
  have hS2 := hS1.mono s2
  obtain ⟨t, f1, f2⟩ := kP_tup q2
  refine ⟨l, _, rfl, by rw [f1]; exact DPut.t (s2 _ _ e3) (hid_some f2).2 (by rw [e4.len]; exact hp.2.2.1), ?_⟩
  have st := own_write (m' := moDP r) (y := setD mp kp x) (u := .dT (putK kvs (kP kp) v)) hS2 (List.getElem?_eq_some_iff.mp hΓ).1 e1 e2 hi
    ⟨_, rfl, setD_AL kP_inj (e4.imp fun _ _ q => ⟨q.1, r.mono (hid_same s2) q.2⟩) (r.mono (hid_same s2) q1)⟩
  exact kk0 _ G O o σ _ D st hp.2.2.2 kk
end
end L3

namespace L3
open PySem L2

/-! ### a set, sorted -/
section
variable {α : Type} [DecidableEq α]
def insS (le : α → α → Bool) (x : α) : List α → List α
  | [] => [x]
  | y :: ys => if x = y then y :: ys else if le x y = true then x :: y :: ys else y :: insS le x ys
def sortS (le : α → α → Bool) (xs : List α) : List α := xs.foldr (insS le) []
theorem mem_insS {le : α → α → Bool} {x z : α} : ∀ {ys : List α}, z ∈ insS le x ys ↔ z = x ∨ z ∈ ys
  | [] => by simp [insS]
  | y :: ys => by
    unfold insS
    split
    · rename_i h; subst h; simp
    · split
      · simp
      · rw [List.mem_cons, mem_insS, List.mem_cons]
        constructor
        · rintro (h | h | h) <;> simp [h]
        · rintro (h | h | h) <;> simp [h]
theorem mem_sortS {le : α → α → Bool} {z : α} : ∀ {xs : List α}, z ∈ sortS le xs ↔ z ∈ xs
  | [] => by simp [sortS]
  | x :: xs => by
    show z ∈ insS le x (sortS le xs) ↔ _
    rw [mem_insS, mem_sortS, List.mem_cons]
variable {le : α → α → Bool} (tr : ∀ a b c, le a b = true → le b c = true → le a c = true) (tot : ∀ a b, (le a b || le b a) = true) (anti : ∀ a b, le a b = true → le b a = true → a = b)
include tr tot anti
theorem ins_srt {x : α} : ∀ {ys : List α}, ys.Pairwise (fun a b => le a b = true ∧ a ≠ b) → (insS le x ys).Pairwise (fun a b => le a b = true ∧ a ≠ b)
  | [], _ => by simp [insS]
  | y :: ys, h => by
    obtain ⟨h1, h2⟩ := List.pairwise_cons.mp h
    unfold insS
    split
    · exact h
    · rename_i ne
      split
      · rename_i l
        refine List.pairwise_cons.mpr ⟨fun z hz => ?_, h⟩
        rcases List.mem_cons.mp hz with e | hz
        · subst e; exact ⟨l, ne⟩
        · obtain ⟨a, b⟩ := h1 z hz
          exact ⟨tr _ _ _ l a, fun e => b (by subst e; exact (anti _ _ a l))⟩
      · rename_i nl
        refine List.pairwise_cons.mpr ⟨fun z hz => ?_, ins_srt h2⟩
        rcases mem_insS.mp hz with e | hz
        · subst e
          have := tot z y
          rw [Bool.or_eq_true] at this
          exact ⟨this.resolve_left nl, fun e => ne e.symm⟩
        · exact h1 z hz
theorem sort_srt : ∀ (xs : List α), (sortS le xs).Pairwise (fun a b => le a b = true ∧ a ≠ b)
  | [] => by simp [sortS]
  | x :: xs => ins_srt tr tot anti (sort_srt xs)
theorem sortS_of {xs ys : List α} (hm : ∀ z, z ∈ ys ↔ z ∈ xs) (hp : ys.Pairwise (fun a b => le a b = true)) (hn : ys.Nodup) : ys = sortS le xs := by
  have h1 := sort_srt tr tot anti xs
  have n1 : (sortS le xs).Nodup := h1.imp fun h => h.2
  refine sorted_unique (le := fun a b => le a b = true) anti ?_ hp (h1.imp fun h => h.1)
  refine (List.perm_ext_iff_of_nodup hn n1).mpr fun z => ?_
  rw [hm, mem_sortS]
end
abbrev sortSetP (xs : List (Int × Int)) : List (Int × Int) := sortS leP xs
abbrev leI (a b : Int) : Bool := decide (a ≤ b)
abbrev sortSet (xs : List Int) : List Int := sortS leI xs
theorem leP_tr (a b c : Int × Int) (h1 : leP a b = true) (h2 : leP b c = true) : leP a c = true := by rw [leP_iff] at *; omega
theorem leP_tot (a b : Int × Int) : (leP a b || leP b a) = true := by rw [Bool.or_eq_true, leP_iff, leP_iff]; omega
theorem leI_tr (a b c : Int) (h1 : leI a b = true) (h2 : leI b c = true) : leI a c = true := by simp [leI] at *; omega
theorem leI_tot (a b : Int) : (leI a b || leI b a) = true := by simp [leI]; omega
theorem leI_anti (a b : Int) (h1 : leI a b = true) (h2 : leI b a = true) : a = b := by simp [leI] at *; omega
def PcB (xs : List (Int × Int)) : Prop := xs.length < 64 ∧ ∀ q ∈ xs, 0 ≤ q.1 ∧ 0 ≤ q.2
def addrOf : V → Addr
  | .ref a => a
  | _ => 0
end L3
namespace L3
open PySem L2
section
theorem al_split {F : Hp} : ∀ {ws : List V} {xs : List (Int × Int)}, AL (rPP.rep F) ws xs → ∃ ks : List (Addr × List Int), ws = ks.map (fun p => V.ref p.1) ∧ xs.map (fun q => [q.1, q.2]) = ks.map (·.2) ∧ ∀ p ∈ ks, F p.1 = some (.tup (p.2.map V.int))
  | [], [], _ => ⟨[], rfl, rfl, fun p hp => absurd hp (by simp)⟩
  | [], _ :: _, h => by have := h.len; simp at this
  | _ :: _, [], h => by have := h.len; simp at this
  | w :: ws, x :: xs, h => by
    obtain ⟨h1, h2⟩ := h.head
    obtain ⟨_, t, rfl, e⟩ := pairOf_rep h1
    obtain ⟨ks, k1, k2, k3⟩ := al_split h2
    refine ⟨(t, [x.1, x.2]) :: ks, by rw [k1]; rfl, by rw [List.map_cons, k2]; rfl, fun p hp => ?_⟩
    rcases List.mem_cons.mp hp with q | q
    · subst q; exact e
    · exact k3 p q
theorem bnd_of : ∀ (xs : List (Int × Int)), ∃ B : Int, ∀ x ∈ xs, x.1 < B ∧ x.2 < B
  | [] => ⟨0, fun x hx => absurd hx (by simp)⟩
  | y :: ys => by
    obtain ⟨B, hB⟩ := bnd_of ys
    refine ⟨max B (max (y.1 + 1) (y.2 + 1)), fun x hx => ?_⟩
    rcases List.mem_cons.mp hx with q | q
    · subst q; omega
    · have := hB x q; omega
def prL (l : List Int) : Int × Int := (l.getD 0 0, l.getD 1 0)
theorem code2 (B i j : Int) : TS.code B [i, j] = i * B + j := by
  show i * B ^ 1 + (j * B ^ 0 + 0) = _
  rw [Int.pow_succ, Int.pow_zero, Int.one_mul]; omega
variable {X : Cx} {N : List Str} {sc : Scope} {Γ : Gm} {e : Expr} {p : Prop} {xs : List (Int × Int)} {np np2 pos pos2 : Pos}
theorem en_sortSetP (C : CF X N sc) (hg : glB sc "sorted" = true) (hm : X.mg "sorted" = none) (hg2 : glB sc "set" = true) (hm2 : X.mg "set" = none) (ha : EvC X Γ e rPP p xs)
    (he : starEach [e] X.env = (false, eval e X.env) :: starEach [] X.env := by rfl) (he2 : starEach [.Call (.Name "set" np2) [e] [] pos2] X.env = (false, eval (.Call (.Name "set" np2) [e] [] pos2) X.env) :: starEach [] X.env := by rfl)
    (hpl : (backTo pos (starEach [] X.env)).any (·.1) = false := by rfl) (hpl2 : (backTo pos2 (starEach [] X.env)).any (·.1) = false := by rfl) :
    EvN X Γ (.Call (.Name "sorted" np) [.Call (.Name "set" np2) [e] [] pos2] [] pos) (moL rPP) (p ∧ PcB xs) (sortSetP xs) := fun o σ H Q hS hp kk => by
  refine ⟨_, pe_callB (cr_sortedT C.calm) (gl_cf C hg) hm (by decide +kernel) (pa_cons (pe_callTy (cr_setOfT C.calm C.hu) (gl_cf C hg2) hm2 (by decide +kernel) (pa_cons we pa_nil he) (by decide) (by decide) he hpl2) pa_nil he2) (by decide) (by decide) he2 hpl, ?_⟩
  refine ha o σ H _ hS hp.1 fun l ws H1 s1 q1 q2 => ?_
  obtain ⟨ks, k1, k2, k3⟩ := al_split q2
  have hk2 : ∀ q ∈ ks, ∃ x ∈ xs, q.2 = [x.1, x.2] := fun q hq => by
    have : q.2 ∈ xs.map (fun q => [q.1, q.2]) := by rw [k2]; exact List.mem_map.mpr ⟨q, hq, rfl⟩
    obtain ⟨x, hx, e⟩ := List.mem_map.mp this
    exact ⟨x, hx, e.symm⟩
  refine ⟨l, ks, rfl, by rw [← k1]; exact q1, fun q hq => SqT.of (hid_some (k3 q hq)).2, ?_, fun a L na hL1 hL2 => ?_⟩
  · have : ks.length = xs.length := by have := congrArg List.length k2; simpa using this.symm
    rw [this]; exact hp.2.1
  have hb : ∀ x ∈ xs, 0 ≤ x.1 ∧ 0 ≤ x.2 := hp.2.2
  obtain ⟨B, hB⟩ := bnd_of xs
  have hks : ∀ q ∈ ks, ∃ x ∈ xs, q.2 = [x.1, x.2] := hk2
  refine ⟨a, L, 2, B, rfl, upd_same, fun q hq => ?_, by decide, fun q hq => ?_, fun L' n pm nd few srt nn => ?_⟩
  · have := (hid_some (k3 q (hL1 q hq))).2
    exact SqT.of (by rw [upd_ne (ne_of_none this na)]; exact this)
  · obtain ⟨x, hx, ex⟩ := hks q (hL1 q hq)
    rw [ex]
    refine ⟨rfl, fun m hm => ?_⟩
    have h1 := hb x hx
    have h2 := hB x hx
    rcases List.mem_cons.mp hm with z | z
    · subst z; exact ⟨h1.1, h2.1⟩
    · rw [List.mem_singleton.mp z]; exact ⟨h1.2, h2.2⟩
  · have memL : ∀ q ∈ L', q ∈ ks := fun q hq => hL1 q (pm.mem_iff.mp hq)
    have hys : L'.map (fun q => prL q.2) = sortSetP xs := by
      refine sortS_of leP_tr leP_tot leP_anti (fun z => ?_) ?_ ?_
      · constructor
        · intro hz
          obtain ⟨q, hq, rfl⟩ := List.mem_map.mp hz
          obtain ⟨x, hx, ex⟩ := hks q (memL q hq)
          rw [ex]; exact hx
        · intro hz
          have : [z.1, z.2] ∈ ks.map (·.2) := by rw [← k2]; exact List.mem_map.mpr ⟨z, hz, rfl⟩
          obtain ⟨q, hq, eq⟩ := List.mem_map.mp this
          obtain ⟨q', hq', eq'⟩ := List.mem_map.mp (hL2 q hq)
          refine List.mem_map.mpr ⟨q', pm.mem_iff.mpr hq', ?_⟩
          rw [eq', eq]; rfl
      · rw [List.pairwise_map]
        refine List.Pairwise.imp_of_mem (fun {u v} hu hv h => ?_) srt
        obtain ⟨x, hx, ex⟩ := hks u (memL u hu)
        obtain ⟨y, hy, ey⟩ := hks v (memL v hv)
        rw [ex, ey] at h ⊢
        rw [code2, code2] at h
        show leP (x.1, x.2) (y.1, y.2) = true
        rw [leP_iff]
        have h1 := hb x hx; have h2 := hB x hx; have h3 := hb y hy; have h4 := hB y hy
        show x.1 < y.1 ∨ x.1 = y.1 ∧ x.2 ≤ y.2
        rcases Int.lt_trichotomy x.1 y.1 with q | q | q
        · exact .inl q
        · rw [q] at h; exact .inr ⟨q, by omega⟩
        · exfalso
          have : (y.1 + 1) * B ≤ x.1 * B := Int.mul_le_mul_of_nonneg_right (by omega) (by omega)
          rw [Int.add_mul] at this
          omega
      · rw [List.nodup_iff_pairwise_ne, List.pairwise_map]
        rw [List.nodup_iff_pairwise_ne, List.pairwise_map] at nd
        refine List.Pairwise.imp_of_mem (fun {u v} hu hv h e => h ?_) nd
        obtain ⟨x, hx, ex⟩ := hks u (memL u hu)
        obtain ⟨y, hy, ey⟩ := hks v (memL v hv)
        rw [ex, ey] at e ⊢
        have e : ((x.1, x.2) : Int × Int) = (y.1, y.2) := e
        rw [(Prod.mk.inj e).1, (Prod.mk.inj e).2]
    have sA : Same H1 (upd H1 a (SetTO X.prog X.w a L)) := same_upd na
    have nn1 : H1 n = none := sA.free nn
    refine kk n _ _ ((s1.trans sA).trans (same_upd nn)) (s1.free nn1) upd_same ⟨_, rfl, ?_⟩
    rw [← hys]
    refine ⟨by simp, fun i w x e1 e2 => ?_⟩
    rw [List.getElem?_map] at e1 e2
    cases e3 : L'[i]? with
    | none => rw [e3] at e1; cases e1
    | some q =>
      rw [e3] at e1 e2
      cases e1; cases e2
      have hq := List.mem_of_getElem? e3
      obtain ⟨y, hy, ey⟩ := hks q (memL q hq)
      have hF := k3 q (memL q hq)
      show rPP.rep _ (V.ref q.1) (prL q.2)
      rw [ey] at hF ⊢
      have := (hid_new' (i := 0) (H0 := H1) (H' := upd (upd H1 a (SetTO X.prog X.w a L)) n (.lst (L'.map fun q => V.ref q.1))) (a := n) nn1 (sA.trans (same_upd nn))) _ _ hF
      exact ⟨q.1, _, rfl, this, _, _, rfl, rfl, _, rfl, rfl⟩
end
end L3

namespace L3
open PySem L2

/-! ### the law's end -/
theorem law_callG {P : Program} {w : World} {K : PySem.W.Frag} {mg mb : Str → Option Value} {k : Nat} {fa a : Addr} {fd : FuncData} {x : Str} {s1 : Shared} {vs : List Value} {ns : List Int} {vc : List Int → Prop} {m : List Int → Bool}
    (KX : K.In s1.heap) (h1 : s1.heap.Ns mainGlobals mg) (h2 : s1.heap.Ns builtinsNs mb) (h3 : ∀ x : Str, x ≠ "__name__" → mb x = bootBuiltins x) (h4 : s1.heap.NoLimit) (h5 : s1.gens = #[])
    (ha : s1.heap.get? a = some { cls := .type "list", data := .seq vs.toArray }) (hi : PyProof.Rows.IntsAre vs ns) (hl : ns.length ≤ sizeLine) (hr : Room k PySem.callerA)
    (F : ∀ base : Heap, K.In base → base.Ns mainGlobals mg → FnG P w K mg base CX0 k fa fd [x] (spF (t1 (rQ K rI)) rB vc m)) (hbind : ∀ (s : Shared) (u : Value), BindsTo s fd ⟨[u], []⟩ [(x, u)]) (hv : vc ns) (hm : m ns = true) :
    codeAny (model P w) PySem.callerA (.call (.ref fa) ⟨[.ref a], []⟩) (fun r s' => r = .ok (.ret (.bool true)) ∧ PySem.OldK s1.heap s'.heap ∧ s'.os = s1.os ∧ PyProof.Rows.AllBare s'.gens) s1 := by
  have rv := vals_ints hi
  have core : ∀ H : Hp, Only H → SqL K H a (ns.map V.int) → HOk P w H s1.heap → (∀ b, H b ≠ none → b = a) → (H a ≠ none → K.lookup a = none) →
      codeAny (model P w) PySem.callerA (.call (.ref fa) ⟨[.ref a], []⟩) (fun r s' => r = .ok (.ret (.bool true)) ∧ PySem.OldK s1.heap s'.heap ∧ s'.os = s1.os ∧ PyProof.Rows.AllBare s'.gens) s1 := by
    intro H hO hS ok hA hK
    have other : ∀ {b : Addr} {ob : Obj}, s1.heap.get? b = some ob → (∀ z : ob.data = Data.seq vs.toArray 0, False) → H b = none := by
      intro b ob e d
      match q : H b with
      | none => rfl
      | some u =>
        have e' : b = a := hA b (by rw [q]; exact Option.some_ne_none u)
        rw [e', ha] at e
        cases e
        exact (d rfl).elim
    have ns' : ∀ {b : Addr} {mm : Str → Option Value}, s1.heap.Ns b mm → (hidT s1.heap H).Ns b mm := by
      rintro b mm ⟨ob, es, ep, e, d, r⟩
      exact ⟨ob, es, ep, hidT_get e (other e fun z => by rw [d] at z; cases z), d, r⟩
    have inK : K.In (hidT s1.heap H) := by
      intro b ob e
      refine hidT_get (KX b ob e) ?_
      match q : H b with
      | none => rfl
      | some u =>
        have e' : b = a := hA b (by rw [q]; exact Option.some_ne_none u)
        subst e'
        rw [hK (by rw [q]; exact Option.some_ne_none u)] at e
        cases e
    obtain ⟨mc, l1, l2⟩ := h4
    have md : Mod K mg (hidT s1.heap H) := ⟨inK, ns' h1, ⟨mb, ns' h2, h3⟩, ⟨mc, ns' l1, l2⟩⟩
    have e0 : Env0 P w K mg (hidT s1.heap H) PySem.callerA [] s1 H := by
      refine ⟨rfl, md, fun b ob e => of_hidT e, Nat.le_of_eq (hidT_size _ _), trivial, ?_, ok, PyProof.Rows.AllBare.of_eq h5⟩
      intro b hb
      cases hb
    have go := (F _ inK (ns' h1)).run PySem.callerA [] s1 H ⟨[.ref a], []⟩ [.ref a] [.ref a] (fun v _ => v = .bl true) (fun _ _ _ => False) rfl hr e0 (hbind s1 (.ref a)) (.cons rfl .nil) (by
      refine ⟨fun _ => false, ns, fun b hb => Bool.noConfusion hb, ⟨_, rfl, a, ns.map V.int, rfl, ?_, al_ints ns⟩, hv, fun v H' _ q => ?_⟩
      · have : hidO (fun _ => false) H = H := by funext b; rfl
        rw [this]; exact hS
      · rw [show v = _ from q, hm])
    refine codeAny_mono go ?_
    rintro (z | fl) s' h
    · exact h.elim
    match fl, h with
    | .ret u, ⟨v, H', os, bare, un, ok', r', q⟩ =>
      obtain rfl : v = .bl true := q
      obtain rfl : u = Value.bool true := r'
      refine ⟨rfl, PySem.OldK.of_keep ?_, os, bare⟩
      intro b ob e
      match q : H b with
      | none => exact un.keep b ob e q (List.not_mem_nil) (List.not_mem_nil)
      | some u =>
        rcases hO b with z | ⟨o2, xs, z⟩
        · rw [q] at z; cases z
        · obtain ⟨f1, _⟩ := ok b _ z
          obtain ⟨f2, _⟩ := ok' b _ (un.frzs b o2 _ z)
          rw [e] at f1
          cases f1
          exact f2
  match hk : K.lookup a with
  | some ob =>
    have e := KX a ob hk
    rw [ha] at e
    cases e
    refine core (fun _ => none) (fun _ => .inl rfl) (.inr ⟨_, vs.toArray, _, hk, rfl, rfl, rfl, ?_, by simpa using rv⟩) (fun b u z => by cases z) (fun b z => (z rfl).elim) fun z => (z rfl).elim
    rw [List.size_toArray, hi.length]; exact hl
  | none =>
    have at_ : ∀ b : Addr, (fun b : Addr => if b = a then some (HO.frz { cls := .type "list", data := .seq vs.toArray } (.lst (ns.map V.int))) else none) b ≠ none → b = a := by
      intro b z
      apply Classical.byContradiction
      intro w'
      exact z (if_neg w')
    refine core (fun b => if b = a then some (.frz { cls := .type "list", data := .seq vs.toArray } (.lst (ns.map V.int))) else none) (fun b => ?_) (.inl (.inr ⟨_, if_pos rfl⟩)) (fun b u z => ?_) at_ fun _ => hk
    · by_cases hb : b = a
      · exact .inr ⟨_, _, if_pos hb⟩
      · exact .inl (if_neg hb)
    · have hb : b = a := at_ b (by rw [z]; exact Option.some_ne_none u)
      subst hb
      have z' := (if_pos rfl).symm.trans z
      cases z'
      exact ⟨ha, by rw [List.length_map]; exact hl, vs, _, rv, ha⟩
theorem walk_ofG {l : PySem.W.OpenLaw} {n k : Nat} {q : Program} {loose : List Str} {XP : (Str → Option Value) → Heap → Prop} {YP : World → Heap → Prop} {d : PySem.DefRec} {K : Params → PySem.W.Frag} {x : Str} {vc : List Int → Prop} {m : List Int → Bool}
    (hn : l.most = some n) (hn2 : n ≤ sizeLine) (hdf : d.params.defaults = []) (hr : Room k PySem.callerA) (hY : ∀ (w : World) (h : Heap), YP w h → (K w.params).In h)
    (F : ∀ (w : World) (mg : Str → Option Value) (fa : Addr) (h : Heap), (K w.params).In h → h.Ns mainGlobals mg → mg d.name = some (.ref fa) →
      ∃ fd : FuncData, (∀ (s : Shared) (u : Value), BindsTo s fd ⟨[u], []⟩ [(x, u)]) ∧ ∀ base : Heap, (K w.params).In base → base.Ns mainGlobals mg → FnG l.prog w (K w.params) mg base CX0 k fa fd [x] (spF (t1 (rQ (K w.params) rI)) rB vc m))
    (hv : ∀ ns : List Int, ns.length ≤ n → vc ns ∧ m ns = true) : PySem.W.WalkO q loose XP YP l.row.toRowW d [] (fun f vs => PySem.call f vs) := by
  refine Att.attach_call hn hdf fun w s0 s1 mg mb fa o pm cd doc a vs ns Gd Y ho hd hcd hmg hobj hints hlen hg => ?_
  obtain ⟨fd, hb, hF⟩ := F w mg fa _ (hY w _ Y) Gd.T.g hmg
  exact law_callG (hY w _ Y) Gd.T.g Gd.T.b Gd.T.builtins Gd.T.nolimit hg hobj hints (Nat.le_trans hlen hn2) hr hF hb (hv ns hlen).1 (hv ns hlen).2
/-! ### what the top has laid -/
theorem defAt {K : PySem.W.Frag} {h : Heap} {mg : Str → Option Value} (X : K.In h) (G : h.Ns mainGlobals mg) {x : Str} {st : Stmt} {f : Addr} {od an : Option Addr} {sl : Array (Option Value)} {oc kV dc pm cd ct : Value}
    (a1 : PySem.W.nsIn K mainGlobals x = some (some (.ref f))) (l1 : K.lookup f = some ⟨oc, od, .func (PySem.W.fnOf x x (defArgs st) (defBody st) (defScope st) .none kV dc pm an cd ct), sl⟩) (c1 : PySem.W.codeIn K cd x = true) (k1 : PySem.W.keepIn K (.ref f) = true) :
    mg x = some (.ref f) ∧ Fun K x x st f (PySem.W.fnOf x x (defArgs st) (defBody st) (defScope st) .none kV dc pm an cd ct) := ⟨PySem.W.mg_of X G a1, fun_mk l1 c1 k1⟩
end L3

namespace L3
open PySem L2

/-! ### plain laws of the mirrors -/
theorem foldP_inv {α γ : Type} {pb : γ → α → Prop} {f : γ → α → γ} (I : γ → Prop) : ∀ (xs : List α) (c : γ), (∀ c y, y ∈ xs → I c → pb c y ∧ I (f c y)) → I c → foldP pb f xs c ∧ I (xs.foldl f c)
  | [], c, _, h => ⟨trivial, h⟩
  | y :: ys, c, st, h => by
    obtain ⟨h1, h2⟩ := st c y List.mem_cons_self h
    obtain ⟨h3, h4⟩ := foldP_inv I ys (f c y) (fun c y hy => st c y (List.mem_cons_of_mem _ hy)) h2
    exact ⟨⟨h1, h3⟩, h4⟩
/-- with the done part and the part to do -/
theorem foldP_ix {α γ : Type} {pb : γ → α → Prop} {f : γ → α → γ} (I : List α → γ → Prop) (xs : List α) (c : γ) (st : ∀ pre y post c, xs = pre ++ y :: post → I pre c → pb c y ∧ I (pre ++ [y]) (f c y)) (h : I [] c) : foldP pb f xs c ∧ I xs (xs.foldl f c) := by
  have go : ∀ (ys pre : List α) (c : γ), xs = pre ++ ys → I pre c → foldP pb f ys c ∧ I xs (ys.foldl f c) := by
    intro ys
    induction ys with
    | nil => intro pre c e h; rw [List.append_nil] at e; subst e; exact ⟨trivial, h⟩
    | cons y ys ih =>
      intro pre c e h
      obtain ⟨h1, h2⟩ := st pre y ys c e h
      obtain ⟨h3, h4⟩ := ih (pre ++ [y]) (f c y) (by rw [e]; simp) h2
      exact ⟨⟨h1, h3⟩, h4⟩
  exact go xs [] c rfl h
theorem fold_use {α γ : Type} {pb : γ → α → Prop} {f : γ → α → γ} {R : γ → Prop} (I : List α → γ → Prop) {xs : List α} {c : γ} (st : ∀ pre y post c, xs = pre ++ y :: post → I pre c → pb c y ∧ I (pre ++ [y]) (f c y)) (h : I [] c) (hR : ∀ c, I xs c → R c) : foldP pb f xs c ∧ R (xs.foldl f c) :=
  ⟨(foldP_ix I xs c st h).1, hR _ (foldP_ix I xs c st h).2⟩
theorem foldl_ix {α γ : Type} {f : γ → α → γ} (I : List α → γ → Prop) {xs : List α} {c : γ} (st : ∀ pre y post c, xs = pre ++ y :: post → I pre c → I (pre ++ [y]) (f c y)) (h : I [] c) : I xs (xs.foldl f c) :=
  (foldP_ix (pb := fun _ _ => True) I xs c (fun pre y post c e hi => ⟨trivial, st pre y post c e hi⟩) h).2
def ResI {γ ρ : Type} (I J : γ → Prop) (Z : ρ → Prop) : Res γ γ ρ → Prop
  | .nx c => I c
  | .cnt c => I c
  | .brk c => J c
  | .ret x => Z x
def SumI {γ ρ : Type} (J : γ → Prop) (Z : ρ → Prop) : ρ ⊕ γ → Prop
  | .inl x => Z x
  | .inr c => J c
theorem forP_ix {α γ ρ : Type} {pb : γ → α → Prop} {f : γ → α → Res γ γ ρ} (I : List α → γ → Prop) (J : γ → Prop) (Z : ρ → Prop) (xs : List α) (c : γ) (st : ∀ pre y post c, xs = pre ++ y :: post → I pre c → pb c y ∧ ResI (I (pre ++ [y])) J Z (f c y)) (hJ : ∀ c, I xs c → J c) (h : I [] c) : forP pb f xs c ∧ SumI J Z (forR f xs c) := by
  have go : ∀ (ys pre : List α) (c : γ), xs = pre ++ ys → I pre c → forP pb f ys c ∧ SumI J Z (forR f ys c) := by
    intro ys
    induction ys with
    | nil => intro pre c e h; rw [List.append_nil] at e; subst e; exact ⟨trivial, hJ _ h⟩
    | cons y ys ih =>
      intro pre c e h
      obtain ⟨h1, h2⟩ := st pre y ys c e h
      unfold forP forR
      match q : f c y, h2 with
      | .nx c', h2 => exact ⟨⟨h1, (ih (pre ++ [y]) c' (by rw [e]; simp) h2).1⟩, (ih (pre ++ [y]) c' (by rw [e]; simp) h2).2⟩
      | .cnt c', h2 => exact ⟨⟨h1, (ih (pre ++ [y]) c' (by rw [e]; simp) h2).1⟩, (ih (pre ++ [y]) c' (by rw [e]; simp) h2).2⟩
      | .brk c', h2 => exact ⟨⟨h1, trivial⟩, h2⟩
      | .ret x, h2 => exact ⟨⟨h1, trivial⟩, h2⟩
  exact go xs [] c rfl h
theorem forP_inv {α γ ρ : Type} {pb : γ → α → Prop} {f : γ → α → Res γ γ ρ} (I : γ → Prop) (Z : ρ → Prop) (xs : List α) (c : γ) (st : ∀ c y, y ∈ xs → I c → pb c y ∧ ResI I I Z (f c y)) (h : I c) : forP pb f xs c ∧ SumI I Z (forR f xs c) :=
  forP_ix (fun _ => I) I Z xs c (fun pre y post c e hi => st c y (by rw [e]; simp) hi) (fun _ h => h) h
/-- a loop that never gives back -/
theorem forP_sum {α γ ρ : Type} {pb : γ → α → Prop} {f : γ → α → Res γ γ ρ} {q : γ → Prop} {k : γ → ρ} {Z : ρ → Prop} (I : γ → Prop) (xs : List α) (c : γ) (st : ∀ c y, y ∈ xs → I c → pb c y ∧ ResI I I Z (f c y)) (h : I c) (hq : ∀ c, I c → q c ∧ Z (k c)) : (forP pb f xs c ∧ sumP (forR f xs c) q) ∧ Z (sumV (forR f xs c) k) := by
  obtain ⟨h1, h2⟩ := forP_inv I Z xs c st h
  match e : forR f xs c, h2 with
  | .inl x, h2 => exact ⟨⟨h1, trivial⟩, h2⟩
  | .inr c', h2 => exact ⟨⟨h1, (hq c' h2).1⟩, (hq c' h2).2⟩
theorem whileQ_inv {γ : Type} {pt pb : γ → Prop} {bb : γ → Bool} {f : γ → γ} (I : γ → Prop) (μ : γ → Nat) (st : ∀ c, I c → pt c ∧ (bb c = true → pb c ∧ I (f c) ∧ μ (f c) < μ c)) : ∀ (n : Nat) (c : γ), I c → μ c < n → whileQ pt pb bb f n c ∧ I (whileF bb f n c) ∧ bb (whileF bb f n c) = false
  | 0, c, _, hn => absurd hn (Nat.not_lt_zero _)
  | n + 1, c, hi, hn => by
    obtain ⟨h1, h2⟩ := st c hi
    unfold whileQ whileF
    by_cases hb : bb c = true
    · obtain ⟨h3, h4, h5⟩ := h2 hb
      obtain ⟨r1, r2, r3⟩ := whileQ_inv I μ st n (f c) h4 (by omega)
      rw [if_pos hb]
      exact ⟨⟨h1, fun _ => ⟨h3, r1⟩⟩, r2, r3⟩
    · rw [if_neg hb]
      exact ⟨⟨h1, fun z => (hb z).elim⟩, hi, by simpa using hb⟩
theorem rng_split {lo hi : Int} {pre post : List Int} {y : Int} (e : rng lo hi = pre ++ y :: post) : y = lo + pre.length ∧ y < hi := by
  have h : (rng lo hi)[pre.length]? = some y := by rw [e]; simp
  unfold rng at h
  rw [List.getElem?_map] at h
  have hl : pre.length < (hi - lo).toNat := by
    have := congrArg List.length e
    rw [rng_len] at this
    simp at this; omega
  rw [List.getElem?_range hl] at h
  simp at h
  omega
theorem gi_mem {α : Type} [Inhabited α] {xs : List α} {i : Int} (h : InB i xs.length) : gi xs i ∈ xs := by
  unfold gi
  have hl : ixI xs.length i < xs.length := by
    unfold ixI InB at *
    split <;> omega
  rw [List.getD_eq_getElem?_getD, List.getElem?_eq_getElem hl]
  exact List.getElem_mem hl
theorem maxI_mem {xs : List Int} (h : xs ≠ []) : maxI xs ∈ xs := by
  match xs, h with
  | x :: ys, _ => exact (foldmax ys x).1
theorem le_maxI {xs : List Int} {y : Int} (h : y ∈ xs) : y ≤ maxI xs := by
  match xs, h with
  | x :: ys, h => exact (foldmax ys x).2 y h
theorem minI_mem {xs : List Int} (h : xs ≠ []) : minI xs ∈ xs := by
  match xs, h with
  | x :: ys, _ => exact (foldmin ys x).1
theorem minI_le {xs : List Int} {y : Int} (h : y ∈ xs) : minI xs ≤ y := by
  match xs, h with
  | x :: ys, h => exact (foldmin ys x).2 y h
theorem mem_sortP {xs : List (Int × Int)} {q : Int × Int} : q ∈ sortP xs ↔ q ∈ xs := (sortP_spec xs).1.mem_iff
theorem len_sortP {xs : List (Int × Int)} : (sortP xs).length = xs.length := (sortP_spec xs).1.length_eq

/-! ### how long a repr is -/
structure Sh (n : Nat) (d : PyData) : Prop where
  l : d.leavesShort 20 = true
  s : d.showable = true
  b : d.bulk ≤ n
structure ShA (n : Nat) (ds : List PyData) : Prop where
  l : PyData.leavesShortAll 20 ds = true
  s : PyData.showableAll ds = true
  b : PyData.bulkAll ds ≤ n
theorem Sh.int {i : Int} (h1 : -(10 ^ 18) < i) (h2 : i < 10 ^ 18) : Sh 0 (.int i) := by
  refine ⟨?_, ?_, Nat.le_refl _⟩
  · have e := int_text_length_le10 (k := 18) (by decide) (by omega : i.natAbs < 10 ^ 18)
    unfold PyData.leavesShort
    rw [decide_eq_true_eq]
    show (Str.ofString (toString i)).length ≤ 20
    rw [ofString_length]; omega
  · unfold PyData.showable
    rw [decide_eq_true_eq]
    by_cases h0 : i.natAbs = 0
    · rw [h0]; decide
    · have : i.natAbs.log2 < 64 := (Nat.log2_lt h0).mpr (by omega)
      omega
theorem Sh.bool {b : Bool} : Sh 0 (.bool b) := ⟨by simp [PyData.leavesShort], by simp [PyData.showable], Nat.le_refl _⟩
theorem Sh.none : Sh 0 .none := ⟨by simp [PyData.leavesShort], by simp [PyData.showable], Nat.le_refl _⟩
theorem ShA.nil : ShA 0 [] := ⟨by simp [PyData.leavesShortAll], by simp [PyData.showableAll], Nat.le_refl _⟩
theorem ShA.cons {a b : Nat} {d : PyData} {ds : List PyData} (h : Sh a d) (h' : ShA b ds) : ShA (a + 1 + b) (d :: ds) :=
  ⟨by simp [PyData.leavesShortAll, h.l, h'.l], by simp [PyData.showableAll, h.s, h'.s], by have := h.b; have := h'.b; unfold PyData.bulkAll; omega⟩
theorem ShA.of {n : Nat} : ∀ {ds : List PyData}, (∀ d ∈ ds, Sh n d) → ShA (ds.length * (n + 1)) ds
  | [], _ => by simpa using ShA.nil
  | d :: ds, h => by
    have h1 := ShA.cons (h d List.mem_cons_self) (ShA.of (n := n) fun e he => h e (List.mem_cons_of_mem _ he))
    have e : (d :: ds).length * (n + 1) = n + 1 + ds.length * (n + 1) := by rw [List.length_cons, Nat.succ_mul]; omega
    rw [e]; exact h1
theorem ShA.le {a b : Nat} {ds : List PyData} (h : ShA a ds) (hb : a ≤ b) : ShA b ds := ⟨h.l, h.s, Nat.le_trans h.b hb⟩
theorem Sh.le {a b : Nat} {d : PyData} (h : Sh a d) (hb : a ≤ b) : Sh b d := ⟨h.l, h.s, Nat.le_trans h.b hb⟩
theorem Sh.tup {n : Nat} {ds : List PyData} (h : ShA n ds) : Sh n (.tuple ds) := ⟨by simpa [PyData.leavesShort] using h.l, by simpa [PyData.showable] using h.s, by simpa [PyData.bulk] using h.b⟩
theorem Sh.lst {n : Nat} {ds : List PyData} (h : ShA n ds) : Sh n (.list ds) := ⟨by simpa [PyData.leavesShort] using h.l, by simpa [PyData.showable] using h.s, by simpa [PyData.bulk] using h.b⟩
theorem Sh.lists {α : Type} {r : Rp α} [Dt r] {n m : Nat} {xs : List α} (h : ∀ x ∈ xs, Sh n (Dt.dat r x)) (hm : xs.length ≤ m) : Sh (m * (n + 1)) (Dt.dat (rL r) xs) := by
  have h1 : ShA ((xs.map (Dt.dat r)).length * (n + 1)) (xs.map (Dt.dat r)) := .of (by intro d hd; rw [List.mem_map] at hd; obtain ⟨x, hx, rfl⟩ := hd; exact h x hx)
  rw [List.length_map] at h1
  exact .lst (h1.le (Nat.mul_le_mul_right _ hm))
theorem Sh.pair {a b : Int} (h1 : -(10 ^ 18) < a) (h2 : a < 10 ^ 18) (h3 : -(10 ^ 18) < b) (h4 : b < 10 ^ 18) : Sh 2 (Dt.dat (rT (tc rI (t1 rI))) (a, b)) :=
  .tup (.cons (.int h1 h2) (.cons (.int h3 h4) .nil))
theorem Sh.fits {α : Type} {r : Rp α} [Dt r] {n : Nat} {x : α} (h : Sh n (Dt.dat r x)) (hn : 22 * n + 20 ≤ sizeLine) : ShwB r x := by
  have := PyData.shown_le_bulk 20 (by decide) _ h.l
  have h2 := Nat.mul_le_mul_left 22 h.b
  exact ⟨h.s, by unfold shw; omega⟩
end L3
namespace L3
theorem len_insS {α : Type} [DecidableEq α] {le : α → α → Bool} {x : α} : ∀ ys : List α, (insS le x ys).length ≤ ys.length + 1
  | [] => by simp [insS]
  | y :: ys => by
    unfold insS
    split
    · omega
    · split
      · simp
      · have := len_insS (le := le) (x := x) ys
        simp; exact this
theorem len_sortS {α : Type} [DecidableEq α] {le : α → α → Bool} : ∀ xs : List α, (sortS le xs).length ≤ xs.length
  | [] => by simp [sortS]
  | x :: xs => by
    have h1 := len_insS (le := le) (x := x) (sortS le xs)
    have h2 := len_sortS (le := le) xs
    show (insS le x (sortS le xs)).length ≤ _
    simp; omega
end L3
namespace L3
/-- a loop with the done part; J holds where it breaks or ends, Z of what is given back -/
theorem forP_end {α γ ρ : Type} {pb : γ → α → Prop} {f : γ → α → Res γ γ ρ} {q : γ → Prop} {k : γ → ρ} {Z : ρ → Prop} (I : List α → γ → Prop) (J : γ → Prop) (xs : List α) (c : γ) (st : ∀ pre y post c, xs = pre ++ y :: post → I pre c → pb c y ∧ ResI (I (pre ++ [y])) J Z (f c y)) (hJ : ∀ c, I xs c → J c) (h : I [] c) (hq : ∀ c, J c → q c ∧ Z (k c)) : forP pb f xs c ∧ sumP (forR f xs c) q ∧ Z (sumV (forR f xs c) k) := by
  obtain ⟨h1, h2⟩ := forP_ix I J Z xs c st hJ h
  match e : forR f xs c, h2 with
  | .inl x, h2 => exact ⟨h1, trivial, h2⟩
  | .inr c', h2 => exact ⟨h1, (hq c' h2).1, (hq c' h2).2⟩
end L3

namespace L3
open PySem L2

/-! ### the program's errors: OutOfRange(at) -/
structure IniB (si : Stmt) : Prop where
  ex : ∃ p1 p2 p3 m j p4 p5 p6 p7 p8 p9 p10, defBody si = [.Expr (.Call (.Attribute (.Name "ValueError" p1) "__init__" p2) [.Name "self" p3, .Constant (.str m) j p4] [] p5) p6, .Assign [.Attribute (.Name "self" p7) "at" p8] (.Name "at" p9) p10] ∧ ∀ env : Env, ∃ pl : Sem Bool,
    eval (.Call (.Attribute (.Name "ValueError" p1) "__init__" p2) [.Name "self" p3, .Constant (.str m) j p4] [] p5) env = (do
      let ov ← eval (.Name "ValueError" p1) env
      standAt p2.atName
      let (f, firsts) ← holding [ov] (getMethod ov "__init__" pl)
      callWith p5 f firsts (backTo p5 (starEach [.Name "self" p3, .Constant (.str m) j p4] env)) (backToKw p5 (keywordEach [] env)))
  sc : FnScope ["self", "at"] ["self", "at"] (defScope si)
  gv : glB (defScope si) "ValueError" = true
  v1 : visB (defScope si) "self" = true
  v2 : visB (defScope si) "at" = true
structure Exf (K : PySem.W.Frag) (mg : Str → Option Value) (si : Stmt) where
  C : Addr
  D : Addr
  fI : Addr
  fd : FuncData
  gC : mg "OutOfRange" = some (.ref C)
  gD : mg "SpoolboxError" = some (.ref D)
  T : OexC K C
  iC : PySem.W.findIn K (.ref C) "__init__" = some (some (.ref fI))
  tI : PySem.W.typeIn K (.ref fI) = some (.type "function")
  F1 : Fun K "__init__" "SpoolboxError.__init__" si fI fd
  bI : Binds K fd ["self", "at"] []
  na : PySem.W.findIn K (.ref C) "at" = some none
  ve : mg "ValueError" = none
  vV : PySem.W.findCls K (.type "ValueError") (.type "type") "__init__" = some (.val (.builtin "ValueError.__init__"))
  xf : XfC K C
  ec : ExcC K C
  cl : (PySem.W.clsIn K C).isSome = true
  ex : PySem.W.exmOne K (.ref C) (.ref D) = some true
  ki : PySem.W.kitOne K (.ref C) (.ref C) = some true
def spI (K : PySem.W.Frag) : Sp := fun vs H Q _ => ∃ (a C : Addr) (i : Int), vs = [.ref a, .int i] ∧ OexC K C ∧ PySem.W.findIn K (.ref C) "at" = some none ∧ H a = some (exo a C none) ∧ ∀ dx, H dx = none → dx ≠ a → Q .non (upd (upd H dx (exd dx [("at", .int i)])) a (exo a C (some dx)))
theorem ok_init {P : Program} {w : World} {K : PySem.W.Frag} {mg : Str → Option Value} {base : Heap} {si : Stmt} (X : Exf K mg si) (B : IniB si) : FnOk P w K mg base CX0 1 X.fI X.fd ["self", "at"] (spI K) := by
  refine X.F1.ok B.sc (fun vs H Q E h => by obtain ⟨a, C, i, rfl, _⟩ := h; rfl) fun cdv A outer s H vs Q E hr h => ?_
  obtain ⟨a, C, i, rfl, h1, h2, h3, h4⟩ := h
  obtain ⟨p1, p2, p3, m, j, p4, p5, p6, p7, p8, p9, p10, eb, ev⟩ := B.ex
  rw [eb]
  obtain ⟨pl, hc⟩ := ev (cxOf CX0 P w K mg base ["self", "at"] "SpoolboxError.__init__" (defScope si) X.fI cdv A outer s H E).nox.env
  have CC : CF (cxOf CX0 P w K mg base ["self", "at"] "SpoolboxError.__init__" (defScope si) X.fI cdv A outer s H E).nox ["self", "at"] (defScope si) := ⟨rfl, B.sc.nd, rfl, rfl, hr.units⟩
  have pv1 : ∀ p, PE (cxOf CX0 P w K mg base ["self", "at"] "SpoolboxError.__init__" (defScope si) X.fI cdv A outer s H E).nox (.Name "self" p) (tVar 0) := fun p => pe_var rfl (vis_of B.v1)
  have pv2 : ∀ p, PE (cxOf CX0 P w K mg base ["self", "at"] "SpoolboxError.__init__" (defScope si) X.fI cdv A outer s H E).nox (.Name "at" p) (tVar 1) := fun p => pe_var rfl (vis_of B.v2)
  refine ⟨_, pss_cons (ps_expr (pe_veinit (gl_cf CC B.gv) X.ve X.vV (pa_cons (pv1 p3) (pa_cons pe_str pa_nil)) (hc := hc))) (pss_cons (ps_ost (pv1 p7) (pv2 p9)) pss_nil), ?_⟩
  refine ⟨.ref a, rfl, a, C, _, rfl, (by decide : 1 ≤ 1000), h1, h3, .int i, rfl, .ref a, rfl, a, C, rfl, h1, h2, .inl ⟨h3, fun dx e1 e2 => h4 dx e1 e2⟩⟩

/-! ### what a def that may raise promises -/
def LetAt (X : Cx) (G : Hp) (a : Int) (W : WX) : Prop := ∀ (σ : St) (H : Hp) (C dd : Addr) (fs : List (Str × V)), σ.length = X.N.length → Same G H → X.mg "OutOfRange" = some (.ref C) → H dd = some (.xd fs) → fs.lookup ("at" : Str) = some (.int a) → W (.ref C) (some dd) σ H
def prX {ρ : Type} (r : Rp ρ) : Pr (Int ⊕ ρ) := ⟨fun X G O R x => match x with
    | .inr y => ∀ v H, Same G H → r.rep (hidO O H) v y → R v H
    | .inl a => ∃ W, Takes X W ∧ LetAt X G a W,
  fun {X G G' O R x} s h => match x, h with
    | .inr y, h => fun v H s2 q => h v H (s.trans s2) q
    | .inl a, ⟨W, t, (h : LetAt X G a W)⟩ => ⟨W, t, fun σ H C dd fs l s2 => h σ H C dd fs l (s.trans s2)⟩⟩
def spX {τ ρ : Type} (mg : Str → Option Value) (t : Tp τ) (rr : Rp ρ) (vc : τ → Prop) (f : τ → Int ⊕ ρ) : Sp := fun vs H Q E => ∃ (O : Addr → Bool) (x : τ), (∀ b, O b = true → H b ≠ none) ∧ t.rep (hidO O H) vs x ∧ vc x ∧
  match f x with
  | .inr y => ∀ v H', Same H H' → rr.rep (hidO O H') v y → Q v H'
  | .inl a => ∀ (H' : Hp) (C dd : Addr) (fs : List (Str × V)), Same H H' → mg "OutOfRange" = some (.ref C) → H' dd = some (.xd fs) → fs.lookup ("at" : Str) = some (.int a) → E (.ref C) (some dd) H'
section
variable {X : Cx} {N : List Str} {sc : Scope} {Γ : Gm} {γ δ ρ τ : Type} {e : Expr} {es : List Expr} {r0 : Rp ρ} {p q : Prop} {Γn : γ → Gm} {Γb : δ → Gm} {rest : List Stmt} {pos pos' np : Pos} {res : Res γ δ (Int ⊕ ρ)} {k j : Nat} {si : Stmt}
theorem bx_ret {x : ρ} (h : EvF X Γ e r0 p x) : Bl X Γ (.Return (some e) pos :: rest) Γn Γb (prX r0) p (.ret (.inr x)) := fun G O o σ H D hs hp kk =>
  ⟨_, pss_cons (ps_ret we) wb, h o σ H _ hs.es hp fun v H' s q => kk v H' (hs.same.trans s) (r0.mono (hs.hidO H') q)⟩
theorem bx_raise {a : Int} (XF : Exf X.K X.mg si) (B : IniB si) (C : CF X N sc) (C2 : CF2 X (k + 2)) (hg : glB sc "OutOfRange" = true) (h : EvF X Γ e rI p a) (hl : Γ.length = N.length := by rfl) (he : starEach [e] X.env = (false, eval e X.env) :: starEach [] X.env := by rfl) (hpl : (backTo pos (starEach [] X.env)).any (·.1) = false := by rfl) :
    Bl X Γ (.Raise (some (.Call (.Name "OutOfRange" np) [e] [] pos)) none pos' :: rest) Γn Γb (prX r0) p (.ret (.inl a)) := fun G O o σ H D hs hp kk => by
  obtain ⟨W, tk, hW⟩ := kk
  refine ⟨_, pss_cons (ps_raise C.calm tk (pmk_oex XF.T XF.iC XF.tI (ok_init XF B) (C2.rm.mono (by omega)) XF.bI .nil pass0 (gl_cf C hg) XF.gC (pa_cons we pa_nil he) (by decide) he hpl)) wb, ?_⟩
  refine h o σ H _ hs.es hp fun v H1 s1 q1 => ?_
  obtain rfl : v = .int a := q1
  refine ⟨(by decide : 1 ≤ 1000), fun b hb => ⟨b, XF.C, a, rfl, XF.T, XF.na, upd_same, fun dx e1 e2 => ?_⟩⟩
  have hd1 : H1 dx = none := by rwa [upd_ne e2] at e1
  refine ⟨rfl, dx, [("at", .int a)], upd_same, ?_, hd1, ?_⟩
  · rw [upd_ne e2, upd_same]
  · refine hW σ _ XF.C dx [("at", .int a)] (by rw [hs.sl.len, hl, C.hN]) (fun c u hc => ?_) XF.gC upd_same rfl
    have hc1 := s1 c u (hs.same c u hc)
    have n1 : c ≠ b := fun z => by rw [z, hb] at hc1; cases hc1
    have n2 : c ≠ dx := fun z => by rw [z, hd1] at hc1; cases hc1
    rw [upd_ne n2, del_ne n1, upd_ne n1, upd_ne n2, upd_ne n1]
    exact hc1
def thrR {γ δ ρ ζ : Type} (m : Int ⊕ ζ) (k : ζ → Res γ δ (Int ⊕ ρ)) : Res γ δ (Int ⊕ ρ) := match m with
  | .inl a => .ret (.inl a)
  | .inr y => k y
def thrP {ζ : Type} (m : Int ⊕ ζ) (q : ζ → Prop) : Prop := match m with
  | .inl _ => True
  | .inr y => q y
theorem thr_inl {ζ : Type} {m : Int ⊕ ζ} {a : Int} {k : ζ → Res γ δ (Int ⊕ ρ)} (h : m = .inl a) : thrR m k = .ret (.inl a) := by rw [h]; rfl
theorem thr_inr {ζ : Type} {m : Int ⊕ ζ} {y : ζ} {k : ζ → Res γ δ (Int ⊕ ρ)} (h : m = .inr y) : thrR m k = k y := by rw [h]; rfl
theorem pe_callA {f : Addr} {fd : FuncData} {ps : List Str} {sp : Sp} {z : Str} {t : TA} {W : WX} (F : FnG X.prog X.w X.K X.mg X.base (L2.CX X.prog X.w) j f fd ps sp) (hc : X.A.guards = some []) (hr : Room j X.A) (hg : Gl X z) (hm : X.mg z = some (.ref f)) (hk : PySem.W.keepIn X.K (.ref f) = true) (hb : Binds X.K fd ps []) (tk : Takes X W)
    (ha : PA X (e :: es) t) (hdb : (z == ("__debug__" : Str)) = false) (he : starEach (e :: es) X.env = (false, eval e X.env) :: starEach es X.env) (hpl : (backTo pos (starEach es X.env)).any (·.1) = false) :
    PE X (.Call (.Name z np) (e :: es) [] pos) (fun σ H Q => t σ H fun vs H1 => sp vs H1 Q (L2.WE W σ)) := by
  constructor
  intro pins s σ H Q I h
  apply wpAny_Call_Name_kw
  apply ld_glob I hg hm _ hdb
  refine PySem.W.callWith_K (h₀ := X.base) I.ok.mod.kin hk ?_ he hpl
  refine thn (ha.run pos pins s σ H _ I h) ?_
  rintro us s1 ⟨vs, H1, I1, rv, q⟩
  refine ⟨I1.kIn, ?_⟩
  have many : (us ++ []).length = ps.length := by rw [List.append_nil, ← rv.length, F.len _ _ _ _ q]
  have bd := hb s1 us I1.kIn many
  rw [List.append_nil] at bd
  have go := F.run X.A X.stack s1 H1 ⟨us, []⟩ us vs Q (L2.WE W σ) hc hr I1.env0 bd rv q
  apply wpAny_call
  apply codeAny_mono go
  rintro (x | fl) s' hq
  · exact L2.passAt tk σ pins H1 s1 x s' I1 hq
  · match fl, hq with
    | .ret u, hq => exact I1.after hq
section
variable {f : Addr} {fd : FuncData} {ps : List Str} {z : Str} {t : Tp τ} {ζ : Type} {r1 : Rp ζ} {vc : τ → Prop} {m : τ → Int ⊕ ζ} {x : τ}
/-- the call of a def that may raise, as a statement -/
theorem bx_call (F : FnG X.prog X.w X.K X.mg X.base (L2.CX X.prog X.w) j f fd ps (spX X.mg t r1 vc m)) (C : CF X N sc) (C2 : CF2 X k) (hjk : j ≤ k) (hg : glB sc z = true) (hm : X.mg z = some (.ref f)) (hk : PySem.W.keepIn X.K (.ref f) = true) (hb : Binds X.K fd ps [])
    (ha : EvA X Γ (e :: es) t p x) (h' : Bl X Γ rest Γn Γb (prX r0) q res) (hl : Γ.length = N.length := by rfl) (hdb : (z == ("__debug__" : Str)) = false := by decide) (he : starEach (e :: es) X.env = (false, eval e X.env) :: starEach es X.env := by rfl) (hpl : (backTo pos (starEach es X.env)).any (·.1) = false := by rfl)
    (hs : swapsWith (.Call (.Name z np) (e :: es) [] pos) none pos.line X.env = pure false := by rfl) :
    Bl X Γ (.Expr (.Call (.Name z np) (e :: es) [] pos) pos' :: rest) Γn Γb (prX r0) (p ∧ vc x ∧ thrP (m x) (fun _ => q)) (thrR (m x) (fun _ => res)) := fun G O o σ H D hS hp kk => by
  obtain ⟨hp1, hp2, hp3⟩ := hp
  match hx : m x with
  | .inl a =>
    rw [thr_inl hx] at kk
    obtain ⟨W, tk, hW⟩ := kk
    refine ⟨_, pss_cons (ps_expr (pe_callA F C2.gd (C2.rm.mono hjk) (gl_cf C hg) hm hk hb tk wa hdb he hpl) hs) wb, ?_⟩
    refine ha o σ H _ hS.es hp1 fun vs H1 s1 q1 => ⟨fun b => (o b).isSome, x, hS.al.mono s1, by rw [hidO_of]; exact q1, hp2, ?_⟩
    rw [hx]
    exact fun H' C' dd fs s2 e1 e2 e3 => hW σ H' C' dd fs (by rw [hS.sl.len, hl, C.hN]) ((hS.same.trans s1).trans s2) e1 e2 e3
  | .inr y =>
    rw [thr_inr hx] at kk
    rw [hx] at hp3
    refine ⟨_, pss_cons (ps_expr (pe_callG F C2.gd (C2.rm.mono hjk) (gl_cf C hg) hm hk hb .nil passL wa hdb he hpl) hs) wb, ?_⟩
    refine ha o σ H _ hS.es hp1 fun vs H1 s1 q1 => ⟨fun b => (o b).isSome, x, hS.al.mono s1, by rw [hidO_of, List.append_nil]; exact q1, hp2, ?_⟩
    rw [hx]
    exact fun v H' s2 _ => h' G O o σ H' D ((hS.mono s1).mono s2) hp3 kk
/-- .. handed on -/
theorem bx_retc {m : τ → Int ⊕ ρ} (F : FnG X.prog X.w X.K X.mg X.base (L2.CX X.prog X.w) j f fd ps (spX X.mg t r0 vc m)) (C : CF X N sc) (C2 : CF2 X k) (hjk : j ≤ k) (hg : glB sc z = true) (hm : X.mg z = some (.ref f)) (hk : PySem.W.keepIn X.K (.ref f) = true) (hb : Binds X.K fd ps [])
    (ha : EvA X Γ (e :: es) t p x) (hl : Γ.length = N.length := by rfl) (hdb : (z == ("__debug__" : Str)) = false := by decide) (he : starEach (e :: es) X.env = (false, eval e X.env) :: starEach es X.env := by rfl) (hpl : (backTo pos (starEach es X.env)).any (·.1) = false := by rfl) :
    Bl X Γ (.Return (some (.Call (.Name z np) (e :: es) [] pos)) pos' :: rest) Γn Γb (prX r0) (p ∧ vc x) (.ret (m x)) := fun G O o σ H D hS hp kk => by
  obtain ⟨hp1, hp2⟩ := hp
  match hx : m x with
  | .inl a =>
    rw [hx] at kk
    obtain ⟨W, tk, hW⟩ := kk
    refine ⟨_, pss_cons (ps_ret (pe_callA F C2.gd (C2.rm.mono hjk) (gl_cf C hg) hm hk hb tk wa hdb he hpl)) wb, ?_⟩
    refine ha o σ H _ hS.es hp1 fun vs H1 s1 q1 => ⟨fun b => (o b).isSome, x, hS.al.mono s1, by rw [hidO_of]; exact q1, hp2, ?_⟩
    rw [hx]
    exact fun H' C' dd fs s2 e1 e2 e3 => hW σ H' C' dd fs (by rw [hS.sl.len, hl, C.hN]) ((hS.same.trans s1).trans s2) e1 e2 e3
  | .inr y =>
    rw [hx] at kk
    refine ⟨_, pss_cons (ps_ret (pe_callG F C2.gd (C2.rm.mono hjk) (gl_cf C hg) hm hk hb .nil passL wa hdb he hpl)) wb, ?_⟩
    refine ha o σ H _ hS.es hp1 fun vs H1 s1 q1 => ⟨fun b => (o b).isSome, x, hS.al.mono s1, by rw [hidO_of, List.append_nil]; exact q1, hp2, ?_⟩
    rw [hx]
    exact fun v H' s2 q2 => kk v H' ((hS.same.trans s1).trans s2) (r0.mono (hS.hidO H') (by rw [hidO_of] at q2; exact q2))
end
end
/-! ### defs that may raise -/
theorem spX_len {τ ρ : Type} {mg : Str → Option Value} {t : Tp τ} {rr : Rp ρ} {vc : τ → Prop} {f : τ → Int ⊕ ρ} {ps : List Str} (h : ps.length = t.n) : ∀ vs H Q E, spX mg t rr vc f vs H Q E → vs.length = ps.length := by
  rintro vs H Q E ⟨O, x, _, h2, _⟩
  rw [t.len h2, h]
theorem stt_start {N ps : List Str} {τ : Type} {t : Tp τ} {g Γ0 : τ → Gm} {x : τ} {vs : List V} {H : Hp} {O : Addr → Bool} (hn : ps.length = t.n) (ag : ArgS t g) (hΓ : ∀ x, Γ0 x = g x ++ List.replicate (N.length - ps.length) .junk) (h1 : ∀ b, O b = true → H b ≠ none) (h2 : t.rep (hidO O H) vs x) :
    Stt H O (Γ0 x) (fun b => if O b = true then some 1000 else none) (L2.start N vs) H := by
  have hl : vs.length = ps.length := by rw [t.len h2, hn]
  refine ⟨?_, Same.refl _, ?_, ?_, ?_⟩
  · rw [hΓ]
    unfold L2.start
    rw [hl]
    refine slots_start ⟨by rw [List.length_map, ag.len, hl, hn], fun i sv e => ?_⟩ _
    obtain ⟨v, e1, e2⟩ := ag.ok i sv h2 e
    exact ⟨some v, by rw [List.getElem?_map, e1]; rfl, e2 i⟩
  · intro b hb
    apply h1
    cases q : O b with
    | true => rfl
    | false =>
      have hb : (if O b = true then some 1000 else none : Option Nat).isSome = true := hb
      rw [q] at hb; cases hb
  · intro b hb
    exact if_pos hb
  · intro b j hb
    have hb : (if O b = true then some 1000 else none : Option Nat) = some j := hb
    split at hb
    · rename_i w
      cases hb
      exact .inr ⟨rfl, w⟩
    · cases hb
def endR {ρ : Type} : Res Empty Empty (Int ⊕ ρ) → Int ⊕ ρ
  | .ret x => x
def endN : Res Unit Empty (Int ⊕ Unit) → Int ⊕ Unit
  | .ret x => x
  | .nx _ => .inr ()
section
variable {P : Program} {w : World} {K : PySem.W.Frag} {mg : Str → Option Value} {base : Heap} {k : Nat} {fa : Addr} {nm qual : Str} {st : Stmt} {fd : FuncData} {N ps : List Str} {τ ρ : Type} {t : Tp τ} {rr : Rp ρ} {vc : τ → Prop} {g : τ → Gm} {Γ0 : τ → Gm} {Γe : Gm}
theorem fn_mkX {f : τ → Res Empty Empty (Int ⊕ ρ)} (F : Fun K nm qual st fa fd) (S : FnScope N ps (defScope st)) (hn : ps.length = t.n) (ag : ArgS t g) (hΓ : ∀ x, Γ0 x = g x ++ List.replicate (N.length - ps.length) .junk)
    (hbody : ∀ X : Cx, X.prog = P → X.w = w → X.K = K → X.mg = mg → X.base = base → CF X N (defScope st) → CF2 X k → (∀ z, X.fn z = true) → ∀ x, Bl (γ := Empty) (β := Empty) X (Γ0 x) (defBody st) (fun c => c.elim) (fun c => c.elim) (prX rr) (vc x) (f x)) :
    FnG P w K mg base (L2.CX P w) (k + 1) fa fd ps (spX mg t rr vc (fun x => endR (f x))) := by
  refine fn_ofG F S (spX_len hn) fun cdv A outer s H vs Q E hg hr ⟨O, x, h1, h2, h3, h4⟩ => ?_
  refine ⟨_, wb, hbody (cxOf (L2.CX P w) P w K mg base N qual (defScope st) fa cdv A outer s H E) rfl rfl rfl rfl rfl ⟨rfl, S.nd, rfl, rfl, hr.units⟩ ⟨hg, hr, passes_of rfl⟩ (fun _ => rfl) x H O _ _ H _ (stt_start hn ag hΓ h1 h2) h3 ?_⟩
  match e : f x with
  | .ret (.inr y) => simp only [e] at h4; exact h4
  | .ret (.inl a) =>
    simp only [e] at h4
    exact ⟨_, takes_of rfl rfl rfl rfl, fun σ H' C dd fs _ s2 e1 e2 e3 => h4 H' C dd fs s2 e1 e2 e3⟩
theorem fn_mkXN {f : τ → Res Unit Empty (Int ⊕ Unit)} (F : Fun K nm qual st fa fd) (S : FnScope N ps (defScope st)) (hn : ps.length = t.n) (ag : ArgS t g) (hΓ : ∀ x, Γ0 x = g x ++ List.replicate (N.length - ps.length) .junk)
    (hbody : ∀ X : Cx, X.prog = P → X.w = w → X.K = K → X.mg = mg → X.base = base → CF X N (defScope st) → CF2 X k → (∀ z, X.fn z = true) → ∀ x, Bl (γ := Unit) (β := Empty) X (Γ0 x) (defBody st) (fun _ => Γe) (fun c => c.elim) (prX rN) (vc x) (f x)) :
    FnG P w K mg base (L2.CX P w) (k + 1) fa fd ps (spX mg t rN vc (fun x => endN (f x))) := by
  refine fn_ofG F S (spX_len hn) fun cdv A outer s H vs Q E hg hr ⟨O, x, h1, h2, h3, h4⟩ => ?_
  refine ⟨_, wb, hbody (cxOf (L2.CX P w) P w K mg base N qual (defScope st) fa cdv A outer s H E) rfl rfl rfl rfl rfl ⟨rfl, S.nd, rfl, rfl, hr.units⟩ ⟨hg, hr, passes_of rfl⟩ (fun _ => rfl) x H O _ _ H _ (stt_start hn ag hΓ h1 h2) h3 ?_⟩
  match e : f x with
  | .ret (.inr y) => simp only [e] at h4; exact h4
  | .ret (.inl a) =>
    simp only [e] at h4
    exact ⟨_, takes_of rfl rfl rfl rfl, fun σ H' C dd fs _ s2 e1 e2 e3 => h4 H' C dd fs s2 e1 e2 e3⟩
  | .nx c =>
    simp only [e] at h4
    exact fun o σ H' hS => h4 .non H' hS.same rfl
end
end L3

namespace L3
open PySem L2

/-! ### try: .. except SpoolboxError as e: return (isinstance(e, OutOfRange), e.at) -/
def rIsD (K : PySem.W.Frag) (C a : Addr) : List V → Hp → VK → Prop := fun xs H Q => ∃ (dd : Addr) (fs : List (Str × V)) (c : V) (cv : Value) (b : Bool), xs = [.ref a, c] ∧ H dd = some (.xd fs) ∧ (∀ u, RelV c u → u = cv) ∧ PySem.W.kitOne K (.ref C) cv = some b ∧ Q (.bl b) H
theorem call_isD {X : Cx} {a C dd : Addr} {oe : Obj} {pn : List (Addr × Obj)} (T : ExcC X.K C) (hcl : (PySem.W.clsIn X.K C).isSome = true) (hz : Zc (.ref C) (some dd) oe) (hf : ∃ vs, oe.data = .fields vs) :
    CallR (X.suite a ((a, oe) :: pn)) (.builtin "isinstance") (fun xs H Q => ∃ (fs : List (Str × V)) (c : V) (cv : Value) (b : Bool), xs = [.ref a, c] ∧ H dd = some (.xd fs) ∧ (∀ u, RelV c u → u = cv) ∧ PySem.W.kitOne X.K (.ref C) cv = some b ∧ Q (.bl b) H) := by
  intro pins s σ H xs us Q I r h
  obtain ⟨fs, c, cv, b, rfl, ea, hcv, e, q⟩ := h
  match us, r with
  | [u1, u2], .cons rx (.cons rt .nil) =>
    obtain rfl : u1 = Value.ref a := rx
    obtain rfl := hcv u2 rt
    obtain ⟨hget, _⟩ := I.pin (a, oe) (List.mem_append_left _ List.mem_cons_self)
    obtain ⟨vs, hv⟩ := hf
    have hx : ObjOk X.prog X.w H s.heap dd (.xd fs) := I.hok dd _ ea
    obtain ⟨mA, hns, hr⟩ := hx
    obtain ⟨od, ho, hl⟩ := lookIn_ns hns
    have J : PySem.W.InstAt s.heap a oe C (some od) := ⟨hget, hz.1, (by unfold PySem.W.notCls; rw [hv]), (by rw [hz.2]; exact ho)⟩
    exact PySem.W.kia_one (PySem.W.kitx_exc hcl T.hg T.hk T.hs T.ha T.hn T.ht T.hm) I.kIn J e (fun z => nomatch z) fun tk => ⟨.bl b, H, I.kept (t' := tk) fun _ _ z => z, rfl, q⟩
def rE : Rp Empty := ⟨fun _ _ x => x.elim, fun {_ _ _ x} _ _ => x.elim⟩
def tryV : Res Unit Empty (Int ⊕ Empty) → Option (Bool × Int)
  | .nx _ => none
  | .ret (.inl a) => some (true, a)
/-- X runs a def's body itself -/
structure CF3 (X : Cx) : Prop where
  stk : X.stack = X.env :: X.outer
  frm : X.env.frame = some X.env.locals
section
variable {X : Cx} {N : List Str} {sc : Scope} {Γ Γj : Gm} {k : Nat} {si : Stmt} {body : List Stmt} {n : Str} {i kk0 j0 : Nat} {pb : Prop} {rb : Res Unit Empty (Int ⊕ Empty)} {np p1 p2 p3 p4 p5 p6 p7 p8 p9 p10 hp pos : Pos}
theorem bt_try (XF : Exf X.K X.mg si) (C : CF X N sc) (C2 : CF2 X k) (S : CF3 X) (hi : N[i]? = some n) (hl : sc.names.lookup n = some .local) (hD : glB sc "SpoolboxError" = true) (hC : glB sc "OutOfRange" = true) (hI : glB sc "isinstance" = true) (hmi : X.mg "isinstance" = none) (hd : (n == ("__debug__" : Str)) = false) (hcd : (n == ("__classdict__" : Str)) = false)
    (hG : Γ.length = N.length)
    (hb : ∀ pn xe, PassesOwn (model X.prog X.w) X.A X.env xe → Bl (γ := Unit) (β := Empty) (X.tr pn xe) Γ body (fun _ => Γj) (fun c => c.elim) (prX rE) pb rb) :
    Bt X Γ (.Try body [.ExceptHandler (some (.Name "SpoolboxError" np)) (some n) [.Return (some (.Tuple [.Call (.Name "isinstance" p1) [.Name n p2, .Name "OutOfRange" p3] [] p4, .Attribute (.Name n p5) "at" p6] kk0 p7)) p8] hp] [] [] pos :: [.Return (some (.Constant .none j0 p9)) p10]) (prN (rO (rT (tc rB (t1 rI))))) pb (tryV rb) := fun G O o σ H D hS hpb kk => by
  have hv : Vis X.env.scope n := by rw [C.hS]; exact .inl hl
  have hN : X.N[i]? = some n := by rw [C.hN]; exact hi
  refine ⟨_, pss_cons (ps_try_as (c := .ref XF.D) (Wout := fun _ _ _ _ => False) (tb := fun W D σ H => ∀ pn xe, Takes (X.tr pn xe) W → PassesOwn (model X.prog X.w) X.A X.env xe → WB (X.tr pn xe) body D σ H)
      (ts := fun a cls d D σ H => ∀ oe pn, Zc cls d oe → (∃ vs, oe.data = .fields vs) → WB (X.suite a ((a, oe) :: pn)) _ D σ H) S.stk S.frm (by rw [C.hN]; exact C.nd) hN (by unfold Env.kindOf; rw [C.hS]; exact hl) ⟨gl_cf C hD, by decide, .inl XF.gD⟩ takes0
      (fun W pn xe tk po => ⟨fun pins s σ H D I h => wb.run pins s σ H D I (h pn xe tk po)⟩) (fun a oe cls d pn hz hf => ⟨fun pins s σ H D I h => wb.run pins s σ H D I (h oe pn hz hf)⟩)) wb, ?_⟩
  intro pn xe tk po
  obtain ⟨k1, k2⟩ := keep_stt hS
  refine hb pn xe po _ O o σ H _ k1 hpb ?_
  match rb, kk with
  | .nx _, kk =>
    intro o2 σ2 H2 hS2
    exact (bl_ret (r0 := rO (rT (tc rB (t1 rI)))) (Γ := Γj) (rest := []) (Γn := fun c : Empty => c.elim) (Γb := fun c : Empty => c.elim) (ev_none (r := rT (tc rB (t1 rI))))) G O o2 σ2 H2 D (hS2.weak k2) trivial kk
  | .ret (.inl a), kk =>
    refine ⟨_, tk, fun σ2 H2 C2 dd fs hlen s2 e1 e2 e3 => ?_⟩
    have eC : C2 = XF.C := by
      have e := (show X.mg "OutOfRange" = some (.ref C2) from e1).symm.trans XF.gC
      cases e; rfl
    subst eC
    refine ⟨true, XF.ex, fun _ b hb0 => fun oe pn2 hz hf => ?_, fun z => Bool.noConfusion z⟩
    have hlt : i < σ2.length := by
      rw [hlen]
      rcases Nat.lt_or_ge i X.N.length with h | h
      · exact h
      · rw [List.getElem?_eq_none h] at hN; cases hN
    have hget : (σ2.set i (some (V.ref b)))[i]? = some (some (V.ref b)) := by rw [List.getElem?_set, if_pos rfl, if_pos hlt]
    have g1 : Gl X "isinstance" := gl_cf C hI
    have g2 : Gl X "OutOfRange" := gl_cf C hC
    refine ⟨_, pss_cons (ps_ret (pe_tup (pa_cons (pe_callB (call_isD XF.ec XF.cl hz hf) g1 hmi PyProof.Rows.boot_isinstance (pa_cons (pe_var hN hv hd hcd) (pa_cons (pe_glob (v := .ref XF.C) g2 XF.gC rfl) pa_nil))) (pa_cons (pe_xf XF.xf XF.na hz hf (pe_var hN hv hd hcd)) pa_nil)))) wb, ?_⟩
    refine ⟨.ref b, hget, fs, .ref XF.C, .ref XF.C, true, rfl, e2, fun u hu => hu, XF.ki, .ref b, hget, rfl, rfl, dd, fs, .int a, rfl, e2, e3, (by decide : 2 ≤ sizeLine), fun p hp0 => ?_⟩
    refine kk _ _ ((k2.trans s2).trans (same_upd hp0)) ⟨fun z => V.noConfusion z, p, _, rfl, hid_mk ?_ upd_same, .bl true, [.int a], rfl, rfl, .int a, rfl, rfl⟩
    cases q : O p with
    | false => rfl
    | true =>
      have h1 := hS.out p q
      have h2 := hS.al p (by rw [h1]; rfl)
      match q2 : H p with
      | none => exact (h2 q2).elim
      | some u =>
        have h3 : keepH o H p = some u := by unfold keepH; rw [h1]; exact q2
        rw [s2 p u h3] at hp0; cases hp0
end
/-- a def with a try -/
theorem fn_mkT {P : Program} {w : World} {K : PySem.W.Frag} {mg : Str → Option Value} {base : Heap} {k : Nat} {fa : Addr} {nm qual : Str} {st : Stmt} {fd : FuncData} {N ps : List Str} {τ ρ : Type} {t : Tp τ} {rr : Rp ρ} {vc : τ → Prop} {f : τ → ρ} {g : τ → Gm} {Γ0 : τ → Gm}
    (F : Fun K nm qual st fa fd) (S : FnScope N ps (defScope st)) (hn : ps.length = t.n) (ag : ArgS t g) (hΓ : ∀ x, Γ0 x = g x ++ List.replicate (N.length - ps.length) .junk)
    (hbody : ∀ X : Cx, X.prog = P → X.w = w → X.K = K → X.mg = mg → X.base = base → CF X N (defScope st) → CF2 X k → CF3 X → (∀ z, X.fn z = true) → ∀ x, Bt X (Γ0 x) (defBody st) (prN rr) (vc x) (f x)) :
    FnG P w K mg base CX0 (k + 1) fa fd ps (spF t rr vc f) := by
  refine fn_ofG F S (spF_len hn) fun cdv A outer s H vs Q E hg hr ⟨O, x, h1, h2, h3, h4⟩ => ?_
  refine ⟨_, PSs.nox wb, ?_⟩
  exact hbody (cxOf CX0 P w K mg base N qual (defScope st) fa cdv A outer s H E).nox rfl rfl rfl rfl rfl ⟨rfl, S.nd, rfl, rfl, hr.units⟩ ⟨hg, hr, PassesOwn.never⟩ ⟨rfl, rfl⟩ (fun _ => rfl) x H O _ _ H _ (stt_start hn ag hΓ h1 h2) h3 h4
section
variable {X : Cx} {N : List Str} {sc : Scope}
theorem cf_tr (C : CF X N sc) {pn : List (Addr × Obj)} {xe : Value → Shared → Prop} : CF (X.tr pn xe) N sc := ⟨C.hN, C.nd, C.hS, C.calm, C.hu⟩
theorem cf2_tr {k : Nat} (C2 : CF2 X k) {pn : List (Addr × Obj)} {xe : Value → Shared → Prop} (po : PassesOwn (model X.prog X.w) X.A X.env xe) : CF2 (X.tr pn xe) k := ⟨C2.gd, C2.rm, po⟩
end
end L3

namespace L3
open PySem L2
section
variable {X : Cx} {Γ : Gm} {α : Type} {r : Rp α} {p p' : Prop} {e : Expr} {es : List Expr} {xs ys : List α} {pos sp : Pos}
theorem es_star (ha : EvC X Γ e r p xs) (hb : EvEs X Γ es r p' ys) (h1 : starEach (.Starred e sp :: es) X.env = (true, eval e X.env) :: starEach es X.env := by rfl) : EvEs X Γ (.Starred e sp :: es) r (p ∧ p') (xs ++ ys) := fun o σ H Q hs hp k =>
  ⟨_, StX.pa_star we wa h1, ha o σ H _ hs hp.1 fun a ws H1 s1 q0 q1 => ⟨a, ws, rfl, .inr q0, hb o σ H1 _ (hs.mono s1) hp.2 fun vs H2 s2 q2 => k (ws ++ vs) H2 (s1.trans s2) ((q1.imp fun _ _ q => r.mono (hid_same s2) q).app q2)⟩⟩
theorem en_listS (ha : EvEs X Γ es r p xs) : EvN X Γ (.List es pos) (moL r) (p ∧ xs.length ≤ sizeLine) xs := fun o σ H Q hs hp k => by
  refine ⟨_, pe_lst wa, ha o σ H _ hs hp.1 fun vs H1 s1 q1 => ⟨by rw [q1.len]; exact hp.2, fun a na => ?_⟩⟩
  exact k a _ _ (s1.trans (same_upd na)) (s1.free na) upd_same ⟨vs, rfl, q1.imp fun _ _ q => r.mono (hid_new na) q⟩
end
end L3

/-! set(l), l a list of whole numbers: as a set that can be walked (the library has it for a tuple of them) -/
namespace L3S
open PySem PySem.Calls PySem.Spec PyProof.Rows L2 PySem.W
section
variable {P : Program} {w : World} {A : Around} {E : Value → Shared → Prop} {s : Shared}
def emp (w : World) : Obj := { cls := .type "set", dict := none, data := .set #[] 0 (.fresh 0 0 (!w.params.followText "set-order")) }
def LikeSet (P : Program) (w : World) (s : Shared) (ns : List Int) (h' : Heap) (c : Nat) : Prop := SetR w h' s.heap.objs.size (fun j => decide (j ∈ ns)) c ∧ c ≤ ns.length ∧ ∀ b o, s.heap.get? b = some o → h'.get? b = some o
set_option maxHeartbeats 3200000 in
theorem set_of_list {l : Addr} {its : Array Value} (ns : List Int) {Q : Value → Shared → Prop} (hd : A.handled = none) (hl : s.heap.IsList l its) (hints : IntsAre its.toList ns) (few : ns.length + 1 < scanBound)
    (k : ∀ (h' : Heap) (tk c : Nat), LikeSet P w s ns h' c → Q (.ref s.heap.objs.size) { s with heap := h', toks := tk }) :
    wpAny (model P w) A (call (.type "set") [.ref l]) Q E s := by
  have sz : its.size = ns.length := by have q := IntsAre.length hints; rwa [Array.length_toList] at q
  obtain ⟨c0, tl0, mro0⟩ := F.called_set.mro
  have md := F.called_set.made; have sb := F.called_set.sub; have nt := F.called_set.notType; have cc := F.called_set.canCreate; have tc := F.typeCall_set_1 (.ref l)
  refine wpAny_call (codeAny_of_tree (show wpAny _ _ (callAny (.type "set") _) _ _ _ from wpAny_pure ⟨Code.quiet_builtin _ (by decide +kernel), codeAny_builtin F.entry_type_call ?_⟩))
  rw [Around.under_plain (weight_type_call_type "set" [.ref l] []) rfl]
  repeat (any_goals (first | assumption | wp_step))
  refine codeAny_mono (code_set_led1 (.ref l) (E := E) (Q₁ := fun ob s₁ => ob = .ref s.heap.objs.size ∧ s₁ = { s with heap := s.heap.push (emp w) }) ⟨rfl, rfl⟩) fun r s₁ hr => ?_
  match r, hr with
  | .error e, hr => exact hr
  | .ok (.ret ob), ⟨e1, e2⟩ =>
    subst e1 e2
    have new : (s.heap.push (emp w)).get? s.heap.objs.size = some (emp w) := Heap.get?_push_size _ rfl
    have ty : Shared.TypeIs { s with heap := s.heap.push (emp w) } (.ref s.heap.objs.size) "set" := ⟨_, new, rfl⟩
    have il := F.called_set.init.lookup; have ib := F.called_set.init.bind (.ref s.heap.objs.size)
    repeat (any_goals (first | assumption | wp_step))
    refine codeAny_mono (codeAny_call_builtin (R := wants (fun r s₂ => r = .none ∧ ∃ h' tk c, s₂ = { s with heap := h', toks := tk } ∧ LikeSet P w s ns h' c) E) F.called_set.init.plain F.entry_set_init (check_set_init_1 ty ?_)) fun r₂ s₂ hr₂ => ?_
    · obtain ⟨⟨lc, ld, ldt, ls⟩, lat, lcl, n0, lda⟩ := hl
      simp only at lcl lda; subst lcl lda
      have lat' : (s.heap.push (emp w)).get? l = some { cls := .type "list", dict := ld, data := .seq its n0, slots := ls } := Heap.get?_push_of_some _ lat
      have q1 := F.sub_list_set; have q2 := F.sub_list_frozenset
      have q3 : (Value.type "list" == Value.type "dict") = false := by decide
      have il1 : (s.heap.push (emp w)).IsList l its := ⟨_, lat', rfl, n0, rfl⟩
      have big : l < s.heap.objs.size := Heap.lt_size lat
      have calm3 : A.in1.in1.in1.handled = none := by simp [hd]
      have far : l ≠ (s.heap.push (emp w)).objs.size := by rw [Heap.size_push]; exact Nat.ne_of_lt (Nat.lt_succ_of_lt big)
      have apart : s.heap.objs.size ∉ [(s.heap.push (emp w)).objs.size, l] := by
        rw [Heap.size_push]; simp only [List.mem_cons, List.not_mem_nil, or_false, not_or]; exact And.intro (Nat.ne_of_lt (Nat.lt_succ_self _)) (Nat.ne_of_gt big)
      have vals : ∀ (i : Nat) (v : Value), its[i]? = some v → ∃ k t, ns[i]? = some k ∧ v = .int k t := fun i v hv => by
        have hi : i < ns.length := by have := (Array.getElem?_eq_some_iff.mp hv).1; omega
        obtain ⟨t, e⟩ := IntsAre.int_at hints i v (by rwa [Array.getElem?_toList])
        exact ⟨ns[i], t, List.getElem?_eq_getElem hi, by rw [e, List.getD_eq_getElem?_getD, List.getElem?_eq_getElem hi]; rfl⟩
      unfold Builtin.«set.__init__» noKeywords Builtin.Frozenset.updateFrom; generalize hPI : pyIter = PI
      wp_walk
      subst hPI
      refine wpAny_pyIter_list il1 (wpAny_bind (wpAny_runValue ?_))
      refine set_update_ints ((Walks.list calm3 _ l far its).toS) s.heap.objs.size apart ns sz few vals (its.size - 0) 0 _ (by omega) (Nat.zero_le _) ⟨⟨_, Heap.get?_push_size _ rfl, rfl, rfl⟩, il1.push _⟩ ⟨0, Nat.le_refl 0, setR_new_at (Heap.get?_push_of_some _ new)⟩ ?fin
      case fin =>
        rintro ⟨h', g2, d', tk', os'⟩ c' mv lc' like
        obtain rfl : g2 = s.gens := mv.gens
        obtain rfl : d' = s.drawn := mv.drawn
        obtain rfl : os' = s.os := mv.os
        refine (show wpAny _ _ _ _ _ _ from wpAny_pure (show wpAny _ _ (ret Value.none) _ _ _ from wpAny_pure ⟨rfl, h', tk', c', rfl, like, by omega, fun b o e => ?_⟩))
        have b0 : b < s.heap.objs.size := Heap.lt_size e
        refine mv.heap b o ?_ (Heap.get?_push_of_some _ (Heap.get?_push_of_some _ e))
        rw [Heap.size_push]; simp only [List.mem_cons, List.not_mem_nil, or_false, not_or]; exact And.intro (Nat.ne_of_lt b0) (Nat.ne_of_lt (Nat.lt_succ_of_lt b0))
    · match r₂, hr₂ with
      | .error e, hr₂ => exact hr₂
      | .ok (.ret _), ⟨e3, h', tk, c', e4, like⟩ =>
        subst e3 e4
        repeat (any_goals (first | assumption | wp_step))
        exact k _ _ _ like
end
end L3S

namespace L3
open PySem L2
def rSetL (K : PySem.W.Frag) (w : World) : List V → Hp → VK → Prop := fun vs H Q => ∃ (l : Addr) (ns : List Int), vs = [.ref l] ∧ SqL K H l (ns.map V.int) ∧ ns.length < 64 ∧ ∀ (n : Nat) (p : Addr), H p = none → n ≤ ns.length → Q (.ref p) (upd H p (SetO w p (fun j => decide (j ∈ ns)) n))
theorem cr_setL {X : Cx} (hc : X.calm = true) : CallR X (.type "set") (rSetL X.K X.w) := by
  intro pins s σ H vs us Q I r h
  obtain ⟨l, ns, rfl, hl, h64, q⟩ := h
  rw [Vals.ref1 r]
  obtain ⟨its, rv, pl, hz⟩ := I.list hl
  refine L3S.set_of_list ns (I.ok.hd hc) pl.isList (by simpa using rv.ints) (by unfold scanBound; omega) fun h' tk c ⟨R, hcn, hk⟩ => ?_
  exact ⟨.ref s.heap.objs.size, _, I.laid (t' := tk) hk (Nat.le_refl _) (setO_new R), rfl, q c _ (I.hok.fresh (Nat.le_refl _)) hcn⟩
theorem sortSet_of {ns out : List Int} (h1 : out.Pairwise (· < ·)) (h2 : ∀ k, k ∈ out ↔ k ∈ ns) : out = sortSet ns := by
  have tr : ∀ a b c : Int, leI a b = true → leI b c = true → leI a c = true := fun a b c h1 h2 => by simp at *; omega
  have tot : ∀ a b : Int, (leI a b || leI b a) = true := fun a b => by simp; omega
  have anti : ∀ a b : Int, leI a b = true → leI b a = true → a = b := fun a b h1 h2 => by simp at *; omega
  have hs := sort_srt tr tot anti ns
  have go : ∀ xs ys : List Int, xs.Pairwise (· < ·) → ys.Pairwise (· < ·) → (∀ k, k ∈ xs ↔ k ∈ ys) → xs = ys := by
    intro xs
    induction xs with
    | nil => intro ys _ _ h; cases ys with
      | nil => rfl
      | cons y ys => exact absurd ((h y).mpr List.mem_cons_self) (by simp)
    | cons x xs ih =>
      intro ys hx hy h
      cases ys with
      | nil => exact absurd ((h x).mp List.mem_cons_self) (by simp)
      | cons y ys =>
        have hx' := List.pairwise_cons.mp hx
        have hy' := List.pairwise_cons.mp hy
        have e : x = y := by
          rcases List.mem_cons.mp ((h x).mp List.mem_cons_self) with q | q
          · exact q
          · rcases List.mem_cons.mp ((h y).mpr List.mem_cons_self) with q2 | q2
            · exact q2.symm
            · have := hx'.1 y q2
              have := hy'.1 x q
              omega
        subst e
        rw [ih ys hx'.2 hy'.2 fun k => ?_]
        constructor
        · intro hk
          rcases List.mem_cons.mp ((h k).mp (List.mem_cons_of_mem _ hk)) with q | q
          · have := hx'.1 k hk; omega
          · exact q
        · intro hk
          rcases List.mem_cons.mp ((h k).mpr (List.mem_cons_of_mem _ hk)) with q | q
          · have := hy'.1 k hk; omega
          · exact q
  exact go _ _ h1 (hs.imp fun {a b} h => by have := h.1; have := h.2; simp at *; omega) fun k => by rw [h2, mem_sortS]
section
variable {X : Cx} {N : List Str} {sc : Scope} {Γ : Gm} {e : Expr} {p : Prop} {ns : List Int} {np np2 pos pos2 : Pos}
theorem en_sortSet (C : CF X N sc) (hg : glB sc "sorted" = true) (hm : X.mg "sorted" = none) (hg2 : glB sc "set" = true) (hm2 : X.mg "set" = none) (ha : EvC X Γ e rI p ns)
    (he : starEach [e] X.env = (false, eval e X.env) :: starEach [] X.env := by rfl) (he2 : starEach [.Call (.Name "set" np2) [e] [] pos2] X.env = (false, eval (.Call (.Name "set" np2) [e] [] pos2) X.env) :: starEach [] X.env := by rfl)
    (hpl : (backTo pos (starEach [] X.env)).any (·.1) = false := by rfl) (hpl2 : (backTo pos2 (starEach [] X.env)).any (·.1) = false := by rfl) :
    EvN X Γ (.Call (.Name "sorted" np) [.Call (.Name "set" np2) [e] [] pos2] [] pos) (moL rI) (p ∧ ns.length < 64) (sortSet ns) := fun o σ H Q hS hp kk => by
  refine ⟨_, pe_callB (cr_sortedSet C.calm) (gl_cf C hg) hm (by decide +kernel) (pa_cons (pe_callTy (cr_setL C.calm) (gl_cf C hg2) hm2 (by decide +kernel) (pa_cons we pa_nil he) (by decide) (by decide) he hpl2) pa_nil he2) (by decide) (by decide) he2 hpl, ?_⟩
  refine ha o σ H _ hS hp.1 fun l ws H1 s1 q1 q2 => ⟨l, ns, rfl, by rw [← al_int q2]; exact q1, hp.2, fun n a na hn => ⟨a, _, n, rfl, upd_same, by omega, fun out b h1 h2 h3 nb => ?_⟩⟩
  have s2 : Same H1 (upd H1 a (SetO X.w a (fun j => decide (j ∈ ns)) n)) := same_upd na
  refine kk b _ _ ((s1.trans s2).trans (same_upd nb)) ((s1.trans s2).free nb) upd_same ⟨_, rfl, ?_⟩
  have e : out = sortSet ns := sortSet_of h1 fun k => by simp [h2]
  subst e
  exact al_ints _
end
end L3
namespace L3
open PySem L2
theorem oex_mk {K : PySem.W.Frag} {C : Addr} {o : Obj} (l : K.lookup C = some o) (q : ∃ nm q N bs bm sn sub ab col dd k0 k1 k2 k3 k5, o = excClassObj nm q C N bs bm true sn sub ab col dd k0 k1 k2 k3 k5 "ValueError.__new__" ∧ PySem.HandSPX.refsVE bm = true)
    (s1 : PySem.W.findIn K (.ref C) "__setattr__" = some (some (.builtin "object.__setattr__"))) (s2 : PySem.W.subIn K (.ref C) (.type "BaseException") = some true) (s3 : PySem.W.typeIn K (.ref C) = some (.type "type")) (s4 : PySem.W.keepIn K (.ref C) = true) : OexC K C := by
  obtain ⟨nm, q, N, bs, bm, sn, sub, ab, col, dd, k0, k1, k2, k3, k5, rfl, r⟩ := q
  exact ⟨⟨nm, q, N, bs, bm, sn, sub, ab, col, dd, k0, k1, k2, k3, k5, l, r⟩, s1, s2, s3, s4⟩
theorem exf_mk {K : PySem.W.Frag} {h : Heap} {mg : Str → Option Value} (X : K.In h) (G : h.Ns mainGlobals mg) {si : Stmt} (hB : ∀ {f : Addr} {fd : FuncData}, Fun K "__init__" "SpoolboxError.__init__" si f fd → Binds K fd ["self", "at"] [])
    {C D fI : Addr} (T : OexC K C) (a1 : PySem.W.nsIn K mainGlobals "OutOfRange" = some (some (.ref C))) (a2 : PySem.W.nsIn K mainGlobals "SpoolboxError" = some (some (.ref D))) (i1 : PySem.W.findIn K (.ref C) "__init__" = some (some (.ref fI))) (i2 : PySem.W.typeIn K (.ref fI) = some (.type "function"))
    (F1 : ∃ fd, Fun K "__init__" "SpoolboxError.__init__" si fI fd) (n1 : PySem.W.findIn K (.ref C) "at" = some none) (v0 : PySem.W.nsIn K mainGlobals "ValueError" = some none) (v1 : PySem.W.findCls K (.type "ValueError") (.type "type") "__init__" = some (.val (.builtin "ValueError.__init__")))
    (E : ExcC K C) (m1 : PySem.W.subIn K (.ref D) (.type "BaseException") = some true) (m2 : PySem.W.hasDictIn K D = true) (m3 : PySem.W.typeIn K (.ref D) = some (.type "type")) (m4 : PySem.W.subIn K (.ref C) (.ref D) = some true) : ∃ XF : Exf K mg si, True := by
  obtain ⟨fd, F1⟩ := F1
  exact ⟨⟨C, D, fI, fd, PySem.W.mg_of X G a1, PySem.W.mg_of X G a2, T, i1, i2, F1, hB F1, n1, PySem.W.mg_none_of X G v0, v1, ⟨E.hg, E.hk, E.hs, E.hd⟩, E, (by obtain ⟨cd, hc, _⟩ := PySem.W.any_some E.hd; rw [hc]; rfl), PySem.W.exm_ref m1 m2 m3 m4, (by unfold PySem.W.kitOne; simp)⟩, trivial⟩
end L3

/-! sorted(d) with any number of keys; d.get(k, x), d.get(k) -/
namespace L3
open PySem L2 PySem.Spec PyProof.Rows
theorem cr_sortDL {X : Cx} (calm : X.calm = true) : CallR X (.builtin "sorted") (fun vs H Q => ∃ (l : Addr) (en : List (Key × V)) (ns : List Int), vs = [.ref l] ∧ Rd H l (.dK en) ∧ en.map (·.1) = ns.map Sum.inl ∧
    ∀ (out : List Int) (b : Addr), out.Perm ns → out.Pairwise (· ≤ ·) → H b = none → Q (.ref b) (upd H b (.lst (out.map V.int)))) := by
  intro pins s σ H vs us Q I r ⟨l, en, ns, e0, hd, hk0, q⟩
  subst e0
  obtain ⟨u, rfl, rx⟩ := vals1 r
  cases rx
  obtain ⟨z, lo, en', rel, dd⟩ := dk_rd I.hok hd
  obtain ⟨ep, hat⟩ := dd.dictAt
  have ke : en'.map (·.1) = ns.map Sum.inl := rel.keys.symm.trans hk0
  have le : en'.length = ns.length := by simpa using congrArg List.length ke
  have few : en'.length ≤ sizeLine := by rw [← rel.length]; exact z
  refine Calls.call_function_entry kind_sorted plain_sorted entry_sorted (args_sorted1 _) ?_
  unfold Builtin.«sorted»
  refine wpAny_bind (m := checkCount "sorted" 1 1 _) (wpAny_pure ?_)
  refine wpAny_bind (PySem.W.kdu_collect (A := X.A.in1) (PySem.W.kdl_dict (knd := mixKind X.prog X.w) (kvs := en') (ep := ep) lo) (I.ok.hd calm) hat few fun h1 tk got hk ha => ?_)
  have la : got.toList.length = ns.length := by rw [Array.length_toList, ha.1, le]
  have hi : IntsAre got.toList ns := ints_each la fun j v e => by
    obtain ⟨k, x, e1, e2⟩ := ha.2 j v (by rw [← Array.getElem?_toList]; exact e)
    have e3 : (en'.map (·.1))[j]? = some k := by rw [List.getElem?_map, e1]; rfl
    rw [ke, List.getElem?_map] at e3
    cases e4 : ns[j]? with
    | none => rw [e4] at e3; cases e3
    | some y =>
      rw [e4] at e3; cases e3
      rcases keyIs_shape (show keyIs (Sum.inl y) v = true from e2) with ⟨i, t, ek, ev⟩ | ⟨i, t, ek, ev⟩ <;> cases ek
      exact ⟨y, t, rfl, ev⟩
  have I1 : Inv X pins σ H { s with heap := h1, toks := tk } := I.kept hk
  have few2 : got.toList.length ≤ sizeLine := by rw [la, ← le]; exact few
  refine wpAny_bind (wpAny_newList ?_ few2)
  have new : (h1.push (seqObj "list" got.toList.toArray 0)).get? h1.objs.size = some (seqObj "list" got.toList.toArray 0) := Heap.get?_push_size _ rfl
  show wpAny _ _ _ _ _ { s with heap := h1.push (seqObj "list" got.toList.toArray 0), toks := tk }
  refine wpAny_bind (wpAny_holding (wpAny_call_entry slot_list_sort ⟨_, new, rfl⟩ entry_list_sort
    (SrtO.list_sort_ord (s := { s with heap := h1.push (seqObj "list" got.toList.toArray 0), toks := tk }) SrtO.swo_int new few2 (fun h2 => SrtO.ints_sortable hi h2) fun out g1 g2 => ⟨_, rfl, ?_⟩) (args_list_sort _)))
  obtain ⟨c1, c2, c3⟩ := SrtO.ints_out hi g1 g2
  obtain ⟨e', he'⟩ := sortedHeap_at (vs := got.toList) (out := out.toArray) new
  have lo2 : ((out.map SrtO.iv).map V.int).length ≤ sizeLine := by rw [List.length_map, c2.length_eq, ← le]; exact few
  refine wpAny_pure ⟨_, rfl, .ref h1.objs.size, upd H h1.objs.size (.lst ((out.map SrtO.iv).map V.int)), I1.laid (t' := tk) (fun b u e => ?_) (Nat.le_refl _) ⟨lo2, out, e', vals_of_ints c1, he'⟩, rfl, q _ _ c2 c3 (I1.hok.fresh (Nat.le_refl _))⟩
  have hb : b < h1.objs.size := Heap.lt_size e
  rw [sortedHeap_old (Nat.ne_of_lt hb) (by rw [size_push']; exact Nat.lt_succ_of_lt hb)]
  exact Heap.get?_push_of_some _ e
section
variable {X : Cx} {N : List Str} {sc : Scope} {Γ : Gm} {α : Type} {e a f d : Expr} {r : Rp α} {p p' p'' : Prop} {y : α} {k : Int} {kp : Int × Int} {m : List (Int × α)} {mp : List ((Int × Int) × α)} {pos np ap : Pos}
/-- sorted(d) -/
theorem en_sortDL (C : CF X N sc) (hg : glB sc "sorted" = true) (hm : X.mg "sorted" = none) (hb : EvD X Γ d r p m) (he : starEach [d] X.env = (false, eval d X.env) :: starEach [] X.env := by rfl) (hpl : (backTo pos (starEach [] X.env)).any (·.1) = false := by rfl) :
    EvN X Γ (.Call (.Name "sorted" np) [d] [] pos) (moL rI) p (sortI (keysD m)) := fun o σ H Q hS hp kk =>
  ⟨_, pe_callB (cr_sortDL C.calm) (gl_cf C hg) hm (by decide +kernel) (pa_cons we pa_nil he) (by decide) (by decide) he hpl, hb o σ H _ hS hp fun l en H1 s1 q1 q2 =>
    ⟨l, en, keysD m, rfl, .of q1, keys_AL q2, fun out n h1 h2 nn => kk n _ _ (s1.trans (same_upd nn)) (s1.free nn) upd_same ⟨_, rfl, by rw [sortI_of h1 h2]; exact al_ints _⟩⟩⟩
/-- d.get(k, y) -/
theorem ev_get2 (C : CF X N sc) (hb : EvD X Γ d r p m) (ha : EvF X Γ a rI p' k) (hf : EvF X Γ f r p'' y) (M : M2 X d "get" ap a f pos := by exact ⟨rfl, rfl, rfl, rfl⟩) : EvF X Γ (.Call (.Attribute d "get" ap) [a, f] [] pos) r (p ∧ p' ∧ p'') ((lookD m k).getD y) := fun o σ H Q hS hp kk => by
  refine ⟨_, pe_dget2 (by have := C.hu; omega) we we we M, hb o σ H _ hS hp.1 fun l en H1 s1 q1 q2 => ⟨l, rfl, .inl ⟨en, .of q1⟩, ha o σ H1 _ (hS.mono s1) hp.2.1 fun v H2 s2 q3 => hf o σ H2 _ (hS.mono (s1.trans s2)) hp.2.2 fun w H3 s3 q4 => ⟨_, dget_v q3 (s3 _ _ (s2 _ _ q1)), ?_⟩⟩⟩
  have s := (s1.trans s2).trans s3
  rcases lookD_AL kI_inj q2 k with ⟨h1, h2⟩ | ⟨u, x, h1, h2, h3⟩
  · rw [h1]; rw [h2] at kk; exact kk _ H3 s q4
  · rw [h1]; rw [h2] at kk; exact kk _ H3 s (r.mono (hid_same (s2.trans s3)) h3)
theorem ev_get2P (C : CF X N sc) (hb : EvDP X Γ d r p mp) (ha : EvF X Γ a rPP p' kp) (hf : EvF X Γ f r p'' y) (M : M2 X d "get" ap a f pos := by exact ⟨rfl, rfl, rfl, rfl⟩) : EvF X Γ (.Call (.Attribute d "get" ap) [a, f] [] pos) r (p ∧ p' ∧ p'') ((lookD mp kp).getD y) := fun o σ H Q hS hp kk => by
  refine ⟨_, pe_dget2 (by have := C.hu; omega) we we we M, hb o σ H _ hS hp.1 fun l en H1 s1 q1 q2 => ⟨l, rfl, .inr ⟨en, .of q1⟩, ha o σ H1 _ (hS.mono s1) hp.2.1 fun v H2 s2 q3 => hf o σ H2 _ (hS.mono (s1.trans s2)) hp.2.2 fun w H3 s3 q4 => ?_⟩⟩
  have s := (s1.trans s2).trans s3
  obtain ⟨t, e1, e2⟩ := kP_tup q3
  refine ⟨valV en (kP kp), by rw [e1]; exact DGet.t (s3 _ _ (s2 _ _ q1)) (s3 _ _ (hid_some e2).2), ?_⟩
  rcases lookD_AL kP_inj q2 kp with ⟨h1, h2⟩ | ⟨u, x, h1, h2, h3⟩
  · rw [h1]; rw [h2] at kk; exact kk _ H3 s q4
  · rw [h1]; rw [h2] at kk; exact kk _ H3 s (r.mono (hid_same (s2.trans s3)) h3)
class NN {α : Type} (r : Rp α) : Prop where
  ne : ∀ {H : Hp} {v : V} {x : α}, r.rep H v x → v ≠ .non
instance : NN rI := ⟨fun h e => by rw [show _ = _ from h] at e; cases e⟩
instance {τ : Type} {t : Tp τ} : NN (rT t) := ⟨fun ⟨_, _, h, _⟩ e => by rw [h] at e; cases e⟩
instance {β : Type} {m : Mo β} : NN (rM m) := ⟨fun ⟨_, _, h, _⟩ e => by rw [h] at e; cases e⟩
/-- d.get(k) -/
theorem ev_get1 [NN r] (C : CF X N sc) (hb : EvD X Γ d r p m) (ha : EvF X Γ a rI p' k) (M : M1 X d "get" ap a pos := by exact ⟨rfl, rfl, rfl, rfl⟩) : EvF X Γ (.Call (.Attribute d "get" ap) [a] [] pos) (rO r) (p ∧ p') (lookD m k) := fun o σ H Q hS hp kk => by
  refine ⟨_, pe_dget1 (by have := C.hu; omega) we we M, hb o σ H _ hS hp.1 fun l en H1 s1 q1 q2 => ⟨l, rfl, .inl ⟨en, .of q1⟩, ha o σ H1 _ (hS.mono s1) hp.2 fun v H2 s2 q3 => ⟨_, dget_v q3 (s2 _ _ q1), ?_⟩⟩⟩
  have s := s1.trans s2
  rcases lookD_AL kI_inj q2 k with ⟨h1, h2⟩ | ⟨u, x, h1, h2, h3⟩
  · rw [h1]; rw [h2] at kk; exact kk _ H2 s rfl
  · rw [h1]; rw [h2] at kk; exact kk _ H2 s ⟨NN.ne h3, r.mono (hid_same s2) h3⟩
theorem ev_get1P [NN r] (C : CF X N sc) (hb : EvDP X Γ d r p mp) (ha : EvF X Γ a rPP p' kp) (M : M1 X d "get" ap a pos := by exact ⟨rfl, rfl, rfl, rfl⟩) : EvF X Γ (.Call (.Attribute d "get" ap) [a] [] pos) (rO r) (p ∧ p') (lookD mp kp) := fun o σ H Q hS hp kk => by
  refine ⟨_, pe_dget1 (by have := C.hu; omega) we we M, hb o σ H _ hS hp.1 fun l en H1 s1 q1 q2 => ⟨l, rfl, .inr ⟨en, .of q1⟩, ha o σ H1 _ (hS.mono s1) hp.2 fun v H2 s2 q3 => ?_⟩⟩
  have s := s1.trans s2
  obtain ⟨t, e1, e2⟩ := kP_tup q3
  refine ⟨valV en (kP kp), by rw [e1]; exact DGet.t (s2 _ _ q1) (hid_some e2).2, ?_⟩
  rcases lookD_AL kP_inj q2 kp with ⟨h1, h2⟩ | ⟨u, x, h1, h2, h3⟩
  · rw [h1]; rw [h2] at kk; exact kk _ H2 s rfl
  · rw [h1]; rw [h2] at kk; exact kk _ H2 s ⟨NN.ne h3, r.mono (hid_same s2) h3⟩
end
end L3
namespace L3
open PySem L2
/-- repr of whatever is data -/
theorem call_reprA {X : Cx} (hg : X.A.guards = some []) (hu : X.A.units + 66 < cLine) : CallR X (.builtin "repr") (fun xs H Q => ∃ x d, xs = [x] ∧ Dp X.K H x d ∧ d.canLay0 = true ∧ d.showable = true ∧ d.depth ≤ 64 ∧ d.shown.length ≤ sizeLine ∧ Q (.str d.shown) H) := by
  rintro pins s σ H xs us Q I rv ⟨x, d, rfl, hd, hl, hsh, hdp, hz, q⟩
  have ref : (∃ a, x = .ref a) → wpAny (model X.prog X.w) X.A (call (.builtin "repr") us) (fun u s' => ∃ v H', Inv X pins σ H' s' ∧ RelV v u ∧ Q v H') X.xe s := fun ha => call_reprD hg hu pins s σ H [x] us Q I rv ⟨x, d, rfl, hd, hl, hsh, hdp, hz, ha, q⟩
  obtain ⟨u, rfl, rx⟩ := vals1 rv
  cases hd with
  | non =>
    cases (show u = Value.none from rx)
    exact PySem.P.repr_of_none ⟨.str _, H, I.tok _, ⟨_, rfl⟩, by simpa [PyData.shown] using q⟩
  | bl b =>
    cases (show u = Value.bool b from rx)
    exact PySem.P.repr_of_bool ⟨.str _, H, I.tok _, ⟨_, rfl⟩, by simpa [PyData.shown] using q⟩
  | int i =>
    obtain ⟨t, rfl⟩ := (show ∃ t, u = Value.int i t from rx)
    exact PySem.P.repr_of_int (by simpa [PyData.showable] using hsh) ⟨.str _, H, I.tok _, ⟨_, rfl⟩, by simpa [PyData.shown] using q⟩
  | str z =>
    obtain ⟨t, rfl⟩ := (show ∃ t, u = Value.str z t from rx)
    exact PySem.P.repr_of_str ⟨.str _, H, I.tok _, ⟨_, rfl⟩, by simpa [PyData.shown] using q⟩ (by simpa [PyData.shown] using hz)
  | lst _ _ => exact ref ⟨_, rfl⟩
  | tup _ _ => exact ref ⟨_, rfl⟩
theorem ev_reprA {X : Cx} {N : List Str} {sc : Scope} {Γ : Gm} {α : Type} {e : Expr} {r : Rp α} {p : Prop} {x : α} {pos np : Pos} {k : Nat} [Dt r] (C : CF X N sc) (C2 : CF2 X k) (hg : glB sc "repr" = true) (hm : X.mg "repr" = none) (ha : EvQ X Γ e r p x) (hd : Dt.dep r ≤ 64 := by decide) (he : starEach [e] X.env = (false, eval e X.env) :: starEach [] X.env := by rfl) (hpl : (backTo pos (starEach [] X.env)).any (·.1) = false := by rfl) :
    EvF X Γ (.Call (.Name "repr" np) [e] [] pos) rS (p ∧ ShwB r x) (shw r x) := fun o σ H Q hs hp kk =>
  ⟨_, pe_callB (call_reprA C2.gd (by have := C2.rm.un; omega)) (gl_cf C hg) hm (by decide +kernel) (pa_cons we pa_nil he) (by decide) (by decide) he hpl,
    ha o σ H _ hs hp.1 fun v H1 s1 q1 => ⟨v, _, rfl, Dt.ok q1, Dt.can x, hp.2.1, Nat.le_trans (Dt.dp x) hd, hp.2.2, kk _ H1 s1 rfl⟩⟩
end L3
namespace L3
open PySem L2
/-- a, b = x, y in a def: two stores, swapped -/
theorem swaps2 {X : Cx} {sc : Scope} {z z' : Str} {a b : Expr} {px py pt pt2 : Pos} {kt k2 : Nat} (hS : X.env.scope = sc) (hk : sc.kind = .function) (hx : sc.names.lookup z = some .local) (hy : sc.names.lookup z' = some .local) (hl : (py.line == px.line) = true) (n2 : (z' == z) = false)
    (h1 : ([a, b].any fun | .Starred .. => true | _ => false) = false) (h2 : [a, b].all (foldedForSure 8) = false) (h3 : [a, b].all (constantsAlone 8) = false) :
    swappedStores [.Tuple [.Name z px, .Name z' py] kt pt] (.Tuple [a, b] k2 pt2) X.env = pure (some [z, z']) := by
  have e1 : X.env.kindOf z = some .local := by unfold Env.kindOf; rw [hS]; exact hx
  have e2 : X.env.kindOf z' = some .local := by unfold Env.kindOf; rw [hS]; exact hy
  have e3 : X.env.blockKind = .function := by unfold Env.blockKind; rw [hS, hk]; rfl
  have b1 : (some NameKind.local == some NameKind.local) = true := by decide
  have b2 : (ScopeKind.function != ScopeKind.function) = false := by decide
  have l1 : (px.line == px.line) = true := by simp
  unfold swappedStores
  simp only [List.any_cons, List.any_nil, Bool.or_false, Bool.or_eq_false_iff] at h1
  simp [e1, e2, e3, b2, h2, h3, Expr.pos, l1, hl, n2, List.eraseDups, List.eraseDupsBy, List.eraseDupsBy.loop, List.filterMap]
  intro q
  rcases q with q | q
  · have w := h1.1
    cases a <;> first | (cases q; done) | (cases w; done)
  · have w := h1.2
    cases b <;> first | (cases q; done) | (cases w; done)
end L3
namespace L3
open PySem L2
/-- a <= b < c, as a value -/
theorem ev_chain {X : Cx} {Γ : Gm} {a b c : Expr} {p p' p'' : Prop} {pos : Pos} {op op' : CmpOp} {f g : Int → Int → Bool} {i j l : Int} (ho : OpR X (compareOp op) (rI0 fun i j => .bl (f i j))) (ho' : OpR X (compareOp op') (rI0 fun i j => .bl (g i j))) (ha : EvF X Γ a rI p i) (hb : EvF X Γ b rI p' j) (hc : EvF X Γ c rI p'' l)
    (hm : lastMarks [op, op'] [b, c] = false := by with_unfolding_all rfl) : EvF X Γ (.Compare a [op, op'] [b, c] pos) rB (p ∧ p' ∧ (f i j = true → p'')) (f i j && g j l) := fun o σ H Q hs hp k => by
  refine ⟨_, pe_chain ho ho' we we we hm, ?_⟩
  refine ha o σ H _ hs hp.1 fun v H1 s1 q1 => hb o σ H1 _ (hs.mono s1) hp.2.1 fun w H2 s2 q2 => ?_
  refine ⟨i, j, q1, q2, f i j, rfl, ?_⟩
  cases e : f i j with
  | true =>
    refine iteT (hc o σ H2 _ (hs.mono (s1.trans s2)) (hp.2.2 e) fun u H3 s3 q3 => ⟨j, l, q2, q3, k _ H3 ((s1.trans s2).trans s3) ?_⟩)
    rw [e, Bool.true_and]; rfl
  | false =>
    refine iteF (k _ H2 (s1.trans s2) ?_)
    rw [e, Bool.false_and]; rfl
end L3

/-! a name that is a cell never swaps; sorted(set(ints)) up to 4000 -/
namespace L3
open PySem L2 PySem.Spec PyProof.Rows
theorem swaps_cell {X : Cx} {sc : Scope} {z : Str} {v : Expr} {pos' : Pos} {l : Nat} (hy : sc.names.lookup z = some .cell) (hS : X.env.scope = sc) : swapsWith v (some (.Name z pos')) l X.env = pure false := by
  have e1 : X.env.kindOf z = some .cell := by unfold Env.kindOf; rw [hS]; exact hy
  have b1 : (some NameKind.cell == some NameKind.local) = false := by decide
  unfold swapsWith
  split
  · simp [e1, b1]
  · rfl
section
variable {P : Program} {w : World} {A : Around} {E : Value → Shared → Prop} {s : Shared} {a : Addr}
/-- sorted(a set of ints), any number of members -/
theorem sorted_setL {S : Int → Bool} {n : Nat} {Q : Value → Shared → Prop} (R : SetR w s.heap a S n) (hh : A.handled = none)
    (hQ : ∀ s' p (out : Array Value) (c : Nat) (ns : List Int), (∀ b o, s.heap.get? b = some o → s'.heap.get? b = some o) → s'.gens = s.gens → s'.os = s.os → s.heap.objs.size ≤ p →
      s'.heap.get? p = some (seqObj "list" out c) → IntsAre out.toList ns → ns.Pairwise (· < ·) → (∀ k, k ∈ ns ↔ S k = true) → ns.length = n → n ≤ sizeLine → Q (.ref p) s') :
    wpAny (model P w) A (call (.builtin "sorted") [.ref a]) Q E s := by
  obtain ⟨o, es, ep, t, ho, hex, hd, g, nd, hm, hb, hf, hn, hr, hl⟩ := R
  have nfew : n ≤ sizeLine := by rw [← hn]; exact fits_of_scanBound hb
  refine Calls.call_function_entry kind_sorted plain_sorted entry_sorted (args_sorted1 _) ?_
  unfold Builtin.«sorted»
  refine wpAny_bind (m := checkCount "sorted" 1 1 _) (wpAny_pure ?_)
  refine wpAny_bind (collect_set (A := A.in1) hh ⟨o, ho, hex.1, hd⟩ hf hb hr hl fun s1 vs k1 hz g1 o1 pm => ?_)
  have hvl : vs.length = n := by rw [pm.length_eq, List.length_map, Array.length_toList]; exact hn
  have hI : IntsAre vs (vs.map Builtin.Re.reRawOf) := ints_of vs fun v hv => by
    obtain ⟨e, he, q⟩ := List.mem_map.mp (pm.mem_iff.mp hv)
    obtain ⟨k, tk, h1, _⟩ := g e he
    exact ⟨k, tk, by rw [← q]; exact h1⟩
  have pk : (vs.map Builtin.Re.reRawOf).Perm (es.toList.map keyOf) := by
    have q := pm.map Builtin.Re.reRawOf
    rw [List.map_map] at q
    exact q
  have few2 : vs.length ≤ sizeLine := by rw [hvl]; exact nfew
  refine wpAny_bind (wpAny_newList ?_ few2)
  have new : (s1.heap.push (seqObj "list" vs.toArray 0)).get? s1.heap.objs.size = some (seqObj "list" vs.toArray 0) := Heap.get?_push_size _ rfl
  refine wpAny_bind (wpAny_holding (wpAny_call_entry slot_list_sort ⟨_, new, rfl⟩ entry_list_sort
    (SrtO.list_sort_ord SrtO.swo_int new few2 (fun h2 => SrtO.ints_sortable hI h2) fun out gg1 gg2 => ⟨_, rfl, ?_⟩) (args_list_sort _)))
  obtain ⟨c1, c2, c3⟩ := SrtO.ints_out hI gg1 gg2
  obtain ⟨e', he'⟩ := sortedHeap_at (vs := vs) (out := out.toArray) new
  have pn : (out.map SrtO.iv).Perm (es.toList.map keyOf) := c2.trans pk
  refine wpAny_pure ⟨_, rfl, hQ _ s1.heap.objs.size out.toArray e' (out.map SrtO.iv) (fun b u e => ?_) g1 o1 hz he' (by simpa using c1) (lt_of_le_nodup _ c3 (pn.nodup_iff.mpr nd)) (fun k => by rw [pn.mem_iff, ← hm k]) ?_ nfew⟩
  · have q := k1 b u e
    have hlt := Heap.lt_size q
    rw [sortedHeap_old (Nat.ne_of_lt hlt) (by rw [size_push']; exact Nat.lt_succ_of_lt hlt)]
    exact Heap.get?_push_of_some _ q
  · rw [pn.length_eq, List.length_map, Array.length_toList]; exact hn
end
def rSortedSetL (w : World) : List V → Hp → VK → Prop := fun vs H Q => ∃ (a : Addr) (S : Int → Bool) (n : Nat), vs = [V.ref a] ∧ H a = some (SetO w a S n) ∧
  ∀ (ns : List Int) (p : Addr), ns.Pairwise (· < ·) → (∀ k : Int, k ∈ ns ↔ S k = true) → ns.length = n → H p = none → Q (.ref p) (upd H p (.lst (ns.map V.int)))
theorem cr_sortedSetL {X : Cx} (hc : X.calm = true) : CallR X (.builtin "sorted") (rSortedSetL X.w) := by
  intro pins s σ H vs us Q I r h
  obtain ⟨a, S, n, rfl, ha, q⟩ := h
  have R := setO_get I ha
  rw [Vals.ref1 r]
  refine sorted_setL R (I.ok.hd hc) fun s' p out c ns k g o hp hg hi hs hm hl few => ?_
  have hlen : (ns.map V.int).length ≤ sizeLine := by rw [List.length_map, hl]; exact few
  have hn : H p = none := I.hok.fresh hp
  have J : Inv X pins σ (upd H p (.lst (ns.map V.int))) { s with heap := s'.heap, gens := s'.gens, drawn := s'.drawn, toks := s'.toks } :=
    I.call (ch := []) (Un.laid k hp hn) (I.hok.laid k hp ⟨hlen, out.toList, c, vals_of_ints hi, hg⟩) (by rw [g]; exact I.bare) (fun _ z => nomatch z)
  have e : s' = { s with heap := s'.heap, gens := s'.gens, drawn := s'.drawn, toks := s'.toks } := by
    cases s'
    cases s
    cases o
    rfl
  rw [e]
  exact ⟨.ref p, _, J, rfl, q ns p hs hm hl hn⟩
def rSetM (K : PySem.W.Frag) (w : World) : List V → Hp → VK → Prop := fun vs H Q => ∃ (l : Addr) (ns : List Int), vs = [.ref l] ∧ SqL K H l (ns.map V.int) ∧ ns.length < 4000 ∧ ∀ (n : Nat) (p : Addr), H p = none → n ≤ ns.length → Q (.ref p) (upd H p (SetO w p (fun j => decide (j ∈ ns)) n))
theorem cr_setM {X : Cx} (hc : X.calm = true) : CallR X (.type "set") (rSetM X.K X.w) := by
  intro pins s σ H vs us Q I r h
  obtain ⟨l, ns, rfl, hl, h64, q⟩ := h
  rw [Vals.ref1 r]
  obtain ⟨its, rv, pl, hz⟩ := I.list hl
  refine L3S.set_of_list ns (I.ok.hd hc) pl.isList (by simpa using rv.ints) (by unfold scanBound; omega) fun h' tk c ⟨R, hcn, hk⟩ => ?_
  exact ⟨.ref s.heap.objs.size, _, I.laid (t' := tk) hk (Nat.le_refl _) (setO_new R), rfl, q c _ (I.hok.fresh (Nat.le_refl _)) hcn⟩
section
variable {X : Cx} {N : List Str} {sc : Scope} {Γ : Gm} {e : Expr} {p : Prop} {ns : List Int} {np np2 pos pos2 : Pos}
theorem en_sortSetM (C : CF X N sc) (hg : glB sc "sorted" = true) (hm : X.mg "sorted" = none) (hg2 : glB sc "set" = true) (hm2 : X.mg "set" = none) (ha : EvC X Γ e rI p ns)
    (he : starEach [e] X.env = (false, eval e X.env) :: starEach [] X.env := by rfl) (he2 : starEach [.Call (.Name "set" np2) [e] [] pos2] X.env = (false, eval (.Call (.Name "set" np2) [e] [] pos2) X.env) :: starEach [] X.env := by rfl)
    (hpl : (backTo pos (starEach [] X.env)).any (·.1) = false := by rfl) (hpl2 : (backTo pos2 (starEach [] X.env)).any (·.1) = false := by rfl) :
    EvN X Γ (.Call (.Name "sorted" np) [.Call (.Name "set" np2) [e] [] pos2] [] pos) (moL rI) (p ∧ ns.length < 4000) (sortSet ns) := fun o σ H Q hS hp kk => by
  refine ⟨_, pe_callB (cr_sortedSetL C.calm) (gl_cf C hg) hm (by decide +kernel) (pa_cons (pe_callTy (cr_setM C.calm) (gl_cf C hg2) hm2 (by decide +kernel) (pa_cons we pa_nil he) (by decide) (by decide) he hpl2) pa_nil he2) (by decide) (by decide) he2 hpl, ?_⟩
  refine ha o σ H _ hS hp.1 fun l ws H1 s1 q1 q2 => ⟨l, ns, rfl, by rw [← al_int q2]; exact q1, hp.2, fun n a na hn => ⟨a, _, n, rfl, upd_same, fun out b h1 h2 h3 nb => ?_⟩⟩
  have s2 : Same H1 (upd H1 a (SetO X.w a (fun j => decide (j ∈ ns)) n)) := same_upd na
  refine kk b _ _ ((s1.trans s2).trans (same_upd nb)) ((s1.trans s2).free nb) upd_same ⟨_, rfl, ?_⟩
  have e : out = sortSet ns := sortSet_of h1 fun k => by simp [h2]
  subst e
  exact al_ints _
end
end L3

/-! defs that hand back something new (it may be changed later) -/
namespace L3
open PySem L2
def orA (O : Addr → Bool) (a : Addr) : Addr → Bool := fun b => O b || decide (b = a)
/-- given x, something new of content f x comes back -/
def spN {τ ρ : Type} (t : Tp τ) (m : Mo ρ) (vc : τ → Prop) (f : τ → ρ) : Sp := fun vs H Q _ => ∃ (O : Addr → Bool) (x : τ), (∀ b, O b = true → H b ≠ none) ∧ t.rep (hidO O H) vs x ∧ vc x ∧
  ∀ a H' u, Same H H' → H a = none → H' a = some u → m.rep (hidO (orA O a) H') u (f x) → Q (.ref a) H'
theorem spN_len {τ ρ : Type} {t : Tp τ} {m : Mo ρ} {vc : τ → Prop} {f : τ → ρ} {ps : List Str} (h : ps.length = t.n) : ∀ vs H Q E, spN t m vc f vs H Q E → vs.length = ps.length := by
  rintro vs H Q E ⟨O, x, _, h2, _⟩
  rw [t.len h2, h]
def prNew {ρ : Type} (m : Mo ρ) : Pr ρ := ⟨fun _ G O R x => ∀ a H u, Same G H → G a = none → H a = some u → m.rep (hidO (orA O a) H) u x → R (.ref a) H,
  fun s h a H u s2 na ha q => h a H u (s.trans s2) (s.free na) ha q⟩
section
variable {X : Cx} {N : List Str} {sc : Scope} {Γ : Gm} {α β γ δ τ ρ : Type} {e : Expr} {es : List Expr} {r : Rp α} {m : Mo ρ} {p q : Prop} {x : ρ} {Γn : γ → Gm} {Γb : δ → Gm} {rest : List Stmt} {pos pos' : Pos} {z : Str} {i : Nat} {rr : Pr ρ}
theorem hidO_mark {o : Own} {a : Addr} {H : Hp} : hidO (orA (fun b => (o b).isSome) a) H = hid (mark o a 0) H := by
  funext b
  unfold hidO hid orA mark
  by_cases h : b = a
  · simp [h]
  · cases e : o b <;> simp [h, e]
theorem en_call {t : Tp τ} {vc : τ → Prop} {g : τ → ρ} {y : τ} {np : Pos} {k k' : Nat} {f : Addr} {fd : FuncData} {ps : List Str} (F : FnG X.prog X.w X.K X.mg X.base CX0 k f fd ps (spN t m vc g)) (C : CF X N sc) (C2 : CF2 X k') (hk' : k ≤ k') (hg : glB sc z = true) (hm : X.mg z = some (.ref f)) (hk : PySem.W.keepIn X.K (.ref f) = true) (hb : Binds X.K fd ps [])
    (ha : EvA X Γ (e :: es) t p y) (hdb : (z == ("__debug__" : Str)) = false := by decide) (he : starEach (e :: es) X.env = (false, eval e X.env) :: starEach es X.env := by rfl) (hpl : (backTo pos (starEach es X.env)).any (·.1) = false := by rfl) :
    EvN X Γ (.Call (.Name z np) (e :: es) [] pos) m (p ∧ vc y) (g y) := fun o σ H Q hS hp kk => by
  refine ⟨_, pe_callG F C2.gd (C2.rm.mono hk') (gl_cf C hg) hm hk hb .nil pass0 wa hdb he hpl, ha o σ H _ hS hp.1 fun vs H1 s1 q1 => ?_⟩
  refine ⟨fun b => (o b).isSome, y, hS.al.mono s1, by rw [hidO_of, List.append_nil]; exact q1, hp.2, fun a H' u s2 na ha q2 => kk a u H' (s1.trans s2) (s1.free na) ha ?_⟩
  rwa [hidO_mark] at q2
theorem bl_retN (h : EvN X Γ e m p x) : Bl X Γ (.Return (some e) pos :: rest) Γn Γb (prNew m) p (.ret x) := fun G O o σ H D hs hp k =>
  ⟨_, pss_cons (ps_ret we) wb, h o σ H _ hs.es hp fun a u H' s na ha q => k a H' u (hs.same.trans s) (hs.same.free na) ha (m.mono (hid_sub (Same.refl _) fun b h1 _ => by
    unfold mark at h1
    split at h1
    · cases h1
    · rename_i hne
      have : O b = false := by
        cases w : O b with
        | false => rfl
        | true => rw [hs.out b w] at h1; cases h1
      show (if orA O a b = true then some 1000 else none) = none
      unfold orA
      simp [this, hne]) q)⟩
theorem bl_retO (C : CF X N sc) (i : Nat) (hN : N[i]? = some z) (hv : visB sc z = true) (hΓ : Γ[i]? = some (.own m x)) (hi : i < 1000 := by decide) (hd : (z == ("__debug__" : Str)) = false := by decide) (hcd : (z == ("__classdict__" : Str)) = false := by decide) :
    Bl X Γ (.Return (some (.Name z pos')) pos :: rest) Γn Γb (prNew m) True (.ret x) := fun G O o σ H D hs _ k => by
  refine ⟨_, pss_cons (ps_ret (pe_var (i := i) (by rw [C.hN]; exact hN) (by rw [C.hS]; exact vis_of hv) hd hcd)) wb, ?_⟩
  obtain ⟨ov, e1, a, u, rfl, e2, e3, e4⟩ := hs.sl.at_ i _ hΓ
  have na : G a = none := by
    rcases hs.inn a i e2 with q | q
    · exact q.2
    · omega
  refine ⟨_, e1, k a H u hs.same na e3 (m.mono (hid_sub (Same.refl _) fun b h1 _ => ?_) e4)⟩
  have hO : O b = false := by
    cases w : O b with
    | false => rfl
    | true => rw [hs.out b w] at h1; cases h1
  have hne : b ≠ a := fun w => by rw [w, e2] at h1; cases h1
  show (if orA O a b = true then some 1000 else none) = none
  unfold orA
  simp [hO, hne]
end
theorem fn_mkNew {P : Program} {w : World} {K : PySem.W.Frag} {mg : Str → Option Value} {base : Heap} {k : Nat} {fa : Addr} {nm qual : Str} {st : Stmt} {fd : FuncData} {N ps : List Str} {τ ρ : Type} {t : Tp τ} {m : Mo ρ} {vc : τ → Prop} {f : τ → ρ} {g : τ → Gm} {Γ0 : τ → Gm}
    (F : Fun K nm qual st fa fd) (S : FnScope N ps (defScope st)) (hn : ps.length = t.n) (ag : ArgS t g) (hΓ : ∀ x, Γ0 x = g x ++ List.replicate (N.length - ps.length) .junk)
    (hbody : ∀ X : Cx, X.prog = P → X.w = w → X.K = K → X.mg = mg → X.base = base → CF X N (defScope st) → CF2 X k → (∀ z, X.fn z = true) → ∀ x, Bt X (Γ0 x) (defBody st) (prNew m) (vc x) (f x)) :
    FnG P w K mg base CX0 (k + 1) fa fd ps (spN t m vc f) := by
  refine fn_ofG F S (spN_len hn) fun cdv A outer s H vs Q E hg hr ⟨O, x, h1, h2, h3, h4⟩ => ?_
  have hl : vs.length = ps.length := by rw [t.len h2, hn]
  refine ⟨_, PSs.nox wb, ?_⟩
  refine hbody (cxOf CX0 P w K mg base N qual (defScope st) fa cdv A outer s H E).nox rfl rfl rfl rfl rfl ⟨rfl, S.nd, rfl, rfl, hr.units⟩ ⟨hg, hr, PassesOwn.never⟩ (fun _ => rfl) x H O (fun b => if O b = true then some 1000 else none) _ H _ ⟨?_, Same.refl _, ?_, ?_, ?_⟩ h3 ?_
  · rw [hΓ]
    unfold L2.start
    rw [hl]
    refine slots_start ⟨by rw [List.length_map, ag.len, hl, hn], fun i sv e => ?_⟩ _
    obtain ⟨v, e1, e2⟩ := ag.ok i sv h2 e
    exact ⟨some v, by rw [List.getElem?_map, e1]; rfl, e2 i⟩
  · intro b hb
    apply h1
    cases q : O b with
    | true => rfl
    | false =>
      have hb : (if O b = true then some 1000 else none : Option Nat).isSome = true := hb
      rw [q] at hb; cases hb
  · intro b hb
    exact if_pos hb
  · intro b j hb
    have hb : (if O b = true then some 1000 else none : Option Nat) = some j := hb
    split at hb
    · rename_i w
      cases hb
      exact .inr ⟨rfl, w⟩
    · cases hb
  · exact fun a H' u s na ha q => h4 a H' u s na ha q
/-- an append after which the list is no more looked at (what it holds is another kind) -/
theorem bw_appJ {X : Cx} {N : List Str} {sc : Scope} {Γ : Gm} {α β γ δ κ ρ : Type} {e : Expr} {r : Rp α} {r' : Rp β} {p q : Prop} {x : β} {Γn : γ → Gm} {Γb : δ → Gm} {rest : List Stmt} {pos pos' : Pos} {z : Str} {rr : Pr ρ} {xs : List α} {ap np' : Pos} {rs : κ} (W : κ → Res γ δ ρ) (C : CF X N sc) (i : Nat) (hN : N[i]? = some z) (hv : visB sc z = true) (hΓ : Γ[i]? = some (.own (moL r) xs)) (h : EvF X Γ e r' p x) (k : Bl X (Γ.set i .junk) rest Γn Γb rr q (W rs)) (hi : i < 1000 := by decide)
    (hd : (z == ("__debug__" : Str)) = false := by decide) (hcd : (z == ("__classdict__" : Str)) = false := by decide)
    (hfew : ((backTo pos (starEach [e] X.env)).all (fun x => !x.1) && (backToKw pos (keywordEach [] X.env)).all (fun x => x.1.isSome) && decide (([e] : List Expr).length + ([] : List Keyword).length + (if ([] : List Keyword).isEmpty then 0 else 1) < 30)) = true := by rfl)
    (hline : (ap.endLine == pos.line) = true := by rfl) (hs1 : starEach [e] X.env = (false, eval e X.env) :: starEach [] X.env := by rfl) (hpl : (backTo pos (starEach [] X.env)).any (·.1) = false := by rfl)
    (hs : swapsWith (.Call (.Attribute (.Name z np') "append" ap) [e] [] pos) none pos'.line X.env = pure false := by rfl) :
    Bl X Γ (.Expr (.Call (.Attribute (.Name z np') "append" ap) [e] [] pos) pos' :: rest) Γn Γb rr (p ∧ xs.length < sizeLine ∧ q) (W rs) := fun G O o σ H D hS hp kk => by
  refine ⟨_, pss_cons (ps_expr (pe_bm PySem.F.plainAttrs_list PySem.F.slot_list_append PySem.F.type_list_append mt_append (pe_var (i := i) (by rw [C.hN]; exact hN) (by rw [C.hS]; exact vis_of hv) hd hcd) (pa_cons we pa_nil hs1) rfl hfew hline hs1 hpl) hs) wb, ?_⟩
  obtain ⟨ov, e1, a, u, rfl, e2, e3, ws, rfl, e4⟩ := hS.sl.at_ i _ hΓ
  refine ⟨_, e1, .inl ⟨rfl, ws, SqL.of e3⟩, h o σ H _ hS.es hp.1 fun v H1 s1 q1 => ⟨a, ws, v, rfl, rfl, s1 _ _ e3, by rw [e4.len]; exact hp.2.1, ?_⟩⟩
  have hS1 := hS.mono s1
  have w := own_write (m' := (⟨fun _ _ _ => True, fun _ _ => trivial⟩ : Mo Unit)) (y := ()) (u := .lst (ws ++ [v])) hS1 (List.getElem?_eq_some_iff.mp hΓ).1 e1 e2 hi trivial
  refine k G O o σ _ D ⟨⟨by rw [w.sl.len, List.length_set, List.length_set], fun j sv ej => ?_⟩, w.same, w.al, w.out, w.inn⟩ hp.2.2 kk
  rw [List.getElem?_set] at ej
  by_cases hij : i = j
  · subst hij
    rw [if_pos rfl] at ej
    split at ej
    · cases ej
      obtain ⟨ov, f1, _⟩ := w.sl.at_ i (.own (⟨fun _ _ _ => True, fun _ _ => trivial⟩ : Mo Unit) ()) (by rw [List.getElem?_set, if_pos rfl, if_pos (List.getElem?_eq_some_iff.mp hΓ).1])
      exact ⟨ov, f1, trivial⟩
    · cases ej
  · rw [if_neg hij] at ej
    exact w.sl.at_ j sv (by rw [List.getElem?_set, if_neg hij]; exact ej)
end L3
namespace L3
open PySem L2
/-! an own list handed to a def that only reads it -/
def dropA (a : Addr) (H : Hp) : Hp := fun b => if b = a then none else H b
class NoL {α : Type} (r : Rp α) : Prop where
  nl : ∀ {H : Hp} {a : Addr} {ws : List V} {v : V} {x : α}, H a = some (.lst ws) → r.rep H v x → r.rep (dropA a H) v x
class NoLT {τ : Type} (t : Tp τ) : Prop where
  nl : ∀ {H : Hp} {a : Addr} {ws : List V} {vs : List V} {x : τ}, H a = some (.lst ws) → t.rep H vs x → t.rep (dropA a H) vs x
instance : NoL rI := ⟨fun _ h => h⟩
instance : NoL rB := ⟨fun _ h => h⟩
instance : NoL rS := ⟨fun _ h => h⟩
instance : NoL rN := ⟨fun _ h => h⟩
instance {α : Type} {r : Rp α} [NoL r] : NoL (rO r) := ⟨fun {H a ws v x} e h => by
  cases x with
  | none => exact h
  | some y => exact ⟨h.1, NoL.nl e h.2⟩⟩
instance : NoLT t0 := ⟨fun _ h => h⟩
instance {α : Type} {r : Rp α} [NoL r] : NoLT (t1 r) := ⟨fun e ⟨v, e1, h⟩ => ⟨v, e1, NoL.nl e h⟩⟩
instance {α τ : Type} {r : Rp α} {t : Tp τ} [NoL r] [NoLT t] : NoLT (tc r t) := ⟨fun e ⟨v, ws, e1, h, h'⟩ => ⟨v, ws, e1, NoL.nl e h, NoLT.nl e h'⟩⟩
instance {τ : Type} {t : Tp τ} [NoLT t] : NoL (rT t) := ⟨fun {H a ws v x} e ⟨b, us, e1, e2, h⟩ => ⟨b, us, e1, by
  unfold dropA
  have : b ≠ a := fun w => by rw [w, e] at e2; cases e2
  rw [if_neg this]; exact e2, NoLT.nl e h⟩⟩
section
variable {X : Cx} {Γ : Gm} {α β ρ : Type} {e : Expr} {r : Rp α} {rr : Rp ρ} {p : Prop} {xs : List α} {y : ρ} {i : Nat}
theorem thaw_es {o : Own} {σ : St} {H : Hp} (hS : ES Γ o σ H) (hΓ : Γ[i]? = some (.own (moL r) xs)) : ∃ a ws, o a = some i ∧ H a = some (.lst ws) ∧ ES (Γ.set i (.val (rL r) xs)) (unmark o a) σ H := by
  obtain ⟨ov, e1, a, u, rfl, e2, e3, ws, rfl, e4⟩ := hS.sl.at_ i _ hΓ
  refine ⟨a, ws, e2, e3, ⟨by rw [hS.sl.len, List.length_set], fun j sv e => ?_⟩, fun b hb => ?_⟩
  · have hh : Same (hid o H) (hid (unmark o a) H) := hid_sub (Same.refl _) fun b h _ => by unfold unmark; rw [h]; split <;> rfl
    have oa : unmark o a a = none := by unfold unmark; rw [if_pos rfl]
    have ne : ∀ b, b ≠ a → unmark o a b = o b := fun b h => by unfold unmark; rw [if_neg h]
    rw [List.getElem?_set] at e
    by_cases w : i = j
    · subst w
      rw [if_pos rfl] at e
      split at e
      · cases e
        exact ⟨_, e1, _, rfl, a, _, rfl, hid_mk oa e3, ws, rfl, e4.imp fun _ _ q => r.mono hh q⟩
      · cases e
    · rw [if_neg w] at e
      obtain ⟨ov', f1, f2⟩ := hS.sl.at_ j sv e
      refine ⟨ov', f1, ?_⟩
      cases sv with
      | junk => trivial
      | val r x => obtain ⟨v, q1, q2⟩ := f2; exact ⟨v, q1, r.mono hh q2⟩
      | mb r x => exact fun y e => let ⟨v, q1, q2⟩ := f2 y e; ⟨v, q1, r.mono hh q2⟩
      | own m2 x2 =>
        obtain ⟨a', u', q1, q2, q3, q4⟩ := f2
        refine ⟨a', u', q1, ?_, q3, m2.mono hh q4⟩
        rw [ne a' (fun z => by rw [z, e2] at q2; exact w (Option.some.inj q2))]
        exact q2
      | dp r x =>
        obtain ⟨v, q1, q2⟩ := f2
        exact ⟨v, q1, r.mono (hidy_sub fun b u hb => ⟨fun c _ => ⟨hb, by unfold unmark; rw [c]; split <;> rfl⟩, fun c _ => ⟨hb, by rw [ne b (fun z => by rw [z, e2] at c; exact w (Option.some.inj c))]; exact c⟩⟩) q2⟩
  · apply hS.al b
    unfold unmark at hb
    split at hb
    · cases hb
    · exact hb
theorem hid_drop {o : Own} {H : Hp} {a : Addr} : Same (dropA a (hid (unmark o a) H)) (hid o H) := fun b u h => by
  unfold dropA at h
  split at h
  · cases h
  · rename_i ne
    obtain ⟨h1, h2⟩ := hid_some h
    unfold unmark at h1
    rw [if_neg ne] at h1
    exact hid_mk h1 h2
theorem hid_un {o : Own} {H : Hp} {a : Addr} {u : HO} (h : H a = some u) : hid (unmark o a) H a = some u := hid_mk (by unfold unmark; rw [if_pos rfl]) h
theorem ev_thaw [NoL rr] (i : Nat) (hΓ : Γ[i]? = some (.own (moL r) xs)) (h : EvF X (Γ.set i (.val (rL r) xs)) e rr p y) : EvF X Γ e rr p y := fun o σ H Q hS hp kk => by
  obtain ⟨a, ws, e2, e3, hS'⟩ := thaw_es hS hΓ
  exact h (unmark o a) σ H Q hS' hp fun v H' s q => kk v H' s (rr.mono hid_drop (NoL.nl (hid_un (s _ _ e3)) q))
theorem en_thaw {β : Type} {r' : Rp β} {ys : List β} [NoL r'] (i : Nat) (hΓ : Γ[i]? = some (.own (moL r) xs)) (h : EvN X (Γ.set i (.val (rL r) xs)) e (moL r') p ys) : EvN X Γ e (moL r') p ys := fun o σ H Q hS hp kk => by
  obtain ⟨a, ws, e2, e3, hS'⟩ := thaw_es hS hΓ
  refine h (unmark o a) σ H Q hS' hp fun b u H' s nb hb q => kk b u H' s nb hb ?_
  obtain ⟨us, rfl, q⟩ := q
  have hne : a ≠ b := fun w => by rw [← w, e3] at nb; cases nb
  have em : mark (unmark o a) b 0 = unmark (mark o b 0) a := by
    funext c
    unfold mark unmark
    by_cases c1 : c = b
    · subst c1; simp [Ne.symm hne]
    · by_cases c2 : c = a
      · subst c2; simp [c1]
      · simp [c1, c2]
  rw [em] at q
  exact ⟨us, rfl, q.imp fun _ _ w => r'.mono hid_drop (NoL.nl (hid_un (s _ _ e3)) w)⟩
end
end L3

/-! deep own things: a tuple whose list may be changed later -/
namespace L3
open PySem L2
def NT (u : Option HO) : Prop := u ≠ none ∧ ∀ w, u ≠ some (.tup w)
/-- the new lists, and any tuples -/
def semi (H K : Hp) : Hp := fun b => match K b with
  | some (.tup w) => some (.tup w)
  | u => if H b = none then u else none
theorem semi_some {H K : Hp} {b : Addr} {u : HO} (h : semi H K b = some u) : K b = some u ∧ ((∃ w, u = .tup w) ∨ (H b = none ∧ ∀ w, u ≠ .tup w)) := by
  unfold semi at h
  split at h
  · rename_i w e; cases h; exact ⟨e, .inl ⟨w, rfl⟩⟩
  · rename_i e
    by_cases c : H b = none
    · rw [if_pos c] at h; exact ⟨h, .inr ⟨c, fun w q => e w (by rw [h, q])⟩⟩
    · rw [if_neg c] at h; cases h
theorem semi_tup {H K : Hp} {b : Addr} {w : List V} (h : K b = some (.tup w)) : semi H K b = some (.tup w) := by unfold semi; rw [h]
theorem semi_new {H K : Hp} {b : Addr} {u : HO} (h : K b = some u) (n : H b = none) : semi H K b = some u := by
  unfold semi
  split
  · rename_i w e; rw [h] at e; exact e.symm
  · rw [if_pos n]; exact h
theorem semi_mono {H H' K K' : Hp} (s : Same K K') (n : ∀ b, H b = none → H' b = none) : Same (semi H K) (semi H' K') := fun b u h => by
  obtain ⟨h1, h2⟩ := semi_some h
  rcases h2 with ⟨w, rfl⟩ | ⟨h2, _⟩
  · exact semi_tup (s _ _ h1)
  · exact semi_new (s _ _ h1) (n _ h2)
/-- e gives x; its lists are new -/
def EvS {α : Type} (X : Cx) (Γ : Gm) (e : Expr) (r : Rp α) (p : Prop) (x : α) : Prop :=
  ∀ (o : Own) (σ : St) (H : Hp) (Q : VK), ES Γ o σ H → p → (∀ v H', Same H H' → r.rep (semi H (hid o H')) v x → Q v H') → WE X e σ H Q
def spS {τ ρ : Type} (t : Tp τ) (rr : Rp ρ) (vc : τ → Prop) (f : τ → ρ) : Sp := fun vs H Q _ => ∃ (O : Addr → Bool) (x : τ), (∀ b, O b = true → H b ≠ none) ∧ t.rep (hidO O H) vs x ∧ vc x ∧ ∀ v H', Same H H' → rr.rep (semi H (hidO O H')) v (f x) → Q v H'
theorem spS_len {τ ρ : Type} {t : Tp τ} {rr : Rp ρ} {vc : τ → Prop} {f : τ → ρ} {ps : List Str} (h : ps.length = t.n) : ∀ vs H Q E, spS t rr vc f vs H Q E → vs.length = ps.length := by
  rintro vs H Q E ⟨O, x, _, h2, _⟩
  rw [t.len h2, h]
def prS {ρ : Type} (r : Rp ρ) : Pr ρ := ⟨fun _ G O R x => ∀ v H, Same G H → r.rep (semi G (hidO O H)) v x → R v H, fun s h v H s2 q => h v H (s.trans s2) (r.mono (semi_mono (Same.refl _) fun b n => s.free n) q)⟩
/-! what has no lists needs none -/
def tups (H : Hp) : Hp := fun b => match H b with
  | some (.tup w) => some (.tup w)
  | _ => none
theorem tups_some {H : Hp} {b : Addr} {u : HO} (h : tups H b = some u) : H b = some u ∧ ∃ w, u = .tup w := by
  unfold tups at h
  split at h
  · rename_i w e; cases h; exact ⟨e, w, rfl⟩
  · cases h
class NoM {α : Type} (r : Rp α) : Prop where
  nl : ∀ {H : Hp} {v : V} {x : α}, r.rep H v x → r.rep (tups H) v x
class NoMT {τ : Type} (t : Tp τ) : Prop where
  nl : ∀ {H : Hp} {vs : List V} {x : τ}, t.rep H vs x → t.rep (tups H) vs x
instance : NoM rI := ⟨fun h => h⟩
instance : NoM rB := ⟨fun h => h⟩
instance : NoM rS := ⟨fun h => h⟩
instance : NoM rN := ⟨fun h => h⟩
instance {α : Type} {r : Rp α} [NoM r] : NoM (rO r) := ⟨fun {H v x} h => by
  cases x with
  | none => exact h
  | some y => exact ⟨h.1, NoM.nl h.2⟩⟩
instance : NoMT t0 := ⟨fun h => h⟩
instance {α : Type} {r : Rp α} [NoM r] : NoMT (t1 r) := ⟨fun ⟨v, e1, h⟩ => ⟨v, e1, NoM.nl h⟩⟩
instance {α τ : Type} {r : Rp α} {t : Tp τ} [NoM r] [NoMT t] : NoMT (tc r t) := ⟨fun ⟨v, ws, e1, h, h'⟩ => ⟨v, ws, e1, NoM.nl h, NoMT.nl h'⟩⟩
instance {τ : Type} {t : Tp τ} [NoMT t] : NoM (rT t) := ⟨fun {H v x} ⟨b, us, e1, e2, h⟩ => ⟨b, us, e1, by unfold tups; rw [e2], NoMT.nl h⟩⟩
section
variable {X : Cx} {N : List Str} {sc : Scope} {Γ : Gm} {α β γ δ τ ρ κ π : Type} {e : Expr} {es : List Expr} {r : Rp α} {rr : Rp ρ} {p p' q : Prop} {x : α} {y : ρ} {Γn : γ → Gm} {Γb : δ → Gm} {rest : List Stmt} {pos pos' : Pos} {z : Str} {i : Nat} {pr : Pr π}
theorem es_of [NoM r] (h : EvF X Γ e r p x) : EvS X Γ e r p x := fun o σ H Q hS hp kk => h o σ H Q hS hp fun v H' s q => kk v H' s (r.mono (fun b u hb => by
  obtain ⟨h1, w, rfl⟩ := tups_some hb
  exact semi_tup h1) (NoM.nl q))
theorem es_new {r' : Rp β} {ys : List β} [NoM r'] (h : EvN X Γ e (moL r') p ys) : EvS X Γ e (rL r') p ys := fun o σ H Q hS hp kk => h o σ H Q hS hp fun a u H' s na ha ⟨ws, e1, q⟩ => kk _ H' s ⟨a, u, rfl, semi_new (hid_mk (hS.al.free na) ha) na, ws, e1, q.imp fun _ _ w => r'.mono (fun b u hb => by
  obtain ⟨h1, w, rfl⟩ := tups_some hb
  exact semi_tup (hid_mark _ _ h1)) (NoM.nl w)⟩
theorem es_f (h : EvS X Γ e r p x) : EvF X Γ e r p x := fun o σ H Q hS hp kk => h o σ H Q hS hp fun v H' s q => kk v H' s (r.mono (fun b u hb => (semi_some hb).1) q)
/-- (a, b) -/
theorem es_pair {a b : Expr} {r2 : Rp β} {w : β} {k : Nat} (ha : EvS X Γ a r p x) (hb : EvS X Γ b r2 p' w) (h1 : starEach [a, b] X.env = (false, eval a X.env) :: starEach [b] X.env := by rfl) (h2 : starEach [b] X.env = (false, eval b X.env) :: starEach [] X.env := by rfl) :
    EvS X Γ (.Tuple [a, b] k pos) (rT (tc r (t1 r2))) (p ∧ p') (x, w) := fun o σ H Q hS hp kk => by
  refine ⟨_, pe_tup (pa_cons we (pa_cons we pa_nil h2) h1), ha o σ H _ hS hp.1 fun v H1 s1 q1 => hb o σ H1 _ (hS.mono s1) hp.2 fun v2 H2 s2 q2 => ⟨by rw [sizeLine_eq]; show 2 ≤ 16777216; decide, fun c na => ?_⟩⟩
  have hS2 := (hS.mono s1).mono s2
  have sn := same_upd (H := H2) (p := c) (u := .tup [v, v2]) na
  refine kk _ _ ((s1.trans s2).trans sn) ⟨c, [v, v2], rfl, semi_tup (hid_mk (hS2.al.free na) upd_same), v, [v2], rfl, r.mono (semi_mono (hid_same (s2.trans sn)) fun b n => n) q1, v2, rfl, r2.mono (semi_mono (hid_same sn) fun b n => s1.free n) q2⟩
theorem es_call {t : Tp τ} {vc : τ → Prop} {g : τ → ρ} {w : τ} {np : Pos} {k k' : Nat} {f : Addr} {fd : FuncData} {ps : List Str} (F : FnG X.prog X.w X.K X.mg X.base CX0 k f fd ps (spS t rr vc g)) (C : CF X N sc) (C2 : CF2 X k') (hk' : k ≤ k') (hg : glB sc z = true) (hm : X.mg z = some (.ref f)) (hk : PySem.W.keepIn X.K (.ref f) = true) (hb : Binds X.K fd ps [])
    (ha : EvA X Γ (e :: es) t p w) (hdb : (z == ("__debug__" : Str)) = false := by decide) (he : starEach (e :: es) X.env = (false, eval e X.env) :: starEach es X.env := by rfl) (hpl : (backTo pos (starEach es X.env)).any (·.1) = false := by rfl) :
    EvS X Γ (.Call (.Name z np) (e :: es) [] pos) rr (p ∧ vc w) (g w) := fun o σ H Q hS hp kk => by
  refine ⟨_, pe_callG F C2.gd (C2.rm.mono hk') (gl_cf C hg) hm hk hb .nil pass0 wa hdb he hpl, ha o σ H _ hS hp.1 fun vs H1 s1 q1 => ?_⟩
  refine ⟨fun b => (o b).isSome, w, hS.al.mono s1, by rw [hidO_of, List.append_nil]; exact q1, hp.2, fun v H' s2 q2 => kk v H' (s1.trans s2) ?_⟩
  rw [hidO_of] at q2
  exact rr.mono (semi_mono (Same.refl _) fun b n => s1.free n) q2
theorem bl_retS (h : EvS X Γ e rr p y) : Bl X Γ (.Return (some e) pos :: rest) Γn Γb (prS rr) p (.ret y) := fun G O o σ H D hs hp k =>
  ⟨_, pss_cons (ps_ret we) wb, h o σ H _ hs.es hp fun v H' s q => k v H' (hs.same.trans s) (rr.mono (semi_mono (hs.hidO H') fun b n => hs.same.free n) q)⟩
/-! the slot -/
open Classical in
/-- what is new and no tuple is the slot's -/
noncomputable def markN (o : Own) (H H' : Hp) (i : Nat) : Own := fun b => if H b = none ∧ NT (H' b) then some i else o b
theorem markN_old {o : Own} {H H' : Hp} {i : Nat} {b : Addr} (h : H b ≠ none) : markN o H H' i b = o b := by unfold markN; rw [if_neg fun q => h q.1]
theorem bw_deep (W : κ → Res γ δ π) {qq : α → Prop} {rs : α → κ} (C : CF X N sc) (T : Tgt X z) (i : Nat) (hN : N[i]? = some z) (h : EvS X Γ e r p x) (k : ∀ y, Bl X (Γ.set i (.dp r y)) rest Γn Γb pr (qq y) (W (rs y))) (hi : i < 1000 := by decide)
    (hs : swapsWith e (some (.Name z pos')) pos.line X.env = pure false := by rfl) : Bl X Γ (.Assign [.Name z pos'] e pos :: rest) Γn Γb pr (p ∧ (let y := x; qq y)) (W (let y := x; rs y)) := fun G O o σ H D hS hp kk => by
  refine ⟨_, pss_cons (ps_set (i := i) (by rw [C.hN]; exact C.nd) (by rw [C.hN]; exact hN) T.loc we hs T.fn) wb, h o σ H _ hS.es hp.1 fun v H' s q1 => ?_⟩
  have hh : Same (hid o H) (hid (markN o H H' i) H') := hid_sub s fun b h1 h2 => by rw [markN_old h2]; exact h1
  have sl : Slots Γ (markN o H H' i) σ H' := hS.sl.sub s hh fun b j e1 e2 => by rw [markN_old e2]; exact e1
  refine k x G O (markN o H H' i) _ H' D ⟨sl.set i _ _ ⟨v, rfl, r.mono (fun b u hb => ?_) q1⟩, hS.same.trans s, fun b hb => ?_, fun b hb => ?_, fun b j hb => ?_⟩ hp.2 kk
  · obtain ⟨h1, h2⟩ := semi_some hb
    obtain ⟨h3, h4⟩ := hid_some h1
    rcases h2 with ⟨w, rfl⟩ | ⟨n, nt⟩
    · refine hidy_tup h4 ?_
      unfold markN
      rw [if_neg fun q => q.2.2 w h4]; exact h3
    · refine hidy_lst h4 ?_ nt
      unfold markN
      rw [if_pos ⟨n, by rw [h4]; simp, fun w q => by rw [h4] at q; cases q; exact nt w rfl⟩]
  · by_cases c : H b = none ∧ NT (H' b)
    · exact c.2.1
    · unfold markN at hb; rw [if_neg c] at hb; exact (hS.al.mono s) b hb
  · have := hS.out b hb
    rw [markN_old (hS.al b (by rw [this]; rfl))]; exact this
  · by_cases c : H b = none ∧ NT (H' b)
    · unfold markN at hb; rw [if_pos c] at hb; cases hb; exact .inl ⟨hi, hS.same.free c.1⟩
    · unfold markN at hb; rw [if_neg c] at hb; exact hS.inn b j hb
end
end L3

namespace L3
open PySem L2
section
variable {X : Cx} {N : List Str} {sc : Scope} {Γ : Gm} {α β γ δ τ ρ κ π : Type} {e b : Expr} {r : Rp α} {rr : Rp ρ} {p p' q : Prop} {x : α} {y : ρ} {Γn : γ → Gm} {Γb : δ → Gm} {rest : List Stmt} {pos pos' : Pos} {i : Nat} {pr : Pr π}
open Classical in
noncomputable def unN (o : Own) (H : Hp) (i : Nat) : Own := fun b => if o b = some i ∧ NT (H b) then none else o b
theorem unN_none {o : Own} {H : Hp} {i : Nat} {b : Addr} (h : unN o H i b = none) : o b = none ∨ (o b = some i ∧ NT (H b)) := by
  by_cases c : o b = some i ∧ NT (H b)
  · exact .inr c
  · unfold unN at h; rw [if_neg c] at h; exact .inl h
theorem unN_keep {o : Own} {H : Hp} {i : Nat} {b : Addr} (h : o b ≠ some i) : unN o H i b = o b := by unfold unN; rw [if_neg fun q => h q.1]
theorem NT_some {u : HO} (h : ∀ w, u ≠ .tup w) : NT (some u) := ⟨by simp, fun w q => by cases q; exact h w rfl⟩
theorem thaw_dp {o : Own} {σ : St} {H : Hp} (hS : ES Γ o σ H) (hΓ : Γ[i]? = some (.dp r x)) : ES (Γ.set i (.val r x)) (unN o H i) σ H := by
  have hh : Same (hid o H) (hid (unN o H i) H) := hid_sub (Same.refl _) fun b h _ => by rw [unN_keep (by rw [h]; simp)]; exact h
  refine ⟨⟨by rw [hS.sl.len, List.length_set], fun j sv e => ?_⟩, fun b hb => ?_⟩
  · rw [List.getElem?_set] at e
    by_cases w : i = j
    · subst w
      rw [if_pos rfl] at e
      split at e
      · cases e
        obtain ⟨ov, e1, v, e2, e3⟩ := hS.sl.at_ i _ hΓ
        refine ⟨ov, e1, v, e2, r.mono (fun b u hb => ?_) e3⟩
        obtain ⟨h1, h2⟩ := hidy_some hb
        rcases h2 with ⟨h2, w, rfl⟩ | ⟨h2, h3⟩
        · exact hid_mk (by rw [unN_keep (by rw [h2]; simp)]; exact h2) h1
        · refine hid_mk ?_ h1
          unfold unN; rw [if_pos ⟨h2, by rw [h1]; exact NT_some h3⟩]
      · cases e
    · rw [if_neg w] at e
      obtain ⟨ov', f1, f2⟩ := hS.sl.at_ j sv e
      refine ⟨ov', f1, ?_⟩
      cases sv with
      | junk => trivial
      | val r x => obtain ⟨v, q1, q2⟩ := f2; exact ⟨v, q1, r.mono hh q2⟩
      | mb r x => exact fun y e => let ⟨v, q1, q2⟩ := f2 y e; ⟨v, q1, r.mono hh q2⟩
      | own m2 x2 =>
        obtain ⟨a', u', q1, q2, q3, q4⟩ := f2
        exact ⟨a', u', q1, by rw [unN_keep (by rw [q2]; exact fun z => w (Option.some.inj z).symm)]; exact q2, q3, m2.mono hh q4⟩
      | dp r x =>
        obtain ⟨v, q1, q2⟩ := f2
        exact ⟨v, q1, r.mono (hidy_sub fun b u hb => ⟨fun c _ => ⟨hb, by rw [unN_keep (by rw [c]; simp)]; exact c⟩, fun c _ => ⟨hb, by rw [unN_keep (by rw [c]; exact fun z => w (Option.some.inj z).symm)]; exact c⟩⟩) q2⟩
  · apply hS.al b
    by_cases c : o b = some i ∧ NT (H b)
    · unfold unN at hb; rw [if_pos c] at hb; cases hb
    · unfold unN at hb; rw [if_neg c] at hb; exact hb
theorem unN_tup {o : Own} {H H' : Hp} {b : Addr} {w : List V} (s : Same H H') (h : H' b = some (.tup w)) (n : unN o H i b = none) : o b = none := by
  rcases unN_none n with q | ⟨_, q1, q2⟩
  · exact q
  · cases e : H b with
    | none => exact absurd e q1
    | some u =>
      have := s _ _ e
      rw [h] at this
      cases this
      exact absurd e (q2 w)
theorem ev_thawD [NoM rr] (i : Nat) (hΓ : Γ[i]? = some (.dp r x)) (h : EvF X (Γ.set i (.val r x)) e rr p y) : EvF X Γ e rr p y := fun o σ H Q hS hp kk =>
  h (unN o H i) σ H Q (thaw_dp hS hΓ) hp fun v H' s q => kk v H' s (rr.mono (fun b u hb => by
    obtain ⟨h1, w, rfl⟩ := tups_some hb
    obtain ⟨h2, h3⟩ := hid_some h1
    exact hid_mk (unN_tup s h3 h2) h3) (NoM.nl q))
theorem et_thawD {bb : Bool} (i : Nat) (hΓ : Γ[i]? = some (.dp r x)) (h : EvT X (Γ.set i (.val r x)) e p bb) : EvT X Γ e p bb := fun o σ H Q hS hp kk => h (unN o H i) σ H Q (thaw_dp hS hΓ) hp kk
theorem ew_thawD {bb : Bool} (i : Nat) (hΓ : Γ[i]? = some (.dp r x)) (h : EvQ X (Γ.set i (.val r x)) e rr p y) : EvQ X Γ e rr p y := fun o σ H Q hS hp kk => h (unN o H i) σ H Q (thaw_dp hS hΓ) hp kk
theorem en_thawD {r' : Rp β} {ys : List β} [NoM r'] (i : Nat) (hΓ : Γ[i]? = some (.dp r x)) (h : EvN X (Γ.set i (.val r x)) e (moL r') p ys) : EvN X Γ e (moL r') p ys := fun o σ H Q hS hp kk =>
  h (unN o H i) σ H Q (thaw_dp hS hΓ) hp fun a u H' s na ha ⟨ws, e1, q⟩ => kk a u H' s na ha ⟨ws, e1, q.imp fun _ _ w => r'.mono (fun b u hb => by
    obtain ⟨h1, w, rfl⟩ := tups_some hb
    obtain ⟨h2, h3⟩ := hid_some h1
    have hne : b ≠ a := fun z => by rw [z, mark_same] at h2; cases h2
    rw [mark_ne hne] at h2
    exact hid_mk (by rw [mark_ne hne]; exact unN_tup s h3 h2) h3) (NoM.nl w)⟩
open Classical in
noncomputable def onlyN (o : Own) (H : Hp) (i : Nat) : Own := fun b => if NT (H b) then (if o b = some i then none else some 997) else o b
/-- an append to a list within the slot's thing, behind which it is no more looked at; the arg is a number -/
theorem bw_appD {r' : Rp β} {ys : List β} {c : Expr} {n : Int} {ap : Pos} {rs : κ} (W : κ → Res γ δ π) (i : Nat) (hΓ : Γ[i]? = some (.dp r x)) (hb : EvF X ((List.replicate Γ.length .junk).set i (.val r x)) b (rL r') p ys) (hc : EvF X Γ c rI p' n) (k : Bl X (Γ.set i .junk) rest Γn Γb pr q (W rs)) (hi : i < 1000 := by decide)
    (hbase : attributeBase b "append" X.env (eval b X.env) = eval b X.env := by rfl)
    (hfew : ((backTo pos (starEach [c] X.env)).all (fun x => !x.1) && (backToKw pos (keywordEach [] X.env)).all (fun x => x.1.isSome) && decide (([c] : List Expr).length + ([] : List Keyword).length + (if ([] : List Keyword).isEmpty then 0 else 1) < 30)) = true := by rfl)
    (hline : (ap.endLine == pos.line) = true := by rfl) (hs1 : starEach [c] X.env = (false, eval c X.env) :: starEach [] X.env := by rfl) (hpl : (backTo pos (starEach [] X.env)).any (·.1) = false := by rfl)
    (hs : swapsWith (.Call (.Attribute b "append" ap) [c] [] pos) none pos'.line X.env = pure false := by rfl) :
    Bl X Γ (.Expr (.Call (.Attribute b "append" ap) [c] [] pos) pos' :: rest) Γn Γb pr (p ∧ p' ∧ ys.length < sizeLine ∧ q) (W rs) := fun G O o σ H D hS hp kk => by
  refine ⟨_, pss_cons (ps_expr (pe_bm PySem.F.plainAttrs_list PySem.F.slot_list_append PySem.F.type_list_append mt_append we (pa_cons we pa_nil hs1) hbase hfew hline hs1 hpl) hs) wb, ?_⟩
  have E4 : ES ((List.replicate Γ.length .junk).set i (.val r x)) (onlyN o H i) σ H := by
    refine ⟨⟨by rw [hS.sl.len]; simp, fun j sv e => ?_⟩, fun b hb => ?_⟩
    · rw [List.getElem?_set] at e
      by_cases w : i = j
      · subst w
        rw [if_pos rfl] at e
        split at e
        · cases e
          obtain ⟨ov, e1, v, e2, e3⟩ := hS.sl.at_ i _ hΓ
          refine ⟨ov, e1, v, e2, r.mono (fun b u hb => ?_) e3⟩
          obtain ⟨h1, h2⟩ := hidy_some hb
          rcases h2 with ⟨h2, w, rfl⟩ | ⟨h2, h3⟩
          · refine hid_mk ?_ h1
            unfold onlyN
            rw [if_neg fun q => q.2 w h1]; exact h2
          · refine hid_mk ?_ h1
            unfold onlyN
            rw [if_pos (by rw [h1]; exact NT_some h3), if_pos h2]
        · cases e
      · rw [if_neg w, List.getElem?_replicate] at e
        split at e
        · rename_i hj
          cases e
          exact ⟨σ[j]?.getD none, by
            have : j < σ.length := by rw [hS.sl.len]; exact hj
            rw [List.getElem?_eq_getElem this]; rfl, trivial⟩
        · cases e
    · by_cases c : NT (H b)
      · exact c.1
      · unfold onlyN at hb; rw [if_neg c] at hb; exact hS.al b hb
  refine hb (onlyN o H i) σ H _ E4 hp.1 fun v H1 s1 ⟨a, u, e1, e2, ws, e3, e4⟩ => ?_
  subst e1 e3
  obtain ⟨f1, f2⟩ := hid_some e2
  have own : H a = none ∨ o a = some i := by
    cases w : H a with
    | none => exact .inl rfl
    | some u0 =>
      right
      have := s1 _ _ w
      rw [f2] at this
      cases this
      unfold onlyN at f1
      rw [if_pos (by rw [w]; exact NT_some fun w q => by cases q)] at f1
      by_cases c : o a = some i
      · exact c
      · rw [if_neg c] at f1; cases f1
  refine ⟨.inl ⟨rfl, ws, SqL.of f2⟩, hc o σ H1 _ (hS.es.mono s1) hp.2.1 fun v2 H2 s2 q2 => ⟨a, ws, v2, rfl, rfl, s2 _ _ f2, by rw [e4.len]; exact hp.2.2.1, ?_⟩⟩
  have s12 : Same H H2 := s1.trans s2
  have keep : ∀ b u, H b = some u → o b ≠ some i → upd H2 a (.lst (ws ++ [v2])) b = some u := fun b u h1 h2 => by
    rw [upd_ne (fun w => by
      subst w
      rcases own with q | q
      · rw [q] at h1; cases h1
      · exact h2 q)]
    exact s12 _ _ h1
  have hh : Same (hid o H) (hid o (upd H2 a (.lst (ws ++ [v2])))) := fun b u h => by
    obtain ⟨h1, h2⟩ := hid_some h
    exact hid_mk h1 (keep b u h2 (by rw [h1]; simp))
  refine k G O o σ _ D ⟨⟨by rw [hS.sl.len, List.length_set], fun j sv e => ?_⟩, fun b w h => ?_, fun b hb => ?_, hS.out, hS.inn⟩ hp.2.2.2 kk
  · rw [List.getElem?_set] at e
    by_cases w : i = j
    · subst w
      rw [if_pos rfl] at e
      split at e
      · cases e
        obtain ⟨ov, g1, _⟩ := hS.sl.at_ i _ hΓ
        exact ⟨ov, g1, trivial⟩
      · cases e
    · rw [if_neg w] at e
      obtain ⟨ov', g1, g2⟩ := hS.sl.at_ j sv e
      refine ⟨ov', g1, ?_⟩
      have ji : ∀ b, o b = some j → o b ≠ some i := fun b h q => by rw [h] at q; exact w (Option.some.inj q).symm
      cases sv with
      | junk => trivial
      | val r x => obtain ⟨v, q1, q2⟩ := g2; exact ⟨v, q1, r.mono hh q2⟩
      | mb r x => exact fun y e => let ⟨v, q1, q2⟩ := g2 y e; ⟨v, q1, r.mono hh q2⟩
      | own m2 x2 =>
        obtain ⟨a', u', q1, q2, q3, q4⟩ := g2
        exact ⟨a', u', q1, q2, keep _ _ q3 (ji _ q2), m2.mono hh q4⟩
      | dp r x =>
        obtain ⟨v, q1, q2⟩ := g2
        exact ⟨v, q1, r.mono (hidy_sub fun b u hb => ⟨fun c _ => ⟨keep _ _ hb (by rw [c]; simp), c⟩, fun c _ => ⟨keep _ _ hb (ji _ c), c⟩⟩) q2⟩
  · have h1 := hS.same b w h
    refine keep b w h1 fun q => ?_
    rcases hS.inn b i q with z | z
    · rw [z.2] at h; cases h
    · omega
  · by_cases w : b = a
    · rw [w, upd_same]; simp
    · rw [upd_ne w]
      have := hS.al b hb
      cases e : H b with
      | none => exact absurd e this
      | some u => rw [s12 _ _ e]; simp
end
theorem fn_mkS {P : Program} {w : World} {K : PySem.W.Frag} {mg : Str → Option Value} {base : Heap} {k : Nat} {fa : Addr} {nm qual : Str} {st : Stmt} {fd : FuncData} {N ps : List Str} {τ ρ : Type} {t : Tp τ} {rr : Rp ρ} {vc : τ → Prop} {f : τ → ρ} {g : τ → Gm} {Γ0 : τ → Gm}
    (F : Fun K nm qual st fa fd) (S : FnScope N ps (defScope st)) (hn : ps.length = t.n) (ag : ArgS t g) (hΓ : ∀ x, Γ0 x = g x ++ List.replicate (N.length - ps.length) .junk)
    (hbody : ∀ X : Cx, X.prog = P → X.w = w → X.K = K → X.mg = mg → X.base = base → CF X N (defScope st) → CF2 X k → (∀ z, X.fn z = true) → ∀ x, Bt X (Γ0 x) (defBody st) (prS rr) (vc x) (f x)) :
    FnG P w K mg base CX0 (k + 1) fa fd ps (spS t rr vc f) := by
  refine fn_ofG F S (spS_len hn) fun cdv A outer s H vs Q E hg hr ⟨O, x, h1, h2, h3, h4⟩ => ?_
  have hl : vs.length = ps.length := by rw [t.len h2, hn]
  refine ⟨_, PSs.nox wb, ?_⟩
  refine hbody (cxOf CX0 P w K mg base N qual (defScope st) fa cdv A outer s H E).nox rfl rfl rfl rfl rfl ⟨rfl, S.nd, rfl, rfl, hr.units⟩ ⟨hg, hr, PassesOwn.never⟩ (fun _ => rfl) x H O (fun b => if O b = true then some 1000 else none) _ H _ ⟨?_, Same.refl _, ?_, ?_, ?_⟩ h3 ?_
  · rw [hΓ]
    unfold L2.start
    rw [hl]
    refine slots_start ⟨by rw [List.length_map, ag.len, hl, hn], fun i sv e => ?_⟩ _
    obtain ⟨v, e1, e2⟩ := ag.ok i sv h2 e
    exact ⟨some v, by rw [List.getElem?_map, e1]; rfl, e2 i⟩
  · intro b hb
    apply h1
    cases q : O b with
    | true => rfl
    | false =>
      have hb : (if O b = true then some 1000 else none : Option Nat).isSome = true := hb
      rw [q] at hb; cases hb
  · intro b hb
    exact if_pos hb
  · intro b j hb
    have hb : (if O b = true then some 1000 else none : Option Nat) = some j := hb
    split at hb
    · rename_i w
      cases hb
      exact .inr ⟨rfl, w⟩
    · cases hb
  · exact fun v H' s q => h4 v H' s q
end L3
namespace L3
open PySem L2
/-! x is True, x is not True: x a bool -/
theorem op_isB {X : Cx} : OpR X (compareOp .Is) (fun x y H Q => ∃ b c, x = .bl b ∧ y = .bl c ∧ Q (.bl (decide (b = c))) H) := by
  intro pins s σ H x y v u Q I rx ry h
  obtain ⟨b, c, rfl, rfl, q⟩ := h
  cases rx; cases ry
  show wpAny _ _ ((isSame (Value.bool b) (Value.bool c)) >>= fun z => pure (Value.bool z)) _ _ s
  refine wpAny_bind (wpAny_isSame_plain rfl ?_)
  have e : (Value.bool b == Value.bool c) = decide (b = c) := by cases b <;> cases c <;> decide
  rw [e]
  exact wpAny_pure (fin_bl I q rfl)
theorem op_notB {X : Cx} : OpR X (compareOp .IsNot) (fun x y H Q => ∃ b c, x = .bl b ∧ y = .bl c ∧ Q (.bl (!decide (b = c))) H) := by
  intro pins s σ H x y v u Q I rx ry h
  obtain ⟨b, c, rfl, rfl, q⟩ := h
  cases rx; cases ry
  show wpAny _ _ ((isSame (Value.bool b) (Value.bool c)) >>= fun z => pure (Value.bool (!z))) _ _ s
  refine wpAny_bind (wpAny_isSame_plain rfl ?_)
  have e : (Value.bool b == Value.bool c) = decide (b = c) := by cases b <;> cases c <;> decide
  rw [e]
  exact wpAny_pure (fin_bl I q rfl)
section
variable {X : Cx} {Γ : Gm} {a : Expr} {p : Prop} {b c : Bool} {pos pos' : Pos} {j : Nat}
theorem et_isB (ha : EvF X Γ a rB p b) : EvT X Γ (.Compare a [.Is] [.Constant (.bool c) j pos'] pos) p (decide (b = c)) := fun o σ H Q hs hp k =>
  ⟨_, pt_cmpR op_isB we pe_bl (nomark _), ha o σ H _ hs hp fun v H1 s1 q1 => ⟨b, c, q1, rfl, _, rfl, k H1 s1⟩⟩
theorem et_notB (ha : EvF X Γ a rB p b) : EvT X Γ (.Compare a [.IsNot] [.Constant (.bool c) j pos'] pos) p (!decide (b = c)) := fun o σ H Q hs hp k =>
  ⟨_, pt_cmpR op_notB we pe_bl (nomark _), ha o σ H _ hs hp fun v H1 s1 q1 => ⟨b, c, q1, rfl, _, rfl, k H1 s1⟩⟩
theorem ev_isB (ha : EvF X Γ a rB p b) : EvF X Γ (.Compare a [.Is] [.Constant (.bool c) j pos'] pos) rB p (decide (b = c)) := fun o σ H Q hs hp k =>
  ⟨_, pe_cmpR op_isB we pe_bl (nomark _), ha o σ H _ hs hp fun v H1 s1 q1 => ⟨b, c, q1, rfl, k _ H1 s1 rfl⟩⟩
theorem ev_notB (ha : EvF X Γ a rB p b) : EvF X Γ (.Compare a [.IsNot] [.Constant (.bool c) j pos'] pos) rB p (!decide (b = c)) := fun o σ H Q hs hp k =>
  ⟨_, pe_cmpR op_notB we pe_bl (nomark _), ha o σ H _ hs hp fun v H1 s1 q1 => ⟨b, c, q1, rfl, k _ H1 s1 rfl⟩⟩
end
end L3

set_option maxHeartbeats 40000000
namespace L3
open PySem L2
def topS (i : Nat) : Stmt := PySem.Challenge.pw_spoolbox_k59_gifts_and_their_pieces.main.body.getD i (.Pass ⟨0, 0, 0, 0⟩)
def m_is_piece (burst : Int) (rate : Int) : Bool :=
 ((decide ((0 : Int) ≤ burst)) && (decide ((1 : Int) ≤ rate) && decide (rate ≤ (1000000 : Int))))

def vc_is_piece (burst : Int) (rate : Int) : Prop :=
 ((True ∧ True) ∧ ((decide ((0 : Int) ≤ burst)) = true → (True ∧ True ∧ (decide ((1 : Int) ≤ rate) = true → True))))

def m_is_over (first_ : (Int × Int)) (middle : (Int × Int)) (last_ : (Int × Int)) : Bool :=
 (let left_1 := (middle.1 - first_.1) * (middle.2 - last_.2); (let right_2 := (last_.1 - middle.1) * (first_.2 - middle.2); decide (right_2 ≤ left_1)))

def vc_is_over (first_ : (Int × Int)) (middle : (Int × Int)) (last_ : (Int × Int)) : Prop :=
 (((True ∧ True) ∧ (True ∧ True) ∧ CMul (middle.1 - first_.1) (middle.2 - last_.2)) ∧ (let left_1 := (middle.1 - first_.1) * (middle.2 - last_.2); (((True ∧ True) ∧ (True ∧ True) ∧ CMul (last_.1 - middle.1) (first_.2 - middle.2)) ∧ (let right_2 := (last_.1 - middle.1) * (first_.2 - middle.2); (True ∧ True)))))

def m_plain (pieces : List ((Int × Int))) : List ((Int × Int)) :=
 (let kept_1 := ([] : List ((Int × Int))); (let kept_9 := (sortP pieces).foldl (fun (kept_2 : List ((Int × Int))) y_3 => (let kept_8 := if ((decide (kept_2 = ([] : List ((Int × Int))))) || (decide (y_3.2 < ((gi kept_2 (-(1 : Int))).2)))) = true then (let kept_6 := whileF (fun (kept_4 : List ((Int × Int))) => ((decide ((1 : Int) < (kept_4.length : Int))) && (m_is_over (gi kept_4 (-(2 : Int))) (gi kept_4 (-(1 : Int))) (y_3.1, y_3.2)))) (fun kept_4 => (let kept_5 := kept_4.dropLast; kept_5)) ((kept_2).length + 1) kept_2; (let kept_7 := kept_6 ++ [(y_3.1, y_3.2)]; kept_7)) else kept_2; kept_8)) kept_1; kept_9))

def vc_plain (pieces : List ((Int × Int))) : Prop :=
 (True ∧ (let kept_1 := ([] : List ((Int × Int))); ((True ∧ True) ∧ foldP (fun (kept_2 : List ((Int × Int))) y_3 => (((True ∧ True) ∧ ((decide (kept_2 = ([] : List ((Int × Int))))) = false → (True ∧ (True ∧ True ∧ InB (-(1 : Int)) kept_2.length)))) ∧ (((decide (kept_2 = ([] : List ((Int × Int))))) || (decide (y_3.2 < ((gi kept_2 (-(1 : Int))).2)))) = true → (whileQ (fun (kept_4 : List ((Int × Int))) => (((True ∧ True) ∧ True) ∧ ((decide ((1 : Int) < (kept_4.length : Int))) = true → (((True ∧ True ∧ InB (-(2 : Int)) kept_4.length) ∧ ((True ∧ True ∧ InB (-(1 : Int)) kept_4.length) ∧ (True ∧ True))) ∧ vc_is_over (gi kept_4 (-(2 : Int))) (gi kept_4 (-(1 : Int))) (y_3.1, y_3.2))))) (fun kept_4 => (kept_4 ≠ [] ∧ (let kept_5 := kept_4.dropLast; True))) (fun (kept_4 : List ((Int × Int))) => ((decide ((1 : Int) < (kept_4.length : Int))) && (m_is_over (gi kept_4 (-(2 : Int))) (gi kept_4 (-(1 : Int))) (y_3.1, y_3.2)))) (fun kept_4 => (let kept_5 := kept_4.dropLast; kept_5)) ((kept_2).length + 1) kept_2 ∧ (let kept_6 := whileF (fun (kept_4 : List ((Int × Int))) => ((decide ((1 : Int) < (kept_4.length : Int))) && (m_is_over (gi kept_4 (-(2 : Int))) (gi kept_4 (-(1 : Int))) (y_3.1, y_3.2)))) (fun kept_4 => (let kept_5 := kept_4.dropLast; kept_5)) ((kept_2).length + 1) kept_2; ((True ∧ True) ∧ kept_6.length < sizeLine ∧ (let kept_7 := kept_6 ++ [(y_3.1, y_3.2)]; True))))) ∧ (((decide (kept_2 = ([] : List ((Int × Int))))) || (decide (y_3.2 < ((gi kept_2 (-(1 : Int))).2)))) = false → True) ∧ (let kept_8 := if ((decide (kept_2 = ([] : List ((Int × Int))))) || (decide (y_3.2 < ((gi kept_2 (-(1 : Int))).2)))) = true then (let kept_6 := whileF (fun (kept_4 : List ((Int × Int))) => ((decide ((1 : Int) < (kept_4.length : Int))) && (m_is_over (gi kept_4 (-(2 : Int))) (gi kept_4 (-(1 : Int))) (y_3.1, y_3.2)))) (fun kept_4 => (let kept_5 := kept_4.dropLast; kept_5)) ((kept_2).length + 1) kept_2; (let kept_7 := kept_6 ++ [(y_3.1, y_3.2)]; kept_7)) else kept_2; True))) (fun (kept_2 : List ((Int × Int))) y_3 => (let kept_8 := if ((decide (kept_2 = ([] : List ((Int × Int))))) || (decide (y_3.2 < ((gi kept_2 (-(1 : Int))).2)))) = true then (let kept_6 := whileF (fun (kept_4 : List ((Int × Int))) => ((decide ((1 : Int) < (kept_4.length : Int))) && (m_is_over (gi kept_4 (-(2 : Int))) (gi kept_4 (-(1 : Int))) (y_3.1, y_3.2)))) (fun kept_4 => (let kept_5 := kept_4.dropLast; kept_5)) ((kept_2).length + 1) kept_2; (let kept_7 := kept_6 ++ [(y_3.1, y_3.2)]; kept_7)) else kept_2; kept_8)) (sortP pieces) kept_1 ∧ (let kept_9 := (sortP pieces).foldl (fun (kept_2 : List ((Int × Int))) y_3 => (let kept_8 := if ((decide (kept_2 = ([] : List ((Int × Int))))) || (decide (y_3.2 < ((gi kept_2 (-(1 : Int))).2)))) = true then (let kept_6 := whileF (fun (kept_4 : List ((Int × Int))) => ((decide ((1 : Int) < (kept_4.length : Int))) && (m_is_over (gi kept_4 (-(2 : Int))) (gi kept_4 (-(1 : Int))) (y_3.1, y_3.2)))) (fun kept_4 => (let kept_5 := kept_4.dropLast; kept_5)) ((kept_2).length + 1) kept_2; (let kept_7 := kept_6 ++ [(y_3.1, y_3.2)]; kept_7)) else kept_2; kept_8)) kept_1; True))))

def m_is_gift (gift : (Int × List ((Int × Int)))) : Bool :=
 (let tp_1 := gift; (if ((decide (tp_1.1 < (0 : Int))) || ((decide (tp_1.2 = ([] : List ((Int × Int))))) || (!((tp_1.2.map (fun y_2 => m_is_piece y_2.1 y_2.2)).all id)))) = true then false else decide (m_plain tp_1.2 = tp_1.2)))

def vc_is_gift (gift : (Int × List ((Int × Int)))) : Prop :=
 (True ∧ (let tp_1 := gift; (((True ∧ True) ∧ ((decide (tp_1.1 < (0 : Int))) = false → ((True ∧ True) ∧ ((decide (tp_1.2 = ([] : List ((Int × Int))))) = false → ((True ∧ tp_1.2.length ≤ sizeLine ∧ ∀ y_2 ∈ tp_1.2, ((True ∧ True) ∧ vc_is_piece y_2.1 y_2.2)) ∧ True))))) ∧ (((decide (tp_1.1 < (0 : Int))) || ((decide (tp_1.2 = ([] : List ((Int × Int))))) || (!((tp_1.2.map (fun y_2 => m_is_piece y_2.1 y_2.2)).all id)))) = true → True) ∧ (((decide (tp_1.1 < (0 : Int))) || ((decide (tp_1.2 = ([] : List ((Int × Int))))) || (!((tp_1.2.map (fun y_2 => m_is_piece y_2.1 y_2.2)).all id)))) = false → ((True ∧ vc_plain tp_1.2) ∧ True)))))

def m_plain_gift (wait : Int) (pieces : List ((Int × Int))) : (Int × List ((Int × Int))) :=
 (let st_3 := (enm pieces).foldl (fun (st_1 : Unit) y_2 => ()) (); (wait, m_plain pieces))

def vc_plain_gift (wait : Int) (pieces : List ((Int × Int))) : Prop :=
 ((True ∧ True) ∧ (decide (wait < (0 : Int))) = false ∧ ((True ∧ True) ∧ (decide (pieces = ([] : List ((Int × Int))))) = false ∧ (True ∧ foldP (fun (st_1 : Unit) y_2 => (((True ∧ True) ∧ vc_is_piece y_2.2.1 y_2.2.2) ∧ (!(m_is_piece y_2.2.1 y_2.2.2)) = false ∧ True)) (fun (st_1 : Unit) y_2 => ()) (enm pieces) () ∧ (let st_3 := (enm pieces).foldl (fun (st_1 : Unit) y_2 => ()) (); (True ∧ (True ∧ vc_plain pieces))))))

def m_plain_gift_x (wait : Int) (pieces : List ((Int × Int))) : Res Empty Empty (Int ⊕ (Int × List ((Int × Int)))) :=
 (if (decide (wait < (0 : Int))) = true then liftR (.ret (.inl (0 : Int))) else (if (decide (pieces = ([] : List ((Int × Int))))) = true then liftR (.ret (.inl (1 : Int))) else sumR (forR (fun (st_1 : Unit) y_2 => ((if (!(m_is_piece y_2.2.1 y_2.2.2)) = true then liftR (.ret (.inl (y_2.1 + (2 : Int)))) else .nx ()) : Res (Unit) (Unit) (Int ⊕ (Int × List ((Int × Int)))))) (enm pieces) ()) (fun st_3 => .ret (.inr (wait, m_plain pieces)))))

def mx_plain_gift (wait : Int) (pieces : List ((Int × Int))) : Int ⊕ (Int × List ((Int × Int))) := endR (m_plain_gift_x wait pieces)

def vc_plain_gift_x (wait : Int) (pieces : List ((Int × Int))) : Prop :=
 ((True ∧ True) ∧ ((decide (wait < (0 : Int))) = true → True) ∧ ((decide (wait < (0 : Int))) = false → ((True ∧ True) ∧ ((decide (pieces = ([] : List ((Int × Int))))) = true → True) ∧ ((decide (pieces = ([] : List ((Int × Int))))) = false → (True ∧ forP (fun (st_1 : Unit) y_2 => (((True ∧ True) ∧ vc_is_piece y_2.2.1 y_2.2.2) ∧ ((!(m_is_piece y_2.2.1 y_2.2.2)) = true → (True ∧ True)) ∧ ((!(m_is_piece y_2.2.1 y_2.2.2)) = false → True))) (fun (st_1 : Unit) y_2 => ((if (!(m_is_piece y_2.2.1 y_2.2.2)) = true then liftR (.ret (.inl (y_2.1 + (2 : Int)))) else .nx ()) : Res (Unit) (Unit) (Int ⊕ (Int × List ((Int × Int)))))) (enm pieces) () ∧ sumP (forR (fun (st_1 : Unit) y_2 => ((if (!(m_is_piece y_2.2.1 y_2.2.2)) = true then liftR (.ret (.inl (y_2.1 + (2 : Int)))) else .nx ()) : Res (Unit) (Unit) (Int ⊕ (Int × List ((Int × Int)))))) (enm pieces) ()) (fun st_3 => (True ∧ (True ∧ vc_plain pieces))))))))

def m_given_by (gift : (Int × List ((Int × Int)))) (tick : Int) : Int :=
 (let tp_1 := gift; if (decide (tp_1.1 < tick)) = true then minI (tp_1.2.map (fun y_2 => y_2.1 + (y_2.2 * (tick - tp_1.1)))) else (0 : Int))

def vc_given_by (gift : (Int × List ((Int × Int)))) (tick : Int) : Prop :=
 (True ∧ (let tp_1 := gift; ((True ∧ True) ∧ ((decide (tp_1.1 < tick)) = true → ((True ∧ tp_1.2.length ≤ sizeLine ∧ ∀ y_2 ∈ tp_1.2, (True ∧ (True ∧ (True ∧ True) ∧ CMul y_2.2 (tick - tp_1.1)))) ∧ (tp_1.2.map (fun y_2 => y_2.1 + (y_2.2 * (tick - tp_1.1)))) ≠ [])) ∧ ((decide (tp_1.1 < tick)) = false → True))))

def m_ticks_for (size : Int) (burst : Int) (rate : Int) : Int :=
 -((burst - size) / rate)

def vc_ticks_for (size : Int) (burst : Int) (rate : Int) : Prop :=
 ((True ∧ True) ∧ True ∧ CDiv (burst - size) rate)

def m_first_tick (gift : (Int × List ((Int × Int)))) (size : Int) : Int :=
 (let tp_1 := gift; tp_1.1 + (maxI ([(1 : Int)] ++ (tp_1.2.map (fun y_2 => m_ticks_for size y_2.1 y_2.2)))))

def vc_first_tick (gift : (Int × List ((Int × Int)))) (size : Int) : Prop :=
 (True ∧ (let tp_1 := gift; (True ∧ (((True ∧ True) ∧ (True ∧ tp_1.2.length ≤ sizeLine ∧ ∀ y_2 ∈ tp_1.2, ((True ∧ (True ∧ True)) ∧ vc_ticks_for size y_2.1 y_2.2)) ∧ [(1 : Int)].length + (tp_1.2.map (fun y_2 => m_ticks_for size y_2.1 y_2.2)).length ≤ sizeLine) ∧ ([(1 : Int)] ++ (tp_1.2.map (fun y_2 => m_ticks_for size y_2.1 y_2.2))) ≠ []))))

def m__law_draws (script : List Int) : List Int :=
 (let draws_1 := ([] : List Int); (let draws_16 := (rng 0 (if (script.length : Int) < (63 : Int) then (script.length : Int) else (63 : Int))).foldl (fun (draws_2 : List Int) y_3 => (let rest_4 := if gi script y_3 < 0 then -(gi script y_3) else gi script y_3; (let draws_15 := if (decide (((10 : Int) ^ ((18 : Int)).toNat) ≤ rest_4)) = true then (let st_10 := (rng 0 (60 : Int)).foldl (fun (st_5 : List Int × Int) y_6 => (let st_9 := if (decide ((0 : Int) < st_5.2)) = true then (let draws_7 := st_5.1 ++ [st_5.2 % (65536 : Int)]; (let rest_8 := st_5.2 / (65536 : Int); (draws_7, rest_8))) else (st_5.1, st_5.2); (st_9.1, st_9.2))) (draws_2, rest_4); st_10.1) else (let mixed_11 := ((rest_4 * (48271 : Int)) + ((y_3 + (1 : Int)) * (69621 : Int))) % (2147483647 : Int); (let mixed_12 := (((mixed_11 * (16807 : Int)) + ((11 : Int) * y_3)) + (5 : Int)) % (2147483629 : Int); (let draws_13 := draws_2 ++ [mixed_12 % (65536 : Int)]; (let draws_14 := draws_13 ++ [(mixed_12 / (65536 : Int)) % (32768 : Int)]; draws_14)))); draws_15))) draws_1; draws_16))

def vc__law_draws (script : List Int) : Prop :=
 (True ∧ (let draws_1 := ([] : List Int); ((((True ∧ (True ∧ True)) ∧ True) ∧ RgB (if (script.length : Int) < (63 : Int) then (script.length : Int) else (63 : Int))) ∧ foldP (fun (draws_2 : List Int) y_3 => (((True ∧ True ∧ InB y_3 script.length) ∧ True) ∧ (let rest_4 := if gi script y_3 < 0 then -(gi script y_3) else gi script y_3; ((True ∧ (True ∧ True ∧ CPow (10 : Int) (18 : Int))) ∧ ((decide (((10 : Int) ^ ((18 : Int)).toNat) ≤ rest_4)) = true → ((True ∧ RgB (60 : Int)) ∧ foldP (fun (st_5 : List Int × Int) y_6 => ((True ∧ True) ∧ ((decide ((0 : Int) < st_5.2)) = true → (((True ∧ True) ∧ True ∧ 0 < (65536 : Int)) ∧ st_5.1.length < sizeLine ∧ (let draws_7 := st_5.1 ++ [st_5.2 % (65536 : Int)]; ((True ∧ True ∧ CDiv st_5.2 (65536 : Int)) ∧ (let rest_8 := st_5.2 / (65536 : Int); True))))) ∧ ((decide ((0 : Int) < st_5.2)) = false → True) ∧ (let st_9 := if (decide ((0 : Int) < st_5.2)) = true then (let draws_7 := st_5.1 ++ [st_5.2 % (65536 : Int)]; (let rest_8 := st_5.2 / (65536 : Int); (draws_7, rest_8))) else (st_5.1, st_5.2); True))) (fun (st_5 : List Int × Int) y_6 => (let st_9 := if (decide ((0 : Int) < st_5.2)) = true then (let draws_7 := st_5.1 ++ [st_5.2 % (65536 : Int)]; (let rest_8 := st_5.2 / (65536 : Int); (draws_7, rest_8))) else (st_5.1, st_5.2); (st_9.1, st_9.2))) (rng 0 (60 : Int)) (draws_2, rest_4) ∧ (let st_10 := (rng 0 (60 : Int)).foldl (fun (st_5 : List Int × Int) y_6 => (let st_9 := if (decide ((0 : Int) < st_5.2)) = true then (let draws_7 := st_5.1 ++ [st_5.2 % (65536 : Int)]; (let rest_8 := st_5.2 / (65536 : Int); (draws_7, rest_8))) else (st_5.1, st_5.2); (st_9.1, st_9.2))) (draws_2, rest_4); True))) ∧ ((decide (((10 : Int) ^ ((18 : Int)).toNat) ≤ rest_4)) = false → (((((True ∧ True ∧ CMul rest_4 (48271 : Int)) ∧ ((True ∧ True) ∧ True ∧ CMul (y_3 + (1 : Int)) (69621 : Int))) ∧ True) ∧ True ∧ 0 < (2147483647 : Int)) ∧ (let mixed_11 := ((rest_4 * (48271 : Int)) + ((y_3 + (1 : Int)) * (69621 : Int))) % (2147483647 : Int); ((((((True ∧ True ∧ CMul mixed_11 (16807 : Int)) ∧ (True ∧ True ∧ CMul (11 : Int) y_3)) ∧ True) ∧ True) ∧ True ∧ 0 < (2147483629 : Int)) ∧ (let mixed_12 := (((mixed_11 * (16807 : Int)) + ((11 : Int) * y_3)) + (5 : Int)) % (2147483629 : Int); (((True ∧ True) ∧ True ∧ 0 < (65536 : Int)) ∧ draws_2.length < sizeLine ∧ (let draws_13 := draws_2 ++ [mixed_12 % (65536 : Int)]; ((((True ∧ True ∧ CDiv mixed_12 (65536 : Int)) ∧ True) ∧ True ∧ 0 < (32768 : Int)) ∧ draws_13.length < sizeLine ∧ (let draws_14 := draws_13 ++ [(mixed_12 / (65536 : Int)) % (32768 : Int)]; True))))))))) ∧ (let draws_15 := if (decide (((10 : Int) ^ ((18 : Int)).toNat) ≤ rest_4)) = true then (let st_10 := (rng 0 (60 : Int)).foldl (fun (st_5 : List Int × Int) y_6 => (let st_9 := if (decide ((0 : Int) < st_5.2)) = true then (let draws_7 := st_5.1 ++ [st_5.2 % (65536 : Int)]; (let rest_8 := st_5.2 / (65536 : Int); (draws_7, rest_8))) else (st_5.1, st_5.2); (st_9.1, st_9.2))) (draws_2, rest_4); st_10.1) else (let mixed_11 := ((rest_4 * (48271 : Int)) + ((y_3 + (1 : Int)) * (69621 : Int))) % (2147483647 : Int); (let mixed_12 := (((mixed_11 * (16807 : Int)) + ((11 : Int) * y_3)) + (5 : Int)) % (2147483629 : Int); (let draws_13 := draws_2 ++ [mixed_12 % (65536 : Int)]; (let draws_14 := draws_13 ++ [(mixed_12 / (65536 : Int)) % (32768 : Int)]; draws_14)))); True))))) (fun (draws_2 : List Int) y_3 => (let rest_4 := if gi script y_3 < 0 then -(gi script y_3) else gi script y_3; (let draws_15 := if (decide (((10 : Int) ^ ((18 : Int)).toNat) ≤ rest_4)) = true then (let st_10 := (rng 0 (60 : Int)).foldl (fun (st_5 : List Int × Int) y_6 => (let st_9 := if (decide ((0 : Int) < st_5.2)) = true then (let draws_7 := st_5.1 ++ [st_5.2 % (65536 : Int)]; (let rest_8 := st_5.2 / (65536 : Int); (draws_7, rest_8))) else (st_5.1, st_5.2); (st_9.1, st_9.2))) (draws_2, rest_4); st_10.1) else (let mixed_11 := ((rest_4 * (48271 : Int)) + ((y_3 + (1 : Int)) * (69621 : Int))) % (2147483647 : Int); (let mixed_12 := (((mixed_11 * (16807 : Int)) + ((11 : Int) * y_3)) + (5 : Int)) % (2147483629 : Int); (let draws_13 := draws_2 ++ [mixed_12 % (65536 : Int)]; (let draws_14 := draws_13 ++ [(mixed_12 / (65536 : Int)) % (32768 : Int)]; draws_14)))); draws_15))) (rng 0 (if (script.length : Int) < (63 : Int) then (script.length : Int) else (63 : Int))) draws_1 ∧ (let draws_16 := (rng 0 (if (script.length : Int) < (63 : Int) then (script.length : Int) else (63 : Int))).foldl (fun (draws_2 : List Int) y_3 => (let rest_4 := if gi script y_3 < 0 then -(gi script y_3) else gi script y_3; (let draws_15 := if (decide (((10 : Int) ^ ((18 : Int)).toNat) ≤ rest_4)) = true then (let st_10 := (rng 0 (60 : Int)).foldl (fun (st_5 : List Int × Int) y_6 => (let st_9 := if (decide ((0 : Int) < st_5.2)) = true then (let draws_7 := st_5.1 ++ [st_5.2 % (65536 : Int)]; (let rest_8 := st_5.2 / (65536 : Int); (draws_7, rest_8))) else (st_5.1, st_5.2); (st_9.1, st_9.2))) (draws_2, rest_4); st_10.1) else (let mixed_11 := ((rest_4 * (48271 : Int)) + ((y_3 + (1 : Int)) * (69621 : Int))) % (2147483647 : Int); (let mixed_12 := (((mixed_11 * (16807 : Int)) + ((11 : Int) * y_3)) + (5 : Int)) % (2147483629 : Int); (let draws_13 := draws_2 ++ [mixed_12 % (65536 : Int)]; (let draws_14 := draws_13 ++ [(mixed_12 / (65536 : Int)) % (32768 : Int)]; draws_14)))); draws_15))) draws_1; True))))

def m__law_mix (draws : List Int) (k : Int) (many : Int) : Int :=
 (let value_1 := (0 : Int); (let value_3 := if (decide ((0 : Int) < (draws.length : Int))) = true then (let value_2 := gi draws (k % (draws.length : Int)); value_2) else value_1; (if (decide (k < (draws.length : Int))) = true then value_3 % many else (((value_3 * (7919 : Int)) + (k * (104729 : Int))) / (3 : Int)) % many)))

def vc__law_mix (draws : List Int) (k : Int) (many : Int) : Prop :=
 (True ∧ (let value_1 := (0 : Int); (((True ∧ True) ∧ True) ∧ ((decide ((0 : Int) < (draws.length : Int))) = true → ((True ∧ ((True ∧ True) ∧ (True ∧ True) ∧ 0 < (draws.length : Int)) ∧ InB (k % (draws.length : Int)) draws.length) ∧ (let value_2 := gi draws (k % (draws.length : Int)); True))) ∧ ((decide ((0 : Int) < (draws.length : Int))) = false → True) ∧ (let value_3 := if (decide ((0 : Int) < (draws.length : Int))) = true then (let value_2 := gi draws (k % (draws.length : Int)); value_2) else value_1; ((True ∧ (True ∧ True)) ∧ ((decide (k < (draws.length : Int))) = true → ((True ∧ True) ∧ True ∧ 0 < many)) ∧ ((decide (k < (draws.length : Int))) = false → ((((((True ∧ True ∧ CMul value_3 (7919 : Int)) ∧ (True ∧ True ∧ CMul k (104729 : Int))) ∧ True) ∧ True ∧ CDiv ((value_3 * (7919 : Int)) + (k * (104729 : Int))) (3 : Int)) ∧ True) ∧ True ∧ 0 < many)))))))

def m__law_pieces (draws : List Int) (k : Int) (top : Int) : List ((Int × Int)) :=
 (let pieces_1 := ([] : List ((Int × Int))); (let pieces_6 := (rng 0 ((1 : Int) + (m__law_mix draws k (5 : Int)))).foldl (fun (pieces_2 : List ((Int × Int))) y_3 => (let burst_4 := m__law_mix draws ((k + (1 : Int)) + ((2 : Int) * y_3)) (gi [(1 : Int), top, (9 : Int)] (m__law_mix draws ((k + (11 : Int)) + y_3) (3 : Int))); (let pieces_5 := pieces_2 ++ [(burst_4, (1 : Int) + (m__law_mix draws ((k + (2 : Int)) + ((2 : Int) * y_3)) (gi [(3 : Int), (9 : Int), (1000000 : Int)] (m__law_mix draws (k + (16 : Int)) (3 : Int)))))]; pieces_5))) pieces_1; pieces_6))

def vc__law_pieces (draws : List Int) (k : Int) (top : Int) : Prop :=
 (True ∧ (let pieces_1 := ([] : List ((Int × Int))); (((True ∧ ((True ∧ (True ∧ True)) ∧ vc__law_mix draws k (5 : Int))) ∧ RgB ((1 : Int) + (m__law_mix draws k (5 : Int)))) ∧ foldP (fun (pieces_2 : List ((Int × Int))) y_3 => (((True ∧ (((True ∧ True) ∧ (True ∧ True ∧ CMul (2 : Int) y_3)) ∧ ((True ∧ (True ∧ (True ∧ True))) ∧ ((True ∧ (((True ∧ True) ∧ True) ∧ True)) ∧ vc__law_mix draws ((k + (11 : Int)) + y_3) (3 : Int)) ∧ InB (m__law_mix draws ((k + (11 : Int)) + y_3) (3 : Int)) [(1 : Int), top, (9 : Int)].length))) ∧ vc__law_mix draws ((k + (1 : Int)) + ((2 : Int) * y_3)) (gi [(1 : Int), top, (9 : Int)] (m__law_mix draws ((k + (11 : Int)) + y_3) (3 : Int)))) ∧ (let burst_4 := m__law_mix draws ((k + (1 : Int)) + ((2 : Int) * y_3)) (gi [(1 : Int), top, (9 : Int)] (m__law_mix draws ((k + (11 : Int)) + y_3) (3 : Int))); ((True ∧ (True ∧ ((True ∧ (((True ∧ True) ∧ (True ∧ True ∧ CMul (2 : Int) y_3)) ∧ ((True ∧ (True ∧ (True ∧ True))) ∧ ((True ∧ ((True ∧ True) ∧ True)) ∧ vc__law_mix draws (k + (16 : Int)) (3 : Int)) ∧ InB (m__law_mix draws (k + (16 : Int)) (3 : Int)) [(3 : Int), (9 : Int), (1000000 : Int)].length))) ∧ vc__law_mix draws ((k + (2 : Int)) + ((2 : Int) * y_3)) (gi [(3 : Int), (9 : Int), (1000000 : Int)] (m__law_mix draws (k + (16 : Int)) (3 : Int)))))) ∧ pieces_2.length < sizeLine ∧ (let pieces_5 := pieces_2 ++ [(burst_4, (1 : Int) + (m__law_mix draws ((k + (2 : Int)) + ((2 : Int) * y_3)) (gi [(3 : Int), (9 : Int), (1000000 : Int)] (m__law_mix draws (k + (16 : Int)) (3 : Int)))))]; True))))) (fun (pieces_2 : List ((Int × Int))) y_3 => (let burst_4 := m__law_mix draws ((k + (1 : Int)) + ((2 : Int) * y_3)) (gi [(1 : Int), top, (9 : Int)] (m__law_mix draws ((k + (11 : Int)) + y_3) (3 : Int))); (let pieces_5 := pieces_2 ++ [(burst_4, (1 : Int) + (m__law_mix draws ((k + (2 : Int)) + ((2 : Int) * y_3)) (gi [(3 : Int), (9 : Int), (1000000 : Int)] (m__law_mix draws (k + (16 : Int)) (3 : Int)))))]; pieces_5))) (rng 0 ((1 : Int) + (m__law_mix draws k (5 : Int)))) pieces_1 ∧ (let pieces_6 := (rng 0 ((1 : Int) + (m__law_mix draws k (5 : Int)))).foldl (fun (pieces_2 : List ((Int × Int))) y_3 => (let burst_4 := m__law_mix draws ((k + (1 : Int)) + ((2 : Int) * y_3)) (gi [(1 : Int), top, (9 : Int)] (m__law_mix draws ((k + (11 : Int)) + y_3) (3 : Int))); (let pieces_5 := pieces_2 ++ [(burst_4, (1 : Int) + (m__law_mix draws ((k + (2 : Int)) + ((2 : Int) * y_3)) (gi [(3 : Int), (9 : Int), (1000000 : Int)] (m__law_mix draws (k + (16 : Int)) (3 : Int)))))]; pieces_5))) pieces_1; True))))

def m__law_gives (wait : Int) (pieces : List ((Int × Int))) (tick : Int) : Int :=
 (if (decide (tick ≤ wait)) = true then (0 : Int) else minI (pieces.map (fun y_1 => y_1.1 + (y_1.2 * (tick - wait)))))

def vc__law_gives (wait : Int) (pieces : List ((Int × Int))) (tick : Int) : Prop :=
 ((True ∧ True) ∧ ((decide (tick ≤ wait)) = true → True) ∧ ((decide (tick ≤ wait)) = false → ((True ∧ pieces.length ≤ sizeLine ∧ ∀ y_1 ∈ pieces, (True ∧ (True ∧ (True ∧ True) ∧ CMul y_1.2 (tick - wait)))) ∧ (pieces.map (fun y_1 => y_1.1 + (y_1.2 * (tick - wait)))) ≠ [])))

def m__law_is_least (piece : (Int × Int)) (pieces : List ((Int × Int))) : Bool :=
 (let low_1 := (-(1 : Int), (1 : Int)); (let high_2 := (none : Option ((Int × Int))); sumV (forR (fun (st_3 : (Int × Int) × Option ((Int × Int))) y_4 => ((if ((decide (y_4.2 = piece.2)) && (decide (y_4.1 < piece.1))) = true then liftR (.ret false) else (let low_6 := if ((decide (piece.2 < y_4.2)) && (decide ((st_3.1.1 * (y_4.2 - piece.2)) < ((piece.1 - y_4.1) * st_3.1.2)))) = true then (let low_5 := (piece.1 - y_4.1, y_4.2 - piece.2); low_5) else st_3.1; (let high_8 := if ((decide (y_4.2 < piece.2)) && (st_3.2.isNone || (decide (((y_4.1 - piece.1) * ((st_3.2.getD default).2)) < (((st_3.2.getD default).1) * (piece.2 - y_4.2)))))) = true then (let high_7 := some (y_4.1 - piece.1, piece.2 - y_4.2); high_7) else st_3.2; .nx (low_6, high_8)))) : Res ((Int × Int) × Option ((Int × Int))) ((Int × Int) × Option ((Int × Int))) (Bool))) pieces (low_1, high_2)) (fun st_9 => (st_9.2.isNone || ((decide ((0 : Int) < ((st_9.2.getD default).1))) && (decide ((st_9.1.1 * ((st_9.2.getD default).2)) < (((st_9.2.getD default).1) * st_9.1.2))))))))

def vc__law_is_least (piece : (Int × Int)) (pieces : List ((Int × Int))) : Prop :=
 ((True ∧ True) ∧ (let low_1 := (-(1 : Int), (1 : Int)); (True ∧ (let high_2 := (none : Option ((Int × Int))); (True ∧ forP (fun (st_3 : (Int × Int) × Option ((Int × Int))) y_4 => (((True ∧ True) ∧ ((decide (y_4.2 = piece.2)) = true → (True ∧ True))) ∧ (((decide (y_4.2 = piece.2)) && (decide (y_4.1 < piece.1))) = true → True) ∧ (((decide (y_4.2 = piece.2)) && (decide (y_4.1 < piece.1))) = false → (((True ∧ True) ∧ ((decide (piece.2 < y_4.2)) = true → (((True ∧ True) ∧ True ∧ CMul (piece.1 - y_4.1) st_3.1.2) ∧ (True ∧ (True ∧ True) ∧ CMul st_3.1.1 (y_4.2 - piece.2))))) ∧ (((decide (piece.2 < y_4.2)) && (decide ((st_3.1.1 * (y_4.2 - piece.2)) < ((piece.1 - y_4.1) * st_3.1.2)))) = true → (((True ∧ True) ∧ (True ∧ True)) ∧ (let low_5 := (piece.1 - y_4.1, y_4.2 - piece.2); True))) ∧ (((decide (piece.2 < y_4.2)) && (decide ((st_3.1.1 * (y_4.2 - piece.2)) < ((piece.1 - y_4.1) * st_3.1.2)))) = false → True) ∧ (let low_6 := if ((decide (piece.2 < y_4.2)) && (decide ((st_3.1.1 * (y_4.2 - piece.2)) < ((piece.1 - y_4.1) * st_3.1.2)))) = true then (let low_5 := (piece.1 - y_4.1, y_4.2 - piece.2); low_5) else st_3.1; (((True ∧ True) ∧ ((decide (y_4.2 < piece.2)) = true → (True ∧ (st_3.2.isNone = false → (((True ∧ True) ∧ (True ∧ st_3.2.isSome = true) ∧ CMul (y_4.1 - piece.1) ((st_3.2.getD default).2)) ∧ ((True ∧ st_3.2.isSome = true) ∧ (True ∧ True) ∧ CMul ((st_3.2.getD default).1) (piece.2 - y_4.2))))))) ∧ (((decide (y_4.2 < piece.2)) && (st_3.2.isNone || (decide (((y_4.1 - piece.1) * ((st_3.2.getD default).2)) < (((st_3.2.getD default).1) * (piece.2 - y_4.2)))))) = true → (((True ∧ True) ∧ (True ∧ True)) ∧ (let high_7 := some (y_4.1 - piece.1, piece.2 - y_4.2); True))) ∧ (((decide (y_4.2 < piece.2)) && (st_3.2.isNone || (decide (((y_4.1 - piece.1) * ((st_3.2.getD default).2)) < (((st_3.2.getD default).1) * (piece.2 - y_4.2)))))) = false → True) ∧ (let high_8 := if ((decide (y_4.2 < piece.2)) && (st_3.2.isNone || (decide (((y_4.1 - piece.1) * ((st_3.2.getD default).2)) < (((st_3.2.getD default).1) * (piece.2 - y_4.2)))))) = true then (let high_7 := some (y_4.1 - piece.1, piece.2 - y_4.2); high_7) else st_3.2; True))))))) (fun (st_3 : (Int × Int) × Option ((Int × Int))) y_4 => ((if ((decide (y_4.2 = piece.2)) && (decide (y_4.1 < piece.1))) = true then liftR (.ret false) else (let low_6 := if ((decide (piece.2 < y_4.2)) && (decide ((st_3.1.1 * (y_4.2 - piece.2)) < ((piece.1 - y_4.1) * st_3.1.2)))) = true then (let low_5 := (piece.1 - y_4.1, y_4.2 - piece.2); low_5) else st_3.1; (let high_8 := if ((decide (y_4.2 < piece.2)) && (st_3.2.isNone || (decide (((y_4.1 - piece.1) * ((st_3.2.getD default).2)) < (((st_3.2.getD default).1) * (piece.2 - y_4.2)))))) = true then (let high_7 := some (y_4.1 - piece.1, piece.2 - y_4.2); high_7) else st_3.2; .nx (low_6, high_8)))) : Res ((Int × Int) × Option ((Int × Int))) ((Int × Int) × Option ((Int × Int))) (Bool))) pieces (low_1, high_2) ∧ sumP (forR (fun (st_3 : (Int × Int) × Option ((Int × Int))) y_4 => ((if ((decide (y_4.2 = piece.2)) && (decide (y_4.1 < piece.1))) = true then liftR (.ret false) else (let low_6 := if ((decide (piece.2 < y_4.2)) && (decide ((st_3.1.1 * (y_4.2 - piece.2)) < ((piece.1 - y_4.1) * st_3.1.2)))) = true then (let low_5 := (piece.1 - y_4.1, y_4.2 - piece.2); low_5) else st_3.1; (let high_8 := if ((decide (y_4.2 < piece.2)) && (st_3.2.isNone || (decide (((y_4.1 - piece.1) * ((st_3.2.getD default).2)) < (((st_3.2.getD default).1) * (piece.2 - y_4.2)))))) = true then (let high_7 := some (y_4.1 - piece.1, piece.2 - y_4.2); high_7) else st_3.2; .nx (low_6, high_8)))) : Res ((Int × Int) × Option ((Int × Int))) ((Int × Int) × Option ((Int × Int))) (Bool))) pieces (low_1, high_2)) (fun st_9 => (True ∧ (st_9.2.isNone = false → (((True ∧ st_9.2.isSome = true) ∧ True) ∧ ((decide ((0 : Int) < ((st_9.2.getD default).1))) = true → (((True ∧ st_9.2.isSome = true) ∧ True ∧ CMul ((st_9.2.getD default).1) st_9.1.2) ∧ (True ∧ (True ∧ st_9.2.isSome = true) ∧ CMul st_9.1.1 ((st_9.2.getD default).2)))))))))))))

def m__law_plain (pieces : List ((Int × Int))) : List ((Int × Int)) :=
 ((sortSetP pieces).filter (fun y_1 => m__law_is_least y_1 pieces)).map (fun y_1 => y_1)

def vc__law_plain (pieces : List ((Int × Int))) : Prop :=
 ((True ∧ PcB pieces) ∧ (sortSetP pieces).length ≤ sizeLine ∧ ∀ y_1 ∈ sortSetP pieces, ((True ∧ True) ∧ vc__law_is_least y_1 pieces) ∧ ((m__law_is_least y_1 pieces) = true → True))

def m__law_refused (wait : Int) (pieces : List ((Int × Int))) : Option ((Bool × Int)) :=
 tryV (thrR (mx_plain_gift wait pieces) (fun _ => .nx ()))

def vc__law_refused (wait : Int) (pieces : List ((Int × Int))) : Prop :=
 ((True ∧ True) ∧ vc_plain_gift_x wait pieces ∧ (thrP (mx_plain_gift wait pieces) (fun _ => True)))

def m__law_is_gift (wait : Int) (pieces : List ((Int × Int))) : Bool :=
 (if ((decide (wait < (0 : Int))) || ((decide (pieces = ([] : List ((Int × Int))))) || (!decide ((pieces.filter (fun y_2 => ((decide (y_2.1 < (0 : Int))) || (!(decide ((1 : Int) ≤ y_2.2) && decide (y_2.2 ≤ (1000000 : Int))))))).map (fun y_2 => y_2) = ([] : List ((Int × Int))))))) = true then false else decide (pieces = m__law_plain pieces))

def vc__law_is_gift (wait : Int) (pieces : List ((Int × Int))) : Prop :=
 (((True ∧ True) ∧ ((decide (wait < (0 : Int))) = false → ((True ∧ True) ∧ ((decide (pieces = ([] : List ((Int × Int))))) = false → ((True ∧ pieces.length ≤ sizeLine ∧ ∀ y_2 ∈ pieces, ((True ∧ True) ∧ ((decide (y_2.1 < (0 : Int))) = false → (True ∧ True ∧ (decide ((1 : Int) ≤ y_2.2) = true → True)))) ∧ (((decide (y_2.1 < (0 : Int))) || (!(decide ((1 : Int) ≤ y_2.2) && decide (y_2.2 ≤ (1000000 : Int))))) = true → True)) ∧ True))))) ∧ (((decide (wait < (0 : Int))) || ((decide (pieces = ([] : List ((Int × Int))))) || (!decide ((pieces.filter (fun y_2 => ((decide (y_2.1 < (0 : Int))) || (!(decide ((1 : Int) ≤ y_2.2) && decide (y_2.2 ≤ (1000000 : Int))))))).map (fun y_2 => y_2) = ([] : List ((Int × Int))))))) = true → True) ∧ (((decide (wait < (0 : Int))) || ((decide (pieces = ([] : List ((Int × Int))))) || (!decide ((pieces.filter (fun y_2 => ((decide (y_2.1 < (0 : Int))) || (!(decide ((1 : Int) ≤ y_2.2) && decide (y_2.2 ≤ (1000000 : Int))))))).map (fun y_2 => y_2) = ([] : List ((Int × Int))))))) = false → (True ∧ (True ∧ vc__law_plain pieces))))

def m_law (script : List Int) : Bool :=
 (let draws_1 := m__law_draws script; sumV (forR (fun (st_2 : Unit) y_3 => ((let pieces_4 := m__law_pieces draws_1 ((20 : Int) + ((60 : Int) * y_3)) (gi [(3 : Int), (40 : Int), (10 : Int) ^ ((12 : Int)).toNat] (m__law_mix draws_1 y_3 (3 : Int))); (let wait_5 := m__law_mix draws_1 ((4 : Int) + y_3) (gi [(1 : Int), (9 : Int), (10 : Int) ^ ((12 : Int)).toNat] (m__law_mix draws_1 ((8 : Int) + y_3) (3 : Int))); (let kept_6 := shw (rL (rT (tc rI (t1 rI)))) pieces_4; (let told_7 := m_plain_gift wait_5 pieces_4; (if ((!true) || ((!decide (shw (rT (tc rI (t1 (rL (rT (tc rI (t1 rI))))))) told_7 = shw (rT (tc rI (t1 (rL (rT (tc rI (t1 rI))))))) (wait_5, m__law_plain pieces_4))) || (!decide (shw (rL (rT (tc rI (t1 rI)))) pieces_4 = kept_6)))) = true then liftR (.ret false) else (if (!decide ((m_is_gift told_7) = true)) = true then liftR (.ret false) else (let others_8 := [pieces_4, told_7.2.reverse, told_7.2 ++ (cut told_7.2 (none) (some (1 : Int))), cut told_7.2 (some (1 : Int)) (none), [(-(1 : Int), (5 : Int))] ++ told_7.2, told_7.2 ++ [((10 : Int) ^ ((13 : Int)).toNat, (0 : Int))]]; (let others_9 := others_8 ++ [[((0 : Int), (1000001 : Int))] ++ told_7.2, sortP (told_7.2 ++ [(m__law_mix draws_1 ((40 : Int) + ((60 : Int) * y_3)) (20 : Int), (1 : Int) + (m__law_mix draws_1 ((41 : Int) + ((60 : Int) * y_3)) (9 : Int)))])]; sumR (forR (fun (st_10 : Unit) y_11 => (sumR (forR (fun (st_12 : Unit) y_13 => ((let before_14 := shw (rL (rT (tc rI (t1 rI)))) y_11; (if ((!decide (shw rB (m_is_gift (y_13, y_11)) = shw rB (m__law_is_gift y_13 y_11))) || (!decide (shw (rL (rT (tc rI (t1 rI)))) y_11 = before_14))) = true then liftR (.ret false) else .nx ())) : Res (Unit) (Unit) (Bool))) [wait_5, (-(1 : Int)) - (m__law_mix draws_1 (12 : Int) (9 : Int))] ()) (fun st_15 => .nx ()) : Res (Unit) (Unit) (Bool))) others_9 ()) (fun st_16 => sumR (forR (fun (st_17 : Unit) y_18 => ((let tick_19 := gi [(0 : Int), wait_5, wait_5 + (1 : Int), wait_5 + (2 : Int), wait_5 + (m__law_mix draws_1 ((42 : Int) + ((60 : Int) * y_3)) (50 : Int)), wait_5 + (m__law_mix draws_1 ((43 : Int) + ((60 : Int) * y_3)) ((10 : Int) ^ ((9 : Int)).toNat))] y_18; (let number_20 := m__law_gives wait_5 pieces_4 tick_19; (if (!decide (shw rI (m_given_by told_7 tick_19) = shw rI number_20)) = true then liftR (.ret false) else sumR (forR (fun (st_21 : Unit) y_22 => (bindR (if (decide ((0 : Int) < y_22)) = true then (let first_23 := m_first_tick told_7 y_22; (if ((!true) || false) = true then liftR (.ret false) else (if ((decide ((m__law_gives wait_5 pieces_4 first_23) < y_22)) || (decide (y_22 ≤ (m__law_gives wait_5 pieces_4 (first_23 - (1 : Int)))))) = true then liftR (.ret false) else .nx ()))) else .nx () : Res (Unit) (Unit) (Bool)) (fun st_24 => .nx ()) : Res (Unit) (Unit) (Bool))) [number_20, number_20 + (1 : Int), (1 : Int) + (m__law_mix draws_1 (((44 : Int) + ((60 : Int) * y_3)) + y_18) ((10 : Int) ^ ((6 : Int)).toNat))] ()) (fun st_25 => .nx ())))) : Res (Unit) (Unit) (Bool))) (rng 0 (6 : Int)) ()) (fun st_26 => (let at_27 := m__law_mix draws_1 (13 : Int) (pieces_4.length : Int); (let wrong_28 := gi [(-(1 : Int), (1 : Int)), ((0 : Int), (0 : Int)), ((0 : Int), (1000001 : Int)), ((5 : Int), -(3 : Int))] (m__law_mix draws_1 (14 : Int) (4 : Int)); (let bad_29 := ((cut pieces_4 (none) (some at_27)) ++ [wrong_28]) ++ (repL [(-(9 : Int), (0 : Int))] ((pieces_4.length : Int) - at_27)); (if ((!decide (m__law_refused ((-(1 : Int)) - wait_5) ([] : List ((Int × Int))) = some (true, (0 : Int)))) || ((!decide (m__law_refused wait_5 ([] : List ((Int × Int))) = some (true, (1 : Int)))) || (!decide (m__law_refused wait_5 bad_29 = some (true, at_27 + (2 : Int)))))) = true then liftR (.ret false) else .nx ())))))))))))))) : Res (Unit) (Unit) (Bool))) (rng 0 (4 : Int)) ()) (fun st_30 => true))

def vc_law (script : List Int) : Prop :=
 ((True ∧ vc__law_draws script) ∧ (let draws_1 := m__law_draws script; ((True ∧ RgB (4 : Int)) ∧ forP (fun (st_2 : Unit) y_3 => (((True ∧ ((True ∧ (True ∧ True ∧ CMul (60 : Int) y_3)) ∧ ((True ∧ (True ∧ ((True ∧ True ∧ CPow (10 : Int) (12 : Int)) ∧ True))) ∧ ((True ∧ (True ∧ True)) ∧ vc__law_mix draws_1 y_3 (3 : Int)) ∧ InB (m__law_mix draws_1 y_3 (3 : Int)) [(3 : Int), (40 : Int), (10 : Int) ^ ((12 : Int)).toNat].length))) ∧ vc__law_pieces draws_1 ((20 : Int) + ((60 : Int) * y_3)) (gi [(3 : Int), (40 : Int), (10 : Int) ^ ((12 : Int)).toNat] (m__law_mix draws_1 y_3 (3 : Int)))) ∧ (let pieces_4 := m__law_pieces draws_1 ((20 : Int) + ((60 : Int) * y_3)) (gi [(3 : Int), (40 : Int), (10 : Int) ^ ((12 : Int)).toNat] (m__law_mix draws_1 y_3 (3 : Int))); (((True ∧ ((True ∧ True) ∧ ((True ∧ (True ∧ ((True ∧ True ∧ CPow (10 : Int) (12 : Int)) ∧ True))) ∧ ((True ∧ ((True ∧ True) ∧ True)) ∧ vc__law_mix draws_1 ((8 : Int) + y_3) (3 : Int)) ∧ InB (m__law_mix draws_1 ((8 : Int) + y_3) (3 : Int)) [(1 : Int), (9 : Int), (10 : Int) ^ ((12 : Int)).toNat].length))) ∧ vc__law_mix draws_1 ((4 : Int) + y_3) (gi [(1 : Int), (9 : Int), (10 : Int) ^ ((12 : Int)).toNat] (m__law_mix draws_1 ((8 : Int) + y_3) (3 : Int)))) ∧ (let wait_5 := m__law_mix draws_1 ((4 : Int) + y_3) (gi [(1 : Int), (9 : Int), (10 : Int) ^ ((12 : Int)).toNat] (m__law_mix draws_1 ((8 : Int) + y_3) (3 : Int))); ((True ∧ ShwB (rL (rT (tc rI (t1 rI)))) pieces_4) ∧ (let kept_6 := shw (rL (rT (tc rI (t1 rI)))) pieces_4; (((True ∧ True) ∧ vc_plain_gift wait_5 pieces_4) ∧ (let told_7 := m_plain_gift wait_5 pieces_4; (((True ∧ True) ∧ ((!true) = false → (((True ∧ ShwB (rT (tc rI (t1 (rL (rT (tc rI (t1 rI))))))) told_7) ∧ ((True ∧ (True ∧ vc__law_plain pieces_4)) ∧ ShwB (rT (tc rI (t1 (rL (rT (tc rI (t1 rI))))))) (wait_5, m__law_plain pieces_4))) ∧ ((!decide (shw (rT (tc rI (t1 (rL (rT (tc rI (t1 rI))))))) told_7 = shw (rT (tc rI (t1 (rL (rT (tc rI (t1 rI))))))) (wait_5, m__law_plain pieces_4))) = false → ((True ∧ ShwB (rL (rT (tc rI (t1 rI)))) pieces_4) ∧ True))))) ∧ (((!true) || ((!decide (shw (rT (tc rI (t1 (rL (rT (tc rI (t1 rI))))))) told_7 = shw (rT (tc rI (t1 (rL (rT (tc rI (t1 rI))))))) (wait_5, m__law_plain pieces_4))) || (!decide (shw (rL (rT (tc rI (t1 rI)))) pieces_4 = kept_6)))) = true → True) ∧ (((!true) || ((!decide (shw (rT (tc rI (t1 (rL (rT (tc rI (t1 rI))))))) told_7 = shw (rT (tc rI (t1 (rL (rT (tc rI (t1 rI))))))) (wait_5, m__law_plain pieces_4))) || (!decide (shw (rL (rT (tc rI (t1 rI)))) pieces_4 = kept_6)))) = false → ((True ∧ vc_is_gift told_7) ∧ ((!decide ((m_is_gift told_7) = true)) = true → True) ∧ ((!decide ((m_is_gift told_7) = true)) = false → ((True ∧ (True ∧ ((True ∧ (True ∧ True ∧ True) ∧ told_7.2.length + (cut told_7.2 (none) (some (1 : Int))).length ≤ sizeLine) ∧ ((True ∧ True ∧ True) ∧ ((((True ∧ True) ∧ True) ∧ True ∧ [(-(1 : Int), (5 : Int))].length + told_7.2.length ≤ sizeLine) ∧ ((True ∧ (((True ∧ True ∧ CPow (10 : Int) (13 : Int)) ∧ True) ∧ True) ∧ told_7.2.length + [((10 : Int) ^ ((13 : Int)).toNat, (0 : Int))].length ≤ sizeLine) ∧ True)))))) ∧ (let others_8 := [pieces_4, told_7.2.reverse, told_7.2 ++ (cut told_7.2 (none) (some (1 : Int))), cut told_7.2 (some (1 : Int)) (none), [(-(1 : Int), (5 : Int))] ++ told_7.2, told_7.2 ++ [((10 : Int) ^ ((13 : Int)).toNat, (0 : Int))]]; ((True ∧ ((((True ∧ True) ∧ True) ∧ True ∧ [((0 : Int), (1000001 : Int))].length + told_7.2.length ≤ sizeLine) ∧ (((True ∧ ((((True ∧ ((True ∧ (True ∧ True ∧ CMul (60 : Int) y_3)) ∧ True)) ∧ vc__law_mix draws_1 ((40 : Int) + ((60 : Int) * y_3)) (20 : Int)) ∧ (True ∧ ((True ∧ ((True ∧ (True ∧ True ∧ CMul (60 : Int) y_3)) ∧ True)) ∧ vc__law_mix draws_1 ((41 : Int) + ((60 : Int) * y_3)) (9 : Int)))) ∧ True) ∧ told_7.2.length + [(m__law_mix draws_1 ((40 : Int) + ((60 : Int) * y_3)) (20 : Int), (1 : Int) + (m__law_mix draws_1 ((41 : Int) + ((60 : Int) * y_3)) (9 : Int)))].length ≤ sizeLine) ∧ True) ∧ True)) ∧ others_8.length + [[((0 : Int), (1000001 : Int))] ++ told_7.2, sortP (told_7.2 ++ [(m__law_mix draws_1 ((40 : Int) + ((60 : Int) * y_3)) (20 : Int), (1 : Int) + (m__law_mix draws_1 ((41 : Int) + ((60 : Int) * y_3)) (9 : Int)))])].length ≤ sizeLine) ∧ (let others_9 := others_8 ++ [[((0 : Int), (1000001 : Int))] ++ told_7.2, sortP (told_7.2 ++ [(m__law_mix draws_1 ((40 : Int) + ((60 : Int) * y_3)) (20 : Int), (1 : Int) + (m__law_mix draws_1 ((41 : Int) + ((60 : Int) * y_3)) (9 : Int)))])]; (True ∧ forP (fun (st_10 : Unit) y_11 => ((True ∧ ((True ∧ ((True ∧ (True ∧ True)) ∧ vc__law_mix draws_1 (12 : Int) (9 : Int))) ∧ True)) ∧ forP (fun (st_12 : Unit) y_13 => ((True ∧ ShwB (rL (rT (tc rI (t1 rI)))) y_11) ∧ (let before_14 := shw (rL (rT (tc rI (t1 rI)))) y_11; ((((((True ∧ True) ∧ vc_is_gift (y_13, y_11)) ∧ ShwB rB (m_is_gift (y_13, y_11))) ∧ (((True ∧ True) ∧ vc__law_is_gift y_13 y_11) ∧ ShwB rB (m__law_is_gift y_13 y_11))) ∧ ((!decide (shw rB (m_is_gift (y_13, y_11)) = shw rB (m__law_is_gift y_13 y_11))) = false → ((True ∧ ShwB (rL (rT (tc rI (t1 rI)))) y_11) ∧ True))) ∧ (((!decide (shw rB (m_is_gift (y_13, y_11)) = shw rB (m__law_is_gift y_13 y_11))) || (!decide (shw (rL (rT (tc rI (t1 rI)))) y_11 = before_14))) = true → True) ∧ (((!decide (shw rB (m_is_gift (y_13, y_11)) = shw rB (m__law_is_gift y_13 y_11))) || (!decide (shw (rL (rT (tc rI (t1 rI)))) y_11 = before_14))) = false → True))))) (fun (st_12 : Unit) y_13 => ((let before_14 := shw (rL (rT (tc rI (t1 rI)))) y_11; (if ((!decide (shw rB (m_is_gift (y_13, y_11)) = shw rB (m__law_is_gift y_13 y_11))) || (!decide (shw (rL (rT (tc rI (t1 rI)))) y_11 = before_14))) = true then liftR (.ret false) else .nx ())) : Res (Unit) (Unit) (Bool))) [wait_5, (-(1 : Int)) - (m__law_mix draws_1 (12 : Int) (9 : Int))] () ∧ sumP (forR (fun (st_12 : Unit) y_13 => ((let before_14 := shw (rL (rT (tc rI (t1 rI)))) y_11; (if ((!decide (shw rB (m_is_gift (y_13, y_11)) = shw rB (m__law_is_gift y_13 y_11))) || (!decide (shw (rL (rT (tc rI (t1 rI)))) y_11 = before_14))) = true then liftR (.ret false) else .nx ())) : Res (Unit) (Unit) (Bool))) [wait_5, (-(1 : Int)) - (m__law_mix draws_1 (12 : Int) (9 : Int))] ()) (fun st_15 => True))) (fun (st_10 : Unit) y_11 => (sumR (forR (fun (st_12 : Unit) y_13 => ((let before_14 := shw (rL (rT (tc rI (t1 rI)))) y_11; (if ((!decide (shw rB (m_is_gift (y_13, y_11)) = shw rB (m__law_is_gift y_13 y_11))) || (!decide (shw (rL (rT (tc rI (t1 rI)))) y_11 = before_14))) = true then liftR (.ret false) else .nx ())) : Res (Unit) (Unit) (Bool))) [wait_5, (-(1 : Int)) - (m__law_mix draws_1 (12 : Int) (9 : Int))] ()) (fun st_15 => .nx ()) : Res (Unit) (Unit) (Bool))) others_9 () ∧ sumP (forR (fun (st_10 : Unit) y_11 => (sumR (forR (fun (st_12 : Unit) y_13 => ((let before_14 := shw (rL (rT (tc rI (t1 rI)))) y_11; (if ((!decide (shw rB (m_is_gift (y_13, y_11)) = shw rB (m__law_is_gift y_13 y_11))) || (!decide (shw (rL (rT (tc rI (t1 rI)))) y_11 = before_14))) = true then liftR (.ret false) else .nx ())) : Res (Unit) (Unit) (Bool))) [wait_5, (-(1 : Int)) - (m__law_mix draws_1 (12 : Int) (9 : Int))] ()) (fun st_15 => .nx ()) : Res (Unit) (Unit) (Bool))) others_9 ()) (fun st_16 => ((True ∧ RgB (6 : Int)) ∧ forP (fun (st_17 : Unit) y_18 => (((True ∧ (True ∧ ((True ∧ True) ∧ ((True ∧ True) ∧ ((True ∧ ((True ∧ ((True ∧ (True ∧ True ∧ CMul (60 : Int) y_3)) ∧ True)) ∧ vc__law_mix draws_1 ((42 : Int) + ((60 : Int) * y_3)) (50 : Int))) ∧ ((True ∧ ((True ∧ ((True ∧ (True ∧ True ∧ CMul (60 : Int) y_3)) ∧ (True ∧ True ∧ CPow (10 : Int) (9 : Int)))) ∧ vc__law_mix draws_1 ((43 : Int) + ((60 : Int) * y_3)) ((10 : Int) ^ ((9 : Int)).toNat))) ∧ True)))))) ∧ True ∧ InB y_18 [(0 : Int), wait_5, wait_5 + (1 : Int), wait_5 + (2 : Int), wait_5 + (m__law_mix draws_1 ((42 : Int) + ((60 : Int) * y_3)) (50 : Int)), wait_5 + (m__law_mix draws_1 ((43 : Int) + ((60 : Int) * y_3)) ((10 : Int) ^ ((9 : Int)).toNat))].length) ∧ (let tick_19 := gi [(0 : Int), wait_5, wait_5 + (1 : Int), wait_5 + (2 : Int), wait_5 + (m__law_mix draws_1 ((42 : Int) + ((60 : Int) * y_3)) (50 : Int)), wait_5 + (m__law_mix draws_1 ((43 : Int) + ((60 : Int) * y_3)) ((10 : Int) ^ ((9 : Int)).toNat))] y_18; (((True ∧ (True ∧ True)) ∧ vc__law_gives wait_5 pieces_4 tick_19) ∧ (let number_20 := m__law_gives wait_5 pieces_4 tick_19; (((((True ∧ True) ∧ vc_given_by told_7 tick_19) ∧ ShwB rI (m_given_by told_7 tick_19)) ∧ (True ∧ ShwB rI number_20)) ∧ ((!decide (shw rI (m_given_by told_7 tick_19) = shw rI number_20)) = true → True) ∧ ((!decide (shw rI (m_given_by told_7 tick_19) = shw rI number_20)) = false → ((True ∧ ((True ∧ True) ∧ ((True ∧ ((True ∧ (((True ∧ (True ∧ True ∧ CMul (60 : Int) y_3)) ∧ True) ∧ (True ∧ True ∧ CPow (10 : Int) (6 : Int)))) ∧ vc__law_mix draws_1 (((44 : Int) + ((60 : Int) * y_3)) + y_18) ((10 : Int) ^ ((6 : Int)).toNat))) ∧ True))) ∧ forP (fun (st_21 : Unit) y_22 => ((True ∧ True) ∧ ((decide ((0 : Int) < y_22)) = true → (((True ∧ True) ∧ vc_first_tick told_7 y_22) ∧ (let first_23 := m_first_tick told_7 y_22; (((True ∧ True) ∧ ((!true) = false → (True ∧ True))) ∧ (((!true) || false) = true → True) ∧ (((!true) || false) = false → (((((True ∧ (True ∧ True)) ∧ vc__law_gives wait_5 pieces_4 first_23) ∧ True) ∧ ((decide ((m__law_gives wait_5 pieces_4 first_23) < y_22)) = false → (((True ∧ (True ∧ (True ∧ True))) ∧ vc__law_gives wait_5 pieces_4 (first_23 - (1 : Int))) ∧ True))) ∧ (((decide ((m__law_gives wait_5 pieces_4 first_23) < y_22)) || (decide (y_22 ≤ (m__law_gives wait_5 pieces_4 (first_23 - (1 : Int)))))) = true → True) ∧ (((decide ((m__law_gives wait_5 pieces_4 first_23) < y_22)) || (decide (y_22 ≤ (m__law_gives wait_5 pieces_4 (first_23 - (1 : Int)))))) = false → True))))))) ∧ ((decide ((0 : Int) < y_22)) = false → True) ∧ bindP (if (decide ((0 : Int) < y_22)) = true then (let first_23 := m_first_tick told_7 y_22; (if ((!true) || false) = true then liftR (.ret false) else (if ((decide ((m__law_gives wait_5 pieces_4 first_23) < y_22)) || (decide (y_22 ≤ (m__law_gives wait_5 pieces_4 (first_23 - (1 : Int)))))) = true then liftR (.ret false) else .nx ()))) else .nx () : Res (Unit) (Unit) (Bool)) (fun st_24 => True))) (fun (st_21 : Unit) y_22 => (bindR (if (decide ((0 : Int) < y_22)) = true then (let first_23 := m_first_tick told_7 y_22; (if ((!true) || false) = true then liftR (.ret false) else (if ((decide ((m__law_gives wait_5 pieces_4 first_23) < y_22)) || (decide (y_22 ≤ (m__law_gives wait_5 pieces_4 (first_23 - (1 : Int)))))) = true then liftR (.ret false) else .nx ()))) else .nx () : Res (Unit) (Unit) (Bool)) (fun st_24 => .nx ()) : Res (Unit) (Unit) (Bool))) [number_20, number_20 + (1 : Int), (1 : Int) + (m__law_mix draws_1 (((44 : Int) + ((60 : Int) * y_3)) + y_18) ((10 : Int) ^ ((6 : Int)).toNat))] () ∧ sumP (forR (fun (st_21 : Unit) y_22 => (bindR (if (decide ((0 : Int) < y_22)) = true then (let first_23 := m_first_tick told_7 y_22; (if ((!true) || false) = true then liftR (.ret false) else (if ((decide ((m__law_gives wait_5 pieces_4 first_23) < y_22)) || (decide (y_22 ≤ (m__law_gives wait_5 pieces_4 (first_23 - (1 : Int)))))) = true then liftR (.ret false) else .nx ()))) else .nx () : Res (Unit) (Unit) (Bool)) (fun st_24 => .nx ()) : Res (Unit) (Unit) (Bool))) [number_20, number_20 + (1 : Int), (1 : Int) + (m__law_mix draws_1 (((44 : Int) + ((60 : Int) * y_3)) + y_18) ((10 : Int) ^ ((6 : Int)).toNat))] ()) (fun st_25 => True))))))))) (fun (st_17 : Unit) y_18 => ((let tick_19 := gi [(0 : Int), wait_5, wait_5 + (1 : Int), wait_5 + (2 : Int), wait_5 + (m__law_mix draws_1 ((42 : Int) + ((60 : Int) * y_3)) (50 : Int)), wait_5 + (m__law_mix draws_1 ((43 : Int) + ((60 : Int) * y_3)) ((10 : Int) ^ ((9 : Int)).toNat))] y_18; (let number_20 := m__law_gives wait_5 pieces_4 tick_19; (if (!decide (shw rI (m_given_by told_7 tick_19) = shw rI number_20)) = true then liftR (.ret false) else sumR (forR (fun (st_21 : Unit) y_22 => (bindR (if (decide ((0 : Int) < y_22)) = true then (let first_23 := m_first_tick told_7 y_22; (if ((!true) || false) = true then liftR (.ret false) else (if ((decide ((m__law_gives wait_5 pieces_4 first_23) < y_22)) || (decide (y_22 ≤ (m__law_gives wait_5 pieces_4 (first_23 - (1 : Int)))))) = true then liftR (.ret false) else .nx ()))) else .nx () : Res (Unit) (Unit) (Bool)) (fun st_24 => .nx ()) : Res (Unit) (Unit) (Bool))) [number_20, number_20 + (1 : Int), (1 : Int) + (m__law_mix draws_1 (((44 : Int) + ((60 : Int) * y_3)) + y_18) ((10 : Int) ^ ((6 : Int)).toNat))] ()) (fun st_25 => .nx ())))) : Res (Unit) (Unit) (Bool))) (rng 0 (6 : Int)) () ∧ sumP (forR (fun (st_17 : Unit) y_18 => ((let tick_19 := gi [(0 : Int), wait_5, wait_5 + (1 : Int), wait_5 + (2 : Int), wait_5 + (m__law_mix draws_1 ((42 : Int) + ((60 : Int) * y_3)) (50 : Int)), wait_5 + (m__law_mix draws_1 ((43 : Int) + ((60 : Int) * y_3)) ((10 : Int) ^ ((9 : Int)).toNat))] y_18; (let number_20 := m__law_gives wait_5 pieces_4 tick_19; (if (!decide (shw rI (m_given_by told_7 tick_19) = shw rI number_20)) = true then liftR (.ret false) else sumR (forR (fun (st_21 : Unit) y_22 => (bindR (if (decide ((0 : Int) < y_22)) = true then (let first_23 := m_first_tick told_7 y_22; (if ((!true) || false) = true then liftR (.ret false) else (if ((decide ((m__law_gives wait_5 pieces_4 first_23) < y_22)) || (decide (y_22 ≤ (m__law_gives wait_5 pieces_4 (first_23 - (1 : Int)))))) = true then liftR (.ret false) else .nx ()))) else .nx () : Res (Unit) (Unit) (Bool)) (fun st_24 => .nx ()) : Res (Unit) (Unit) (Bool))) [number_20, number_20 + (1 : Int), (1 : Int) + (m__law_mix draws_1 (((44 : Int) + ((60 : Int) * y_3)) + y_18) ((10 : Int) ^ ((6 : Int)).toNat))] ()) (fun st_25 => .nx ())))) : Res (Unit) (Unit) (Bool))) (rng 0 (6 : Int)) ()) (fun st_26 => (True ∧ True ∧ told_7.2.length < sizeLine ∧ (((True ∧ (True ∧ (True ∧ True))) ∧ vc__law_mix draws_1 (13 : Int) (pieces_4.length : Int)) ∧ (let at_27 := m__law_mix draws_1 (13 : Int) (pieces_4.length : Int); ((((True ∧ True) ∧ ((True ∧ True) ∧ ((True ∧ True) ∧ ((True ∧ True) ∧ True)))) ∧ ((True ∧ (True ∧ True)) ∧ vc__law_mix draws_1 (14 : Int) (4 : Int)) ∧ InB (m__law_mix draws_1 (14 : Int) (4 : Int)) [(-(1 : Int), (1 : Int)), ((0 : Int), (0 : Int)), ((0 : Int), (1000001 : Int)), ((5 : Int), -(3 : Int))].length) ∧ (let wrong_28 := gi [(-(1 : Int), (1 : Int)), ((0 : Int), (0 : Int)), ((0 : Int), (1000001 : Int)), ((5 : Int), -(3 : Int))] (m__law_mix draws_1 (14 : Int) (4 : Int)); ((((True ∧ True ∧ True) ∧ (True ∧ True) ∧ (cut pieces_4 (none) (some at_27)).length + [wrong_28].length ≤ sizeLine) ∧ (((True ∧ True) ∧ True) ∧ ((True ∧ True) ∧ True) ∧ RepB [(-(9 : Int), (0 : Int))].length ((pieces_4.length : Int) - at_27)) ∧ ((cut pieces_4 (none) (some at_27)) ++ [wrong_28]).length + (repL [(-(9 : Int), (0 : Int))] ((pieces_4.length : Int) - at_27)).length ≤ sizeLine) ∧ (let bad_29 := ((cut pieces_4 (none) (some at_27)) ++ [wrong_28]) ++ (repL [(-(9 : Int), (0 : Int))] ((pieces_4.length : Int) - at_27)); ((((((True ∧ True) ∧ True) ∧ vc__law_refused ((-(1 : Int)) - wait_5) ([] : List ((Int × Int)))) ∧ (True ∧ True)) ∧ ((!decide (m__law_refused ((-(1 : Int)) - wait_5) ([] : List ((Int × Int))) = some (true, (0 : Int)))) = false → ((((True ∧ True) ∧ vc__law_refused wait_5 ([] : List ((Int × Int)))) ∧ (True ∧ True)) ∧ ((!decide (m__law_refused wait_5 ([] : List ((Int × Int))) = some (true, (1 : Int)))) = false → (((True ∧ True) ∧ vc__law_refused wait_5 bad_29) ∧ (True ∧ (True ∧ True))))))) ∧ (((!decide (m__law_refused ((-(1 : Int)) - wait_5) ([] : List ((Int × Int))) = some (true, (0 : Int)))) || ((!decide (m__law_refused wait_5 ([] : List ((Int × Int))) = some (true, (1 : Int)))) || (!decide (m__law_refused wait_5 bad_29 = some (true, at_27 + (2 : Int)))))) = true → True) ∧ (((!decide (m__law_refused ((-(1 : Int)) - wait_5) ([] : List ((Int × Int))) = some (true, (0 : Int)))) || ((!decide (m__law_refused wait_5 ([] : List ((Int × Int))) = some (true, (1 : Int)))) || (!decide (m__law_refused wait_5 bad_29 = some (true, at_27 + (2 : Int)))))) = false → True)))))))))))))))))))))))))))))) (fun (st_2 : Unit) y_3 => ((let pieces_4 := m__law_pieces draws_1 ((20 : Int) + ((60 : Int) * y_3)) (gi [(3 : Int), (40 : Int), (10 : Int) ^ ((12 : Int)).toNat] (m__law_mix draws_1 y_3 (3 : Int))); (let wait_5 := m__law_mix draws_1 ((4 : Int) + y_3) (gi [(1 : Int), (9 : Int), (10 : Int) ^ ((12 : Int)).toNat] (m__law_mix draws_1 ((8 : Int) + y_3) (3 : Int))); (let kept_6 := shw (rL (rT (tc rI (t1 rI)))) pieces_4; (let told_7 := m_plain_gift wait_5 pieces_4; (if ((!true) || ((!decide (shw (rT (tc rI (t1 (rL (rT (tc rI (t1 rI))))))) told_7 = shw (rT (tc rI (t1 (rL (rT (tc rI (t1 rI))))))) (wait_5, m__law_plain pieces_4))) || (!decide (shw (rL (rT (tc rI (t1 rI)))) pieces_4 = kept_6)))) = true then liftR (.ret false) else (if (!decide ((m_is_gift told_7) = true)) = true then liftR (.ret false) else (let others_8 := [pieces_4, told_7.2.reverse, told_7.2 ++ (cut told_7.2 (none) (some (1 : Int))), cut told_7.2 (some (1 : Int)) (none), [(-(1 : Int), (5 : Int))] ++ told_7.2, told_7.2 ++ [((10 : Int) ^ ((13 : Int)).toNat, (0 : Int))]]; (let others_9 := others_8 ++ [[((0 : Int), (1000001 : Int))] ++ told_7.2, sortP (told_7.2 ++ [(m__law_mix draws_1 ((40 : Int) + ((60 : Int) * y_3)) (20 : Int), (1 : Int) + (m__law_mix draws_1 ((41 : Int) + ((60 : Int) * y_3)) (9 : Int)))])]; sumR (forR (fun (st_10 : Unit) y_11 => (sumR (forR (fun (st_12 : Unit) y_13 => ((let before_14 := shw (rL (rT (tc rI (t1 rI)))) y_11; (if ((!decide (shw rB (m_is_gift (y_13, y_11)) = shw rB (m__law_is_gift y_13 y_11))) || (!decide (shw (rL (rT (tc rI (t1 rI)))) y_11 = before_14))) = true then liftR (.ret false) else .nx ())) : Res (Unit) (Unit) (Bool))) [wait_5, (-(1 : Int)) - (m__law_mix draws_1 (12 : Int) (9 : Int))] ()) (fun st_15 => .nx ()) : Res (Unit) (Unit) (Bool))) others_9 ()) (fun st_16 => sumR (forR (fun (st_17 : Unit) y_18 => ((let tick_19 := gi [(0 : Int), wait_5, wait_5 + (1 : Int), wait_5 + (2 : Int), wait_5 + (m__law_mix draws_1 ((42 : Int) + ((60 : Int) * y_3)) (50 : Int)), wait_5 + (m__law_mix draws_1 ((43 : Int) + ((60 : Int) * y_3)) ((10 : Int) ^ ((9 : Int)).toNat))] y_18; (let number_20 := m__law_gives wait_5 pieces_4 tick_19; (if (!decide (shw rI (m_given_by told_7 tick_19) = shw rI number_20)) = true then liftR (.ret false) else sumR (forR (fun (st_21 : Unit) y_22 => (bindR (if (decide ((0 : Int) < y_22)) = true then (let first_23 := m_first_tick told_7 y_22; (if ((!true) || false) = true then liftR (.ret false) else (if ((decide ((m__law_gives wait_5 pieces_4 first_23) < y_22)) || (decide (y_22 ≤ (m__law_gives wait_5 pieces_4 (first_23 - (1 : Int)))))) = true then liftR (.ret false) else .nx ()))) else .nx () : Res (Unit) (Unit) (Bool)) (fun st_24 => .nx ()) : Res (Unit) (Unit) (Bool))) [number_20, number_20 + (1 : Int), (1 : Int) + (m__law_mix draws_1 (((44 : Int) + ((60 : Int) * y_3)) + y_18) ((10 : Int) ^ ((6 : Int)).toNat))] ()) (fun st_25 => .nx ())))) : Res (Unit) (Unit) (Bool))) (rng 0 (6 : Int)) ()) (fun st_26 => (let at_27 := m__law_mix draws_1 (13 : Int) (pieces_4.length : Int); (let wrong_28 := gi [(-(1 : Int), (1 : Int)), ((0 : Int), (0 : Int)), ((0 : Int), (1000001 : Int)), ((5 : Int), -(3 : Int))] (m__law_mix draws_1 (14 : Int) (4 : Int)); (let bad_29 := ((cut pieces_4 (none) (some at_27)) ++ [wrong_28]) ++ (repL [(-(9 : Int), (0 : Int))] ((pieces_4.length : Int) - at_27)); (if ((!decide (m__law_refused ((-(1 : Int)) - wait_5) ([] : List ((Int × Int))) = some (true, (0 : Int)))) || ((!decide (m__law_refused wait_5 ([] : List ((Int × Int))) = some (true, (1 : Int)))) || (!decide (m__law_refused wait_5 bad_29 = some (true, at_27 + (2 : Int)))))) = true then liftR (.ret false) else .nx ())))))))))))))) : Res (Unit) (Unit) (Bool))) (rng 0 (4 : Int)) () ∧ sumP (forR (fun (st_2 : Unit) y_3 => ((let pieces_4 := m__law_pieces draws_1 ((20 : Int) + ((60 : Int) * y_3)) (gi [(3 : Int), (40 : Int), (10 : Int) ^ ((12 : Int)).toNat] (m__law_mix draws_1 y_3 (3 : Int))); (let wait_5 := m__law_mix draws_1 ((4 : Int) + y_3) (gi [(1 : Int), (9 : Int), (10 : Int) ^ ((12 : Int)).toNat] (m__law_mix draws_1 ((8 : Int) + y_3) (3 : Int))); (let kept_6 := shw (rL (rT (tc rI (t1 rI)))) pieces_4; (let told_7 := m_plain_gift wait_5 pieces_4; (if ((!true) || ((!decide (shw (rT (tc rI (t1 (rL (rT (tc rI (t1 rI))))))) told_7 = shw (rT (tc rI (t1 (rL (rT (tc rI (t1 rI))))))) (wait_5, m__law_plain pieces_4))) || (!decide (shw (rL (rT (tc rI (t1 rI)))) pieces_4 = kept_6)))) = true then liftR (.ret false) else (if (!decide ((m_is_gift told_7) = true)) = true then liftR (.ret false) else (let others_8 := [pieces_4, told_7.2.reverse, told_7.2 ++ (cut told_7.2 (none) (some (1 : Int))), cut told_7.2 (some (1 : Int)) (none), [(-(1 : Int), (5 : Int))] ++ told_7.2, told_7.2 ++ [((10 : Int) ^ ((13 : Int)).toNat, (0 : Int))]]; (let others_9 := others_8 ++ [[((0 : Int), (1000001 : Int))] ++ told_7.2, sortP (told_7.2 ++ [(m__law_mix draws_1 ((40 : Int) + ((60 : Int) * y_3)) (20 : Int), (1 : Int) + (m__law_mix draws_1 ((41 : Int) + ((60 : Int) * y_3)) (9 : Int)))])]; sumR (forR (fun (st_10 : Unit) y_11 => (sumR (forR (fun (st_12 : Unit) y_13 => ((let before_14 := shw (rL (rT (tc rI (t1 rI)))) y_11; (if ((!decide (shw rB (m_is_gift (y_13, y_11)) = shw rB (m__law_is_gift y_13 y_11))) || (!decide (shw (rL (rT (tc rI (t1 rI)))) y_11 = before_14))) = true then liftR (.ret false) else .nx ())) : Res (Unit) (Unit) (Bool))) [wait_5, (-(1 : Int)) - (m__law_mix draws_1 (12 : Int) (9 : Int))] ()) (fun st_15 => .nx ()) : Res (Unit) (Unit) (Bool))) others_9 ()) (fun st_16 => sumR (forR (fun (st_17 : Unit) y_18 => ((let tick_19 := gi [(0 : Int), wait_5, wait_5 + (1 : Int), wait_5 + (2 : Int), wait_5 + (m__law_mix draws_1 ((42 : Int) + ((60 : Int) * y_3)) (50 : Int)), wait_5 + (m__law_mix draws_1 ((43 : Int) + ((60 : Int) * y_3)) ((10 : Int) ^ ((9 : Int)).toNat))] y_18; (let number_20 := m__law_gives wait_5 pieces_4 tick_19; (if (!decide (shw rI (m_given_by told_7 tick_19) = shw rI number_20)) = true then liftR (.ret false) else sumR (forR (fun (st_21 : Unit) y_22 => (bindR (if (decide ((0 : Int) < y_22)) = true then (let first_23 := m_first_tick told_7 y_22; (if ((!true) || false) = true then liftR (.ret false) else (if ((decide ((m__law_gives wait_5 pieces_4 first_23) < y_22)) || (decide (y_22 ≤ (m__law_gives wait_5 pieces_4 (first_23 - (1 : Int)))))) = true then liftR (.ret false) else .nx ()))) else .nx () : Res (Unit) (Unit) (Bool)) (fun st_24 => .nx ()) : Res (Unit) (Unit) (Bool))) [number_20, number_20 + (1 : Int), (1 : Int) + (m__law_mix draws_1 (((44 : Int) + ((60 : Int) * y_3)) + y_18) ((10 : Int) ^ ((6 : Int)).toNat))] ()) (fun st_25 => .nx ())))) : Res (Unit) (Unit) (Bool))) (rng 0 (6 : Int)) ()) (fun st_26 => (let at_27 := m__law_mix draws_1 (13 : Int) (pieces_4.length : Int); (let wrong_28 := gi [(-(1 : Int), (1 : Int)), ((0 : Int), (0 : Int)), ((0 : Int), (1000001 : Int)), ((5 : Int), -(3 : Int))] (m__law_mix draws_1 (14 : Int) (4 : Int)); (let bad_29 := ((cut pieces_4 (none) (some at_27)) ++ [wrong_28]) ++ (repL [(-(9 : Int), (0 : Int))] ((pieces_4.length : Int) - at_27)); (if ((!decide (m__law_refused ((-(1 : Int)) - wait_5) ([] : List ((Int × Int))) = some (true, (0 : Int)))) || ((!decide (m__law_refused wait_5 ([] : List ((Int × Int))) = some (true, (1 : Int)))) || (!decide (m__law_refused wait_5 bad_29 = some (true, at_27 + (2 : Int)))))) = true then liftR (.ret false) else .nx ())))))))))))))) : Res (Unit) (Unit) (Bool))) (rng 0 (4 : Int)) ()) (fun st_30 => True))))
def iniS : Stmt := match topS 1 with
  | .ClassDef (body := b) .. => b.getD 0 (.Pass ⟨0, 0, 0, 0⟩)
  | _ => .Pass ⟨0, 0, 0, 0⟩

theorem iniB : IniB iniS := ⟨⟨_, _, _, _, _, _, _, _, _, _, _, _, rfl, fun _ => ⟨_, rfl⟩⟩, ⟨rfl, rfl, rfl, by decide +kernel, rfl, by decide +kernel, by decide +kernel⟩, by decide +kernel, by decide +kernel, by decide +kernel⟩
structure Top (K : PySem.W.Frag) (mg : Str → Option Value) where
  xf : Exf K mg iniS
  b_abs : mg "abs" = none
  b_all : mg "all" = none
  b_bool : mg "bool" = none
  b_enumerate : mg "enumerate" = none
  b_int : mg "int" = none
  b_isinstance : mg "isinstance" = none
  b_len : mg "len" = none
  b_max : mg "max" = none
  b_min : mg "min" = none
  b_range : mg "range" = none
  b_repr : mg "repr" = none
  b_set : mg "set" = none
  b_sorted : mg "sorted" = none
  b_tuple : mg "tuple" = none
  tc_GREATEST_RATE : Tok
  c_GREATEST_RATE : mg "GREATEST_RATE" = some (.int 1000000 tc_GREATEST_RATE)
  a_is_piece : Addr
  fd_is_piece : FuncData
  f_is_piece : Fun K "is_piece" "is_piece" (topS 5) a_is_piece fd_is_piece
  g_is_piece : mg "is_piece" = some (.ref a_is_piece)
  d_is_piece : Binds K fd_is_piece ["burst", "rate"] []
  a_is_over : Addr
  fd_is_over : FuncData
  f_is_over : Fun K "is_over" "is_over" (topS 7) a_is_over fd_is_over
  g_is_over : mg "is_over" = some (.ref a_is_over)
  d_is_over : Binds K fd_is_over ["first", "middle", "last"] []
  a_plain : Addr
  fd_plain : FuncData
  f_plain : Fun K "plain" "plain" (topS 6) a_plain fd_plain
  g_plain : mg "plain" = some (.ref a_plain)
  d_plain : Binds K fd_plain ["pieces"] []
  a_is_gift : Addr
  fd_is_gift : FuncData
  f_is_gift : Fun K "is_gift" "is_gift" (topS 8) a_is_gift fd_is_gift
  g_is_gift : mg "is_gift" = some (.ref a_is_gift)
  d_is_gift : Binds K fd_is_gift ["gift"] []
  a_plain_gift : Addr
  fd_plain_gift : FuncData
  f_plain_gift : Fun K "plain_gift" "plain_gift" (topS 9) a_plain_gift fd_plain_gift
  g_plain_gift : mg "plain_gift" = some (.ref a_plain_gift)
  d_plain_gift : Binds K fd_plain_gift ["wait", "pieces"] []
  a_given_by : Addr
  fd_given_by : FuncData
  f_given_by : Fun K "given_by" "given_by" (topS 10) a_given_by fd_given_by
  g_given_by : mg "given_by" = some (.ref a_given_by)
  d_given_by : Binds K fd_given_by ["gift", "tick"] []
  a_ticks_for : Addr
  fd_ticks_for : FuncData
  f_ticks_for : Fun K "ticks_for" "ticks_for" (topS 11) a_ticks_for fd_ticks_for
  g_ticks_for : mg "ticks_for" = some (.ref a_ticks_for)
  d_ticks_for : Binds K fd_ticks_for ["size", "burst", "rate"] []
  a_first_tick : Addr
  fd_first_tick : FuncData
  f_first_tick : Fun K "first_tick" "first_tick" (topS 12) a_first_tick fd_first_tick
  g_first_tick : mg "first_tick" = some (.ref a_first_tick)
  d_first_tick : Binds K fd_first_tick ["gift", "size"] []
  a__law_draws : Addr
  fd__law_draws : FuncData
  f__law_draws : Fun K "_law_draws" "_law_draws" (topS 14) a__law_draws fd__law_draws
  g__law_draws : mg "_law_draws" = some (.ref a__law_draws)
  d__law_draws : Binds K fd__law_draws ["script"] []
  a__law_mix : Addr
  fd__law_mix : FuncData
  f__law_mix : Fun K "_law_mix" "_law_mix" (topS 15) a__law_mix fd__law_mix
  g__law_mix : mg "_law_mix" = some (.ref a__law_mix)
  d__law_mix : Binds K fd__law_mix ["draws", "k", "many"] []
  a__law_pieces : Addr
  fd__law_pieces : FuncData
  f__law_pieces : Fun K "_law_pieces" "_law_pieces" (topS 16) a__law_pieces fd__law_pieces
  g__law_pieces : mg "_law_pieces" = some (.ref a__law_pieces)
  d__law_pieces : Binds K fd__law_pieces ["draws", "k", "top"] []
  a__law_gives : Addr
  fd__law_gives : FuncData
  f__law_gives : Fun K "_law_gives" "_law_gives" (topS 17) a__law_gives fd__law_gives
  g__law_gives : mg "_law_gives" = some (.ref a__law_gives)
  d__law_gives : Binds K fd__law_gives ["wait", "pieces", "tick"] []
  a__law_is_least : Addr
  fd__law_is_least : FuncData
  f__law_is_least : Fun K "_law_is_least" "_law_is_least" (topS 18) a__law_is_least fd__law_is_least
  g__law_is_least : mg "_law_is_least" = some (.ref a__law_is_least)
  d__law_is_least : Binds K fd__law_is_least ["piece", "pieces"] []
  a__law_plain : Addr
  fd__law_plain : FuncData
  f__law_plain : Fun K "_law_plain" "_law_plain" (topS 19) a__law_plain fd__law_plain
  g__law_plain : mg "_law_plain" = some (.ref a__law_plain)
  d__law_plain : Binds K fd__law_plain ["pieces"] []
  a__law_refused : Addr
  fd__law_refused : FuncData
  f__law_refused : Fun K "_law_refused" "_law_refused" (topS 20) a__law_refused fd__law_refused
  g__law_refused : mg "_law_refused" = some (.ref a__law_refused)
  d__law_refused : Binds K fd__law_refused ["wait", "pieces"] []
  a__law_is_gift : Addr
  fd__law_is_gift : FuncData
  f__law_is_gift : Fun K "_law_is_gift" "_law_is_gift" (topS 21) a__law_is_gift fd__law_is_gift
  g__law_is_gift : mg "_law_is_gift" = some (.ref a__law_is_gift)
  d__law_is_gift : Binds K fd__law_is_gift ["wait", "pieces"] []
  a_law : Addr
  fd_law : FuncData
  f_law : Fun K "law" "law" (topS 22) a_law fd_law
  g_law : mg "law" = some (.ref a_law)
  d_law : Binds K fd_law ["script"] []
theorem sc_is_piece : FnScope ["burst", "rate"] ["burst", "rate"] (defScope (topS 5)) := ⟨rfl, rfl, rfl, by decide +kernel, rfl, by decide +kernel, by decide +kernel⟩
theorem ok_is_piece {P : Program} {w : World} {K : PySem.W.Frag} {mg : Str → Option Value} {base : Heap} (T : Top K mg) : FnG P w K mg base CX0 1 (T).a_is_piece (T).fd_is_piece ["burst", "rate"] (spF (tc rI (t1 rI)) rB (fun x => vc_is_piece x.1 x.2) (fun x => m_is_piece x.1 x.2)) := by
  refine fn_mk (Γ0 := fun x => [.val rI x.1, .val rI x.2]) (T).f_is_piece sc_is_piece rfl (as_c as_1) (fun _ => rfl) ?_
  intro X h1 h2 h3 h4 h5 C C2 fn x
  subst h1 h2 h3 h4 h5
  obtain ⟨burst, rate⟩ := x
  have h : Bt X [.val rI burst, .val rI rate] (defBody (topS 5)) (prN rB) _ _ :=
 (bl_ret (ev_andV (ev_ge (ev_var (i := 0) C rfl rfl rfl) ev_int) (ev_one (ev_chain (f := fun i j => decide (i ≤ j)) (g := fun i j => decide (i ≤ j)) op_le op_le ev_int (ev_var (i := 1) C rfl rfl rfl) (ev_globI C rfl (T).c_GREATEST_RATE)))))
  unfold vc_is_piece m_is_piece
  try dsimp (config := { zeta := false }) only at h ⊢
  exact h

theorem sc_is_over : FnScope ["first", "middle", "last", "left", "right"] ["first", "middle", "last"] (defScope (topS 7)) := ⟨rfl, rfl, rfl, by decide +kernel, rfl, by decide +kernel, by decide +kernel⟩
theorem ok_is_over {P : Program} {w : World} {K : PySem.W.Frag} {mg : Str → Option Value} {base : Heap} (T : Top K mg) : FnG P w K mg base CX0 1 (T).a_is_over (T).fd_is_over ["first", "middle", "last"] (spF (tc (rT (tc rI (t1 rI))) (tc (rT (tc rI (t1 rI))) (t1 (rT (tc rI (t1 rI)))))) rB (fun x => vc_is_over x.1 x.2.1 x.2.2) (fun x => m_is_over x.1 x.2.1 x.2.2)) := by
  refine fn_mk (Γ0 := fun x => [.val (rT (tc rI (t1 rI))) x.1, .val (rT (tc rI (t1 rI))) x.2.1, .val (rT (tc rI (t1 rI))) x.2.2, .junk, .junk]) (T).f_is_over sc_is_over rfl (as_c (as_c as_1)) (fun _ => rfl) ?_
  intro X h1 h2 h3 h4 h5 C C2 fn x
  subst h1 h2 h3 h4 h5
  obtain ⟨first_, middle, last_⟩ := x
  have h : Bt X [.val (rT (tc rI (t1 rI))) first_, .val (rT (tc rI (t1 rI))) middle, .val (rT (tc rI (t1 rI))) last_, .junk, .junk] (defBody (topS 7)) (prN rB) _ _ :=
 (bw_asg Res.ret C (tgt_def C fn rfl) 3 rfl (ev_mul (ev_sub (ev_tix (k := 0) (ev_var (i := 1) C rfl rfl rfl) ta_0) (ev_tix (k := 0) (ev_var (i := 0) C rfl rfl rfl) ta_0)) (ev_sub (ev_tix (k := 1) (ev_var (i := 1) C rfl rfl rfl) (ta_s ta_1)) (ev_tix (k := 1) (ev_var (i := 2) C rfl rfl rfl) (ta_s ta_1)))) fun left_1 =>
 (bw_asg Res.ret C (tgt_def C fn rfl) 4 rfl (ev_mul (ev_sub (ev_tix (k := 0) (ev_var (i := 2) C rfl rfl rfl) ta_0) (ev_tix (k := 0) (ev_var (i := 1) C rfl rfl rfl) ta_0)) (ev_sub (ev_tix (k := 1) (ev_var (i := 0) C rfl rfl rfl) (ta_s ta_1)) (ev_tix (k := 1) (ev_var (i := 1) C rfl rfl rfl) (ta_s ta_1)))) fun right_2 =>
 (bl_ret (ev_ge (ev_var (i := 3) C rfl rfl rfl) (ev_var (i := 4) C rfl rfl rfl)))))
  unfold vc_is_over m_is_over
  try dsimp (config := { zeta := false }) only at h ⊢
  exact h

theorem sc_plain : FnScope ["pieces", "kept", "burst", "rate"] ["pieces"] (defScope (topS 6)) := ⟨rfl, rfl, rfl, by decide +kernel, rfl, by decide +kernel, by decide +kernel⟩
theorem ok_plain {P : Program} {w : World} {K : PySem.W.Frag} {mg : Str → Option Value} {base : Heap} (T : Top K mg) : FnG P w K mg base CX0 2 (T).a_plain (T).fd_plain ["pieces"] (spN (t1 (rL (rT (tc rI (t1 rI))))) (moL (rT (tc rI (t1 rI)))) (fun x => vc_plain x) (fun x => m_plain x)) := by
  refine fn_mkNew (Γ0 := fun x => [.val (rL (rT (tc rI (t1 rI)))) x, .junk, .junk, .junk]) (T).f_plain sc_plain rfl as_1 (fun _ => rfl) ?_
  intro X h1 h2 h3 h4 h5 C C2 fn x
  subst h1 h2 h3 h4 h5
  revert x; intro pieces
  have h : Bt X [.val (rL (rT (tc rI (t1 rI)))) pieces, .junk, .junk, .junk] (defBody (topS 6)) (prNew (moL (rT (tc rI (t1 rI))))) _ _ :=
 (bw_own Res.ret C (tgt_def C fn rfl) 1 rfl (en_list (r := (rT (tc rI (t1 rI)))) es_nil) fun kept_1 =>
 (bw_for Res.ret (fun (kept_2 : List ((Int × Int))) => [.junk, .own (moL (rT (tc rI (t1 rI)))) kept_2, .junk, .junk]) (c0 := kept_1) C C2 (ei_list ((en_sortP C rfl (T).b_sorted ((ev_var (i := 0) C rfl rfl rfl)).c)).f) (.junk (.same (.junk (.junk .nil)))) (fun kept_2 => (tg_tup C.calm (tgs_cons (tg_name (i := 2) C rfl (tgt_def C fn rfl)) fun _ => (tgs_one (tg_name (i := 3) C rfl (tgt_def C fn rfl)))) rfl))
 (fun kept_2 y_3 => (bw_if Res.nx (fun (kept_8 : List ((Int × Int))) => [.junk, .own (moL (rT (tc rI (t1 rI)))) kept_8, .junk, .junk]) (EvW.t (ew_or (et_eq C ((el_own (i := 1) C rfl rfl rfl)).q (((en_list (r := (rT (tc rI (t1 rI)))) es_nil)).f).q) (ew_or1 (et_lt (ev_var (i := 3) C rfl rfl rfl) (ev_tix (k := 1) (ev_ix ((el_own (i := 1) C rfl rfl rfl)).c (ev_neg ev_int)) (ta_s ta_1))))))
 (bw_while Res.nx (fun (kept_4 : List ((Int × Int))) => [.junk, .own (moL (rT (tc rI (t1 rI)))) kept_4, .val rI y_3.1, .val rI y_3.2]) (c0 := kept_2) ((kept_2).length + 1) C2 (.junk (.same (.same (.same .nil)))) (fun kept_4 => (EvW.t (ew_and (et_gt (ev_len C rfl (T).b_len ((el_own (i := 1) C rfl rfl rfl)).c) ev_int) (ew_and1 (EvF.t (ev_call (ok_is_over (T)) C C2 (by decide) rfl (T).g_is_over (T).f_is_over.kp (T).d_is_over (ea_cons (ev_ix ((el_own (i := 1) C rfl rfl rfl)).c (ev_neg ev_int)) (ea_cons (ev_ix ((el_own (i := 1) C rfl rfl rfl)).c (ev_neg ev_int)) (ea_one (ev_tup (ea_cons (ev_var (i := 2) C rfl rfl rfl) (ea_one (ev_var (i := 3) C rfl rfl rfl)))))))))))))
 (fun kept_4 => (bw_pop Res.nx C 1 rfl rfl rfl  fun kept_5 =>
 (bl_nx (c := kept_5) (.junk (.same (.same (.same .nil)))))))
 fun kept_6 => (bw_append Res.nx C 1 rfl rfl rfl (ev_tup (ea_cons (ev_var (i := 2) C rfl rfl rfl) (ea_one (ev_var (i := 3) C rfl rfl rfl)))) fun kept_7 =>
 (bl_nx (c := kept_7) (.junk (.same (.junk (.junk .nil)))))))
 (bl_nx (c := kept_2) (.junk (.same (.junk (.junk .nil)))))
 fun kept_8 => (bl_nx (c := kept_8) (.junk (.same (.junk (.junk .nil)))))))
 fun kept_9 => (bl_retO C 1 rfl rfl rfl)))
  unfold vc_plain m_plain
  try dsimp (config := { zeta := false }) only at h ⊢
  exact h

theorem sc_is_gift : FnScope ["gift", "wait", "pieces", "burst", "rate"] ["gift"] (defScope (topS 8)) := ⟨rfl, rfl, rfl, by decide +kernel, rfl, by decide +kernel, by decide +kernel⟩
theorem ok_is_gift {P : Program} {w : World} {K : PySem.W.Frag} {mg : Str → Option Value} {base : Heap} (T : Top K mg) : FnG P w K mg base CX0 3 (T).a_is_gift (T).fd_is_gift ["gift"] (spF (t1 (rT (tc rI (t1 (rL (rT (tc rI (t1 rI)))))))) rB (fun x => vc_is_gift x) (fun x => m_is_gift x)) := by
  refine fn_mk (Γ0 := fun x => [.val (rT (tc rI (t1 (rL (rT (tc rI (t1 rI))))))) x, .junk, .junk, .junk, .junk]) (T).f_is_gift sc_is_gift rfl as_1 (fun _ => rfl) ?_
  intro X h1 h2 h3 h4 h5 C C2 fn x
  subst h1 h2 h3 h4 h5
  revert x; intro gift
  have h : Bt X [.val (rT (tc rI (t1 (rL (rT (tc rI (t1 rI))))))) gift, .junk, .junk, .junk, .junk] (defBody (topS 8)) (prN rB) _ _ :=
 (bw_asgT Res.ret (ev_var (i := 0) C rfl rfl rfl) (tg_tup C.calm (tgs_cons (tg_name (i := 1) C rfl (tgt_def C fn rfl)) fun _ => (tgs_one (tg_name (i := 2) C rfl (tgt_def C fn rfl)))) rfl) fun tp_1 =>
 (bt_ifx (EvW.t (ew_or (et_lt (ev_var (i := 1) C rfl rfl rfl) ev_int) (ew_or (et_eq C ((ev_var (i := 2) C rfl rfl rfl)).q (((en_list (r := (rT (tc rI (t1 rI)))) es_nil)).f).q) (ew_or1 (et_not (EvF.t (ev_all C rfl (T).b_all ((en_lc C (by decide +kernel) (lc_ok0 (own := [("burst", 3), ("rate", 4)]) (ei_list (ev_var (i := 2) C rfl rfl rfl)) (fun _ _ _ _ _ => (tg_tup (cf_blk C).calm (tgs_cons (tg_name (i := 3) (cf_blk C) rfl (tgt_blk rfl)) fun _ => (tgs_one (tg_name (i := 4) (cf_blk C) rfl (tgt_blk rfl)))) rfl)) (by decide) (fun _ _ _ _ _ y_2 => (ev_call (ok_is_piece (T)) (cf_blk C) (cf2_blk C2) (by decide) rfl (T).g_is_piece (T).f_is_piece.kp (T).d_is_piece (ea_cons (ev_var (i := 3) (cf_blk C) rfl rfl rfl) (ea_one (ev_var (i := 4) (cf_blk C) rfl rfl rfl)))))))).f.c)))))))
 (bl_ret ev_bl)
 (bl_ret (ev_eq C (((en_call (ok_plain (T)) C C2 (by decide) rfl (T).g_plain (T).f_plain.kp (T).d_plain (ea_one (ev_var (i := 2) C rfl rfl rfl)))).f).q ((ev_var (i := 2) C rfl rfl rfl)).q))))
  unfold vc_is_gift m_is_gift
  try dsimp (config := { zeta := false }) only at h ⊢
  exact h

theorem sc_plain_gift : FnScope ["wait", "pieces", "k", "burst", "rate"] ["wait", "pieces"] (defScope (topS 9)) := ⟨rfl, rfl, rfl, by decide +kernel, rfl, by decide +kernel, by decide +kernel⟩
theorem ok_plain_gift {P : Program} {w : World} {K : PySem.W.Frag} {mg : Str → Option Value} {base : Heap} (T : Top K mg) : FnG P w K mg base CX0 3 (T).a_plain_gift (T).fd_plain_gift ["wait", "pieces"] (spS (tc rI (t1 (rL (rT (tc rI (t1 rI)))))) (rT (tc rI (t1 (rL (rT (tc rI (t1 rI))))))) (fun x => vc_plain_gift x.1 x.2) (fun x => m_plain_gift x.1 x.2)) := by
  refine fn_mkS (Γ0 := fun x => [.val rI x.1, .val (rL (rT (tc rI (t1 rI)))) x.2, .junk, .junk, .junk]) (T).f_plain_gift sc_plain_gift rfl (as_c as_1) (fun _ => rfl) ?_
  intro X h1 h2 h3 h4 h5 C C2 fn x
  subst h1 h2 h3 h4 h5
  obtain ⟨wait, pieces⟩ := x
  have h : Bt X [.val rI wait, .val (rL (rT (tc rI (t1 rI)))) pieces, .junk, .junk, .junk] (defBody (topS 9)) (prS (rT (tc rI (t1 (rL (rT (tc rI (t1 rI)))))))) _ _ :=
 (bl_dead (et_lt (ev_var (i := 0) C rfl rfl rfl) ev_int)
 (bl_dead (et_eq C ((ev_var (i := 1) C rfl rfl rfl)).q (((en_list (r := (rT (tc rI (t1 rI)))) es_nil)).f).q)
 (bw_for Res.ret (fun (st_1 : Unit) => [.val rI wait, .val (rL (rT (tc rI (t1 rI)))) pieces, .junk, .junk, .junk]) (c0 := ()) C C2 (ei_enum C rfl (T).b_enumerate (ev_var (i := 1) C rfl rfl rfl)) (.same (.same (.junk (.junk (.junk .nil))))) (fun st_1 => (tg_tup C.calm (tgs_cons (tg_name (i := 2) C rfl (tgt_def C fn rfl)) fun _ => (tgs_one (tg_tup C.calm (tgs_cons (tg_name (i := 3) C rfl (tgt_def C fn rfl)) fun _ => (tgs_one (tg_name (i := 4) C rfl (tgt_def C fn rfl)))) rfl))) rfl))
 (fun st_1 y_2 => (bl_dead (et_not (EvF.t (ev_call (ok_is_piece (T)) C C2 (by decide) rfl (T).g_is_piece (T).f_is_piece.kp (T).d_is_piece (ea_cons (ev_var (i := 3) C rfl rfl rfl) (ea_one (ev_var (i := 4) C rfl rfl rfl))))))
 (bl_nx (c := ()) (.same (.same (.junk (.junk (.junk .nil))))))))
 fun st_3 => (bl_retS (es_pair (es_of (ev_var (i := 0) C rfl rfl rfl)) (es_new (en_call (ok_plain (T)) C C2 (by decide) rfl (T).g_plain (T).f_plain.kp (T).d_plain (ea_one (ev_var (i := 1) C rfl rfl rfl)))))))))
  unfold vc_plain_gift m_plain_gift
  try dsimp (config := { zeta := false }) only at h ⊢
  exact h

theorem ok_plain_gift_x {P : Program} {w : World} {K : PySem.W.Frag} {mg : Str → Option Value} {base : Heap} (T : Top K mg) : FnG P w K mg base (L2.CX P w) 3 (T).a_plain_gift (T).fd_plain_gift ["wait", "pieces"] (spX mg (tc rI (t1 (rL (rT (tc rI (t1 rI)))))) (rT (tc rI (t1 (rL (rT (tc rI (t1 rI))))))) (fun x => vc_plain_gift_x x.1 x.2) (fun x => mx_plain_gift x.1 x.2)) := by
  refine fn_mkX (f := fun x => m_plain_gift_x x.1 x.2) (Γ0 := fun x => [.val rI x.1, .val (rL (rT (tc rI (t1 rI)))) x.2, .junk, .junk, .junk]) (T).f_plain_gift sc_plain_gift rfl (as_c as_1) (fun _ => rfl) ?_
  intro X h1 h2 h3 h4 h5 C C2 fn x
  subst h1 h2 h3 h4 h5
  obtain ⟨wait, pieces⟩ := x
  have h : Bl (γ := Empty) (β := Empty) X [.val rI wait, .val (rL (rT (tc rI (t1 rI)))) pieces, .junk, .junk, .junk] (defBody (topS 9)) (fun c => c.elim) (fun c => c.elim) (prX (rT (tc rI (t1 (rL (rT (tc rI (t1 rI)))))))) _ _ :=
 (bl_ifx (et_lt (ev_var (i := 0) C rfl rfl rfl) ev_int)
 (bx_raise (T).xf iniB C C2 rfl ev_int)
 (bl_ifx (et_eq C ((ev_var (i := 1) C rfl rfl rfl)).q (((en_list (r := (rT (tc rI (t1 rI)))) es_nil)).f).q)
 (bx_raise (T).xf iniB C C2 rfl ev_int)
 (bl_for (Γc := (fun (st_1 : Unit) => [.val rI wait, .val (rL (rT (tc rI (t1 rI)))) pieces, .junk, .junk, .junk])) (c0 := ()) C.calm C2.po (ei_enum C rfl (T).b_enumerate (ev_var (i := 1) C rfl rfl rfl)) (.same (.same (.junk (.junk (.junk .nil))))) (fun st_1 => (tg_tup C.calm (tgs_cons (tg_name (i := 2) C rfl (tgt_def C fn rfl)) fun _ => (tgs_one (tg_tup C.calm (tgs_cons (tg_name (i := 3) C rfl (tgt_def C fn rfl)) fun _ => (tgs_one (tg_name (i := 4) C rfl (tgt_def C fn rfl)))) rfl))) rfl))
 (fun st_1 y_2 => (bl_ifx (et_not (EvF.t (ev_call (ok_is_piece (T)) C C2 (by decide) rfl (T).g_is_piece (T).f_is_piece.kp (T).d_is_piece (ea_cons (ev_var (i := 3) C rfl rfl rfl) (ea_one (ev_var (i := 4) C rfl rfl rfl))))))
 (bx_raise (T).xf iniB C C2 rfl (ev_add (ev_var (i := 2) C rfl rfl rfl) ev_int))
 (bl_nx (c := ()) (.same (.same (.junk (.junk (.junk .nil))))))))
 fun st_3 => (bx_ret (ev_tup (ea_cons (ev_var (i := 0) C rfl rfl rfl) (ea_one ((en_call (ok_plain (T)) C C2 (by decide) rfl (T).g_plain (T).f_plain.kp (T).d_plain (ea_one (ev_var (i := 1) C rfl rfl rfl)))).f)))))))
  unfold vc_plain_gift_x m_plain_gift_x
  try dsimp (config := { zeta := false }) only at h ⊢
  exact h

theorem sc_given_by : FnScope ["gift", "tick", "wait", "pieces", "burst", "rate"] ["gift", "tick"] (defScope (topS 10)) := ⟨rfl, rfl, rfl, by decide +kernel, rfl, by decide +kernel, by decide +kernel⟩
theorem ok_given_by {P : Program} {w : World} {K : PySem.W.Frag} {mg : Str → Option Value} {base : Heap} (T : Top K mg) : FnG P w K mg base CX0 1 (T).a_given_by (T).fd_given_by ["gift", "tick"] (spF (tc (rT (tc rI (t1 (rL (rT (tc rI (t1 rI))))))) (t1 rI)) rI (fun x => vc_given_by x.1 x.2) (fun x => m_given_by x.1 x.2)) := by
  refine fn_mk (Γ0 := fun x => [.val (rT (tc rI (t1 (rL (rT (tc rI (t1 rI))))))) x.1, .val rI x.2, .junk, .junk, .junk, .junk]) (T).f_given_by sc_given_by rfl (as_c as_1) (fun _ => rfl) ?_
  intro X h1 h2 h3 h4 h5 C C2 fn x
  subst h1 h2 h3 h4 h5
  obtain ⟨gift, tick⟩ := x
  have h : Bt X [.val (rT (tc rI (t1 (rL (rT (tc rI (t1 rI))))))) gift, .val rI tick, .junk, .junk, .junk, .junk] (defBody (topS 10)) (prN rI) _ _ :=
 (bw_asgT Res.ret (ev_var (i := 0) C rfl rfl rfl) (tg_tup C.calm (tgs_cons (tg_name (i := 2) C rfl (tgt_def C fn rfl)) fun _ => (tgs_one (tg_name (i := 3) C rfl (tgt_def C fn rfl)))) rfl) fun tp_1 =>
 (bl_ret (ev_if (et_gt (ev_var (i := 1) C rfl rfl rfl) (ev_var (i := 2) C rfl rfl rfl)) (ev_min C rfl (T).b_min ((en_lc C (by decide +kernel) (lc_ok0 (own := [("burst", 4), ("rate", 5)]) (ei_list (ev_var (i := 3) C rfl rfl rfl)) (fun _ _ _ _ _ => (tg_tup (cf_blk C).calm (tgs_cons (tg_name (i := 4) (cf_blk C) rfl (tgt_blk rfl)) fun _ => (tgs_one (tg_name (i := 5) (cf_blk C) rfl (tgt_blk rfl)))) rfl)) (by decide) (fun _ _ _ _ _ y_2 => (ev_add (ev_var (i := 4) (cf_blk C) rfl rfl rfl) (ev_mul (ev_var (i := 5) (cf_blk C) rfl rfl rfl) (ev_sub (ev_var (i := 1) (cf_blk C) rfl rfl rfl) (ev_var (i := 2) (cf_blk C) rfl rfl rfl)))))))).f.c) ev_int)))
  unfold vc_given_by m_given_by
  try dsimp (config := { zeta := false }) only at h ⊢
  exact h

theorem sc_ticks_for : FnScope ["size", "burst", "rate"] ["size", "burst", "rate"] (defScope (topS 11)) := ⟨rfl, rfl, rfl, by decide +kernel, rfl, by decide +kernel, by decide +kernel⟩
theorem ok_ticks_for {P : Program} {w : World} {K : PySem.W.Frag} {mg : Str → Option Value} {base : Heap} (T : Top K mg) : FnG P w K mg base CX0 1 (T).a_ticks_for (T).fd_ticks_for ["size", "burst", "rate"] (spF (tc rI (tc rI (t1 rI))) rI (fun x => vc_ticks_for x.1 x.2.1 x.2.2) (fun x => m_ticks_for x.1 x.2.1 x.2.2)) := by
  refine fn_mk (Γ0 := fun x => [.val rI x.1, .val rI x.2.1, .val rI x.2.2]) (T).f_ticks_for sc_ticks_for rfl (as_c (as_c as_1)) (fun _ => rfl) ?_
  intro X h1 h2 h3 h4 h5 C C2 fn x
  subst h1 h2 h3 h4 h5
  obtain ⟨size, burst, rate⟩ := x
  have h : Bt X [.val rI size, .val rI burst, .val rI rate] (defBody (topS 11)) (prN rI) _ _ :=
 (bl_ret (ev_neg (ev_fdiv (ev_sub (ev_var (i := 1) C rfl rfl rfl) (ev_var (i := 0) C rfl rfl rfl)) (ev_var (i := 2) C rfl rfl rfl))))
  unfold vc_ticks_for m_ticks_for
  try dsimp (config := { zeta := false }) only at h ⊢
  exact h

theorem sc_first_tick : FnScope ["gift", "size", "wait", "pieces", "burst", "rate"] ["gift", "size"] (defScope (topS 12)) := ⟨rfl, rfl, rfl, by decide +kernel, rfl, by decide +kernel, by decide +kernel⟩
theorem ok_first_tick {P : Program} {w : World} {K : PySem.W.Frag} {mg : Str → Option Value} {base : Heap} (T : Top K mg) : FnG P w K mg base CX0 2 (T).a_first_tick (T).fd_first_tick ["gift", "size"] (spF (tc (rT (tc rI (t1 (rL (rT (tc rI (t1 rI))))))) (t1 rI)) rI (fun x => vc_first_tick x.1 x.2) (fun x => m_first_tick x.1 x.2)) := by
  refine fn_mk (Γ0 := fun x => [.val (rT (tc rI (t1 (rL (rT (tc rI (t1 rI))))))) x.1, .val rI x.2, .junk, .junk, .junk, .junk]) (T).f_first_tick sc_first_tick rfl (as_c as_1) (fun _ => rfl) ?_
  intro X h1 h2 h3 h4 h5 C C2 fn x
  subst h1 h2 h3 h4 h5
  obtain ⟨gift, size⟩ := x
  have h : Bt X [.val (rT (tc rI (t1 (rL (rT (tc rI (t1 rI))))))) gift, .val rI size, .junk, .junk, .junk, .junk] (defBody (topS 12)) (prN rI) _ _ :=
 (bw_asgT Res.ret (ev_var (i := 0) C rfl rfl rfl) (tg_tup C.calm (tgs_cons (tg_name (i := 2) C rfl (tgt_def C fn rfl)) fun _ => (tgs_one (tg_name (i := 3) C rfl (tgt_def C fn rfl)))) rfl) fun tp_1 =>
 (bl_ret (ev_add (ev_var (i := 2) C rfl rfl rfl) (ev_max C rfl (T).b_max ((en_cat ((en_list (es_cons ev_int es_nil))).f.l ((en_lc C (by decide +kernel) (lc_ok0 (own := [("burst", 4), ("rate", 5)]) (ei_list (ev_var (i := 3) C rfl rfl rfl)) (fun _ _ _ _ _ => (tg_tup (cf_blk C).calm (tgs_cons (tg_name (i := 4) (cf_blk C) rfl (tgt_blk rfl)) fun _ => (tgs_one (tg_name (i := 5) (cf_blk C) rfl (tgt_blk rfl)))) rfl)) (by decide) (fun _ _ _ _ _ y_2 => (ev_call (ok_ticks_for (T)) (cf_blk C) (cf2_blk C2) (by decide) rfl (T).g_ticks_for (T).f_ticks_for.kp (T).d_ticks_for (ea_cons (ev_var (i := 1) (cf_blk C) rfl rfl rfl) (ea_cons (ev_var (i := 4) (cf_blk C) rfl rfl rfl) (ea_one (ev_var (i := 5) (cf_blk C) rfl rfl rfl))))))))).f.l)).f.c))))
  unfold vc_first_tick m_first_tick
  try dsimp (config := { zeta := false }) only at h ⊢
  exact h

theorem sc__law_draws : FnScope ["script", "draws", "k", "rest", "turn", "mixed"] ["script"] (defScope (topS 14)) := ⟨rfl, rfl, rfl, by decide +kernel, rfl, by decide +kernel, by decide +kernel⟩
theorem ok__law_draws {P : Program} {w : World} {K : PySem.W.Frag} {mg : Str → Option Value} {base : Heap} (T : Top K mg) : FnG P w K mg base CX0 1 (T).a__law_draws (T).fd__law_draws ["script"] (spF (t1 (rQ K rI)) (rL rI) (fun x => vc__law_draws x) (fun x => m__law_draws x)) := by
  refine fn_mk (Γ0 := fun x => [.val (rQ K rI) x, .junk, .junk, .junk, .junk, .junk]) (T).f__law_draws sc__law_draws rfl as_1 (fun _ => rfl) ?_
  intro X h1 h2 h3 h4 h5 C C2 fn x
  subst h1 h2 h3 h4 h5
  revert x; intro script
  have h : Bt X [.val (rQ X.K rI) script, .junk, .junk, .junk, .junk, .junk] (defBody (topS 14)) (prN (rL rI)) _ _ :=
 (bw_own Res.ret C (tgt_def C fn rfl) 1 rfl (en_list (r := rI) es_nil) fun draws_1 =>
 (bw_for Res.ret (fun (draws_2 : List Int) => [.val (rQ X.K rI) script, .own (moL rI) draws_2, .junk, .junk, .junk, .junk]) (c0 := draws_1) C C2 (ei_range1 C rfl (T).b_range (ev_min2 C rfl (T).b_min ev_int (ev_len C rfl (T).b_len ((ev_var (i := 0) C rfl rfl rfl)).qc))) (.same (.same (.junk (.junk (.junk (.junk .nil)))))) (fun draws_2 => (tg_name (i := 2) C rfl (tgt_def C fn rfl)))
 (fun draws_2 y_3 => (bw_asg Res.nx C (tgt_def C fn rfl) 3 rfl (ev_abs C rfl (T).b_abs (ev_ix ((ev_var (i := 0) C rfl rfl rfl)).qc (ev_var (i := 2) C rfl rfl rfl))) fun rest_4 =>
 (bw_if Res.nx (fun (draws_15 : List Int) => [.val (rQ X.K rI) script, .own (moL rI) draws_15, .junk, .junk, .junk, .junk]) (et_ge (ev_var (i := 3) C rfl rfl rfl) (ev_pow ev_int ev_int))
 (bw_for Res.nx (fun (st_5 : List Int × Int) => [.val (rQ X.K rI) script, .own (moL rI) st_5.1, .junk, .val rI st_5.2, .junk, .junk]) (c0 := (draws_2, rest_4)) C C2 (ei_range1 C rfl (T).b_range ev_int) (.same (.same (.junk (.same (.junk (.junk .nil)))))) (fun st_5 => (tg_name (i := 4) C rfl (tgt_def C fn rfl)))
 (fun st_5 y_6 => (bw_if Res.nx (fun (st_9 : List Int × Int) => [.val (rQ X.K rI) script, .own (moL rI) st_9.1, .junk, .val rI st_9.2, .junk, .junk]) (et_gt (ev_var (i := 3) C rfl rfl rfl) ev_int)
 (bw_append Res.nx C 1 rfl rfl rfl (ev_mod (ev_intI C rfl (T).b_int (ev_var (i := 3) C rfl rfl rfl)) ev_int) fun draws_7 =>
 (bw_asg Res.nx C (tgt_def C fn rfl) 3 rfl (ev_fdiv (ev_var (i := 3) C rfl rfl rfl) ev_int) fun rest_8 =>
 (bl_nx (c := (draws_7, rest_8)) (.same (.same (.junk (.same (.junk (.junk .nil)))))))))
 (bl_nx (c := (st_5.1, st_5.2)) (.same (.same (.junk (.same (.junk (.junk .nil)))))))
 fun st_9 => (bl_nx (c := (st_9.1, st_9.2)) (.same (.same (.junk (.same (.junk (.junk .nil)))))))))
 fun st_10 => (bl_nx (c := st_10.1) (.same (.same (.junk (.junk (.junk (.junk .nil))))))))
 (bw_asg Res.nx C (tgt_def C fn rfl) 5 rfl (ev_mod (ev_intI C rfl (T).b_int (ev_add (ev_mul (ev_var (i := 3) C rfl rfl rfl) ev_int) (ev_mul (ev_add (ev_var (i := 2) C rfl rfl rfl) ev_int) ev_int))) ev_int) fun mixed_11 =>
 (bw_asg Res.nx C (tgt_def C fn rfl) 5 rfl (ev_mod (ev_intI C rfl (T).b_int (ev_add (ev_add (ev_mul (ev_var (i := 5) C rfl rfl rfl) ev_int) (ev_mul ev_int (ev_var (i := 2) C rfl rfl rfl))) ev_int)) ev_int) fun mixed_12 =>
 (bw_append Res.nx C 1 rfl rfl rfl (ev_mod (ev_intI C rfl (T).b_int (ev_var (i := 5) C rfl rfl rfl)) ev_int) fun draws_13 =>
 (bw_append Res.nx C 1 rfl rfl rfl (ev_mod (ev_intI C rfl (T).b_int (ev_fdiv (ev_var (i := 5) C rfl rfl rfl) ev_int)) ev_int) fun draws_14 =>
 (bl_nx (c := draws_14) (.same (.same (.junk (.junk (.junk (.junk .nil)))))))))))
 fun draws_15 => (bl_nx (c := draws_15) (.same (.same (.junk (.junk (.junk (.junk .nil))))))))))
 fun draws_16 => (bl_freeze (i := 1) rfl
 (bl_ret (ev_var (i := 1) C rfl rfl rfl)))))
  unfold vc__law_draws m__law_draws
  try dsimp (config := { zeta := false }) only at h ⊢
  exact h

theorem sc__law_mix : FnScope ["draws", "k", "many", "value"] ["draws", "k", "many"] (defScope (topS 15)) := ⟨rfl, rfl, rfl, by decide +kernel, rfl, by decide +kernel, by decide +kernel⟩
theorem ok__law_mix {P : Program} {w : World} {K : PySem.W.Frag} {mg : Str → Option Value} {base : Heap} (T : Top K mg) : FnG P w K mg base CX0 1 (T).a__law_mix (T).fd__law_mix ["draws", "k", "many"] (spF (tc (rL rI) (tc rI (t1 rI))) rI (fun x => vc__law_mix x.1 x.2.1 x.2.2) (fun x => m__law_mix x.1 x.2.1 x.2.2)) := by
  refine fn_mk (Γ0 := fun x => [.val (rL rI) x.1, .val rI x.2.1, .val rI x.2.2, .junk]) (T).f__law_mix sc__law_mix rfl (as_c (as_c as_1)) (fun _ => rfl) ?_
  intro X h1 h2 h3 h4 h5 C C2 fn x
  subst h1 h2 h3 h4 h5
  obtain ⟨draws, k, many⟩ := x
  have h : Bt X [.val (rL rI) draws, .val rI k, .val rI many, .junk] (defBody (topS 15)) (prN rI) _ _ :=
 (bw_asg Res.ret C (tgt_def C fn rfl) 3 rfl ev_int fun value_1 =>
 (bw_if Res.ret (fun (value_3 : Int) => [.val (rL rI) draws, .val rI k, .val rI many, .val rI value_3]) (et_gt (ev_len C rfl (T).b_len ((ev_var (i := 0) C rfl rfl rfl)).c) ev_int)
 (bw_asg Res.nx C (tgt_def C fn rfl) 3 rfl (ev_ix ((ev_var (i := 0) C rfl rfl rfl)).c (ev_mod (ev_intI C rfl (T).b_int (ev_var (i := 1) C rfl rfl rfl)) (ev_len C rfl (T).b_len ((ev_var (i := 0) C rfl rfl rfl)).c))) fun value_2 =>
 (bl_nx (c := value_2) (.same (.same (.same (.same .nil))))))
 (bl_nx (c := value_1) (.same (.same (.same (.same .nil)))))
 fun value_3 => (bt_ifx (et_lt (ev_var (i := 1) C rfl rfl rfl) (ev_len C rfl (T).b_len ((ev_var (i := 0) C rfl rfl rfl)).c))
 (bl_ret (ev_mod (ev_intI C rfl (T).b_int (ev_var (i := 3) C rfl rfl rfl)) (ev_var (i := 2) C rfl rfl rfl)))
 (bl_ret (ev_mod (ev_intI C rfl (T).b_int (ev_fdiv (ev_intI C rfl (T).b_int (ev_add (ev_mul (ev_var (i := 3) C rfl rfl rfl) ev_int) (ev_mul (ev_var (i := 1) C rfl rfl rfl) ev_int))) ev_int)) (ev_var (i := 2) C rfl rfl rfl))))))
  unfold vc__law_mix m__law_mix
  try dsimp (config := { zeta := false }) only at h ⊢
  exact h

theorem sc__law_pieces : FnScope ["draws", "k", "top", "pieces", "t", "burst"] ["draws", "k", "top"] (defScope (topS 16)) := ⟨rfl, rfl, rfl, by decide +kernel, rfl, by decide +kernel, by decide +kernel⟩
theorem ok__law_pieces {P : Program} {w : World} {K : PySem.W.Frag} {mg : Str → Option Value} {base : Heap} (T : Top K mg) : FnG P w K mg base CX0 2 (T).a__law_pieces (T).fd__law_pieces ["draws", "k", "top"] (spF (tc (rL rI) (tc rI (t1 rI))) (rL (rT (tc rI (t1 rI)))) (fun x => vc__law_pieces x.1 x.2.1 x.2.2) (fun x => m__law_pieces x.1 x.2.1 x.2.2)) := by
  refine fn_mk (Γ0 := fun x => [.val (rL rI) x.1, .val rI x.2.1, .val rI x.2.2, .junk, .junk, .junk]) (T).f__law_pieces sc__law_pieces rfl (as_c (as_c as_1)) (fun _ => rfl) ?_
  intro X h1 h2 h3 h4 h5 C C2 fn x
  subst h1 h2 h3 h4 h5
  obtain ⟨draws, k, top⟩ := x
  have h : Bt X [.val (rL rI) draws, .val rI k, .val rI top, .junk, .junk, .junk] (defBody (topS 16)) (prN (rL (rT (tc rI (t1 rI))))) _ _ :=
 (bw_own Res.ret C (tgt_def C fn rfl) 3 rfl (en_list (r := (rT (tc rI (t1 rI)))) es_nil) fun pieces_1 =>
 (bw_for Res.ret (fun (pieces_2 : List ((Int × Int))) => [.val (rL rI) draws, .val rI k, .val rI top, .own (moL (rT (tc rI (t1 rI)))) pieces_2, .junk, .junk]) (c0 := pieces_1) C C2 (ei_range1 C rfl (T).b_range (ev_add ev_int (ev_call (ok__law_mix (T)) C C2 (by decide) rfl (T).g__law_mix (T).f__law_mix.kp (T).d__law_mix (ea_cons (ev_var (i := 0) C rfl rfl rfl) (ea_cons (ev_var (i := 1) C rfl rfl rfl) (ea_one ev_int)))))) (.same (.same (.same (.same (.junk (.junk .nil)))))) (fun pieces_2 => (tg_name (i := 4) C rfl (tgt_def C fn rfl)))
 (fun pieces_2 y_3 => (bw_asg Res.nx C (tgt_def C fn rfl) 5 rfl (ev_call (ok__law_mix (T)) C C2 (by decide) rfl (T).g__law_mix (T).f__law_mix.kp (T).d__law_mix (ea_cons (ev_var (i := 0) C rfl rfl rfl) (ea_cons (ev_add (ev_add (ev_var (i := 1) C rfl rfl rfl) ev_int) (ev_mul ev_int (ev_var (i := 4) C rfl rfl rfl))) (ea_one (ev_ix ((en_list (es_cons ev_int (es_cons (ev_var (i := 2) C rfl rfl rfl) (es_cons ev_int es_nil))))).f.c (ev_call (ok__law_mix (T)) C C2 (by decide) rfl (T).g__law_mix (T).f__law_mix.kp (T).d__law_mix (ea_cons (ev_var (i := 0) C rfl rfl rfl) (ea_cons (ev_add (ev_add (ev_var (i := 1) C rfl rfl rfl) ev_int) (ev_var (i := 4) C rfl rfl rfl)) (ea_one ev_int))))))))) fun burst_4 =>
 (bw_append Res.nx C 3 rfl rfl rfl (ev_tup (ea_cons (ev_var (i := 5) C rfl rfl rfl) (ea_one (ev_add ev_int (ev_call (ok__law_mix (T)) C C2 (by decide) rfl (T).g__law_mix (T).f__law_mix.kp (T).d__law_mix (ea_cons (ev_var (i := 0) C rfl rfl rfl) (ea_cons (ev_add (ev_add (ev_var (i := 1) C rfl rfl rfl) ev_int) (ev_mul ev_int (ev_var (i := 4) C rfl rfl rfl))) (ea_one (ev_ix ((en_list (es_cons ev_int (es_cons ev_int (es_cons ev_int es_nil))))).f.c (ev_call (ok__law_mix (T)) C C2 (by decide) rfl (T).g__law_mix (T).f__law_mix.kp (T).d__law_mix (ea_cons (ev_var (i := 0) C rfl rfl rfl) (ea_cons (ev_add (ev_var (i := 1) C rfl rfl rfl) ev_int) (ea_one ev_int))))))))))))) fun pieces_5 =>
 (bl_nx (c := pieces_5) (.same (.same (.same (.same (.junk (.junk .nil))))))))))
 fun pieces_6 => (bl_freeze (i := 3) rfl
 (bl_ret (ev_var (i := 3) C rfl rfl rfl)))))
  unfold vc__law_pieces m__law_pieces
  try dsimp (config := { zeta := false }) only at h ⊢
  exact h

theorem sc__law_gives : FnScope ["wait", "pieces", "tick", "burst", "rate"] ["wait", "pieces", "tick"] (defScope (topS 17)) := ⟨rfl, rfl, rfl, by decide +kernel, rfl, by decide +kernel, by decide +kernel⟩
theorem ok__law_gives {P : Program} {w : World} {K : PySem.W.Frag} {mg : Str → Option Value} {base : Heap} (T : Top K mg) : FnG P w K mg base CX0 1 (T).a__law_gives (T).fd__law_gives ["wait", "pieces", "tick"] (spF (tc rI (tc (rL (rT (tc rI (t1 rI)))) (t1 rI))) rI (fun x => vc__law_gives x.1 x.2.1 x.2.2) (fun x => m__law_gives x.1 x.2.1 x.2.2)) := by
  refine fn_mk (Γ0 := fun x => [.val rI x.1, .val (rL (rT (tc rI (t1 rI)))) x.2.1, .val rI x.2.2, .junk, .junk]) (T).f__law_gives sc__law_gives rfl (as_c (as_c as_1)) (fun _ => rfl) ?_
  intro X h1 h2 h3 h4 h5 C C2 fn x
  subst h1 h2 h3 h4 h5
  obtain ⟨wait, pieces, tick⟩ := x
  have h : Bt X [.val rI wait, .val (rL (rT (tc rI (t1 rI)))) pieces, .val rI tick, .junk, .junk] (defBody (topS 17)) (prN rI) _ _ :=
 (bt_ifx (et_le (ev_var (i := 2) C rfl rfl rfl) (ev_var (i := 0) C rfl rfl rfl))
 (bl_ret ev_int)
 (bl_ret (ev_min C rfl (T).b_min ((en_lc C (by decide +kernel) (lc_ok0 (own := [("burst", 3), ("rate", 4)]) (ei_list (ev_var (i := 1) C rfl rfl rfl)) (fun _ _ _ _ _ => (tg_tup (cf_blk C).calm (tgs_cons (tg_name (i := 3) (cf_blk C) rfl (tgt_blk rfl)) fun _ => (tgs_one (tg_name (i := 4) (cf_blk C) rfl (tgt_blk rfl)))) rfl)) (by decide) (fun _ _ _ _ _ y_1 => (ev_add (ev_var (i := 3) (cf_blk C) rfl rfl rfl) (ev_mul (ev_var (i := 4) (cf_blk C) rfl rfl rfl) (ev_sub (ev_var (i := 2) (cf_blk C) rfl rfl rfl) (ev_var (i := 0) (cf_blk C) rfl rfl rfl)))))))).f.c)))
  unfold vc__law_gives m__law_gives
  try dsimp (config := { zeta := false }) only at h ⊢
  exact h

theorem sc__law_is_least : FnScope ["piece", "pieces", "low", "high", "burst", "rate"] ["piece", "pieces"] (defScope (topS 18)) := ⟨rfl, rfl, rfl, by decide +kernel, rfl, by decide +kernel, by decide +kernel⟩
theorem ok__law_is_least {P : Program} {w : World} {K : PySem.W.Frag} {mg : Str → Option Value} {base : Heap} (T : Top K mg) : FnG P w K mg base CX0 1 (T).a__law_is_least (T).fd__law_is_least ["piece", "pieces"] (spF (tc (rT (tc rI (t1 rI))) (t1 (rL (rT (tc rI (t1 rI)))))) rB (fun x => vc__law_is_least x.1 x.2) (fun x => m__law_is_least x.1 x.2)) := by
  refine fn_mk (Γ0 := fun x => [.val (rT (tc rI (t1 rI))) x.1, .val (rL (rT (tc rI (t1 rI)))) x.2, .junk, .junk, .junk, .junk]) (T).f__law_is_least sc__law_is_least rfl (as_c as_1) (fun _ => rfl) ?_
  intro X h1 h2 h3 h4 h5 C C2 fn x
  subst h1 h2 h3 h4 h5
  obtain ⟨piece, pieces⟩ := x
  have h : Bt X [.val (rT (tc rI (t1 rI))) piece, .val (rL (rT (tc rI (t1 rI)))) pieces, .junk, .junk, .junk, .junk] (defBody (topS 18)) (prN rB) _ _ :=
 (bw_asg Res.ret C (tgt_def C fn rfl) 2 rfl (ev_tup (ea_cons (ev_neg ev_int) (ea_one ev_int))) fun low_1 =>
 (bw_asg Res.ret C (tgt_def C fn rfl) 3 rfl (ev_none (r := (rT (tc rI (t1 rI))))) fun high_2 =>
 (bt_for (Γc := (fun (st_3 : (Int × Int) × Option ((Int × Int))) => [.val (rT (tc rI (t1 rI))) piece, .junk, .val (rT (tc rI (t1 rI))) st_3.1, .val (rO (rT (tc rI (t1 rI)))) st_3.2, .junk, .junk])) (c0 := (low_1, high_2)) C.calm C2.po (ei_list (ev_var (i := 1) C rfl rfl rfl)) (.same (.junk (.same (.same (.junk (.junk .nil)))))) (fun st_3 => (tg_tup C.calm (tgs_cons (tg_name (i := 4) C rfl (tgt_def C fn rfl)) fun _ => (tgs_one (tg_name (i := 5) C rfl (tgt_def C fn rfl)))) rfl))
 (fun st_3 y_4 => (bl_ifx (EvW.t (ew_and (et_eq C ((ev_var (i := 5) C rfl rfl rfl)).q ((ev_tix (k := 1) (ev_var (i := 0) C rfl rfl rfl) (ta_s ta_1))).q) (ew_and1 (et_lt (ev_var (i := 4) C rfl rfl rfl) (ev_tix (k := 0) (ev_var (i := 0) C rfl rfl rfl) ta_0)))))
 (bl_ret ev_bl)
 (bw_if (fun z => z) (fun (low_6 : (Int × Int)) => [.val (rT (tc rI (t1 rI))) piece, .junk, .val (rT (tc rI (t1 rI))) low_6, .val (rO (rT (tc rI (t1 rI)))) st_3.2, .val rI y_4.1, .val rI y_4.2]) (EvW.t (ew_and (et_gt (ev_var (i := 5) C rfl rfl rfl) (ev_tix (k := 1) (ev_var (i := 0) C rfl rfl rfl) (ta_s ta_1))) (ew_and1 (et_gt (ev_mul (ev_sub (ev_tix (k := 0) (ev_var (i := 0) C rfl rfl rfl) ta_0) (ev_var (i := 4) C rfl rfl rfl)) (ev_tix (k := 1) (ev_var (i := 2) C rfl rfl rfl) (ta_s ta_1))) (ev_mul (ev_tix (k := 0) (ev_var (i := 2) C rfl rfl rfl) ta_0) (ev_sub (ev_var (i := 5) C rfl rfl rfl) (ev_tix (k := 1) (ev_var (i := 0) C rfl rfl rfl) (ta_s ta_1))))))))
 (bw_asg Res.nx C (tgt_def C fn rfl) 2 rfl (ev_tup (ea_cons (ev_sub (ev_tix (k := 0) (ev_var (i := 0) C rfl rfl rfl) ta_0) (ev_var (i := 4) C rfl rfl rfl)) (ea_one (ev_sub (ev_var (i := 5) C rfl rfl rfl) (ev_tix (k := 1) (ev_var (i := 0) C rfl rfl rfl) (ta_s ta_1)))))) fun low_5 =>
 (bl_nx (c := low_5) (.same (.junk (.same (.same (.same (.same .nil))))))))
 (bl_nx (c := st_3.1) (.same (.junk (.same (.same (.same (.same .nil)))))))
 fun low_6 => (bw_if (fun z => z) (fun (high_8 : Option ((Int × Int))) => [.val (rT (tc rI (t1 rI))) piece, .junk, .val (rT (tc rI (t1 rI))) low_6, .val (rO (rT (tc rI (t1 rI)))) high_8, .junk, .junk]) (EvW.t (ew_and (et_lt (ev_var (i := 5) C rfl rfl rfl) (ev_tix (k := 1) (ev_var (i := 0) C rfl rfl rfl) (ta_s ta_1))) (ew_and1 (EvW.t (ew_or (et_isN (ev_var (i := 3) C rfl rfl rfl)) (ew_or1 (et_lt (ev_mul (ev_sub (ev_var (i := 4) C rfl rfl rfl) (ev_tix (k := 0) (ev_var (i := 0) C rfl rfl rfl) ta_0)) (ev_tix (k := 1) (ev_get (d := default) (ev_var (i := 3) C rfl rfl rfl)) (ta_s ta_1))) (ev_mul (ev_tix (k := 0) (ev_get (d := default) (ev_var (i := 3) C rfl rfl rfl)) ta_0) (ev_sub (ev_tix (k := 1) (ev_var (i := 0) C rfl rfl rfl) (ta_s ta_1)) (ev_var (i := 5) C rfl rfl rfl))))))))))
 (bw_asg Res.nx C (tgt_def C fn rfl) 3 rfl (ev_some (ev_tup (ea_cons (ev_sub (ev_var (i := 4) C rfl rfl rfl) (ev_tix (k := 0) (ev_var (i := 0) C rfl rfl rfl) ta_0)) (ea_one (ev_sub (ev_tix (k := 1) (ev_var (i := 0) C rfl rfl rfl) (ta_s ta_1)) (ev_var (i := 5) C rfl rfl rfl)))))) fun high_7 =>
 (bl_nx (c := high_7) (.same (.junk (.same (.same (.junk (.junk .nil))))))))
 (bl_nx (c := st_3.2) (.same (.junk (.same (.same (.junk (.junk .nil)))))))
 fun high_8 => (bl_nx (c := (low_6, high_8)) (.same (.junk (.same (.same (.junk (.junk .nil)))))))))))
 fun st_9 => (bl_ret (ev_orV (ev_isN (ev_var (i := 3) C rfl rfl rfl)) (ev_one (ev_andV (ev_gt (ev_tix (k := 0) (ev_get (d := default) (ev_var (i := 3) C rfl rfl rfl)) ta_0) ev_int) (ev_one (ev_gt (ev_mul (ev_tix (k := 0) (ev_get (d := default) (ev_var (i := 3) C rfl rfl rfl)) ta_0) (ev_tix (k := 1) (ev_var (i := 2) C rfl rfl rfl) (ta_s ta_1))) (ev_mul (ev_tix (k := 0) (ev_var (i := 2) C rfl rfl rfl) ta_0) (ev_tix (k := 1) (ev_get (d := default) (ev_var (i := 3) C rfl rfl rfl)) (ta_s ta_1))))))))))))
  unfold vc__law_is_least m__law_is_least
  try dsimp (config := { zeta := false }) only at h ⊢
  exact h

theorem sc__law_plain : FnScope ["pieces", "piece"] ["pieces"] (defScope (topS 19)) := ⟨rfl, rfl, rfl, by decide +kernel, rfl, by decide +kernel, by decide +kernel⟩
theorem ok__law_plain {P : Program} {w : World} {K : PySem.W.Frag} {mg : Str → Option Value} {base : Heap} (T : Top K mg) : FnG P w K mg base CX0 2 (T).a__law_plain (T).fd__law_plain ["pieces"] (spF (t1 (rL (rT (tc rI (t1 rI))))) (rL (rT (tc rI (t1 rI)))) (fun x => vc__law_plain x) (fun x => m__law_plain x)) := by
  refine fn_mk (Γ0 := fun x => [.val (rL (rT (tc rI (t1 rI)))) x, .junk]) (T).f__law_plain sc__law_plain rfl as_1 (fun _ => rfl) ?_
  intro X h1 h2 h3 h4 h5 C C2 fn x
  subst h1 h2 h3 h4 h5
  revert x; intro pieces
  have h : Bt X [.val (rL (rT (tc rI (t1 rI)))) pieces, .junk] (defBody (topS 19)) (prN (rL (rT (tc rI (t1 rI))))) _ _ :=
 (bl_ret ((en_lc C (by decide +kernel) (lc_ok (own := [("piece", 1)]) (ei_list ((en_sortSetP C rfl (T).b_sorted rfl (T).b_set ((ev_var (i := 0) C rfl rfl rfl)).c)).f) (fun _ _ _ _ _ => (tg_name (i := 1) (cf_blk C) rfl (tgt_blk rfl))) (by decide) (fun _ _ _ _ _ y_1 => if_one (EvF.t (ev_call (ok__law_is_least (T)) (cf_blk C) (cf2_blk C2) (by decide) rfl (T).g__law_is_least (T).f__law_is_least.kp (T).d__law_is_least (ea_cons (ev_var (i := 1) (cf_blk C) rfl rfl rfl) (ea_one (ev_var (i := 0) (cf_blk C) rfl rfl rfl)))))) (fun _ _ _ _ _ y_1 => (ev_var (i := 1) (cf_blk C) rfl rfl rfl))))).f)
  unfold vc__law_plain m__law_plain
  try dsimp (config := { zeta := false }) only at h ⊢
  exact h

theorem sc__law_refused : FnScope ["wait", "pieces", "e"] ["wait", "pieces"] (defScope (topS 20)) := ⟨rfl, rfl, rfl, by decide +kernel, rfl, by decide +kernel, by decide +kernel⟩
theorem ok__law_refused {P : Program} {w : World} {K : PySem.W.Frag} {mg : Str → Option Value} {base : Heap} (T : Top K mg) : FnG P w K mg base CX0 4 (T).a__law_refused (T).fd__law_refused ["wait", "pieces"] (spF (tc rI (t1 (rL (rT (tc rI (t1 rI)))))) (rO (rT (tc rB (t1 rI)))) (fun x => vc__law_refused x.1 x.2) (fun x => m__law_refused x.1 x.2)) := by
  refine fn_mkT (Γ0 := fun x => [.val rI x.1, .val (rL (rT (tc rI (t1 rI)))) x.2, .junk]) (T).f__law_refused sc__law_refused rfl (as_c as_1) (fun _ => rfl) ?_
  intro X h1 h2 h3 h4 h5 C C2 C3 fn x
  subst h1 h2 h3 h4 h5
  obtain ⟨wait, pieces⟩ := x
  have h : Bt X [.val rI wait, .val (rL (rT (tc rI (t1 rI)))) pieces, .junk] (defBody (topS 20)) (prN (rO (rT (tc rB (t1 rI))))) _ _ :=
 (bt_try (i := 2) (T).xf C C2 C3 rfl rfl rfl rfl rfl (T).b_isinstance (by decide) (by decide) rfl fun pn xe po =>
 have C := cf_tr C (pn := pn) (xe := xe)
 have C2 := cf2_tr C2 (pn := pn) po
 (bx_call (ok_plain_gift_x (T)) C C2 (by decide) rfl (T).g_plain_gift (T).f_plain_gift.kp (T).d_plain_gift (ea_cons (ev_var (i := 0) C rfl rfl rfl) (ea_one (ev_var (i := 1) C rfl rfl rfl)))
 (bl_nx (c := ()) (.junk (.junk (.junk .nil))))))
  unfold vc__law_refused m__law_refused
  try dsimp (config := { zeta := false }) only at h ⊢
  exact h

theorem sc__law_is_gift : FnScope ["wait", "pieces", "piece"] ["wait", "pieces"] (defScope (topS 21)) := ⟨rfl, rfl, rfl, by decide +kernel, rfl, by decide +kernel, by decide +kernel⟩
theorem ok__law_is_gift {P : Program} {w : World} {K : PySem.W.Frag} {mg : Str → Option Value} {base : Heap} (T : Top K mg) : FnG P w K mg base CX0 3 (T).a__law_is_gift (T).fd__law_is_gift ["wait", "pieces"] (spF (tc rI (t1 (rL (rT (tc rI (t1 rI)))))) rB (fun x => vc__law_is_gift x.1 x.2) (fun x => m__law_is_gift x.1 x.2)) := by
  refine fn_mk (Γ0 := fun x => [.val rI x.1, .val (rL (rT (tc rI (t1 rI)))) x.2, .junk]) (T).f__law_is_gift sc__law_is_gift rfl (as_c as_1) (fun _ => rfl) ?_
  intro X h1 h2 h3 h4 h5 C C2 fn x
  subst h1 h2 h3 h4 h5
  obtain ⟨wait, pieces⟩ := x
  have h : Bt X [.val rI wait, .val (rL (rT (tc rI (t1 rI)))) pieces, .junk] (defBody (topS 21)) (prN rB) _ _ :=
 (bt_ifx (EvW.t (ew_or (et_lt (ev_var (i := 0) C rfl rfl rfl) ev_int) (ew_or (et_eq C ((ev_var (i := 1) C rfl rfl rfl)).q (((en_list (r := (rT (tc rI (t1 rI)))) es_nil)).f).q) (ew_or1 (et_ne C (((en_lc C (by decide +kernel) (lc_ok (own := [("piece", 2)]) (ei_list (ev_var (i := 1) C rfl rfl rfl)) (fun _ _ _ _ _ => (tg_name (i := 2) (cf_blk C) rfl (tgt_blk rfl))) (by decide) (fun _ _ _ _ _ y_2 => if_one (EvW.t (ew_or (et_lt (ev_tix (k := 0) (ev_var (i := 2) (cf_blk C) rfl rfl rfl) ta_0) ev_int) (ew_or1 (et_not (et_chain (f := fun i j => decide (i ≤ j)) (g := fun i j => decide (i ≤ j)) op_le op_le ev_int (ev_tix (k := 1) (ev_var (i := 2) (cf_blk C) rfl rfl rfl) (ta_s ta_1)) ev_int)))))) (fun _ _ _ _ _ y_2 => (ev_var (i := 2) (cf_blk C) rfl rfl rfl))))).f).q (((en_list (r := (rT (tc rI (t1 rI)))) es_nil)).f).q)))))
 (bl_ret ev_bl)
 (bl_ret (ev_eq C ((ev_var (i := 1) C rfl rfl rfl)).q ((ev_call (ok__law_plain (T)) C C2 (by decide) rfl (T).g__law_plain (T).f__law_plain.kp (T).d__law_plain (ea_one (ev_var (i := 1) C rfl rfl rfl)))).q)))
  unfold vc__law_is_gift m__law_is_gift
  try dsimp (config := { zeta := false }) only at h ⊢
  exact h

theorem sc_law : FnScope ["script", "draws", "turn", "pieces", "wait", "kept", "told", "others", "other", "t", "at", "wrong", "bad", "start", "tick", "number", "size", "before", "first"] ["script"] (defScope (topS 22)) := ⟨rfl, rfl, rfl, by decide +kernel, rfl, by decide +kernel, by decide +kernel⟩
theorem ok_law {P : Program} {w : World} {K : PySem.W.Frag} {mg : Str → Option Value} {base : Heap} (T : Top K mg) : FnG P w K mg base CX0 5 (T).a_law (T).fd_law ["script"] (spF (t1 (rQ K rI)) rB (fun x => vc_law x) (fun x => m_law x)) := by
  refine fn_mk (Γ0 := fun x => [.val (rQ K rI) x, .junk, .junk, .junk, .junk, .junk, .junk, .junk, .junk, .junk, .junk, .junk, .junk, .junk, .junk, .junk, .junk, .junk, .junk]) (T).f_law sc_law rfl as_1 (fun _ => rfl) ?_
  intro X h1 h2 h3 h4 h5 C C2 fn x
  subst h1 h2 h3 h4 h5
  revert x; intro script
  have h : Bt X [.val (rQ X.K rI) script, .junk, .junk, .junk, .junk, .junk, .junk, .junk, .junk, .junk, .junk, .junk, .junk, .junk, .junk, .junk, .junk, .junk, .junk] (defBody (topS 22)) (prN rB) _ _ :=
 (bw_asg Res.ret C (tgt_def C fn rfl) 1 rfl (ev_call (ok__law_draws (T)) C C2 (by decide) rfl (T).g__law_draws (T).f__law_draws.kp (T).d__law_draws (ea_one (ev_var (i := 0) C rfl rfl rfl))) fun draws_1 =>
 (bt_for (Γc := (fun (st_2 : Unit) => [.junk, .val (rL rI) draws_1, .junk, .junk, .junk, .junk, .junk, .junk, .junk, .junk, .junk, .junk, .junk, .junk, .junk, .junk, .junk, .junk, .junk])) (c0 := ()) C.calm C2.po (ei_range1 C rfl (T).b_range ev_int) (.junk (.same (.junk (.junk (.junk (.junk (.junk (.junk (.junk (.junk (.junk (.junk (.junk (.junk (.junk (.junk (.junk (.junk (.junk .nil))))))))))))))))))) (fun st_2 => (tg_name (i := 2) C rfl (tgt_def C fn rfl)))
 (fun st_2 y_3 => (bw_asg (fun z => z) C (tgt_def C fn rfl) 3 rfl (ev_call (ok__law_pieces (T)) C C2 (by decide) rfl (T).g__law_pieces (T).f__law_pieces.kp (T).d__law_pieces (ea_cons (ev_var (i := 1) C rfl rfl rfl) (ea_cons (ev_add ev_int (ev_mul ev_int (ev_var (i := 2) C rfl rfl rfl))) (ea_one (ev_ix ((en_list (es_cons ev_int (es_cons ev_int (es_cons (ev_pow ev_int ev_int) es_nil))))).f.c (ev_call (ok__law_mix (T)) C C2 (by decide) rfl (T).g__law_mix (T).f__law_mix.kp (T).d__law_mix (ea_cons (ev_var (i := 1) C rfl rfl rfl) (ea_cons (ev_var (i := 2) C rfl rfl rfl) (ea_one ev_int))))))))) fun pieces_4 =>
 (bw_asg (fun z => z) C (tgt_def C fn rfl) 4 rfl (ev_call (ok__law_mix (T)) C C2 (by decide) rfl (T).g__law_mix (T).f__law_mix.kp (T).d__law_mix (ea_cons (ev_var (i := 1) C rfl rfl rfl) (ea_cons (ev_add ev_int (ev_var (i := 2) C rfl rfl rfl)) (ea_one (ev_ix ((en_list (es_cons ev_int (es_cons ev_int (es_cons (ev_pow ev_int ev_int) es_nil))))).f.c (ev_call (ok__law_mix (T)) C C2 (by decide) rfl (T).g__law_mix (T).f__law_mix.kp (T).d__law_mix (ea_cons (ev_var (i := 1) C rfl rfl rfl) (ea_cons (ev_add ev_int (ev_var (i := 2) C rfl rfl rfl)) (ea_one ev_int))))))))) fun wait_5 =>
 (bw_asg (fun z => z) C (tgt_def C fn rfl) 5 rfl (ev_repr C C2 rfl (T).b_repr ((ev_var (i := 3) C rfl rfl rfl)).q) fun kept_6 =>
 (bw_deep (fun z => z) C (tgt_def C fn rfl) 6 rfl (es_call (ok_plain_gift (T)) C C2 (by decide) rfl (T).g_plain_gift (T).f_plain_gift.kp (T).d_plain_gift (ea_cons (ev_var (i := 4) C rfl rfl rfl) (ea_one (ev_var (i := 3) C rfl rfl rfl)))) fun told_7 =>
 (bl_ifx (et_thawD 6 rfl (EvW.t (ew_or (et_not (EvF.t (isi_core (b := true) (T := "tuple") (ty := "tuple") ty_tup C rfl (T).b_isinstance ((ev_var (i := 6) C rfl rfl rfl)).q rfl (T).b_tuple (by decide +kernel) (by decide +kernel) (by decide) (by decide)))) (ew_or (et_neS (ev_repr C C2 rfl (T).b_repr ((ev_var (i := 6) C rfl rfl rfl)).q) (ev_repr C C2 rfl (T).b_repr ((ev_tup (ea_cons (ev_var (i := 4) C rfl rfl rfl) (ea_one (ev_call (ok__law_plain (T)) C C2 (by decide) rfl (T).g__law_plain (T).f__law_plain.kp (T).d__law_plain (ea_one (ev_var (i := 3) C rfl rfl rfl))))))).q)) (ew_or1 (et_neS (ev_repr C C2 rfl (T).b_repr ((ev_var (i := 3) C rfl rfl rfl)).q) (ev_var (i := 5) C rfl rfl rfl)))))))
 (bl_ret ev_bl)
 (bl_ifx (et_thawD 6 rfl (et_notB (ev_call (ok_is_gift (T)) C C2 (by decide) rfl (T).g_is_gift (T).f_is_gift.kp (T).d_is_gift (ea_one (ev_var (i := 6) C rfl rfl rfl)))))
 (bl_ret ev_bl)
 (bw_asg (fun z => z) C (tgt_def C fn rfl) 7 rfl ((en_list (es_cons (ev_var (i := 3) C rfl rfl rfl) (es_cons ((en_thawD 6 rfl (en_rev ((ev_tix (k := 1) (ev_var (i := 6) C rfl rfl rfl) (ta_s ta_1))).c))).f (es_cons ((en_thawD 6 rfl (en_cat ((ev_tix (k := 1) (ev_var (i := 6) C rfl rfl rfl) (ta_s ta_1))).l ((en_slice ((ev_tix (k := 1) (ev_var (i := 6) C rfl rfl rfl) (ta_s ta_1))).c eo_none (eo_some ev_int))).f.l))).f (es_cons ((en_thawD 6 rfl (en_slice ((ev_tix (k := 1) (ev_var (i := 6) C rfl rfl rfl) (ta_s ta_1))).c (eo_some ev_int) eo_none))).f (es_cons ((en_thawD 6 rfl (en_cat ((en_list (es_cons (ev_tup (ea_cons (ev_neg ev_int) (ea_one ev_int))) es_nil))).f.l ((ev_tix (k := 1) (ev_var (i := 6) C rfl rfl rfl) (ta_s ta_1))).l))).f (es_cons ((en_thawD 6 rfl (en_cat ((ev_tix (k := 1) (ev_var (i := 6) C rfl rfl rfl) (ta_s ta_1))).l ((en_list (es_cons (ev_tup (ea_cons (ev_pow ev_int ev_int) (ea_one ev_int))) es_nil))).f.l))).f es_nil)))))))).f fun others_8 =>
 (bw_asg (fun z => z) C (tgt_def C fn rfl) 7 rfl ((en_cat ((ev_var (i := 7) C rfl rfl rfl)).l ((en_list (es_cons ((en_thawD 6 rfl (en_cat ((en_list (es_cons (ev_tup (ea_cons ev_int (ea_one ev_int))) es_nil))).f.l ((ev_tix (k := 1) (ev_var (i := 6) C rfl rfl rfl) (ta_s ta_1))).l))).f (es_cons ((en_thawD 6 rfl (en_sortP C rfl (T).b_sorted ((en_cat ((ev_tix (k := 1) (ev_var (i := 6) C rfl rfl rfl) (ta_s ta_1))).l ((en_list (es_cons (ev_tup (ea_cons (ev_call (ok__law_mix (T)) C C2 (by decide) rfl (T).g__law_mix (T).f__law_mix.kp (T).d__law_mix (ea_cons (ev_var (i := 1) C rfl rfl rfl) (ea_cons (ev_add ev_int (ev_mul ev_int (ev_var (i := 2) C rfl rfl rfl))) (ea_one ev_int)))) (ea_one (ev_add ev_int (ev_call (ok__law_mix (T)) C C2 (by decide) rfl (T).g__law_mix (T).f__law_mix.kp (T).d__law_mix (ea_cons (ev_var (i := 1) C rfl rfl rfl) (ea_cons (ev_add ev_int (ev_mul ev_int (ev_var (i := 2) C rfl rfl rfl))) (ea_one ev_int)))))))) es_nil))).f.l)).f.c))).f es_nil)))).f.l)).f fun others_9 =>
 (bl_for (Γc := (fun (st_10 : Unit) => [.junk, .val (rL rI) draws_1, .val rI y_3, .val (rL (rT (tc rI (t1 rI)))) pieces_4, .val rI wait_5, .junk, .dp (rT (tc rI (t1 (rL (rT (tc rI (t1 rI))))))) told_7, .junk, .junk, .junk, .junk, .junk, .junk, .junk, .junk, .junk, .junk, .junk, .junk])) (c0 := ()) C.calm C2.po (ei_list (ev_var (i := 7) C rfl rfl rfl)) (.junk (.same (.same (.same (.same (.junk (.same (.junk (.junk (.junk (.junk (.junk (.junk (.junk (.junk (.junk (.junk (.junk (.junk .nil))))))))))))))))))) (fun st_10 => (tg_name (i := 8) C rfl (tgt_def C fn rfl)))
 (fun st_10 y_11 => (bl_for (Γc := (fun (st_12 : Unit) => [.junk, .val (rL rI) draws_1, .val rI y_3, .val (rL (rT (tc rI (t1 rI)))) pieces_4, .val rI wait_5, .junk, .dp (rT (tc rI (t1 (rL (rT (tc rI (t1 rI))))))) told_7, .junk, .val (rL (rT (tc rI (t1 rI)))) y_11, .junk, .junk, .junk, .junk, .junk, .junk, .junk, .junk, .junk, .junk])) (c0 := ()) C.calm C2.po (ei_list ((en_list (es_cons (ev_var (i := 4) C rfl rfl rfl) (es_cons (ev_sub (ev_neg ev_int) (ev_call (ok__law_mix (T)) C C2 (by decide) rfl (T).g__law_mix (T).f__law_mix.kp (T).d__law_mix (ea_cons (ev_var (i := 1) C rfl rfl rfl) (ea_cons ev_int (ea_one ev_int))))) es_nil)))).f) (.junk (.same (.same (.same (.same (.junk (.same (.junk (.same (.junk (.junk (.junk (.junk (.junk (.junk (.junk (.junk (.junk (.junk .nil))))))))))))))))))) (fun st_12 => (tg_name (i := 13) C rfl (tgt_def C fn rfl)))
 (fun st_12 y_13 => (bw_asg (fun z => z) C (tgt_def C fn rfl) 17 rfl (ev_repr C C2 rfl (T).b_repr ((ev_var (i := 8) C rfl rfl rfl)).q) fun before_14 =>
 (bl_ifx (EvW.t (ew_or (et_neS (ev_reprA C C2 rfl (T).b_repr ((ev_call (ok_is_gift (T)) C C2 (by decide) rfl (T).g_is_gift (T).f_is_gift.kp (T).d_is_gift (ea_one (ev_tup (ea_cons (ev_var (i := 13) C rfl rfl rfl) (ea_one (ev_var (i := 8) C rfl rfl rfl))))))).q) (ev_reprA C C2 rfl (T).b_repr ((ev_call (ok__law_is_gift (T)) C C2 (by decide) rfl (T).g__law_is_gift (T).f__law_is_gift.kp (T).d__law_is_gift (ea_cons (ev_var (i := 13) C rfl rfl rfl) (ea_one (ev_var (i := 8) C rfl rfl rfl))))).q)) (ew_or1 (et_neS (ev_repr C C2 rfl (T).b_repr ((ev_var (i := 8) C rfl rfl rfl)).q) (ev_var (i := 17) C rfl rfl rfl)))))
 (bl_ret ev_bl)
 (bl_nx (c := ()) (.junk (.same (.same (.same (.same (.junk (.same (.junk (.same (.junk (.junk (.junk (.junk (.junk (.junk (.junk (.junk (.junk (.junk .nil)))))))))))))))))))))))
 fun st_15 => (bl_nx (c := ()) (.junk (.same (.same (.same (.same (.junk (.same (.junk (.junk (.junk (.junk (.junk (.junk (.junk (.junk (.junk (.junk (.junk (.junk .nil))))))))))))))))))))))
 fun st_16 => (bl_for (Γc := (fun (st_17 : Unit) => [.junk, .val (rL rI) draws_1, .val rI y_3, .val (rL (rT (tc rI (t1 rI)))) pieces_4, .val rI wait_5, .junk, .dp (rT (tc rI (t1 (rL (rT (tc rI (t1 rI))))))) told_7, .junk, .junk, .junk, .junk, .junk, .junk, .junk, .junk, .junk, .junk, .junk, .junk])) (c0 := ()) C.calm C2.po (ei_range1 C rfl (T).b_range ev_int) (.junk (.same (.same (.same (.same (.junk (.same (.junk (.junk (.junk (.junk (.junk (.junk (.junk (.junk (.junk (.junk (.junk (.junk .nil))))))))))))))))))) (fun st_17 => (tg_name (i := 9) C rfl (tgt_def C fn rfl)))
 (fun st_17 y_18 => (bw_asg (fun z => z) C (tgt_def C fn rfl) 14 rfl (ev_ix ((en_list (es_cons ev_int (es_cons (ev_var (i := 4) C rfl rfl rfl) (es_cons (ev_add (ev_var (i := 4) C rfl rfl rfl) ev_int) (es_cons (ev_add (ev_var (i := 4) C rfl rfl rfl) ev_int) (es_cons (ev_add (ev_var (i := 4) C rfl rfl rfl) (ev_call (ok__law_mix (T)) C C2 (by decide) rfl (T).g__law_mix (T).f__law_mix.kp (T).d__law_mix (ea_cons (ev_var (i := 1) C rfl rfl rfl) (ea_cons (ev_add ev_int (ev_mul ev_int (ev_var (i := 2) C rfl rfl rfl))) (ea_one ev_int))))) (es_cons (ev_add (ev_var (i := 4) C rfl rfl rfl) (ev_call (ok__law_mix (T)) C C2 (by decide) rfl (T).g__law_mix (T).f__law_mix.kp (T).d__law_mix (ea_cons (ev_var (i := 1) C rfl rfl rfl) (ea_cons (ev_add ev_int (ev_mul ev_int (ev_var (i := 2) C rfl rfl rfl))) (ea_one (ev_pow ev_int ev_int)))))) es_nil)))))))).f.c (ev_var (i := 9) C rfl rfl rfl)) fun tick_19 =>
 (bw_asg (fun z => z) C (tgt_def C fn rfl) 15 rfl (ev_call (ok__law_gives (T)) C C2 (by decide) rfl (T).g__law_gives (T).f__law_gives.kp (T).d__law_gives (ea_cons (ev_var (i := 4) C rfl rfl rfl) (ea_cons (ev_var (i := 3) C rfl rfl rfl) (ea_one (ev_var (i := 14) C rfl rfl rfl))))) fun number_20 =>
 (bl_ifx (et_thawD 6 rfl (et_neS (ev_reprA C C2 rfl (T).b_repr ((ev_call (ok_given_by (T)) C C2 (by decide) rfl (T).g_given_by (T).f_given_by.kp (T).d_given_by (ea_cons (ev_var (i := 6) C rfl rfl rfl) (ea_one (ev_var (i := 14) C rfl rfl rfl))))).q) (ev_reprA C C2 rfl (T).b_repr ((ev_var (i := 15) C rfl rfl rfl)).q)))
 (bl_ret ev_bl)
 (bl_for (Γc := (fun (st_21 : Unit) => [.junk, .val (rL rI) draws_1, .val rI y_3, .val (rL (rT (tc rI (t1 rI)))) pieces_4, .val rI wait_5, .junk, .dp (rT (tc rI (t1 (rL (rT (tc rI (t1 rI))))))) told_7, .junk, .junk, .junk, .junk, .junk, .junk, .junk, .junk, .junk, .junk, .junk, .junk])) (c0 := ()) C.calm C2.po (ei_list ((en_list (es_cons (ev_var (i := 15) C rfl rfl rfl) (es_cons (ev_add (ev_var (i := 15) C rfl rfl rfl) ev_int) (es_cons (ev_add ev_int (ev_call (ok__law_mix (T)) C C2 (by decide) rfl (T).g__law_mix (T).f__law_mix.kp (T).d__law_mix (ea_cons (ev_var (i := 1) C rfl rfl rfl) (ea_cons (ev_add (ev_add ev_int (ev_mul ev_int (ev_var (i := 2) C rfl rfl rfl))) (ev_var (i := 9) C rfl rfl rfl)) (ea_one (ev_pow ev_int ev_int)))))) es_nil))))).f) (.junk (.same (.same (.same (.same (.junk (.same (.junk (.junk (.junk (.junk (.junk (.junk (.junk (.junk (.junk (.junk (.junk (.junk .nil))))))))))))))))))) (fun st_21 => (tg_name (i := 16) C rfl (tgt_def C fn rfl)))
 (fun st_21 y_22 => (bl_ifj (Γj := (fun (st_24 : Unit) => [.junk, .val (rL rI) draws_1, .val rI y_3, .val (rL (rT (tc rI (t1 rI)))) pieces_4, .val rI wait_5, .junk, .dp (rT (tc rI (t1 (rL (rT (tc rI (t1 rI))))))) told_7, .junk, .junk, .junk, .junk, .junk, .junk, .junk, .junk, .junk, .junk, .junk, .junk])) (et_gt (ev_var (i := 16) C rfl rfl rfl) ev_int)
 (bw_asg (fun z => z) C (tgt_def C fn rfl) 18 rfl (ev_thawD 6 rfl (ev_call (ok_first_tick (T)) C C2 (by decide) rfl (T).g_first_tick (T).f_first_tick.kp (T).d_first_tick (ea_cons (ev_var (i := 6) C rfl rfl rfl) (ea_one (ev_var (i := 16) C rfl rfl rfl))))) fun first_23 =>
 (bl_ifx (EvW.t (ew_or (et_not (EvF.t (isi_core (b := true) (T := "int") (ty := "int") ty_int C rfl (T).b_isinstance ((ev_var (i := 18) C rfl rfl rfl)).q rfl (T).b_int (by decide +kernel) (by decide +kernel) (by decide) (by decide)))) (ew_or1 (EvF.t (isi_core (b := false) (T := "int") (ty := "bool") ty_int C rfl (T).b_isinstance ((ev_var (i := 18) C rfl rfl rfl)).q rfl (T).b_bool (by decide +kernel) (by decide +kernel) (by decide) (by decide))))))
 (bl_ret ev_bl)
 (bl_ifx (EvW.t (ew_or (et_lt (ev_call (ok__law_gives (T)) C C2 (by decide) rfl (T).g__law_gives (T).f__law_gives.kp (T).d__law_gives (ea_cons (ev_var (i := 4) C rfl rfl rfl) (ea_cons (ev_var (i := 3) C rfl rfl rfl) (ea_one (ev_var (i := 18) C rfl rfl rfl))))) (ev_var (i := 16) C rfl rfl rfl)) (ew_or1 (et_ge (ev_call (ok__law_gives (T)) C C2 (by decide) rfl (T).g__law_gives (T).f__law_gives.kp (T).d__law_gives (ea_cons (ev_var (i := 4) C rfl rfl rfl) (ea_cons (ev_var (i := 3) C rfl rfl rfl) (ea_one (ev_sub (ev_var (i := 18) C rfl rfl rfl) ev_int))))) (ev_var (i := 16) C rfl rfl rfl)))))
 (bl_ret ev_bl)
 (bl_nx (c := ()) (.junk (.same (.same (.same (.same (.junk (.same (.junk (.junk (.junk (.junk (.junk (.junk (.junk (.junk (.junk (.junk (.junk (.junk .nil)))))))))))))))))))))))
 (bl_nx (c := ()) (.junk (.same (.same (.same (.same (.junk (.same (.junk (.junk (.junk (.junk (.junk (.junk (.junk (.junk (.junk (.junk (.junk (.junk .nil))))))))))))))))))))
 fun st_24 => (bl_nx (c := ()) (.junk (.same (.same (.same (.same (.junk (.same (.junk (.junk (.junk (.junk (.junk (.junk (.junk (.junk (.junk (.junk (.junk (.junk .nil))))))))))))))))))))))
 fun st_25 => (bl_nx (c := ()) (.junk (.same (.same (.same (.same (.junk (.same (.junk (.junk (.junk (.junk (.junk (.junk (.junk (.junk (.junk (.junk (.junk (.junk .nil)))))))))))))))))))))))))
 fun st_26 => (bw_appD (fun z => z) 6 rfl (ev_tix (k := 1) (ev_var (i := 6) C rfl rfl rfl) (ta_s ta_1)) ev_int
 (bw_asg (fun z => z) C (tgt_def C fn rfl) 10 rfl (ev_call (ok__law_mix (T)) C C2 (by decide) rfl (T).g__law_mix (T).f__law_mix.kp (T).d__law_mix (ea_cons (ev_var (i := 1) C rfl rfl rfl) (ea_cons ev_int (ea_one (ev_len C rfl (T).b_len ((ev_var (i := 3) C rfl rfl rfl)).c))))) fun at_27 =>
 (bw_asg (fun z => z) C (tgt_def C fn rfl) 11 rfl (ev_ix ((en_list (es_cons (ev_tup (ea_cons (ev_neg ev_int) (ea_one ev_int))) (es_cons (ev_tup (ea_cons ev_int (ea_one ev_int))) (es_cons (ev_tup (ea_cons ev_int (ea_one ev_int))) (es_cons (ev_tup (ea_cons ev_int (ea_one (ev_neg ev_int)))) es_nil)))))).f.c (ev_call (ok__law_mix (T)) C C2 (by decide) rfl (T).g__law_mix (T).f__law_mix.kp (T).d__law_mix (ea_cons (ev_var (i := 1) C rfl rfl rfl) (ea_cons ev_int (ea_one ev_int))))) fun wrong_28 =>
 (bw_asg (fun z => z) C (tgt_def C fn rfl) 12 rfl ((en_cat ((en_cat ((en_slice ((ev_var (i := 3) C rfl rfl rfl)).c eo_none (eo_some (ev_var (i := 10) C rfl rfl rfl)))).f.l ((en_list (es_cons (ev_var (i := 11) C rfl rfl rfl) es_nil))).f.l)).f.l ((en_rep ((en_list (es_cons (ev_tup (ea_cons (ev_neg ev_int) (ea_one ev_int))) es_nil))).f.l (ev_sub (ev_len C rfl (T).b_len ((ev_var (i := 3) C rfl rfl rfl)).c) (ev_var (i := 10) C rfl rfl rfl)))).f.l)).f fun bad_29 =>
 (bl_ifx (EvW.t (ew_or (et_ne C ((ev_call (ok__law_refused (T)) C C2 (by decide) rfl (T).g__law_refused (T).f__law_refused.kp (T).d__law_refused (ea_cons (ev_sub (ev_neg ev_int) (ev_var (i := 4) C rfl rfl rfl)) (ea_one ((en_list (r := (rT (tc rI (t1 rI)))) es_nil)).f)))).q ((ev_some (ev_tup (ea_cons ev_bl (ea_one ev_int))))).q) (ew_or (et_ne C ((ev_call (ok__law_refused (T)) C C2 (by decide) rfl (T).g__law_refused (T).f__law_refused.kp (T).d__law_refused (ea_cons (ev_var (i := 4) C rfl rfl rfl) (ea_one ((en_list (r := (rT (tc rI (t1 rI)))) es_nil)).f)))).q ((ev_some (ev_tup (ea_cons ev_bl (ea_one ev_int))))).q) (ew_or1 (et_ne C ((ev_call (ok__law_refused (T)) C C2 (by decide) rfl (T).g__law_refused (T).f__law_refused.kp (T).d__law_refused (ea_cons (ev_var (i := 4) C rfl rfl rfl) (ea_one (ev_var (i := 12) C rfl rfl rfl))))).q ((ev_some (ev_tup (ea_cons ev_bl (ea_one (ev_add (ev_var (i := 10) C rfl rfl rfl) ev_int)))))).q)))))
 (bl_ret ev_bl)
 (bl_nx (c := ()) (.junk (.same (.junk (.junk (.junk (.junk (.junk (.junk (.junk (.junk (.junk (.junk (.junk (.junk (.junk (.junk (.junk (.junk (.junk .nil))))))))))))))))))))))))))))))))))))
 fun st_30 => (bl_ret ev_bl)))
  unfold vc_law m_law
  try dsimp (config := { zeta := false }) only at h ⊢
  exact h

end L3

namespace L3
open PySem L2
/-! ### the draws (the same defs in every law) -/
structure Drw (ds : List Int) : Prop where
  rg : ∀ d ∈ ds, 0 ≤ d ∧ d < 65536
  ln : ds.length ≤ 3780
theorem draws_ok (script : List Int) : vc__law_draws script ∧ Drw (m__law_draws script) := by
  unfold vc__law_draws m__law_draws
  simp only [true_and, and_true, decide_eq_true_eq, decide_eq_false_iff_not, and_assoc, implies_true]
  have hn : (if (script.length : Int) < (63 : Int) then (script.length : Int) else (63 : Int)) ≤ 63 ∧ (if (script.length : Int) < (63 : Int) then (script.length : Int) else (63 : Int)) ≤ script.length ∧ 0 ≤ (if (script.length : Int) < (63 : Int) then (script.length : Int) else (63 : Int)) := by split <;> omega
  refine ⟨by unfold RgB; omega, fold_use (fun pre ds => (∀ d ∈ ds, 0 ≤ d ∧ d < 65536) ∧ ds.length ≤ 60 * pre.length) ?_ ⟨by simp, by simp⟩ ?_⟩
  · intro pre y post ds e ⟨i1, i2⟩
    obtain ⟨e1, e2⟩ := rng_split e
    have hy : 0 ≤ y ∧ y < script.length := by omega
    generalize hr : (if gi script y < 0 then -(gi script y) else gi script y) = rest
    have hr0 : 0 ≤ rest := by rw [← hr]; split <;> omega
    have hp : pre.length ≤ 62 := by omega
    have inner := fold_use (fun (q : List Int) (st : List Int × Int) => (∀ d ∈ st.1, 0 ≤ d ∧ d < 65536) ∧ st.1.length ≤ 60 * pre.length + q.length ∧ 0 ≤ st.2) (R := fun st => (∀ d ∈ st.1, 0 ≤ d ∧ d < 65536) ∧ st.1.length ≤ 60 * pre.length + 60) (pb := fun (st_5 : List Int × Int) (y_6 : Int) => (0 < st_5.2 → 0 < (65536 : Int) ∧ st_5.1.length < sizeLine ∧ CDiv st_5.2 65536)) (f := fun (st_5 : List Int × Int) (y_6 : Int) => ((if 0 < st_5.2 then (st_5.1 ++ [st_5.2 % (65536 : Int)], st_5.2 / (65536 : Int)) else (st_5.1, st_5.2)).1, (if 0 < st_5.2 then (st_5.1 ++ [st_5.2 % (65536 : Int)], st_5.2 / (65536 : Int)) else (st_5.1, st_5.2)).2)) (xs := rng 0 60) (c := (ds, rest)) (by
        rintro q z post2 ⟨us, r⟩ e3 ⟨j1, j2, j3⟩
        have hq : q.length ≤ 60 := by have := congrArg List.length e3; rw [rng_len] at this; simp at this; omega
        simp only at j1 j2 j3
        refine ⟨fun h0 => ⟨by decide, ?_, ⟨by decide, by decide⟩⟩, ?_⟩
        · have : sizeLine = 16777216 := by decide
          simp only; omega
        · by_cases h0 : 0 < r
          · simp only [if_pos h0]
            refine ⟨fun d hd => ?_, ?_, by omega⟩
            · rcases List.mem_append.mp hd with h | h
              · exact j1 d h
              · rw [List.mem_singleton] at h; omega
            · simp; omega
          · simp only [if_neg h0]
            exact ⟨j1, by simp; omega, j3⟩) ⟨i1, by simpa using i2, hr0⟩ (fun c hc => ⟨hc.1, by have := hc.2.1; rw [rng_len] at this; simpa using this⟩)
    have hsz : sizeLine = 16777216 := by decide
    refine ⟨⟨by unfold InB; omega, by unfold CPow; decide, fun hbig => ⟨by unfold RgB; decide, inner.1⟩, fun hsm => ?_⟩, ?_⟩
    · refine ⟨.inr (by decide), .inr (by decide), by decide, .inr (by decide), .inl (by decide), by decide, by decide, by omega, ⟨by decide, by decide⟩, by decide, by simp; omega⟩
    · by_cases hb : (10 : Int) ^ Int.toNat 18 ≤ rest
      · simp only [if_pos hb]
        exact ⟨inner.2.1, by have := inner.2.2; simp; omega⟩
      · simp only [if_neg hb]
        refine ⟨fun d hd => ?_, by simp; omega⟩
        simp only [List.mem_append, List.mem_singleton] at hd
        rcases hd with (h | h) | h
        · exact i1 d h
        · omega
        · omega
  · intro ds ⟨i1, i2⟩
    refine ⟨i1, ?_⟩
    rw [rng_len] at i2
    omega
theorem mix_vc {ds : List Int} (h : Drw ds) (k : Int) {many : Int} (hm : 0 < many) : vc__law_mix ds k many := by
  unfold vc__law_mix
  simp only [true_and, and_true, decide_eq_true_eq, decide_eq_false_iff_not, and_assoc, implies_true]
  refine ⟨fun h0 => ⟨h0, ?_⟩, fun _ => hm, fun _ => ⟨.inr (by decide), .inr (by decide), ⟨by decide, by decide⟩, hm⟩⟩
  have h1 := Int.emod_nonneg k (show (ds.length : Int) ≠ 0 by omega)
  have h2 := Int.emod_lt_of_pos k h0
  unfold InB; omega
theorem mix_rg {ds : List Int} (k : Int) {many : Int} (hm : 0 < many) : 0 ≤ m__law_mix ds k many ∧ m__law_mix ds k many < many := by
  unfold m__law_mix
  simp only
  split <;> exact ⟨Int.emod_nonneg _ (by omega), Int.emod_lt_of_pos _ hm⟩
theorem mix_ix {ds : List Int} (k : Int) {many : Int} {n : Nat} (hm : 0 < many) (hn : many ≤ n) : InB (m__law_mix ds k many) n := by
  have := mix_rg (ds := ds) k hm
  unfold InB; omega
structure Pcs (ps : List (Int × Int)) : Prop where
  rg : ∀ q ∈ ps, 0 ≤ q.1 ∧ q.1 < 2 ^ 40 ∧ 1 ≤ q.2 ∧ q.2 ≤ 1000000
  ln : ps.length ≤ 5
theorem pick3 {ds : List Int} (k a b c : Int) {P : Int → Prop} (ha : P a) (hb : P b) (hc : P c) : P (gi [a, b, c] (m__law_mix ds k 3)) := by
  have := gi_mem (xs := [a, b, c]) (mix_ix (ds := ds) k (show (0 : Int) < 3 by decide) (n := 3) (by decide))
  simp only [List.mem_cons, List.not_mem_nil, or_false] at this
  rcases this with e | e | e <;> rw [e] <;> assumption
theorem pieces_sp {ds : List Int} (h : Drw ds) (k : Int) {top : Int} (ht : 0 < top) (ht2 : top ≤ 2 ^ 40) : vc__law_pieces ds k top ∧ Pcs (m__law_pieces ds k top) ∧ m__law_pieces ds k top ≠ [] := by
  unfold vc__law_pieces m__law_pieces
  simp only [true_and, and_true, and_assoc]
  have hr := mix_rg (ds := ds) k (show (0 : Int) < 5 by decide)
  have hsz : sizeLine = 16777216 := by decide
  refine ⟨mix_vc h k (by decide), by unfold RgB; omega, fold_use (R := fun ps => Pcs ps ∧ ps ≠ []) (fun pre ps => (∀ q ∈ ps, 0 ≤ q.1 ∧ q.1 < 2 ^ 40 ∧ 1 ≤ q.2 ∧ q.2 ≤ 1000000) ∧ ps.length = pre.length) ?_ ⟨by simp, rfl⟩ ?_⟩
  · intro pre y post ps e ⟨i1, i2⟩
    obtain ⟨e1, e2⟩ := rng_split e
    have p1 : 0 < gi [(1 : Int), top, (9 : Int)] (m__law_mix ds ((k + (11 : Int)) + y) 3) ∧ gi [(1 : Int), top, (9 : Int)] (m__law_mix ds ((k + (11 : Int)) + y) 3) ≤ 2 ^ 40 := pick3 (P := fun z => 0 < z ∧ z ≤ 2 ^ 40) _ _ _ _ (by decide) ⟨ht, ht2⟩ (by decide)
    have p2 : 0 < gi [(3 : Int), 9, 1000000] (m__law_mix ds (k + (16 : Int)) 3) ∧ gi [(3 : Int), 9, 1000000] (m__law_mix ds (k + (16 : Int)) 3) ≤ 1000000 := pick3 (P := fun z => 0 < z ∧ z ≤ 1000000) _ _ _ _ (by decide) (by decide) (by decide)
    refine ⟨⟨.inl (by decide), mix_vc h _ (by decide), mix_ix _ (by decide) (Int.le_refl 3), mix_vc h _ p1.1, .inl (by decide), mix_vc h _ (by decide), mix_ix _ (by decide) (by decide), mix_vc h _ p2.1, by omega⟩, fun q hq => ?_, by simp; omega⟩
    rcases List.mem_append.mp hq with hq | hq
    · exact i1 q hq
    · rw [List.mem_singleton] at hq
      have r1 := mix_rg (ds := ds) ((k + (1 : Int)) + ((2 : Int) * y)) p1.1
      have r2 := mix_rg (ds := ds) ((k + (2 : Int)) + ((2 : Int) * y)) p2.1
      rw [hq]; simp only; omega
  · intro ps ⟨i1, i2⟩
    rw [rng_len] at i2
    exact ⟨⟨i1, by omega⟩, fun e => by rw [e] at i2; simp at i2; omega⟩
theorem forP_endR {α γ γ' ρ : Type} {pb : γ → α → Prop} {f : γ → α → Res γ γ ρ} {q : γ → Prop} {k : γ → Res γ' γ' ρ} {I' J' : γ' → Prop} {Z : ρ → Prop} (I : List α → γ → Prop) (J : γ → Prop) (xs : List α) (c : γ) (st : ∀ pre y post c, xs = pre ++ y :: post → I pre c → pb c y ∧ ResI (I (pre ++ [y])) J Z (f c y)) (hJ : ∀ c, I xs c → J c) (h : I [] c) (hq : ∀ c, J c → q c ∧ ResI I' J' Z (k c)) : forP pb f xs c ∧ sumP (forR f xs c) q ∧ ResI I' J' Z (sumR (forR f xs c) k) := by
  obtain ⟨h1, h2⟩ := forP_ix I J Z xs c st hJ h
  match e : forR f xs c, h2 with
  | .inl x, h2 => exact ⟨h1, trivial, h2⟩
  | .inr c', h2 => exact ⟨h1, (hq c' h2).1, (hq c' h2).2⟩
theorem pick2 {ds : List Int} (k a b : Int) {P : Int → Prop} (ha : P a) (hb : P b) : P (gi [a, b] (m__law_mix ds k 2)) := by
  have := gi_mem (xs := [a, b]) (mix_ix (ds := ds) k (show (0 : Int) < 2 by decide) (n := 2) (by decide))
  simp only [List.mem_cons, List.not_mem_nil, or_false] at this
  rcases this with e | e <;> rw [e] <;> assumption
theorem mixT {ds : List Int} (dd : Drw ds) {k many : Int} (hm : 0 < many) : vc__law_mix ds k many ↔ True := iff_true_intro (mix_vc dd k hm)
theorem ix2T {ds : List Int} {k a b : Int} : InB (m__law_mix ds k 2) [a, b].length ↔ True := iff_true_intro (mix_ix k (by decide) (Int.le_refl 2))
theorem ix3T {ds : List Int} {k a b c : Int} : InB (m__law_mix ds k 3) [a, b, c].length ↔ True := iff_true_intro (mix_ix k (by decide) (Int.le_refl 3))
theorem cpT {j : Int} (h : 0 ≤ j) (h2 : j ≤ 1000) : CPow 2 j ↔ True := iff_true_intro ⟨h, by omega, by decide⟩
theorem cmT {c y : Int} (h : 0 ≤ c) (h2 : c ≤ 1000000) : CMul c y ↔ True := iff_true_intro (.inl ⟨by omega, by omega⟩)
theorem least_vcz {p : Int × Int} {ps : List (Int × Int)} (h : ∀ q ∈ ps, 0 ≤ q.1 ∧ q.1 < 2 ^ 40 ∧ 1 ≤ q.2 ∧ q.2 ≤ 1000000) (hp : p ∈ ps) : vc__law_is_least p ps := by
  unfold vc__law_is_least
  simp only [true_and, and_true, and_assoc, implies_true, Bool.and_eq_true, decide_eq_true_eq]
  have hp' := h p hp
  refine (forP_sum (Z := fun _ => True) (k := fun _ => true) (fun st => (-(2 ^ 42) < st.1.1 ∧ st.1.1 < 2 ^ 42) ∧ (∀ z, st.2 = some z → -(2 ^ 42) < z.1 ∧ z.1 < 2 ^ 42)) ps _ ?_ ⟨by decide, by simp⟩ ?_).1
  · intro st y hy ⟨i1, i2⟩
    have hy' := h y hy
    refine ⟨fun _ => ⟨fun _ => ⟨.inl (by omega), .inr (by omega)⟩, fun _ hn => ⟨by cases q : st.2 <;> simp_all, .inl (by omega), by cases q : st.2 <;> simp_all, .inr (by omega)⟩⟩, ?_⟩
    split
    · trivial
    · refine ⟨?_, ?_⟩
      · simp only
        split
        · simp only; omega
        · exact i1
      · intro z hz
        simp only at hz
        split at hz
        · cases hz; simp only; omega
        · exact i2 z hz
  · intro st ⟨i1, i2⟩
    refine ⟨fun hn => ?_, trivial⟩
    match q : st.2 with
    | none => rw [q] at hn; cases hn
    | some z =>
      have := i2 z q
      exact ⟨rfl, fun _ => ⟨rfl, .inl (by simp only [Option.getD_some]; omega), rfl, .inl (by omega)⟩⟩
theorem law_plain_vc {ps : List (Int × Int)} (h : ∀ q ∈ ps, 0 ≤ q.1 ∧ q.1 < 2 ^ 40 ∧ 1 ≤ q.2 ∧ q.2 ≤ 1000000) (hl : ps.length < 64) : vc__law_plain ps := by
  have hsz : sizeLine = 16777216 := by decide
  unfold vc__law_plain
  simp only [true_and, and_true, and_assoc, implies_true]
  have : (sortSetP ps).length ≤ ps.length := len_sortS (le := leP) ps
  exact ⟨⟨by omega, fun q hq => by have := h q hq; omega⟩, by omega, fun y hy => least_vcz h (mem_sortS.mp hy)⟩
theorem cut_drop1 {α : Type} (x : α) (xs : List α) : cut (x :: xs) (some 1) none = xs := by
  unfold cut
  have e : (1 : Int) = ((1 : Nat) : Int) := rfl
  rw [e, HT.sIx_nat, HT.sIx_none]
  have : min 1 (x :: xs).length = 1 := by simp
  rw [this, List.drop_one, List.tail_cons, List.take_of_length_le (by simp)]
theorem cut_init {α : Type} (xs : List α) (x : α) : cut (xs ++ [x]) none (some (-1)) = xs := by
  unfold cut
  have e : HT.sIx (xs ++ [x]).length (xs ++ [x]).length (some (-1)) = xs.length := by
    show (if (-1 : Int) < 0 then ((-1 : Int) + ((xs ++ [x]).length : Int)).toNat else min (-1 : Int).toNat (xs ++ [x]).length) = _
    rw [if_pos (by decide)]; simp; omega
  rw [e, HT.sIx_none, List.drop_zero, Nat.sub_zero]
  exact List.take_left
theorem cut_take' {α : Type} (xs : List α) (k : Nat) : cut xs none (some (k : Int)) = xs.take k := by
  unfold cut
  rw [HT.sIx_nat, HT.sIx_none, List.drop_zero, Nat.sub_zero]
  by_cases h : k ≤ xs.length
  · rw [Nat.min_eq_left h]
  · rw [Nat.min_eq_right (by omega), List.take_of_length_le (Nat.le_refl _), List.take_of_length_le (by omega)]
/-! ### hulls: who is ahead of all others at some rate -/
section
variable {α : Type} {X Y : α → Int}
def va (X Y : α → Int) (n d : Int) (q : α) : Int := d * Y q - n * X q
def Bst (X Y : α → Int) (ps : List α) (p : α) : Prop := ∃ n d : Int, 0 < n ∧ 0 < d ∧ ∀ q ∈ ps, q ≠ p → va X Y n d q < va X Y n d p
def Dm (X Y : α → Int) (S : List α) (q : α) : Prop := ∀ n d : Int, 0 ≤ n → 0 ≤ d → ∃ k ∈ S, va X Y n d q ≤ va X Y n d k
def Tr (X Y : α → Int) (f m l : α) : Prop := (X m - X f) * (Y l - Y m) < (X l - X m) * (Y m - Y f)
structure Ch (X Y : α → Int) (K : List α) : Prop where
  up : K.Pairwise (fun a b => X a < X b ∧ Y a < Y b)
  tr : ∀ (A : List α) (f m l : α) (B : List α), K = A ++ f :: m :: l :: B → Tr X Y f m l
theorem va_le {n d : Int} {q k : α} : va X Y n d q ≤ va X Y n d k ↔ d * (Y q - Y k) ≤ n * (X q - X k) := by
  unfold va; rw [Int.mul_sub, Int.mul_sub]; omega
theorem va_lt {n d : Int} {q k : α} : va X Y n d q < va X Y n d k ↔ d * (Y q - Y k) < n * (X q - X k) := by
  unfold va; rw [Int.mul_sub, Int.mul_sub]; omega
theorem Ch.tail {k : α} {B : List α} (h : Ch X Y (k :: B)) : Ch X Y B := ⟨(List.pairwise_cons.mp h.up).2, fun A f m l C e => h.tr (k :: A) f m l C (by rw [e]; rfl)⟩
theorem ch_right {n d : Int} (hn : 0 ≤ n) (hd : 0 ≤ d) : ∀ (B : List α) (k : α), Ch X Y (k :: B) → (∀ l C, B = l :: C → d * (Y l - Y k) ≤ n * (X l - X k)) → ∀ j ∈ B, va X Y n d j ≤ va X Y n d k
  | [], _, _, _, j, hj => absurd hj (by simp)
  | l :: C, k, h, hs, j, hj => by
    have h0 := hs l C rfl
    have hl : va X Y n d l ≤ va X Y n d k := va_le.mpr h0
    rcases List.mem_cons.mp hj with e | e
    · rw [e]; exact hl
    · refine Int.le_trans (ch_right hn hd C l h.tail (fun l2 C2 e2 => ?_) j e) hl
      have t := h.tr [] k l l2 C2 (by rw [e2]; rfl)
      have u1 := (List.pairwise_cons.mp h.up).1 l List.mem_cons_self
      unfold Tr at t
      have a : 0 < X l - X k := by omega
      refine Int.le_of_mul_le_mul_left (a := X l - X k) ?_ a
      have e1 : (X l - X k) * (d * (Y l2 - Y l)) = d * ((X l - X k) * (Y l2 - Y l)) := by rw [← Int.mul_assoc, Int.mul_comm _ d, Int.mul_assoc]
      have e3 : (X l - X k) * (n * (X l2 - X l)) = (X l2 - X l) * (n * (X l - X k)) := by
        rw [← Int.mul_assoc, Int.mul_comm _ (X l2 - X l), Int.mul_comm (X l - X k) n]
      rw [e1, e3]
      have s1 : d * ((X l - X k) * (Y l2 - Y l)) ≤ d * ((X l2 - X l) * (Y l - Y k)) := Int.mul_le_mul_of_nonneg_left (Int.le_of_lt t) hd
      have e4 : d * ((X l2 - X l) * (Y l - Y k)) = (X l2 - X l) * (d * (Y l - Y k)) := by rw [← Int.mul_assoc, Int.mul_comm d, Int.mul_assoc]
      have u2 := (List.pairwise_cons.mp h.tail.up).1 l2 (by rw [e2]; simp)
      have s2 : (X l2 - X l) * (d * (Y l - Y k)) ≤ (X l2 - X l) * (n * (X l - X k)) := Int.mul_le_mul_of_nonneg_left h0 (by omega)
      omega
theorem Ch.refl {K : List α} (h : Ch X Y K) : Ch (fun a => -Y a) (fun a => -X a) K.reverse := by
  refine ⟨List.pairwise_reverse.mpr (h.up.imp fun {a b} q => by omega), fun A f m l B e => ?_⟩
  have e2 : K = B.reverse ++ l :: m :: f :: A.reverse := by
    have := congrArg List.reverse e
    rw [List.reverse_reverse] at this
    rw [this]; simp
  have t := h.tr _ _ _ _ _ e2
  unfold Tr at *
  have e3 : (-Y m - -Y f) * (-X l - -X m) = (X m - X l) * (Y f - Y m) := by
    rw [show -Y m - -Y f = Y f - Y m by omega, show -X l - -X m = X m - X l by omega, Int.mul_comm]
  have e4 : (-Y l - -Y m) * (-X m - -X f) = (X f - X m) * (Y m - Y l) := by
    rw [show -Y l - -Y m = Y m - Y l by omega, show -X m - -X f = X f - X m by omega, Int.mul_comm]
  rw [e3, e4]; exact t
theorem va_refl {n d : Int} {q : α} : va (fun a => -Y a) (fun a => -X a) d n q = va X Y n d q := by unfold va; rw [Int.mul_neg, Int.mul_neg]; omega
theorem ch_left {n d : Int} (hn : 0 ≤ n) (hd : 0 ≤ d) {A : List α} {k : α} (h : Ch X Y (A ++ [k])) (hs : ∀ C f, A = C ++ [f] → n * (X k - X f) ≤ d * (Y k - Y f)) : ∀ j ∈ A, va X Y n d j ≤ va X Y n d k := by
  intro j hj
  have h1 := h.refl
  rw [List.reverse_append, List.reverse_singleton, List.singleton_append] at h1
  have := ch_right (n := d) (d := n) hd hn A.reverse k h1 (fun l C e => by
    have e2 : A = C.reverse ++ [l] := by
      have := congrArg List.reverse e
      rw [List.reverse_reverse] at this
      rw [this]; simp
    have := hs _ _ e2
    rw [show -X l - -X k = X k - X l by omega, show -Y l - -Y k = Y k - Y l by omega]
    exact this) j (List.mem_reverse.mpr hj)
  rwa [va_refl, va_refl] at this
theorem Ch.take {A : List α} {k : α} {B : List α} (h : Ch X Y (A ++ k :: B)) : Ch X Y (A ++ [k]) ∧ Ch X Y (k :: B) := by
  constructor
  · refine ⟨h.up.sublist (by simp), fun C f m l D e => ?_⟩
    refine h.tr C f m l (D ++ B) ?_
    rw [show A ++ k :: B = (A ++ [k]) ++ B by simp, e]; simp
  · refine ⟨h.up.sublist (by simp), fun C f m l D e => h.tr (A ++ C) f m l D (by rw [e]; simp)⟩
theorem two_dirs {n1 d1 n2 d2 u w : Int} (p1 : 0 ≤ d1) (p2 : 0 ≤ d2) (det : n2 * d1 < n1 * d2) (h1 : n1 * w ≤ d1 * u) (h2 : n2 * w ≤ d2 * u) (hne : ¬ (u = 0 ∧ w = 0)) : (n1 + n2) * w < (d1 + d2) * u := by
  rw [Int.add_mul, Int.add_mul]
  apply Classical.byContradiction
  intro hc
  have e1 : n1 * w = d1 * u := by omega
  have e2 : n2 * w = d2 * u := by omega
  have k1 : (n1 * d2 - n2 * d1) * w = 0 := by
    rw [Int.sub_mul]
    have a1 : n1 * d2 * w = d2 * (d1 * u) := by rw [Int.mul_comm n1, Int.mul_assoc, e1]
    have a2 : n2 * d1 * w = d1 * (d2 * u) := by rw [Int.mul_comm n2, Int.mul_assoc, e2]
    rw [a1, a2, ← Int.mul_assoc, ← Int.mul_assoc, Int.mul_comm d2 d1]; omega
  have hw : w = 0 := by
    rcases Int.mul_eq_zero.mp k1 with q | q
    · omega
    · exact q
  subst hw
  rw [Int.mul_zero] at e1 e2
  have hu : u = 0 := by
    rcases Int.mul_eq_zero.mp e1.symm with q | q
    · rcases Int.mul_eq_zero.mp e2.symm with q2 | q2
      · rw [q, q2] at det; simp at det
      · exact q2
    · exact q
  exact hne ⟨hu, rfl⟩
structure Hl (X Y : α → Int) (P K : List α) : Prop where
  ch : Ch X Y K
  sub : ∀ k ∈ K, k ∈ P
  dm : ∀ q ∈ P, Dm X Y K q
  ln : K.length ≤ P.length
theorem Hl.best (inj : ∀ a b : α, X a = X b → Y a = Y b → a = b) {P K : List α} (h : Hl X Y P K) {k : α} (hk : k ∈ K) : Bst X Y P k := by
  obtain ⟨A, B, e⟩ := List.append_of_mem hk
  have hc := h.ch
  rw [e] at hc
  obtain ⟨hl, hr⟩ := hc.take
  have upl : ∀ f ∈ A, X f < X k ∧ Y f < Y k := fun f hf => (List.pairwise_append.mp hl.up).2.2 f hf k (by simp)
  have upr : ∀ l ∈ B, X k < X l ∧ Y k < Y l := fun l hl' => (List.pairwise_cons.mp hr.up).1 l hl'
  have memK : ∀ j, j ∈ K → j ∈ A ∨ j = k ∨ j ∈ B := fun j hj => by rw [e] at hj; simpa using hj
  -- the two directions
  have D : ∃ n1 d1 n2 d2 : Int, 0 ≤ n1 ∧ 0 ≤ d1 ∧ 0 ≤ n2 ∧ 0 ≤ d2 ∧ n2 * d1 < n1 * d2 ∧ 0 < n1 + n2 ∧ 0 < d1 + d2 ∧ (∀ j ∈ K, va X Y n1 d1 j ≤ va X Y n1 d1 k) ∧ (∀ j ∈ K, va X Y n2 d2 j ≤ va X Y n2 d2 k) := by
    have wrap : ∀ n d : Int, 0 ≤ n → 0 ≤ d → (∀ C f, A = C ++ [f] → n * (X k - X f) ≤ d * (Y k - Y f)) → (∀ l C, B = l :: C → d * (Y l - Y k) ≤ n * (X l - X k)) → ∀ j ∈ K, va X Y n d j ≤ va X Y n d k := by
      intro n d hn hd h1 h2 j hj
      rcases memK j hj with q | q | q
      · exact ch_left hn hd hl h1 j q
      · rw [q]; exact Int.le_refl _
      · exact ch_right hn hd B k hr h2 j q
    rcases List.eq_nil_or_concat A with eA | ⟨A', f, eA⟩
    · match eB : B with
      | [] => exact ⟨1, 0, 0, 1, by decide, by decide, by decide, by decide, by decide, by decide, by decide, wrap _ _ (by decide) (by decide) (fun C f ef => by rw [eA] at ef; simp at ef) (fun l C el => by cases el), wrap _ _ (by decide) (by decide) (fun C f ef => by rw [eA] at ef; simp at ef) (fun l C el => by cases el)⟩
      | l :: B' =>
        have u := upr l (by simp)
        refine ⟨1, 0, Y l - Y k, X l - X k, by decide, by decide, by omega, by omega, by omega, by omega, by omega, wrap _ _ (by decide) (by decide) (fun C f ef => by rw [eA] at ef; simp at ef) (fun l' C el => ?_), wrap _ _ (by omega) (by omega) (fun C f ef => by rw [eA] at ef; simp at ef) (fun l' C el => ?_)⟩
        · cases el; omega
        · cases el; rw [Int.mul_comm]; exact Int.le_refl _
    · rw [List.concat_eq_append] at eA
      have uf := upl f (by rw [eA]; simp)
      match eB : B with
      | [] =>
        refine ⟨Y k - Y f, X k - X f, 0, 1, by omega, by omega, by decide, by decide, by omega, by omega, by omega, wrap _ _ (by omega) (by omega) (fun C f' ef => ?_) (fun l' C el => by cases el), wrap _ _ (by decide) (by decide) (fun C f' ef => ?_) (fun l' C el => by cases el)⟩
        · rw [eA] at ef
          have := (List.append_inj' ef rfl).2
          cases this; rw [Int.mul_comm]; exact Int.le_refl _
        · have := upl f' (by rw [ef]; simp)
          omega
      | l :: B' =>
        have u := upr l (by simp)
        have t : Tr X Y f k l := h.ch.tr A' f k l B' (by rw [e, eA]; simp)
        unfold Tr at t
        have t' : (Y l - Y k) * (X k - X f) < (Y k - Y f) * (X l - X k) := by rw [Int.mul_comm (Y l - Y k), Int.mul_comm (Y k - Y f)]; exact t
        refine ⟨Y k - Y f, X k - X f, Y l - Y k, X l - X k, by omega, by omega, by omega, by omega, t', by omega, by omega, wrap _ _ (by omega) (by omega) (fun C f' ef => ?_) (fun l' C el => ?_), wrap _ _ (by omega) (by omega) (fun C f' ef => ?_) (fun l' C el => ?_)⟩
        · rw [eA] at ef
          have := (List.append_inj' ef rfl).2
          cases this; rw [Int.mul_comm]; exact Int.le_refl _
        · cases el
          exact Int.le_of_lt (by rw [Int.mul_comm (Y k - Y f)]; exact t)
        · rw [eA] at ef
          have := (List.append_inj' ef rfl).2
          cases this
          exact Int.le_of_lt (by rw [Int.mul_comm (X l - X k), Int.mul_comm (Y l - Y k)]; rw [Int.mul_comm (Y k - Y f)] at t'; rw [Int.mul_comm (Y l - Y k)] at t'; rw [Int.mul_comm (Y k - Y f)]; exact t')
        · cases el; rw [Int.mul_comm]; exact Int.le_refl _
  obtain ⟨n1, d1, n2, d2, a1, a2, a3, a4, det, pn, pd, b1, b2⟩ := D
  refine ⟨n1 + n2, d1 + d2, pn, pd, fun q hq hne => ?_⟩
  obtain ⟨j1, hj1, c1⟩ := h.dm q hq n1 d1 a1 a2
  obtain ⟨j2, hj2, c2⟩ := h.dm q hq n2 d2 a3 a4
  have g1 := va_le.mp (Int.le_trans c1 (b1 j1 hj1))
  have g2 := va_le.mp (Int.le_trans c2 (b2 j2 hj2))
  have f1 : n1 * (X k - X q) ≤ d1 * (Y k - Y q) := by
    rw [show X k - X q = -(X q - X k) by omega, show Y k - Y q = -(Y q - Y k) by omega, Int.mul_neg, Int.mul_neg]; omega
  have f2 : n2 * (X k - X q) ≤ d2 * (Y k - Y q) := by
    rw [show X k - X q = -(X q - X k) by omega, show Y k - Y q = -(Y q - Y k) by omega, Int.mul_neg, Int.mul_neg]; omega
  have := two_dirs a2 a4 det f1 f2 (fun ⟨z1, z2⟩ => hne (inj q k (by omega) (by omega)))
  rw [va_lt, show X q - X k = -(X k - X q) by omega, show Y q - Y k = -(Y k - Y q) by omega, Int.mul_neg, Int.mul_neg]
  omega
theorem Hl.mem (inj : ∀ a b : α, X a = X b → Y a = Y b → a = b) {P K : List α} (h : Hl X Y P K) (q : α) : q ∈ K ↔ q ∈ P ∧ Bst X Y P q := by
  constructor
  · exact fun hq => ⟨h.sub q hq, h.best inj hq⟩
  · rintro ⟨hq, n, d, hn, hd, hb⟩
    apply Classical.byContradiction
    intro hk
    obtain ⟨k, k1, k2⟩ := h.dm q hq n d (by omega) (by omega)
    have := hb k (h.sub k k1) fun e => hk (by rw [← e]; exact k1)
    omega
theorem pop_dm {f m l : α} (h1 : X f < X m) (h2 : X m < X l) (hb : ¬ Tr X Y f m l) : Dm X Y [f, l] m := by
  intro n d hn hd
  by_cases c1 : va X Y n d m ≤ va X Y n d f
  · exact ⟨f, by simp, c1⟩
  · refine ⟨l, by simp, ?_⟩
    apply Classical.byContradiction
    intro c2
    rw [va_le] at c1 c2
    unfold Tr at hb
    have p1 : (X l - X m) * (n * (X m - X f)) < (X l - X m) * (d * (Y m - Y f)) := Int.mul_lt_mul_of_pos_left (by omega) (by omega)
    have c2' : d * (Y l - Y m) < n * (X l - X m) := by
      rw [show Y m - Y l = -(Y l - Y m) by omega, show X m - X l = -(X l - X m) by omega, Int.mul_neg, Int.mul_neg] at c2; omega
    have p2 : (X m - X f) * (d * (Y l - Y m)) < (X m - X f) * (n * (X l - X m)) := Int.mul_lt_mul_of_pos_left c2' (by omega)
    have p3 : d * ((X l - X m) * (Y m - Y f)) ≤ d * ((X m - X f) * (Y l - Y m)) := Int.mul_le_mul_of_nonneg_left (by omega) hd
    have e1 : (X l - X m) * (n * (X m - X f)) = (X m - X f) * (n * (X l - X m)) := by
      rw [← Int.mul_assoc, Int.mul_comm _ (X m - X f), Int.mul_comm (X l - X m) n]
    have e2 : (X l - X m) * (d * (Y m - Y f)) = d * ((X l - X m) * (Y m - Y f)) := by rw [← Int.mul_assoc, Int.mul_comm _ d, Int.mul_assoc]
    have e3 : (X m - X f) * (d * (Y l - Y m)) = d * ((X m - X f) * (Y l - Y m)) := by rw [← Int.mul_assoc, Int.mul_comm _ d, Int.mul_assoc]
    omega
theorem Dm.self {S : List α} {q : α} (h : q ∈ S) : Dm X Y S q := fun n d _ _ => ⟨q, h, Int.le_refl _⟩
theorem Dm.trans {S T : List α} {q : α} (h : Dm X Y S q) (k : ∀ s ∈ S, Dm X Y T s) : Dm X Y T q := fun n d hn hd => by
  obtain ⟨s, h1, h2⟩ := h n d hn hd
  obtain ⟨t, h3, h4⟩ := k s h1 n d hn hd
  exact ⟨t, h3, Int.le_trans h2 h4⟩
/-- while the last ones are popped -/
structure Pp (X Y : α → Int) (p : α) (K0 K : List α) : Prop where
  ne : K ≠ []
  ch : Ch X Y K
  sub : ∀ k ∈ K, k ∈ K0
  dm : ∀ q ∈ K0, Dm X Y (K ++ [p]) q
  ln : K.length ≤ K0.length
theorem gi_2 [Inhabited α] (l : List α) (a b : α) : gi (l ++ [a, b]) (-2) = a := by
  unfold gi ixI
  rw [if_neg (by decide)]
  have : ((-2 : Int) + ((l ++ [a, b]).length : Int)).toNat = l.length := by simp; omega
  rw [this, List.getD_eq_getElem?_getD]; simp
theorem gi_1 [Inhabited α] (l : List α) (a : α) : gi (l ++ [a]) (-1) = a := by
  unfold gi ixI
  rw [if_neg (by decide)]
  have : ((-1 : Int) + ((l ++ [a]).length : Int)).toNat = l.length := by simp; omega
  rw [this, List.getD_eq_getElem?_getD]; simp
theorem two_last {K : List α} (h : 1 < K.length) : ∃ A f m, K = A ++ [f, m] := by
  rcases List.eq_nil_or_concat K with e | ⟨A, m, e⟩
  · rw [e] at h; simp at h
  · rw [List.concat_eq_append] at e
    rcases List.eq_nil_or_concat A with e2 | ⟨B, f, e2⟩
    · rw [e, e2] at h; simp at h
    · rw [List.concat_eq_append] at e2
      exact ⟨B, f, m, by rw [e, e2]; simp⟩
theorem pops_sp [Inhabited α] {bd : α → α → Bool} {p : α} {K0 : List α} {pt pb : List α → Prop} (hbd : ∀ f m, bd f m = true ↔ ¬ Tr X Y f m p) (hp : ∀ k ∈ K0, X k < X p ∧ Y k < Y p) (hne : K0 ≠ []) (hch : Ch X Y K0)
    (hpt : ∀ K, Pp X Y p K0 K → pt K) (hpb : ∀ K, K ≠ [] → pb K) :
    whileQ pt pb (fun K => decide ((1 : Int) < (K.length : Int)) && bd (gi K (-2)) (gi K (-1))) (fun K => K.dropLast) (K0.length + 1) K0 ∧
      Ch X Y (whileF (fun K => decide ((1 : Int) < (K.length : Int)) && bd (gi K (-2)) (gi K (-1))) (fun K => K.dropLast) (K0.length + 1) K0 ++ [p]) ∧ Pp X Y p K0 (whileF (fun K => decide ((1 : Int) < (K.length : Int)) && bd (gi K (-2)) (gi K (-1))) (fun K => K.dropLast) (K0.length + 1) K0) := by
  obtain ⟨w1, w2, w3⟩ := whileQ_inv (pt := pt) (pb := pb) (bb := fun K => decide ((1 : Int) < (K.length : Int)) && bd (gi K (-2)) (gi K (-1))) (f := fun K : List α => K.dropLast) (Pp X Y p K0) (fun K => K.length) (fun K h => by
    refine ⟨hpt K h, fun hb => ?_⟩
    rw [Bool.and_eq_true, decide_eq_true_eq] at hb
    obtain ⟨A, f, m, e⟩ := two_last (K := K) (by omega)
    have hm : gi K (-2) = f ∧ gi K (-1) = m := by
      rw [e]
      exact ⟨gi_2 A f m, by rw [show A ++ [f, m] = (A ++ [f]) ++ [m] by simp, gi_1]⟩
    rw [hm.1, hm.2, hbd] at hb
    refine ⟨hpb K h.ne, ?_, ?_⟩
    · have hd : K.dropLast = A ++ [f] := by rw [e, show A ++ [f, m] = (A ++ [f]) ++ [m] by simp, List.dropLast_concat]
      rw [hd]
      have hmm : m ∈ K := by rw [e]; simp
      have hup := h.ch.up
      rw [e, show A ++ [f, m] = (A ++ [f]) ++ [m] by simp] at hup
      have hfm := (List.pairwise_append.mp hup).2.2 f (by simp) m (by simp)
      have dmm : Dm X Y [f, p] m := pop_dm hfm.1 (hp m (h.sub m hmm)).1 hb.2
      refine ⟨by simp, ?_, fun k hk => h.sub k (by rw [e]; rcases List.mem_append.mp hk with q | q <;> simp_all), fun q hq => ?_, by have := h.ln; rw [e] at this; simp at this ⊢; omega⟩
      · have := h.ch
        rw [e, show A ++ [f, m] = A ++ f :: [m] by simp] at this
        exact this.take.1
      · refine (h.dm q hq).trans fun s hs => ?_
        rw [e] at hs
        simp at hs
        rcases hs with q | q | q | q
        · exact .self (by simp [q])
        · exact .self (by simp [q])
        · rw [q]
          refine dmm.trans fun s hs => .self ?_
          simp at hs ⊢
          rcases hs with z | z <;> simp [z]
        · exact .self (by simp [q])
    · rw [List.length_dropLast]; omega) (K0.length + 1) K0 ⟨hne, hch, fun _ h => h, fun q hq => .self (by simp [hq]), Nat.le_refl _⟩ (Nat.lt_succ_self _)
  refine ⟨w1, ?_, w2⟩
  generalize whileF (fun K => decide ((1 : Int) < (K.length : Int)) && bd (gi K (-2)) (gi K (-1))) (fun K => K.dropLast) (K0.length + 1) K0 = K at *
  refine ⟨List.pairwise_append.mpr ⟨w2.ch.up, List.pairwise_singleton _ _, fun a ha b hb => by rw [List.mem_singleton] at hb; rw [hb]; exact hp a (w2.sub a ha)⟩, fun A f m l B e => ?_⟩
  rcases List.eq_nil_or_concat B with eB | ⟨B', z, eB⟩
  · subst eB
    have e2 : K ++ [p] = (A ++ [f, m]) ++ [l] := by rw [e]; simp
    obtain ⟨e3, e4⟩ := List.append_inj' e2 rfl
    cases e4
    have hm : gi K (-2) = f ∧ gi K (-1) = m := by
      rw [e3]
      exact ⟨gi_2 A f m, by rw [show A ++ [f, m] = (A ++ [f]) ++ [m] by simp, gi_1]⟩
    rw [hm.1, hm.2, Bool.and_eq_false_iff] at w3
    rcases w3 with w3 | w3
    · rw [e3] at w3; simp at w3; omega
    · apply Classical.byContradiction
      intro hn
      rw [(hbd f m).mpr hn] at w3; cases w3
  · rw [List.concat_eq_append] at eB
    subst eB
    have e2 : K ++ [p] = (A ++ f :: m :: l :: B') ++ [z] := by rw [e]; simp
    exact w2.ch.tr A f m l B' (List.append_inj' e2 rfl).1
theorem Hl.nil : Hl X Y ([] : List α) [] := ⟨⟨List.Pairwise.nil, fun A f m l B e => by simp at e⟩, by simp, by simp, Nat.le_refl _⟩
theorem Hl.skip {P K : List α} {p last : α} (h : Hl X Y P K) (hl : last ∈ K) (hx : X last ≤ X p) (hy : Y p ≤ Y last) : Hl X Y (P ++ [p]) K := by
  refine ⟨h.ch, fun k hk => by simp [h.sub k hk], fun q hq => ?_, by have := h.ln; simp; omega⟩
  rcases List.mem_append.mp hq with z | z
  · exact h.dm q z
  · rw [List.mem_singleton] at z
    subst z
    intro n d hn hd
    refine ⟨last, hl, ?_⟩
    rw [va_le]
    have h1 : d * (Y q - Y last) ≤ d * 0 := Int.mul_le_mul_of_nonneg_left (by omega) hd
    have h2 : n * 0 ≤ n * (X q - X last) := Int.mul_le_mul_of_nonneg_left (by omega) hn
    omega
theorem Hl.first {p : α} : Hl X Y ([] ++ [p]) ([p] : List α) := ⟨⟨List.pairwise_singleton _ _, fun A f m l B e => by have := congrArg List.length e; simp at this; omega⟩, by simp, fun q hq => .self (by simpa using hq), Nat.le_refl _⟩
theorem Hl.push {P K0 K : List α} {p : α} (h : Hl X Y P K0) (hc : Ch X Y (K ++ [p])) (hp : Pp X Y p K0 K) : Hl X Y (P ++ [p]) (K ++ [p]) := by
  refine ⟨hc, fun k hk => ?_, fun q hq => ?_, by have := h.ln; have := hp.ln; simp; omega⟩
  · rcases List.mem_append.mp hk with z | z
    · simp [h.sub k (hp.sub k z)]
    · rw [List.mem_singleton] at z; simp [z]
  · rcases List.mem_append.mp hq with z | z
    · exact (h.dm q z).trans hp.dm
    · rw [List.mem_singleton] at z; exact .self (by simp [z])
/-- the last one is the highest -/
theorem Hl.top {P A : List α} {m : α} (h : Hl X Y P (A ++ [m])) (q : α) (hq : q ∈ P) : Y q ≤ Y m := by
  obtain ⟨k, k1, k2⟩ := h.dm q hq 0 1 (by decide) (by decide)
  have h2 : Y q ≤ Y k := by unfold va at k2; omega
  rcases List.mem_append.mp k1 with z | z
  · have := (List.pairwise_append.mp h.ch.up).2.2 k z m (by simp); omega
  · rw [List.mem_singleton] at z; rw [← z]; exact h2
end
/-! one step of the hull, as the program does it -/
section
variable {α : Type} {X Y : α → Int}
theorem Hl.nil_of {P : List α} (h : Hl X Y P []) : P = [] := by
  cases P with
  | nil => rfl
  | cons q P =>
    obtain ⟨k, k1, _⟩ := h.dm q List.mem_cons_self 0 0 (Int.le_refl _) (Int.le_refl _)
    exact absurd k1 (by simp)
theorem hstep [Inhabited α] {bd : α → α → Bool} {cond : Bool} {P kept : List α} {p : α} {pt pb : List α → Prop} (h : Hl X Y P kept) (hbd : ∀ f m, bd f m = true ↔ ¬ Tr X Y f m p) (ho : ∀ q ∈ P, X q < X p ∨ (X q = X p ∧ Y p ≤ Y q))
    (hcond : cond = true ↔ kept = [] ∨ Y (gi kept (-1)) < Y p) (hpt : ∀ K : List α, (∀ k ∈ K, k ∈ kept) → K.length ≤ kept.length → pt K) (hpb : ∀ K : List α, K ≠ [] → pb K) :
    (cond = true → whileQ pt pb (fun K => decide ((1 : Int) < (K.length : Int)) && bd (gi K (-2)) (gi K (-1))) (fun K => K.dropLast) (kept.length + 1) kept ∧
      (whileF (fun K => decide ((1 : Int) < (K.length : Int)) && bd (gi K (-2)) (gi K (-1))) (fun K => K.dropLast) (kept.length + 1) kept).length ≤ kept.length) ∧
    Hl X Y (P ++ [p]) (if cond = true then whileF (fun K => decide ((1 : Int) < (K.length : Int)) && bd (gi K (-2)) (gi K (-1))) (fun K => K.dropLast) (kept.length + 1) kept ++ [p] else kept) := by
  rcases List.eq_nil_or_concat kept with e | ⟨A, last, e⟩
  · subst e
    have hc : cond = true := hcond.mpr (.inl rfl)
    have eP := h.nil_of
    subst eP
    have hb : (fun K : List α => decide ((1 : Int) < (K.length : Int)) && bd (gi K (-2)) (gi K (-1))) [] = false := by simp
    have w : whileF (fun K : List α => decide ((1 : Int) < (K.length : Int)) && bd (gi K (-2)) (gi K (-1))) (fun K => K.dropLast) (([] : List α).length + 1) [] = [] := by
      show (if _ then _ else _) = _
      rw [if_neg (by rw [hb]; exact Bool.false_ne_true)]
    rw [w, if_pos hc]
    exact ⟨fun _ => ⟨⟨hpt [] (by simp) (Nat.le_refl _), fun q => by rw [hb] at q; cases q⟩, Nat.le_refl _⟩, Hl.first⟩
  · rw [List.concat_eq_append] at e
    have hne : kept ≠ [] := by rw [e]; simp
    have hg : gi kept (-1) = last := by rw [e, gi_1]
    have hlast : last ∈ kept := by rw [e]; simp
    by_cases hc : cond = true
    · have hy : Y last < Y p := by
        rcases hcond.mp hc with q | q
        · exact absurd q hne
        · rwa [hg] at q
      have top : ∀ k ∈ kept, Y k < Y p := fun k hk => by
        have := Hl.top (A := A) (m := last) (by rw [← e]; exact h) k (h.sub k hk); omega
      have hp : ∀ k ∈ kept, X k < X p ∧ Y k < Y p := fun k hk => by
        have h1 := top k hk
        rcases ho k (h.sub k hk) with q | ⟨q1, q2⟩
        · exact ⟨q, h1⟩
        · omega
      obtain ⟨w1, w2, w3⟩ := pops_sp (X := X) (Y := Y) (bd := bd) (p := p) (K0 := kept) (pt := pt) (pb := pb) hbd hp hne h.ch (fun K hK => hpt K hK.sub hK.ln) hpb
      rw [if_pos hc]
      exact ⟨fun _ => ⟨w1, w3.ln⟩, h.push w2 w3⟩
    · rw [if_neg hc]
      refine ⟨fun q => absurd q hc, h.skip hlast ?_ ?_⟩
      · rcases ho last (h.sub last hlast) with q | q <;> omega
      · have : ¬ Y (gi kept (-1)) < Y p := fun q => hc (hcond.mpr (.inr q))
        rw [hg] at this; omega
end
/-! ### the test of one among all, by fractions -/
theorem fr_le {a b c d e f : Int} (hb : 0 < b) (hd : 0 < d) (hf : 0 < f) (h1 : a * d ≤ c * b) (h2 : c * f ≤ e * d) : a * f ≤ e * b := by
  refine Int.le_of_mul_le_mul_left (a := d) ?_ hd
  have p1 : a * d * f ≤ c * b * f := Int.mul_le_mul_of_nonneg_right h1 (by omega)
  have p2 : c * f * b ≤ e * d * b := Int.mul_le_mul_of_nonneg_right h2 (by omega)
  have e1 : d * (a * f) = a * d * f := by rw [← Int.mul_assoc, Int.mul_comm d a]
  have e2 : c * b * f = c * f * b := by rw [Int.mul_assoc, Int.mul_comm b f, ← Int.mul_assoc]
  have e3 : d * (e * b) = e * d * b := by rw [← Int.mul_assoc, Int.mul_comm d e]
  omega
theorem fr_lt {a b c d e f : Int} (hb : 0 < b) (hd : 0 < d) (hf : 0 < f) (h1 : a * d < c * b) (h2 : c * f ≤ e * d) : a * f < e * b := by
  refine Int.lt_of_mul_lt_mul_left (a := d) ?_ (by omega)
  have p1 : a * d * f < c * b * f := Int.mul_lt_mul_of_pos_right h1 (by omega)
  have p2 : c * f * b ≤ e * d * b := Int.mul_le_mul_of_nonneg_right h2 (by omega)
  have e1 : d * (a * f) = a * d * f := by rw [← Int.mul_assoc, Int.mul_comm d a]
  have e2 : c * b * f = c * f * b := by rw [Int.mul_assoc, Int.mul_comm b f, ← Int.mul_assoc]
  have e3 : d * (e * b) = e * d * b := by rw [← Int.mul_assoc, Int.mul_comm d e]
  omega
theorem fr_tl {a b c d e f : Int} (hb : 0 < b) (hd : 0 < d) (hf : 0 < f) (h1 : a * d ≤ c * b) (h2 : c * f < e * d) : a * f < e * b := by
  refine Int.lt_of_mul_lt_mul_left (a := d) ?_ (by omega)
  have p1 : a * d * f ≤ c * b * f := Int.mul_le_mul_of_nonneg_right h1 (by omega)
  have p2 : c * f * b < e * d * b := Int.mul_lt_mul_of_pos_right h2 (by omega)
  have e1 : d * (a * f) = a * d * f := by rw [← Int.mul_assoc, Int.mul_comm d a]
  have e2 : c * b * f = c * f * b := by rw [Int.mul_assoc, Int.mul_comm b f, ← Int.mul_assoc]
  have e3 : d * (e * b) = e * d * b := by rw [← Int.mul_assoc, Int.mul_comm d e]
  omega
section
variable {α : Type}
abbrev TS := (Int × Int) × Option (Int × Int)
def tstep (lc hc : α → Bool) (A B A' B' : α → Int) (st : TS) (q : α) : TS :=
  ((if (lc q && decide (st.1.1 * B q < A q * st.1.2)) = true then (A q, B q) else st.1),
   (if (hc q && (st.2.isNone || decide (A' q * (st.2.getD default).2 < (st.2.getD default).1 * B' q))) = true then some (A' q, B' q) else st.2))
structure TI (lc hc : α → Bool) (A B A' B' : α → Int) (s0 : Int) (qs : List α) (st : TS) : Prop where
  b : 0 < st.1.2
  s : s0 * st.1.2 ≤ st.1.1 * 1
  l : ∀ q ∈ qs, lc q = true → A q * st.1.2 ≤ st.1.1 * B q
  lw : st.1 = (s0, 1) ∨ ∃ q ∈ qs, lc q = true ∧ st.1 = (A q, B q)
  h0 : st.2 = none → ∀ q ∈ qs, hc q = false
  h : ∀ z, st.2 = some z → 0 < z.2 ∧ (∀ q ∈ qs, hc q = true → z.1 * B' q ≤ A' q * z.2) ∧ ∃ q ∈ qs, hc q = true ∧ z = (A' q, B' q)
variable {lc hc : α → Bool} {A B A' B' : α → Int} {s0 : Int}
theorem TI.nil : TI lc hc A B A' B' s0 [] ((s0, 1), none) := ⟨by show (0 : Int) < 1; decide, Int.le_refl _, by simp, .inl rfl, by simp, fun z h => by cases h⟩
theorem TI.step (hB : ∀ q, lc q = true → 0 < B q) (hB' : ∀ q, hc q = true → 0 < B' q) {qs : List α} {st : TS} (i : TI lc hc A B A' B' s0 qs st) (y : α) : TI lc hc A B A' B' s0 (qs ++ [y]) (tstep lc hc A B A' B' st y) := by
  obtain ⟨⟨a, b⟩, o⟩ := st
  obtain ⟨i1, i2, i3, i4, i5, i6⟩ := i
  simp only at i1 i2 i3 i4 i5 i6
  unfold tstep
  simp only
  have lo : 0 < (if (lc y && decide (a * B y < A y * b)) = true then (A y, B y) else (a, b)).2 ∧ s0 * (if (lc y && decide (a * B y < A y * b)) = true then (A y, B y) else (a, b)).2 ≤ (if (lc y && decide (a * B y < A y * b)) = true then (A y, B y) else (a, b)).1 * 1 ∧
      (∀ q ∈ qs ++ [y], lc q = true → A q * (if (lc y && decide (a * B y < A y * b)) = true then (A y, B y) else (a, b)).2 ≤ (if (lc y && decide (a * B y < A y * b)) = true then (A y, B y) else (a, b)).1 * B q) ∧
      ((if (lc y && decide (a * B y < A y * b)) = true then (A y, B y) else (a, b)) = (s0, 1) ∨ ∃ q ∈ qs ++ [y], lc q = true ∧ (if (lc y && decide (a * B y < A y * b)) = true then (A y, B y) else (a, b)) = (A q, B q)) := by
    by_cases c : (lc y && decide (a * B y < A y * b)) = true
    · rw [if_pos c]
      rw [Bool.and_eq_true, decide_eq_true_eq] at c
      have by0 := hB y c.1
      refine ⟨by0, ?_, fun q hq hl => ?_, .inr ⟨y, by simp, c.1, rfl⟩⟩
      · have := fr_tl (a := s0) (b := 1) (c := a) (d := b) (e := A y) (f := B y) (by decide) i1 by0 i2 c.2
        show s0 * B y ≤ A y * 1
        omega
      · rcases List.mem_append.mp hq with z | z
        · exact Int.le_of_lt (fr_tl (hB q hl) i1 by0 (i3 q z hl) c.2)
        · rw [List.mem_singleton] at z; rw [z]; exact Int.le_refl _
    · rw [if_neg c]
      refine ⟨i1, i2, fun q hq hl => ?_, ?_⟩
      · rcases List.mem_append.mp hq with z | z
        · exact i3 q z hl
        · rw [List.mem_singleton] at z; subst z
          rw [Bool.and_eq_true, decide_eq_true_eq] at c
          simp only
          have : ¬ a * B q < A q * b := fun w => c ⟨hl, w⟩
          omega
      · rcases i4 with z | ⟨q, z1, z2⟩
        · exact .inl z
        · exact .inr ⟨q, by simp [z1], z2⟩
  have hi : ((if (hc y && (o.isNone || decide (A' y * (o.getD default).2 < (o.getD default).1 * B' y))) = true then some (A' y, B' y) else o) = none → ∀ q ∈ qs ++ [y], hc q = false) ∧
      ∀ z, (if (hc y && (o.isNone || decide (A' y * (o.getD default).2 < (o.getD default).1 * B' y))) = true then some (A' y, B' y) else o) = some z → 0 < z.2 ∧ (∀ q ∈ qs ++ [y], hc q = true → z.1 * B' q ≤ A' q * z.2) ∧ ∃ q ∈ qs ++ [y], hc q = true ∧ z = (A' q, B' q) := by
    by_cases c : (hc y && (o.isNone || decide (A' y * (o.getD default).2 < (o.getD default).1 * B' y))) = true
    · rw [if_pos c]
      rw [Bool.and_eq_true] at c
      have by0 := hB' y c.1
      refine ⟨(by intro z; cases z), fun z hz => ?_⟩
      cases hz
      refine ⟨by0, fun q hq hh => ?_, y, by simp, c.1, rfl⟩
      rcases List.mem_append.mp hq with z | z
      · cases ho : o with
        | none => rw [i5 ho q z] at hh; cases hh
        | some w =>
          obtain ⟨w1, w2, _⟩ := i6 w ho
          have c2 := c.2
          rw [ho] at c2
          simp only [Option.isNone_some, Bool.false_or, decide_eq_true_eq, Option.getD_some] at c2
          exact Int.le_of_lt (fr_lt by0 w1 (hB' q hh) c2 (w2 q z hh))
      · rw [List.mem_singleton] at z; rw [z]; exact Int.le_refl _
    · rw [if_neg c]
      refine ⟨fun z q hq => ?_, fun z hz => ?_⟩
      · rcases List.mem_append.mp hq with w | w
        · exact i5 z q w
        · rw [List.mem_singleton] at w; subst w
          apply Bool.eq_false_iff.mpr
          intro hh
          exact c (by rw [hh, z]; rfl)
      · obtain ⟨w1, w2, q, w3, w4⟩ := i6 z hz
        refine ⟨w1, fun q hq hh => ?_, q, by simp [w3], w4⟩
        rcases List.mem_append.mp hq with w | w
        · exact w2 q w hh
        · rw [List.mem_singleton] at w; subst w
          rw [hz] at c
          simp only [hh, Bool.true_and, Option.isNone_some, Bool.false_or, decide_eq_true_eq, Option.getD_some] at c
          omega
  exact ⟨lo.1, lo.2.1, lo.2.2.1, lo.2.2.2, hi.1, hi.2⟩
def Rg (lc hc : α → Bool) (A B A' B' : α → Int) (qs : List α) : Prop := ∃ u v : Int, 0 < u ∧ 0 < v ∧ (∀ q ∈ qs, lc q = true → A q * v < u * B q) ∧ (∀ q ∈ qs, hc q = true → u * B' q < A' q * v)
theorem TI.iff (hs : s0 ≤ 0) (hB : ∀ q, lc q = true → 0 < B q) (hB' : ∀ q, hc q = true → 0 < B' q) {qs : List α} {st : TS} (i : TI lc hc A B A' B' s0 qs st) :
    (st.2.isNone || (decide ((0 : Int) < (st.2.getD default).1) && decide (st.1.1 * (st.2.getD default).2 < (st.2.getD default).1 * st.1.2))) = true ↔ Rg lc hc A B A' B' qs := by
  obtain ⟨⟨a, b⟩, o⟩ := st
  obtain ⟨i1, i2, i3, i4, i5, i6⟩ := i
  simp only at i1 i2 i3 i4 i5 i6 ⊢
  cases ho : o with
  | none =>
    simp only [Option.isNone_none, Bool.true_or, true_iff]
    have a0 : ∃ a', a ≤ a' ∧ 0 ≤ a' := ⟨max a 0, by omega, by omega⟩
    obtain ⟨a', a1, a2⟩ := a0
    refine ⟨a' + b, b, by omega, i1, fun q hq hl => ?_, fun q hq hh => ?_⟩
    · have h1 := i3 q hq hl
      have h2 : a * B q ≤ a' * B q := Int.mul_le_mul_of_nonneg_right a1 (Int.le_of_lt (hB q hl))
      have h3 : 0 < b * B q := Int.mul_pos i1 (hB q hl)
      rw [Int.add_mul]; omega
    · rw [i5 ho q hq] at hh; cases hh
  | some z =>
    obtain ⟨w1, w2, q0, w3, w4, w5⟩ := i6 z ho
    simp only [Option.isNone_some, Bool.false_or, Option.getD_some, Bool.and_eq_true, decide_eq_true_eq]
    constructor
    · rintro ⟨c0, c1⟩
      by_cases ha : 0 ≤ a
      · refine ⟨a + z.1, b + z.2, by omega, by omega, fun q hq hl => ?_, fun q hq hh => ?_⟩
        · have h1 := i3 q hq hl
          have h2 := fr_tl (hB q hl) i1 w1 h1 c1
          rw [Int.mul_add, Int.add_mul]; omega
        · have h1 := w2 q hq hh
          have h2 := fr_lt i1 w1 (hB' q hh) c1 h1
          rw [Int.mul_add, Int.add_mul]; omega
      · refine ⟨z.1, z.2 + 1, c0, by omega, fun q hq hl => ?_, fun q hq hh => ?_⟩
        · have h1 := i3 q hq hl
          have hb := hB q hl
          have h2 : a * B q < 0 := Int.mul_neg_of_neg_of_pos (by omega) hb
          have h3 : A q < 0 := by
            apply Classical.byContradiction
            intro n
            have : 0 ≤ A q * b := Int.mul_nonneg (by omega) (by omega)
            omega
          have h4 : A q * (z.2 + 1) < 0 := Int.mul_neg_of_neg_of_pos h3 (by omega)
          have h5 : 0 < z.1 * B q := Int.mul_pos c0 hb
          omega
        · have h1 := w2 q hq hh
          have hb := hB' q hh
          have h2 : 0 < z.1 * B' q := Int.mul_pos c0 hb
          have h3 : 0 < A' q := by
            apply Classical.byContradiction
            intro n
            have : A' q * z.2 ≤ 0 := Int.mul_nonpos_of_nonpos_of_nonneg (by omega) (by omega)
            omega
          rw [Int.mul_add]; omega
    · rintro ⟨u, v, hu, hv, r1, r2⟩
      have h1 := r2 q0 w3 w4
      have e1 : z.1 = A' q0 := by rw [w5]
      have e2 : z.2 = B' q0 := by rw [w5]
      rw [← e1, ← e2] at h1
      have hz : 0 < z.1 := by
        apply Classical.byContradiction
        intro n
        have p1 : z.1 * v ≤ 0 := Int.mul_nonpos_of_nonpos_of_nonneg (by omega) (by omega)
        have p2 : 0 < u * z.2 := Int.mul_pos hu w1
        omega
      refine ⟨hz, ?_⟩
      rcases i4 with c | ⟨q, c1, c2, c3⟩
      · cases c
        have p1 : s0 * z.2 ≤ 0 := Int.mul_nonpos_of_nonpos_of_nonneg hs (by omega)
        omega
      · cases c3
        exact fr_lt (hB q c2) hv w1 (r1 q c1 c2) (Int.le_of_lt h1)
end
section
variable {α : Type} {X Y : α → Int}
theorem Bst.congr {ps qs : List α} {p : α} (h : ∀ q, q ∈ ps ↔ q ∈ qs) : Bst X Y ps p ↔ Bst X Y qs p := by
  constructor
  · rintro ⟨n, d, h1, h2, h3⟩; exact ⟨n, d, h1, h2, fun q hq => h3 q ((h q).mpr hq)⟩
  · rintro ⟨n, d, h1, h2, h3⟩; exact ⟨n, d, h1, h2, fun q hq => h3 q ((h q).mp hq)⟩
/-- by heights -/
theorem bst_rgY (ps : List α) (p : α) : Bst X Y ps p ↔ (∀ q ∈ ps, q ≠ p → Y q = Y p → X p < X q) ∧ Rg (fun q => decide (Y q < Y p)) (fun q => decide (Y p < Y q)) (fun q => X p - X q) (fun q => Y p - Y q) (fun q => X q - X p) (fun q => Y q - Y p) ps := by
  have neg : ∀ (n d : Int) (q : α), va X Y n d q < va X Y n d p ↔ (X p - X q) * n < d * (Y p - Y q) := fun n d q => by
    rw [va_lt, show Y q - Y p = -(Y p - Y q) by omega, show X q - X p = -(X p - X q) by omega, Int.mul_neg, Int.mul_neg, Int.mul_comm n]; omega
  constructor
  · rintro ⟨n, d, hn, hd, h⟩
    refine ⟨fun q hq hne e => ?_, d, n, hd, hn, fun q hq hl => ?_, fun q hq hh => ?_⟩
    · have := h q hq hne
      rw [va_lt, e, Int.sub_self, Int.mul_zero] at this
      apply Classical.byContradiction
      intro c
      have : n * (X q - X p) ≤ 0 := Int.mul_nonpos_of_nonneg_of_nonpos (by omega) (by omega)
      omega
    · simp only [decide_eq_true_eq] at hl
      exact (neg n d q).mp (h q hq fun e => by rw [e] at hl; omega)
    · simp only [decide_eq_true_eq] at hh
      have := h q hq fun e => by rw [e] at hh; omega
      rw [va_lt, Int.mul_comm n] at this
      exact this
  · rintro ⟨h0, u, v, hu, hv, h1, h2⟩
    refine ⟨v, u, hv, hu, fun q hq hne => ?_⟩
    rcases Int.lt_trichotomy (Y q) (Y p) with c | c | c
    · exact (neg v u q).mpr (h1 q hq (by simpa using c))
    · have := h0 q hq hne c
      rw [va_lt, c, Int.sub_self, Int.mul_zero]
      exact Int.mul_pos hv (by omega)
    · have := h2 q hq (by simpa using c)
      rw [va_lt, Int.mul_comm v]
      exact this
/-- by lengths -/
theorem bst_rgX (ps : List α) (p : α) : Bst X Y ps p ↔ (∀ q ∈ ps, q ≠ p → X q = X p → Y q < Y p) ∧ Rg (fun q => decide (X p < X q)) (fun q => decide (X q < X p)) (fun q => Y q - Y p) (fun q => X q - X p) (fun q => Y p - Y q) (fun q => X p - X q) ps := by
  constructor
  · rintro ⟨n, d, hn, hd, h⟩
    refine ⟨fun q hq hne e => ?_, n, d, hn, hd, fun q hq hl => ?_, fun q hq hh => ?_⟩
    · have := h q hq hne
      rw [va_lt, e, Int.sub_self, Int.mul_zero] at this
      apply Classical.byContradiction
      intro c
      have : 0 ≤ d * (Y q - Y p) := Int.mul_nonneg (by omega) (by omega)
      omega
    · simp only [decide_eq_true_eq] at hl
      have := h q hq fun e => by rw [e] at hl; omega
      rw [va_lt, Int.mul_comm d] at this
      exact this
    · simp only [decide_eq_true_eq] at hh
      have := h q hq fun e => by rw [e] at hh; omega
      rw [va_lt, show Y q - Y p = -(Y p - Y q) by omega, show X q - X p = -(X p - X q) by omega, Int.mul_neg, Int.mul_neg, Int.mul_comm d] at this
      simp only
      omega
  · rintro ⟨h0, u, v, hu, hv, h1, h2⟩
    refine ⟨u, v, hu, hv, fun q hq hne => ?_⟩
    rw [va_lt]
    rcases Int.lt_trichotomy (X q) (X p) with c | c | c
    · have := h2 q hq (by simpa using c)
      simp only at this
      rw [show Y q - Y p = -(Y p - Y q) by omega, show X q - X p = -(X p - X q) by omega, Int.mul_neg, Int.mul_neg, Int.mul_comm v]; omega
    · have := h0 q hq hne c
      rw [c, Int.sub_self, Int.mul_zero]
      exact Int.mul_neg_of_pos_of_neg hv (by omega)
    · have := h1 q hq (by simpa using c)
      rw [Int.mul_comm v]
      exact this
end
/-! ### plain pieces are the hull -/
abbrev PX : Int × Int → Int := fun p => p.1
abbrev NY : Int × Int → Int := fun p => -p.2
theorem pinj (a b : Int × Int) (h1 : PX a = PX b) (h2 : NY a = NY b) : a = b := Prod.ext h1 (by simp only [NY] at h2; omega)
theorem over_iff (p f m : Int × Int) : m_is_over f m (p.1, p.2) = true ↔ ¬ Tr PX NY f m p := by
  unfold m_is_over Tr
  simp only [decide_eq_true_eq]
  have e1 : NY p - NY m = m.2 - p.2 := by simp only [NY]; omega
  have e2 : NY m - NY f = f.2 - m.2 := by simp only [NY]; omega
  rw [e1, e2]
  exact Int.not_lt.symm
structure Pz (ps : List (Int × Int)) : Prop where
  rg : ∀ q ∈ ps, 0 ≤ q.1 ∧ q.1 < 2 ^ 40 ∧ 1 ≤ q.2 ∧ q.2 ≤ 1000000
  ln : ps.length ≤ 1000
theorem Pz.of {ps : List (Int × Int)} (h : Pcs ps) : Pz ps := ⟨fun q hq => by have := h.rg q hq; omega, by have := h.ln; omega⟩
theorem plain_hl {ps : List (Int × Int)} (h : Pz ps) : vc_plain ps ∧ Hl PX NY (sortP ps) (m_plain ps) := by
  have hsz : sizeLine = 16777216 := by decide
  unfold vc_plain m_plain
  simp only [true_and, and_true, and_assoc, implies_true]
  refine fold_use (xs := sortP ps) (c := ([] : List (Int × Int))) (R := fun K => Hl PX NY (sortP ps) K) (fun pre K => Hl PX NY pre K) (pb := fun (kept_2 : List ((Int × Int))) (y_3 : Int × Int) => (decide (kept_2 = ([] : List ((Int × Int)))) = false → InB (-(1 : Int)) kept_2.length) ∧ (((decide (kept_2 = ([] : List ((Int × Int))))) || (decide (y_3.2 < ((gi kept_2 (-(1 : Int))).2)))) = true → whileQ (fun (kept_4 : List ((Int × Int))) => ((decide ((1 : Int) < (kept_4.length : Int))) = true → InB (-(2 : Int)) kept_4.length ∧ InB (-(1 : Int)) kept_4.length ∧ vc_is_over (gi kept_4 (-(2 : Int))) (gi kept_4 (-(1 : Int))) (y_3.1, y_3.2))) (fun kept_4 => kept_4 ≠ []) (fun (kept_4 : List ((Int × Int))) => ((decide ((1 : Int) < (kept_4.length : Int))) && (m_is_over (gi kept_4 (-(2 : Int))) (gi kept_4 (-(1 : Int))) (y_3.1, y_3.2)))) (fun kept_4 => kept_4.dropLast) ((kept_2).length + 1) kept_2 ∧ (whileF (fun (kept_4 : List ((Int × Int))) => ((decide ((1 : Int) < (kept_4.length : Int))) && (m_is_over (gi kept_4 (-(2 : Int))) (gi kept_4 (-(1 : Int))) (y_3.1, y_3.2)))) (fun kept_4 => kept_4.dropLast) ((kept_2).length + 1) kept_2).length < sizeLine))
    (f := fun (kept_2 : List ((Int × Int))) (y_3 : Int × Int) => if ((decide (kept_2 = ([] : List ((Int × Int))))) || (decide (y_3.2 < ((gi kept_2 (-(1 : Int))).2)))) = true then whileF (fun (kept_4 : List ((Int × Int))) => ((decide ((1 : Int) < (kept_4.length : Int))) && (m_is_over (gi kept_4 (-(2 : Int))) (gi kept_4 (-(1 : Int))) (y_3.1, y_3.2)))) (fun kept_4 => kept_4.dropLast) ((kept_2).length + 1) kept_2 ++ [(y_3.1, y_3.2)] else kept_2) (fun pre y post K e hK => ?_) Hl.nil (fun K hK => hK)
  have inS : ∀ k, k ∈ pre ++ [y] → k ∈ ps := fun k hk => mem_sortP.mp (by rw [e]; rcases List.mem_append.mp hk with z | z <;> simp_all)
  have hpre : pre.length ≤ 1000 := by
    have := congrArg List.length e
    have := h.ln
    rw [len_sortP] at *
    simp at *; omega
  have hln := hK.ln
  have srt := (sortP_spec ps).2
  rw [e] at srt
  obtain ⟨s1, s2⟩ := hstep (X := PX) (Y := NY) (bd := fun f g => m_is_over f g (y.1, y.2)) (cond := (decide (K = ([] : List ((Int × Int))))) || (decide (y.2 < ((gi K (-(1 : Int))).2)))) (p := y)
    (pt := fun (kept_4 : List ((Int × Int))) => ((decide ((1 : Int) < (kept_4.length : Int))) = true → InB (-(2 : Int)) kept_4.length ∧ InB (-(1 : Int)) kept_4.length ∧ vc_is_over (gi kept_4 (-(2 : Int))) (gi kept_4 (-(1 : Int))) (y.1, y.2))) (pb := fun kept_4 => kept_4 ≠ [])
    hK (fun f g => over_iff y f g) (fun q hq => by
      have := (List.pairwise_append.mp srt).2.2 q hq y List.mem_cons_self
      rw [leP_iff] at this
      simp only [PX, NY]; omega) (by simp only [NY, Bool.or_eq_true, decide_eq_true_eq]; constructor <;> (rintro (q | q); exact .inl q; right; omega)) (fun K2 hK2 hl2 hc => by
      rw [decide_eq_true_eq] at hc
      have b2 : InB (-(2 : Int)) K2.length := by unfold InB; omega
      have b1 : InB (-(1 : Int)) K2.length := by unfold InB; omega
      refine ⟨b2, b1, ?_⟩
      have r1 := h.rg _ (inS _ (List.mem_append_left _ (hK.sub _ (hK2 _ (gi_mem b1)))))
      have r2 := h.rg _ (inS y (by simp))
      have r3 := h.rg _ (inS _ (List.mem_append_left _ (hK.sub _ (hK2 _ (gi_mem b2)))))
      unfold vc_is_over
      simp only [true_and, and_true]
      exact ⟨.inl ⟨by omega, by omega⟩, .inl ⟨by omega, by omega⟩⟩) (fun K2 h2 => h2)
  refine ⟨⟨fun hne => ?_, fun hc => ⟨(s1 hc).1, by have := (s1 hc).2; omega⟩⟩, s2⟩
  have : K ≠ [] := by simpa using hne
  have := List.length_pos_iff.mpr this
  unfold InB; omega
/-- a loop that may hand back false -/
theorem forR_early {α γ : Type} {c : α → Bool} {g : γ → α → γ} : ∀ (xs : List α) (st : γ) (k : γ → Bool), sumV (forR (fun st y => (if c y = true then liftR (.ret false) else .nx (g st y) : Res γ γ Bool)) xs st) k = (!xs.any c && k (xs.foldl g st))
  | [], st, k => by simp [forR, sumV]
  | x :: xs, st, k => by
    unfold forR
    cases h : c x with
    | true => simp [liftR, sumV, h]
    | false =>
      simp only [Bool.false_eq_true, if_false]
      rw [forR_early xs (g st x) k]
      simp [h]
theorem least_iff {ps : List (Int × Int)} (p : Int × Int) : m__law_is_least p ps = true ↔ Bst PX NY ps p := by
  have T := foldl_ix (f := tstep (fun q : Int × Int => decide (p.2 < q.2)) (fun q => decide (q.2 < p.2)) (fun q => p.1 - q.1) (fun q => q.2 - p.2) (fun q => q.1 - p.1) (fun q => p.2 - q.2)) (fun pre st => TI _ _ _ _ _ _ (-1) pre st) (xs := ps) (c := ((-1, 1), none))
    (fun pre y post st e i => i.step (fun q hq => by simp at hq; omega) (fun q hq => by simp at hq; omega) y) TI.nil
  have e := T.iff (by decide) (fun q hq => by simp at hq; omega) (fun q hq => by simp at hq; omega)
  have e1 : m__law_is_least p ps = (!ps.any (fun q => decide (q.2 = p.2) && decide (q.1 < p.1)) && ((ps.foldl (tstep (fun q : Int × Int => decide (p.2 < q.2)) (fun q => decide (q.2 < p.2)) (fun q => p.1 - q.1) (fun q => q.2 - p.2) (fun q => q.1 - p.1) (fun q => p.2 - q.2)) ((-1, 1), none)).2.isNone || (decide ((0 : Int) < ((ps.foldl (tstep (fun q : Int × Int => decide (p.2 < q.2)) (fun q => decide (q.2 < p.2)) (fun q => p.1 - q.1) (fun q => q.2 - p.2) (fun q => q.1 - p.1) (fun q => p.2 - q.2)) ((-1, 1), none)).2.getD default).1) && decide ((ps.foldl (tstep (fun q : Int × Int => decide (p.2 < q.2)) (fun q => decide (q.2 < p.2)) (fun q => p.1 - q.1) (fun q => q.2 - p.2) (fun q => q.1 - p.1) (fun q => p.2 - q.2)) ((-1, 1), none)).1.1 * ((ps.foldl (tstep (fun q : Int × Int => decide (p.2 < q.2)) (fun q => decide (q.2 < p.2)) (fun q => p.1 - q.1) (fun q => q.2 - p.2) (fun q => q.1 - p.1) (fun q => p.2 - q.2)) ((-1, 1), none)).2.getD default).2 < ((ps.foldl (tstep (fun q : Int × Int => decide (p.2 < q.2)) (fun q => decide (q.2 < p.2)) (fun q => p.1 - q.1) (fun q => q.2 - p.2) (fun q => q.1 - p.1) (fun q => p.2 - q.2)) ((-1, 1), none)).2.getD default).1 * (ps.foldl (tstep (fun q : Int × Int => decide (p.2 < q.2)) (fun q => decide (q.2 < p.2)) (fun q => p.1 - q.1) (fun q => q.2 - p.2) (fun q => q.1 - p.1) (fun q => p.2 - q.2)) ((-1, 1), none)).1.2)))) :=
    forR_early (c := fun q => decide (q.2 = p.2) && decide (q.1 < p.1)) (g := tstep (fun q : Int × Int => decide (p.2 < q.2)) (fun q => decide (q.2 < p.2)) (fun q => p.1 - q.1) (fun q => q.2 - p.2) (fun q => q.1 - p.1) (fun q => p.2 - q.2)) ps ((-1, 1), none) (fun st => st.2.isNone || (decide ((0 : Int) < (st.2.getD default).1) && decide (st.1.1 * (st.2.getD default).2 < (st.2.getD default).1 * st.1.2)))
  rw [e1, Bool.and_eq_true, e, bst_rgY]
  have er : ∀ (u v : Int) (qs : List (Int × Int)), True := fun _ _ _ => trivial
  have R : Rg (fun q : Int × Int => decide (p.2 < q.2)) (fun q => decide (q.2 < p.2)) (fun q => p.1 - q.1) (fun q => q.2 - p.2) (fun q => q.1 - p.1) (fun q => p.2 - q.2) ps ↔ Rg (fun q => decide (NY q < NY p)) (fun q => decide (NY p < NY q)) (fun q => PX p - PX q) (fun q => NY p - NY q) (fun q => PX q - PX p) (fun q => NY q - NY p) ps := by
    have a1 : (fun q : Int × Int => decide (p.2 < q.2)) = fun q => decide (NY q < NY p) := by funext q; simp only [NY]; congr 1; exact propext (by omega)
    have a2 : (fun q : Int × Int => decide (q.2 < p.2)) = fun q => decide (NY p < NY q) := by funext q; simp only [NY]; congr 1; exact propext (by omega)
    have a3 : (fun q : Int × Int => q.2 - p.2) = fun q => NY p - NY q := by funext q; simp only [NY]; omega
    have a4 : (fun q : Int × Int => p.2 - q.2) = fun q => NY q - NY p := by funext q; simp only [NY]; omega
    rw [a1, a2, a3, a4]
  rw [R]
  refine and_congr_left fun _ => ?_
  rw [Bool.not_eq_true', List.any_eq_false]
  simp only [Bool.and_eq_true, decide_eq_true_eq, not_and]
  constructor
  · intro h q hq hne ey
    simp only [NY] at ey
    have h1 := h q hq (by omega)
    have : q.1 ≠ p.1 := fun e => hne (Prod.ext e (by omega))
    simp only [PX]; omega
  · intro h q hq ey
    by_cases e : q = p
    · rw [e]; omega
    · have := h q hq e (by simp only [NY]; omega)
      simp only [PX] at this; omega
theorem Hl.same {α : Type} {X Y : α → Int} {P P' K : List α} (h : Hl X Y P K) (hm : ∀ q, q ∈ P ↔ q ∈ P') (hl : K.length ≤ P'.length) : Hl X Y P' K := ⟨h.ch, fun k hk => (hm k).mp (h.sub k hk), fun q hq => h.dm q ((hm q).mpr hq), hl⟩
theorem hl_uniq {P P' K K' : List (Int × Int)} (h : Hl PX NY P K) (h' : Hl PX NY P' K') (hm : ∀ q, q ∈ P ↔ q ∈ P') : K = K' := by
  have nd : ∀ {L : List (Int × Int)}, L.Pairwise (fun a b => a.1 < b.1) → L.Nodup := fun h => by
    rw [List.nodup_iff_pairwise_ne]
    exact h.imp fun {a b} q e => by rw [e] at q; omega
  have u : K.Pairwise (fun a b => a.1 < b.1) := h.ch.up.imp fun {a b} q => q.1
  have u' : K'.Pairwise (fun a b => a.1 < b.1) := h'.ch.up.imp fun {a b} q => q.1
  refine sorted_unique (le := fun a b => leP a b = true) leP_anti ((List.perm_ext_iff_of_nodup (nd u) (nd u')).mpr fun q => ?_) (u.imp fun {a b} q => ?_) (u'.imp fun {a b} q => ?_)
  · rw [h.mem pinj, h'.mem pinj, hm, Bst.congr hm]
  · rw [leP_iff]; exact .inl q
  · rw [leP_iff]; exact .inl q
theorem law_plain_eq {ps : List (Int × Int)} (h : Pz ps) : m__law_plain ps = m_plain ps := by
  have H := (plain_hl h).2
  unfold m__law_plain
  rw [List.map_id']
  have u : (m_plain ps).Pairwise (fun a b => a.1 < b.1) := H.ch.up.imp fun {a b} q => q.1
  have nd : (m_plain ps).Nodup := by
    rw [List.nodup_iff_pairwise_ne]
    exact u.imp fun {a b} q e => by rw [e] at q; omega
  have s := sort_srt leP_tr leP_tot leP_anti ps
  have nd2 : ((sortSetP ps).filter fun y_1 => m__law_is_least y_1 ps).Nodup := (s.imp fun {a b} q => q.2 : (sortSetP ps).Nodup).sublist List.filter_sublist
  refine sorted_unique (le := fun a b => leP a b = true) leP_anti ((List.perm_ext_iff_of_nodup nd2 nd).mpr fun q => ?_) ((s.imp fun {a b} q => q.1).sublist List.filter_sublist) (u.imp fun {a b} q => by rw [leP_iff]; exact .inl q)
  rw [List.mem_filter, H.mem pinj, least_iff, mem_sortS, mem_sortP, Bst.congr (fun q => mem_sortP)]
theorem plain_sp {ps : List (Int × Int)} (h : Pz ps) : vc_plain ps ∧ Hl PX NY ps (m_plain ps) := by
  obtain ⟨v, H⟩ := plain_hl h
  exact ⟨v, H.same (fun q => mem_sortP) (by have := H.ln; rwa [len_sortP] at this)⟩
theorem Hl.ne {α : Type} {X Y : α → Int} {P K : List α} (h : Hl X Y P K) (hp : P ≠ []) : K ≠ [] := fun e => by subst e; exact hp h.nil_of
/-! ### what gifts give -/
theorem gives_eq (w : Int) (ps : List (Int × Int)) (t : Int) : m_given_by (w, ps) t = m__law_gives w ps t := by
  unfold m_given_by m__law_gives
  simp only [decide_eq_true_eq]
  by_cases h : w < t
  · rw [if_pos h, if_neg (by omega)]
  · rw [if_neg h, if_pos (by omega)]
theorem gives0 {w : Int} {ps : List (Int × Int)} {t : Int} (h : t ≤ w) : m__law_gives w ps t = 0 := by unfold m__law_gives; simp [h]
theorem gives_le {w : Int} {ps : List (Int × Int)} {t : Int} (h : w < t) {q : Int × Int} (hq : q ∈ ps) : m__law_gives w ps t ≤ q.1 + q.2 * (t - w) := by
  have e : m__law_gives w ps t = minI (ps.map fun y_1 => y_1.1 + (y_1.2 * (t - w))) := by unfold m__law_gives; rw [if_neg (by simp; omega)]
  rw [e]
  exact minI_le (List.mem_map.mpr ⟨q, hq, rfl⟩)
theorem gives_mem {w : Int} {ps : List (Int × Int)} {t : Int} (h : w < t) (hn : ps ≠ []) : ∃ q ∈ ps, m__law_gives w ps t = q.1 + q.2 * (t - w) := by
  have e : m__law_gives w ps t = minI (ps.map fun y_1 => y_1.1 + (y_1.2 * (t - w))) := by unfold m__law_gives; rw [if_neg (by simp; omega)]
  have hm := minI_mem (xs := ps.map fun y_1 => y_1.1 + (y_1.2 * (t - w))) (by simpa using hn)
  rw [List.mem_map] at hm
  obtain ⟨q, hq, hm⟩ := hm
  exact ⟨q, hq, by rw [e, ← hm]⟩
theorem gives_hl {P K : List (Int × Int)} (h : Hl PX NY P K) (hn : P ≠ []) (w t : Int) : m__law_gives w K t = m__law_gives w P t := by
  by_cases ht : t ≤ w
  · rw [gives0 ht, gives0 ht]
  · have ht : w < t := by omega
    apply Int.le_antisymm
    · obtain ⟨q, hq, e⟩ := gives_mem ht hn
      obtain ⟨k, k1, k2⟩ := h.dm q hq 1 (t - w) (by decide) (by omega)
      have := gives_le ht k1
      unfold va at k2
      simp only [PX, NY, Int.mul_neg, Int.one_mul] at k2
      rw [Int.mul_comm (t - w), Int.mul_comm (t - w)] at k2
      omega
    · obtain ⟨q, hq, e⟩ := gives_mem ht (h.ne hn)
      have := gives_le ht (h.sub q hq)
      omega
theorem gives_nn {w : Int} {ps : List (Int × Int)} (h : ∀ q ∈ ps, 0 ≤ q.1 ∧ 1 ≤ q.2) (hn : ps ≠ []) (t : Int) : 0 ≤ m__law_gives w ps t := by
  by_cases ht : t ≤ w
  · rw [gives0 ht]; exact Int.le_refl _
  · obtain ⟨q, hq, e⟩ := gives_mem (show w < t by omega) hn
    have := h q hq
    have : 0 ≤ q.2 * (t - w) := Int.mul_nonneg (by omega) (by omega)
    omega
theorem gives_mono {w : Int} {ps : List (Int × Int)} (h : ∀ q ∈ ps, 0 ≤ q.1 ∧ 1 ≤ q.2) (hn : ps ≠ []) {t t' : Int} (ht : t ≤ t') : m__law_gives w ps t ≤ m__law_gives w ps t' := by
  by_cases h1 : t' ≤ w
  · rw [gives0 h1, gives0 (by omega)]; exact Int.le_refl _
  · obtain ⟨q, hq, e⟩ := gives_mem (show w < t' by omega) hn
    by_cases h2 : t ≤ w
    · rw [gives0 h2]; exact gives_nn h hn t'
    · have h3 := gives_le (show w < t by omega) hq
      have h4 : q.2 * (t - w) ≤ q.2 * (t' - w) := Int.mul_le_mul_of_nonneg_left (by omega) (by have := h q hq; omega)
      omega
/-- what is passed on: the least of all ways -/
def cv (g f : Int → Int) (t : Int) : Int := minI ((rng 0 (t + 1)).map fun s => g s + f (t - s))
theorem cv_le {g f : Int → Int} {t s : Int} (h0 : 0 ≤ s) (h1 : s ≤ t) : cv g f t ≤ g s + f (t - s) := minI_le (List.mem_map.mpr ⟨s, mem_rng.mpr ⟨h0, by omega⟩, rfl⟩)
theorem cv_mem {g f : Int → Int} {t : Int} (h : 0 ≤ t) : ∃ s, 0 ≤ s ∧ s ≤ t ∧ cv g f t = g s + f (t - s) := by
  have hne : (rng 0 (t + 1)).map (fun s => g s + f (t - s)) ≠ [] := by
    intro e
    have := congrArg List.length e
    rw [List.length_map, rng_len] at this
    simp at this; omega
  obtain ⟨s, hs, e⟩ := List.mem_map.mp (minI_mem hne)
  obtain ⟨s1, s2⟩ := mem_rng.mp hs
  exact ⟨s, s1, by omega, e.symm⟩
theorem cv_congr {g g' f f' : Int → Int} {t : Int} (hg : ∀ s, 0 ≤ s → s ≤ t → g s = g' s) (hf : ∀ s, 0 ≤ s → s ≤ t → f s = f' s) : cv g f t = cv g' f' t := by
  unfold cv
  congr 1
  refine List.map_congr_left fun s hs => ?_
  obtain ⟨s1, s2⟩ := mem_rng.mp hs
  rw [hg s s1 (by omega), hf (t - s) (by omega) (by omega)]
theorem cv_assoc (g f f' : Int → Int) {t : Int} (h : 0 ≤ t) : cv (cv g f) f' t = cv g (cv f f') t := by
  apply Int.le_antisymm
  · obtain ⟨s, s1, s2, e⟩ := cv_mem (g := g) (f := cv f f') h
    obtain ⟨u, u1, u2, e2⟩ := cv_mem (g := f) (f := f') (show 0 ≤ t - s by omega)
    have h1 := cv_le (g := cv g f) (f := f') (t := t) (s := s + u) (by omega) (by omega)
    have h2 := cv_le (g := g) (f := f) (t := s + u) (s := s) (by omega) (by omega)
    rw [show s + u - s = u by omega] at h2
    rw [show t - (s + u) = t - s - u by omega] at h1
    omega
  · obtain ⟨s, s1, s2, e⟩ := cv_mem (g := cv g f) (f := f') h
    obtain ⟨u, u1, u2, e2⟩ := cv_mem (g := g) (f := f) s1
    have h1 := cv_le (g := g) (f := cv f f') (t := t) (s := u) (by omega) (by omega)
    have h2 := cv_le (g := f) (f := f') (t := t - u) (s := s - u) (by omega) (by omega)
    rw [show t - u - (s - u) = t - s by omega] at h2
    omega
theorem cv_gives {w1 w2 : Int} {P1 P2 : List (Int × Int)} (hw1 : 0 ≤ w1) (hw2 : 0 ≤ w2) (h1 : ∀ q ∈ P1, 0 ≤ q.1 ∧ 1 ≤ q.2) (h2 : ∀ q ∈ P2, 0 ≤ q.1 ∧ 1 ≤ q.2) (n1 : P1 ≠ []) (n2 : P2 ≠ []) {t : Int} (ht : 0 ≤ t) :
    cv (m__law_gives w1 P1) (m__law_gives w2 P2) t = m__law_gives (w1 + w2) (P1 ++ P2) t := by
  have nn : P1 ++ P2 ≠ [] := by simp [n1]
  have h12 : ∀ q ∈ P1 ++ P2, 0 ≤ q.1 ∧ 1 ≤ q.2 := fun q hq => by
    rcases List.mem_append.mp hq with z | z
    · exact h1 q z
    · exact h2 q z
  apply Int.le_antisymm
  · by_cases c : t ≤ w1 + w2
    · rw [gives0 c]
      by_cases c1 : t ≤ w1
      · have := cv_le (g := m__law_gives w1 P1) (f := m__law_gives w2 P2) (t := t) (s := t) ht (Int.le_refl _)
        rw [gives0 c1, gives0 (show t - t ≤ w2 by omega)] at this; exact this
      · have := cv_le (g := m__law_gives w1 P1) (f := m__law_gives w2 P2) (t := t) (s := w1) hw1 (by omega)
        rw [gives0 (Int.le_refl _), gives0 (show t - w1 ≤ w2 by omega)] at this; exact this
    · obtain ⟨q, hq, e⟩ := gives_mem (show w1 + w2 < t by omega) nn
      rw [e]
      rcases List.mem_append.mp hq with z | z
      · have a := cv_le (g := m__law_gives w1 P1) (f := m__law_gives w2 P2) (t := t) (s := t - w2) (by omega) (by omega)
        rw [gives0 (show t - (t - w2) ≤ w2 by omega)] at a
        have b := gives_le (w := w1) (t := t - w2) (by omega) z
        rw [show t - w2 - w1 = t - (w1 + w2) by omega] at b
        omega
      · have a := cv_le (g := m__law_gives w1 P1) (f := m__law_gives w2 P2) (t := t) (s := w1) hw1 (by omega)
        rw [gives0 (Int.le_refl w1)] at a
        have b := gives_le (w := w2) (t := t - w1) (by omega) z
        rw [show t - w1 - w2 = t - (w1 + w2) by omega] at b
        omega
  · obtain ⟨s, s1, s2, e⟩ := cv_mem (g := m__law_gives w1 P1) (f := m__law_gives w2 P2) ht
    rw [e]
    by_cases c : t ≤ w1 + w2
    · rw [gives0 c]
      have := gives_nn (w := w1) h1 n1 s
      have := gives_nn (w := w2) h2 n2 (t - s)
      omega
    · have c : w1 + w2 < t := by omega
      by_cases c1 : s ≤ w1
      · rw [gives0 c1]
        obtain ⟨q, hq, e2⟩ := gives_mem (w := w2) (t := t - s) (by omega) n2
        have b := gives_le c (List.mem_append_right P1 hq)
        have m : q.2 * (t - (w1 + w2)) ≤ q.2 * (t - s - w2) := Int.mul_le_mul_of_nonneg_left (by omega) (by have := h2 q hq; omega)
        omega
      · by_cases c2 : t - s ≤ w2
        · rw [gives0 c2]
          obtain ⟨q, hq, e2⟩ := gives_mem (w := w1) (t := s) (by omega) n1
          have b := gives_le c (List.mem_append_left P2 hq)
          have m : q.2 * (t - (w1 + w2)) ≤ q.2 * (s - w1) := Int.mul_le_mul_of_nonneg_left (by omega) (by have := h1 q hq; omega)
          omega
        · obtain ⟨q, hq, e2⟩ := gives_mem (w := w1) (t := s) (by omega) n1
          obtain ⟨r, hr, e3⟩ := gives_mem (w := w2) (t := t - s) (by omega) n2
          have bq := gives_le c (List.mem_append_left P2 hq)
          have br := gives_le c (List.mem_append_right P1 hr)
          have rq := h1 q hq
          have rr := h2 r hr
          have sp : t - (w1 + w2) = (s - w1) + (t - s - w2) := by omega
          rcases Int.le_total q.2 r.2 with c3 | c3
          · have m : q.2 * (t - s - w2) ≤ r.2 * (t - s - w2) := Int.mul_le_mul_of_nonneg_right c3 (by omega)
            rw [sp, Int.mul_add] at bq
            omega
          · have m : r.2 * (s - w1) ≤ q.2 * (s - w1) := Int.mul_le_mul_of_nonneg_right c3 (by omega)
            rw [sp, Int.mul_add] at br
            omega
/-! ### gifts -/
theorem piece_iff (q : Int × Int) : m_is_piece q.1 q.2 = true ↔ 0 ≤ q.1 ∧ 1 ≤ q.2 ∧ q.2 ≤ 1000000 := by
  unfold m_is_piece
  simp only [Bool.and_eq_true, decide_eq_true_eq]
theorem hl_self {P K : List (Int × Int)} (h : Hl PX NY P K) : Hl PX NY K K := ⟨h.ch, fun _ h => h, fun q hq => .self hq, Nat.le_refl _⟩
structure Ot (xs : List (Int × Int)) : Prop where
  ln : xs.length < 64
  sm : ∀ q ∈ xs, 0 ≤ q.1 → 1 ≤ q.2 → q.2 ≤ 1000000 → q.1 < 2 ^ 40
theorem gift_same {xs : List (Int × Int)} (h : Ot xs) (s : Int) : vc_is_gift (s, xs) ∧ vc__law_is_gift s xs ∧ m_is_gift (s, xs) = m__law_is_gift s xs := by
  have hsz : sizeLine = 16777216 := by decide
  have hl := h.ln
  have eA : ((xs.map (fun y_2 => m_is_piece y_2.1 y_2.2)).all id) = decide ((xs.filter (fun y_2 => ((decide (y_2.1 < (0 : Int))) || (!(decide ((1 : Int) ≤ y_2.2) && decide (y_2.2 ≤ (1000000 : Int))))))).map (fun y_2 => y_2) = ([] : List ((Int × Int)))) := by
    rw [List.map_id', Bool.eq_iff_iff, decide_eq_true_eq, List.filter_eq_nil_iff, List.all_eq_true]
    constructor
    · intro g q hq
      have := (piece_iff q).mp (g _ (List.mem_map.mpr ⟨q, hq, rfl⟩))
      simp; omega
    · intro g b hb
      obtain ⟨q, hq, rfl⟩ := List.mem_map.mp hb
      have := g q hq
      simp at this
      exact (piece_iff q).mpr (by omega)
  have pz : ((xs.map (fun y_2 => m_is_piece y_2.1 y_2.2)).all id) = true → Pz xs := fun g => by
    rw [List.all_eq_true] at g
    refine ⟨fun q hq => ?_, by omega⟩
    have := (piece_iff q).mp (g _ (List.mem_map.mpr ⟨q, hq, rfl⟩))
    have := h.sm q hq this.1 this.2.1 this.2.2
    omega
  unfold vc_is_gift vc__law_is_gift m_is_gift m__law_is_gift
  simp only [true_and, and_true, and_assoc, implies_true]
  rw [← eA]
  have vp : ∀ q : Int × Int, vc_is_piece q.1 q.2 := fun q => by unfold vc_is_piece; simp
  refine ⟨fun _ _ => ⟨by omega, fun q _ => vp q⟩, fun hc => ?_, fun _ _ => by omega, fun hc => ?_, ?_⟩
  · have g : ((xs.map (fun y_2 => m_is_piece y_2.1 y_2.2)).all id) = true := by
      simp only [Bool.or_eq_false_iff, Bool.not_eq_false'] at hc
      exact hc.2.2
    exact (plain_sp (pz g)).1
  · have g : ((xs.map (fun y_2 => m_is_piece y_2.1 y_2.2)).all id) = true := by
      simp only [Bool.or_eq_false_iff, Bool.not_eq_false'] at hc
      exact hc.2.2
    exact law_plain_vc (pz g).rg hl
  · by_cases g : ((xs.map (fun y_2 => m_is_piece y_2.1 y_2.2)).all id) = true
    · rw [law_plain_eq (pz g)]
      split
      · rfl
      · congr 1; exact propext eq_comm
    · have g : ((xs.map (fun y_2 => m_is_piece y_2.1 y_2.2)).all id) = false := by simpa using g
      rw [g]; simp
/-! ### ticks -/
/-- s bytes at a rate: how many ticks -/
def cd (rate s : Int) : Int := -((-s) / rate)
theorem cd_le {rate s m : Int} (h : 0 < rate) : cd rate s ≤ m ↔ s ≤ rate * m := by
  have e := Int.mul_ediv_add_emod (-s) rate
  have h1 := Int.emod_nonneg (-s) (show rate ≠ 0 by omega)
  have h2 := Int.emod_lt_of_pos (-s) h
  unfold cd
  generalize (-s) / rate = z at *
  constructor
  · intro hm
    have : rate * (-z) ≤ rate * m := Int.mul_le_mul_of_nonneg_left hm (by omega)
    rw [Int.mul_neg] at this
    omega
  · intro hm
    apply Classical.byContradiction
    intro n
    have n' : m + z + 1 ≤ 0 := by omega
    have : rate * (m + z + 1) ≤ rate * 0 := Int.mul_le_mul_of_nonneg_left n' (by omega)
    rw [Int.mul_add, Int.mul_add] at this
    omega
theorem cd_mono {rate s s' : Int} (h : 0 < rate) (hs : s ≤ s') : cd rate s ≤ cd rate s' := (cd_le h).mpr (Int.le_trans hs ((cd_le h).mp (Int.le_refl _)))
theorem cd_sub {rate s k : Int} (h : 0 < rate) : cd rate (s - rate * k) = cd rate s - k := by
  apply Int.le_antisymm
  · rw [cd_le h, Int.mul_sub]
    have := (cd_le (rate := rate) (s := s) h).mp (Int.le_refl _)
    omega
  · have := (cd_le (rate := rate) (s := s - rate * k) h).mp (Int.le_refl _)
    have : cd rate s ≤ cd rate (s - rate * k) + k := by
      rw [cd_le h, Int.mul_add]; omega
    omega
theorem tf_eq (s b r : Int) : m_ticks_for s b r = cd r (s - b) := by
  unfold m_ticks_for cd
  rw [show -(s - b) = b - s by omega]
theorem tf_vc {s b r : Int} (h1 : 1 ≤ r) (h2 : r ≤ 1000000) : vc_ticks_for s b r := by
  unfold vc_ticks_for
  simp only [true_and]
  exact ⟨by omega, by omega⟩
def ft (w : Int) (ps : List (Int × Int)) (s : Int) : Int := m_first_tick (w, ps) s
theorem ft_eq (w : Int) (ps : List (Int × Int)) (s : Int) : ft w ps s = w + maxI ([1] ++ ps.map fun y => cd y.2 (s - y.1)) := by
  unfold ft m_first_tick
  simp only
  rw [show (fun y_2 : Int × Int => m_ticks_for s y_2.1 y_2.2) = fun y => cd y.2 (s - y.1) from funext fun y => tf_eq s y.1 y.2]
theorem ft_ge1 (w : Int) (ps : List (Int × Int)) (s : Int) : w + 1 ≤ ft w ps s := by
  rw [ft_eq]
  have := le_maxI (xs := [1] ++ ps.map fun y => cd y.2 (s - y.1)) (y := 1) (by simp)
  omega
theorem ft_ge {w : Int} {ps : List (Int × Int)} {s : Int} {y : Int × Int} (h : y ∈ ps) : w + cd y.2 (s - y.1) ≤ ft w ps s := by
  rw [ft_eq]
  have := le_maxI (xs := [1] ++ ps.map fun y => cd y.2 (s - y.1)) (y := cd y.2 (s - y.1)) (List.mem_append_right _ (List.mem_map.mpr ⟨y, h, rfl⟩))
  omega
theorem ft_at (w : Int) (ps : List (Int × Int)) (s : Int) : ft w ps s = w + 1 ∨ ∃ y ∈ ps, ft w ps s = w + cd y.2 (s - y.1) := by
  rw [ft_eq]
  have := maxI_mem (xs := [1] ++ ps.map fun y => cd y.2 (s - y.1)) (by simp)
  rcases List.mem_append.mp this with z | z
  · left; rw [List.mem_singleton] at z; rw [z]
  · right
    obtain ⟨y, hy, e⟩ := List.mem_map.mp z
    exact ⟨y, hy, by rw [← e]⟩
theorem ft_vc {w : Int} {ps : List (Int × Int)} (h : Pz ps) (s : Int) : vc_first_tick (w, ps) s := by
  have hsz : sizeLine = 16777216 := by decide
  have hl := h.ln
  unfold vc_first_tick
  simp only [true_and, and_true, and_assoc, implies_true]
  refine ⟨by omega, fun q hq => tf_vc (h.rg q hq).2.2.1 (h.rg q hq).2.2.2, ?_, by simp⟩
  rw [List.length_map]; simp; omega
/-- the first tick is the first -/
theorem ft_first {w : Int} {ps : List (Int × Int)} (h : Pz ps) (hne : ps ≠ []) {s : Int} (hs : 0 < s) : s ≤ m__law_gives w ps (ft w ps s) ∧ m__law_gives w ps (ft w ps s - 1) < s := by
  have g1 := ft_ge1 w ps s
  constructor
  · obtain ⟨q, hq, e⟩ := gives_mem (w := w) (t := ft w ps s) (by omega) hne
    rw [e]
    have r := h.rg q hq
    have := ft_ge (w := w) (s := s) hq
    have := (cd_le (rate := q.2) (s := s - q.1) (m := ft w ps s - w) (by omega)).mp (by omega)
    omega
  · rcases ft_at w ps s with e | ⟨y, hy, e⟩
    · rw [gives0 (by omega)]; exact hs
    · by_cases c : ft w ps s - 1 ≤ w
      · rw [gives0 c]; exact hs
      · have r := h.rg y hy
        have g := gives_le (w := w) (t := ft w ps s - 1) (by omega) hy
        have n : ¬ s - y.1 ≤ y.2 * (ft w ps s - 1 - w) := fun z => by
          have := (cd_le (rate := y.2) (s := s - y.1) (m := ft w ps s - 1 - w) (by omega)).mpr z
          omega
        omega
theorem gives_vc {w : Int} {P : List (Int × Int)} (h : Pz P) (hn : P ≠ []) (t : Int) : vc__law_gives w P t ∧ vc_given_by (w, P) t := by
  have hsz : sizeLine = 16777216 := by decide
  have hl := h.ln
  have cm : ∀ q ∈ P, CMul q.2 (t - w) := fun q hq => by have := h.rg q hq; exact .inl ⟨by omega, by omega⟩
  unfold vc__law_gives vc_given_by
  simp only [true_and, and_true, and_assoc, implies_true]
  exact ⟨fun _ => ⟨by omega, cm, by simpa using hn⟩, fun _ => ⟨by omega, cm, by simpa using hn⟩⟩
/-! ### refused -/
theorem refused {w : Int} {ps : List (Int × Int)} {k : Int} (h : vc_plain_gift_x w ps ∧ mx_plain_gift w ps = .inl k) : vc__law_refused w ps ∧ m__law_refused w ps = some (true, k) := by
  unfold vc__law_refused m__law_refused
  rw [h.2]
  exact ⟨⟨⟨trivial, trivial⟩, h.1, trivial⟩, rfl⟩
theorem ref_wait {w : Int} (hw : w < 0) (ps : List (Int × Int)) : vc_plain_gift_x w ps ∧ mx_plain_gift w ps = .inl 0 := by
  have hd : decide (w < 0) = true := by simpa using hw
  unfold vc_plain_gift_x mx_plain_gift m_plain_gift_x
  rw [hd]
  exact ⟨by simp, rfl⟩
theorem ref_nil {w : Int} (hw : 0 ≤ w) : vc_plain_gift_x w [] ∧ mx_plain_gift w [] = .inl 1 := by
  have hd : decide (w < 0) = false := by simpa using hw
  unfold vc_plain_gift_x mx_plain_gift m_plain_gift_x
  rw [hd]
  exact ⟨by simp, rfl⟩
theorem ref_at {w : Int} (hw : 0 ≤ w) {xs : List (Int × Int)} {k : Nat} (hk : k < xs.length) (h0 : ∀ i : Nat, i < k → m_is_piece (xs.getD i default).1 (xs.getD i default).2 = true) (h2 : m_is_piece (xs.getD k default).1 (xs.getD k default).2 = false) : vc_plain_gift_x w xs ∧ mx_plain_gift w xs = .inl ((k : Int) + 2) := by
  have hd : decide (w < 0) = false := by simpa using hw
  have hne : decide (xs = []) = false := by
    have : xs ≠ [] := fun z => by rw [z] at hk; simp at hk
    simpa using this
  have vp : ∀ q : Int × Int, vc_is_piece q.1 q.2 := fun q => by unfold vc_is_piece; simp
  have F := forP_end (α := Int × Int × Int) (γ := Unit) (ρ := Int ⊕ (Int × List (Int × Int))) (pb := fun (st_1 : Unit) (y_2 : Int × Int × Int) => vc_is_piece y_2.2.1 y_2.2.2) (f := fun (st_1 : Unit) (y_2 : Int × Int × Int) => ((if (!(m_is_piece y_2.2.1 y_2.2.2)) = true then liftR (.ret (.inl (y_2.1 + (2 : Int)))) else .nx ()) : Res (Unit) (Unit) (Int ⊕ (Int × List ((Int × Int))))))
    (q := fun _ => True) (k := fun _ => (.inr ((0 : Int), []) : Int ⊕ (Int × List (Int × Int)))) (Z := fun x => x = .inl ((k : Int) + 2)) (fun pre _ => pre.length ≤ k) (fun _ => False) (enm xs) () (fun pre y post _ e1 i => by
      have hy : (enm xs)[pre.length]? = some y := by rw [e1]; simp
      obtain ⟨f1, f2⟩ := enm_get hy
      have e2 : y.2 = xs.getD pre.length default := by rw [List.getD_eq_getElem?_getD, f2]; rfl
      refine ⟨vp y.2, ?_⟩
      by_cases c : pre.length = k
      · have hc : m_is_piece y.2.1 y.2.2 = false := by rw [e2, c]; exact h2
        rw [if_pos (by rw [hc]; rfl)]
        show Sum.inl (y.1 + 2) = _
        rw [f1, c]
      · have hc : m_is_piece y.2.1 y.2.2 = true := by rw [e2]; exact h0 _ (by omega)
        rw [if_neg (by rw [hc]; simp)]
        show (pre ++ [y]).length ≤ k
        simp; omega) (fun _ h => by rw [enm_len] at h; omega) (Nat.zero_le _) (fun _ h => h.elim)
  obtain ⟨f1, f2, f3⟩ := F
  unfold vc_plain_gift_x mx_plain_gift m_plain_gift_x
  rw [hd, hne]
  simp only [true_and, and_true, and_assoc, implies_true, Bool.false_eq_true, false_implies, if_false, forall_const]
  refine ⟨f1, ?_, ?_⟩
  all_goals
    generalize forR (fun (st_1 : Unit) (y_2 : Int × Int × Int) => ((if (!(m_is_piece y_2.2.1 y_2.2.2)) = true then liftR (.ret (.inl (y_2.1 + (2 : Int)))) else .nx ()) : Res (Unit) (Unit) (Int ⊕ (Int × List ((Int × Int)))))) (enm xs) () = r at *
  · cases r with
    | inl x => trivial
    | inr c => cases f3
  · cases r with
    | inl x => exact f3
    | inr c => cases f3
/-! ### the law -/
theorem law_true : ∀ ns : List Int, ns.length ≤ 63 → vc_law ns ∧ m_law ns = true := by
  intro ns _
  obtain ⟨dv, dd⟩ := draws_ok ns
  unfold vc_law m_law
  generalize m__law_draws ns = ds at *
  have hsz : sizeLine = 16777216 := by decide
  have e12 : (10 : Int) ^ ((12 : Int)).toNat = 1000000000000 := by decide
  have e13 : (10 : Int) ^ ((13 : Int)).toNat = 10000000000000 := by decide
  have e9 : (10 : Int) ^ ((9 : Int)).toNat = 1000000000 := by decide
  have e6 : (10 : Int) ^ ((6 : Int)).toNat = 1000000 := by decide
  have ct : ∀ j : Int, 0 ≤ j → j ≤ 1000 → (CPow 10 j ↔ True) := fun j h1 h2 => iff_true_intro ⟨h1, by omega, by decide⟩
  rw [e12, e13, e9, e6]
  simp only [ct 12 (by decide) (by decide), ct 13 (by decide) (by decide), ct 9 (by decide) (by decide), ct 6 (by decide) (by decide), mixT dd, ix2T, ix3T, cpT, true_and, and_true, and_assoc, implies_true, Int.reduceLT, Int.reduceLE, forall_const, true_implies, false_implies, Bool.not_true, Bool.false_or, Bool.and_false, Bool.false_eq_true, if_false]
  refine ⟨dv, by unfold RgB; decide, forP_end (Z := fun b => b = true) (fun _ _ => True) (fun _ => True) _ _ (fun pre y post st e _ => ?_) (fun _ _ => trivial) trivial (fun _ _ => ⟨trivial, rfl⟩)⟩
  obtain ⟨y0, y1⟩ := rng_split e
  have cm1 : CMul 60 y := .inl (by decide)
  have htp : 0 < gi [(3 : Int), 40, 1000000000000] (m__law_mix ds y 3) ∧ gi [(3 : Int), 40, 1000000000000] (m__law_mix ds y 3) ≤ 2 ^ 40 := pick3 (P := fun z => 0 < z ∧ z ≤ 2 ^ 40) _ _ _ _ (by decide) (by decide) (by decide)
  have hwt : 0 < gi [(1 : Int), 9, 1000000000000] (m__law_mix ds (8 + y) 3) ∧ gi [(1 : Int), 9, 1000000000000] (m__law_mix ds (8 + y) 3) ≤ 2 ^ 40 := pick3 (P := fun z => 0 < z ∧ z ≤ 2 ^ 40) _ _ _ _ (by decide) (by decide) (by decide)
  obtain ⟨pv, pP, pn⟩ := pieces_sp dd (20 + 60 * y) htp.1 htp.2
  have wv := mix_vc dd (4 + y) hwt.1
  have wr := mix_rg (ds := ds) (4 + y) hwt.1
  generalize m__law_pieces ds (20 + 60 * y) (gi [3, 40, 1000000000000] (m__law_mix ds y 3)) = ps at *
  generalize gi [(1 : Int), 9, 1000000000000] (m__law_mix ds (8 + y) 3) = top at *
  generalize m__law_mix ds (4 + y) top = w at *
  have pz := Pz.of pP
  have hl := pP.ln
  obtain ⟨plv, CH⟩ := plain_sp pz
  have lpv := law_plain_vc pz.rg (by omega)
  have lpe := law_plain_eq pz
  have gv : vc_plain_gift w ps := by
    unfold vc_plain_gift
    simp only [true_and, and_true, and_assoc, implies_true]
    refine ⟨by simp; omega, by simpa using pn, ?_, plv⟩
    refine (foldP_ix (α := Int × Int × Int) (γ := Unit) (fun _ _ => True) (enm ps) () (fun pre y post c e1 _ => ⟨?_, trivial⟩) trivial).1
    have hy : (enm ps)[pre.length]? = some y := by rw [e1]; simp
    obtain ⟨f1, f2⟩ := enm_get hy
    have r := pz.rg y.2 (List.mem_of_getElem? f2)
    have : m_is_piece y.2.1 y.2.2 = true := (piece_iff y.2).mpr ⟨r.1, r.2.2.1, r.2.2.2⟩
    rw [this]
    refine ⟨by unfold vc_is_piece; simp, rfl⟩
  have eg : m_plain_gift w ps = (w, m_plain ps) := rfl
  rw [eg, lpe]
  generalize hD : m_plain ps = D at *
  have Dn := CH.ne pn
  have Dl := CH.ln
  have Dz : Pz D := ⟨fun q hq => pz.rg q (CH.sub q hq), by omega⟩
  have eDD : m_plain D = D := hl_uniq (plain_sp Dz).2 (hl_self CH) fun q => Iff.rfl
  simp only [decide_true, Bool.not_true, Bool.or_false, Bool.or_self, Bool.false_eq_true, if_false, true_and, and_true, forall_const, true_implies, and_assoc, Bool.false_or]
  have hG : m_is_gift (w, D) = true := by
    unfold m_is_gift
    simp only
    have a1 : decide (w < 0) = false := by simp; omega
    have a2 : decide (D = []) = false := by simpa using Dn
    have a3 : ((D.map (fun y_2 => m_is_piece y_2.1 y_2.2)).all id) = true := by
      rw [List.all_eq_true]
      intro b hb
      obtain ⟨q, hq, rfl⟩ := List.mem_map.mp hb
      have r := Dz.rg q hq
      exact (piece_iff q).mpr ⟨r.1, r.2.2.1, r.2.2.2⟩
    rw [a1, a2, a3, eDD]; simp
  have mkO : ∀ xs : List (Int × Int), xs.length ≤ 12 → (∀ q ∈ xs, (-(10 ^ 14) < q.1 ∧ q.1 < 10 ^ 14 ∧ -(10 ^ 14) < q.2 ∧ q.2 < 10 ^ 14) ∧ (0 ≤ q.1 → 1 ≤ q.2 → q.2 ≤ 1000000 → q.1 < 2 ^ 40)) → Ot xs ∧ ShwB (rL (rT (tc rI (t1 rI)))) xs := fun xs hx hq => by
    refine ⟨⟨by omega, fun q h => (hq q h).2⟩, ?_⟩
    have s1 : Sh (12 * (2 + 1)) (Dt.dat (rL (rT (tc rI (t1 rI)))) xs) := .lists (fun q h => by have := (hq q h).1; exact .pair (by omega) (by omega) (by omega) (by omega)) hx
    exact s1.fits (by rw [hsz]; decide)
  have fD : ∀ q ∈ D, (-(10 ^ 14) < q.1 ∧ q.1 < 10 ^ 14 ∧ -(10 ^ 14) < q.2 ∧ q.2 < 10 ^ 14) ∧ (0 ≤ q.1 → 1 ≤ q.2 → q.2 ≤ 1000000 → q.1 < 2 ^ 40) := fun q hq => by have := Dz.rg q hq; omega
  have c1 : cut D none (some 1) = D.take 1 := cut_take' D 1
  have c2 : ∀ q ∈ cut D (some 1) none, q ∈ D := fun q hq => by
    cases hd : D with
    | nil => exact absurd hd Dn
    | cons d r => rw [hd, cut_drop1] at hq; exact List.mem_cons_of_mem _ hq
  have c3 : (cut D (some 1) none).length ≤ 5 := by
    cases hd : D with
    | nil => exact absurd hd Dn
    | cons d r => rw [cut_drop1]; rw [hd] at Dl; simp at Dl; omega
  have c4 : (cut D none (some 1)).length ≤ 5 := by rw [c1, List.length_take]; omega
  have r20 := mix_rg (ds := ds) (40 + 60 * y) (show (0 : Int) < 20 by decide)
  have r9 := mix_rg (ds := ds) (41 + 60 * y) (show (0 : Int) < 9 by decide)
  have OS : ∀ o ∈ [ps, D.reverse, D ++ cut D none (some 1), cut D (some 1) none, [(-1, 5)] ++ D, D ++ [(10000000000000, 0)]] ++ [[(0, 1000001)] ++ D, sortP (D ++ [(m__law_mix ds (40 + 60 * y) 20, 1 + m__law_mix ds (41 + 60 * y) 9)])], Ot o ∧ ShwB (rL (rT (tc rI (t1 rI)))) o := fun o ho => by
    simp only [List.mem_append, List.mem_cons, List.not_mem_nil, or_false] at ho
    rcases ho with (h | h | h | h | h | h) | h | h <;> subst h
    · exact mkO _ (by omega) fun q hq => by have := pz.rg q hq; omega
    · exact mkO _ (by rw [List.length_reverse]; omega) fun q hq => fD q (List.mem_reverse.mp hq)
    · refine mkO _ (by rw [List.length_append]; omega) fun q hq => ?_
      rcases List.mem_append.mp hq with z | z
      · exact fD q z
      · rw [c1] at z; exact fD q (List.mem_of_mem_take z)
    · exact mkO _ (by omega) fun q hq => fD q (c2 q hq)
    · refine mkO _ (by rw [List.length_append]; simp; omega) fun q hq => ?_
      rcases List.mem_append.mp hq with z | z
      · rw [List.mem_singleton] at z; rw [z]; simp only; omega
      · exact fD q z
    · refine mkO _ (by rw [List.length_append]; simp; omega) fun q hq => ?_
      rcases List.mem_append.mp hq with z | z
      · exact fD q z
      · rw [List.mem_singleton] at z; rw [z]; simp only; omega
    · refine mkO _ (by rw [List.length_append]; simp; omega) fun q hq => ?_
      rcases List.mem_append.mp hq with z | z
      · rw [List.mem_singleton] at z; rw [z]; simp only; omega
      · exact fD q z
    · refine mkO _ (by rw [len_sortP, List.length_append]; simp; omega) fun q hq => ?_
      rcases List.mem_append.mp (mem_sortP.mp hq) with z | z
      · exact fD q z
      · rw [List.mem_singleton] at z; rw [z]; simp only; omega
  have SB : ∀ b : Bool, ShwB rB b := fun b => by
    have s1 : Sh 0 (Dt.dat rB b) := .bool
    exact s1.fits (by rw [hsz]; decide)
  have SP := (mkO ps (by omega) fun q hq => by have := pz.rg q hq; omega).2
  have SD : ShwB (rT (tc rI (t1 (rL (rT (tc rI (t1 rI))))))) (w, D) := by
    have s2 : Sh (12 * (2 + 1)) (Dt.dat (rL (rT (tc rI (t1 rI)))) D) := .lists (fun q h => by have := (fD q h).1; exact .pair (by omega) (by omega) (by omega) (by omega)) (by omega)
    have s3 : Sh _ (Dt.dat (rT (tc rI (t1 (rL (rT (tc rI (t1 rI))))))) (w, D)) := .tup (.cons (.int (by omega) (by omega)) (.cons s2 .nil))
    exact s3.fits (by rw [hsz]; decide)
  have OD := (mkO D (by omega) fD).1
  have vG := (gift_same OD w).1
  rw [hG]
  simp only [decide_true, Bool.not_true, Bool.or_false, Bool.or_self, Bool.false_eq_true, if_false, true_and, and_true, forall_const, true_implies, and_assoc, Bool.false_or]
  refine ⟨cm1, pv, wv, SP, gv, SD, lpv, SD, SP, vG, by omega, by simp; omega, by simp; omega, by simp; omega, cm1, cm1, by simp; omega, by simp; omega, ?_⟩
  refine forP_endR (fun _ _ => True) (fun _ => True) _ _ (fun pre2 o post2 _ e2 _ => ?_) (fun _ _ => trivial) trivial (fun _ _ => ?_)
  · obtain ⟨O1, O2⟩ := OS o (by rw [e2]; simp)
    refine (fun {B C E : Prop} (h : B ∧ C ∧ E) => (⟨⟨h.1, h.2.1⟩, h.2.2⟩ : (B ∧ C) ∧ E)) (forP_endR (fun _ _ => True) (fun _ => True) _ _ (fun pre3 s post3 _ e3 _ => ?_) (fun _ _ => trivial) trivial (fun _ _ => ?_))
    · obtain ⟨g1, g2, g3⟩ := gift_same O1 s
      rw [g3]
      simp only [decide_true, Bool.not_true, Bool.false_eq_true, if_false]
      exact ⟨⟨O2, g1, SB _, g2, SB _, fun _ => O2⟩, trivial⟩
    · exact ⟨trivial, trivial⟩
  · have gp : ∀ t, m_given_by (w, D) t = m__law_gives w ps t := fun t => by rw [gives_eq, gives_hl CH pn]
    have bd : ∀ t, t ≤ w + 1000000000 → -(10 ^ 18) < m__law_gives w ps t ∧ m__law_gives w ps t < 10 ^ 18 := fun t ht => by
      have h0 := gives_nn (w := w) (fun q hq => by have := pz.rg q hq; omega) pn t
      refine ⟨by omega, ?_⟩
      by_cases c : t ≤ w
      · rw [gives0 c]; decide
      · obtain ⟨q, hq⟩ := List.exists_mem_of_ne_nil ps pn
        have h1 := gives_le (w := w) (t := t) (by omega) hq
        have h2 := pz.rg q hq
        have h3 : q.2 * (t - w) ≤ 1000000 * 1000000000 := Int.mul_le_mul h2.2.2.2 (by omega) (by omega) (by decide)
        omega
    have r50 := mix_rg (ds := ds) (42 + 60 * y) (show (0 : Int) < 50 by decide)
    have rbig := mix_rg (ds := ds) (43 + 60 * y) (show (0 : Int) < 1000000000 by decide)
    refine (fun {A B C E : Prop} (a : A) (h : B ∧ C ∧ E) => (⟨⟨a, h.1, h.2.1⟩, h.2.2⟩ : (A ∧ B ∧ C) ∧ E)) (show RgB 6 from by unfold RgB; decide) (forP_endR (fun _ _ => True) (fun _ => True) _ _ (fun pre2 t post2 _ e2 _ => ?_) (fun _ _ => trivial) trivial (fun _ _ => ?_))
    · obtain ⟨t0, t1⟩ := rng_split e2
      have it : InB t [0, w, w + 1, w + 2, w + m__law_mix ds (42 + 60 * y) 50, w + m__law_mix ds (43 + 60 * y) 1000000000].length := by unfold InB; simp; omega
      have tm := gi_mem it
      have tb : gi [0, w, w + 1, w + 2, w + m__law_mix ds (42 + 60 * y) 50, w + m__law_mix ds (43 + 60 * y) 1000000000] t ≤ w + 1000000000 := by
        simp only [List.mem_cons, List.not_mem_nil, or_false] at tm
        rcases tm with h | h | h | h | h | h <;> rw [h] <;> omega
      generalize gi [0, w, w + 1, w + 2, w + m__law_mix ds (42 + 60 * y) 50, w + m__law_mix ds (43 + 60 * y) 1000000000] t = tick at *
      have sN : ShwB rI (m__law_gives w ps tick) := by
        have := bd tick tb
        have s1 : Sh _ (Dt.dat rI (m__law_gives w ps tick)) := .int this.1 this.2
        exact s1.fits (by rw [hsz]; decide)
      rw [gp]
      simp only [decide_true, Bool.not_true, Bool.or_false, Bool.or_self, Bool.false_eq_true, if_false, true_and, and_true, forall_const, true_implies, and_assoc, Bool.false_or]
      refine ⟨cm1, cm1, it, (gives_vc pz pn tick).1, (gives_vc Dz Dn tick).2, sN, sN, cm1, forP_endR (fun _ _ => True) (fun _ => True) _ _ (fun pre3 s post3 _ e3 _ => ?_) (fun _ _ => trivial) trivial (fun _ _ => ?_)⟩
      · have ff : 0 < s → s ≤ m__law_gives w ps (m_first_tick (w, D) s) ∧ m__law_gives w ps (m_first_tick (w, D) s - 1) < s := fun hs => by
          have := ft_first (w := w) Dz Dn hs
          rw [gives_hl CH pn, gives_hl CH pn] at this
          exact this
        have hb : (if decide (0 < s) = true then (if (decide (m__law_gives w ps (m_first_tick (w, D) s) < s) || decide (s ≤ m__law_gives w ps (m_first_tick (w, D) s - 1))) = true then liftR (.ret false) else .nx ()) else .nx () : Res Unit Unit Bool) = .nx () := by
          by_cases hs : 0 < s
          · have f := ff hs
            have d1 : decide (m__law_gives w ps (m_first_tick (w, D) s) < s) = false := by simpa using f.1
            have d2 : decide (s ≤ m__law_gives w ps (m_first_tick (w, D) s - 1)) = false := by simpa using f.2
            rw [if_pos (by simpa using hs), d1, d2]; simp
          · rw [if_neg (by simpa using hs)]
        rw [hb]
        exact ⟨⟨fun _ => ⟨ft_vc Dz s, (gives_vc pz pn _).1, fun _ => (gives_vc pz pn _).1⟩, trivial⟩, trivial⟩
      · exact ⟨trivial, trivial⟩
    · have rat := mix_rg (ds := ds) 13 (show (0 : Int) < ps.length by have := List.length_pos_iff.mpr pn; omega)
      have vat : vc__law_mix ds 13 ps.length := mix_vc dd 13 (by have := List.length_pos_iff.mpr pn; omega)
      generalize m__law_mix ds 13 (ps.length : Int) = at0 at *
      obtain ⟨k, hk⟩ : ∃ k : Nat, at0 = (k : Int) := ⟨at0.toNat, by omega⟩
      subst hk
      have i14 : InB (m__law_mix ds 14 4) [((-1 : Int), (1 : Int)), (0, 0), (0, 1000001), (5, -3)].length := mix_ix 14 (by decide) (Int.le_refl 4)
      have wm := gi_mem i14
      have wbad : m_is_piece (gi [((-1 : Int), (1 : Int)), (0, 0), (0, 1000001), (5, -3)] (m__law_mix ds 14 4)).1 (gi [((-1 : Int), (1 : Int)), (0, 0), (0, 1000001), (5, -3)] (m__law_mix ds 14 4)).2 = false := by
        simp only [List.mem_cons, List.not_mem_nil, or_false] at wm
        rcases wm with h | h | h | h <;> rw [h] <;> decide
      generalize gi [((-1 : Int), (1 : Int)), (0, 0), (0, 1000001), (5, -3)] (m__law_mix ds 14 4) = wrong at *
      rw [cut_take']
      have tl : (ps.take k).length = k := by rw [List.length_take]; omega
      have rl : (repL [((-9 : Int), (0 : Int))] ((ps.length : Int) - k)).length ≤ 10 := by
        have key : ∀ n : Nat, ((List.replicate n [((-9 : Int), (0 : Int))]).flatten).length = n := fun n => by
          induction n with
          | zero => rfl
          | succ n ih => rw [List.replicate_succ, List.flatten_cons, List.length_append, ih]; simp; omega
        unfold repL
        rw [key]; omega
      have rp : RepB [((-9 : Int), (0 : Int))].length ((ps.length : Int) - k) := ⟨by omega, by omega, by show 1 * _ ≤ _; omega⟩
      have B : ∀ i : Nat, i < k → (ps.take k ++ [wrong] ++ repL [((-9 : Int), (0 : Int))] ((ps.length : Int) - k)).getD i default = ps.getD i default := fun i hi => by
        rw [List.append_assoc, List.getD_eq_getElem?_getD, List.getElem?_append_left (by omega), List.getElem?_take_of_lt hi, List.getD_eq_getElem?_getD]
      have Bk : (ps.take k ++ [wrong] ++ repL [((-9 : Int), (0 : Int))] ((ps.length : Int) - k)).getD k default = wrong := by
        rw [List.append_assoc, List.getD_eq_getElem?_getD, List.getElem?_append_right (by omega), tl, Nat.sub_self]; rfl
      have bad := ref_at (w := w) (by omega) (xs := ps.take k ++ [wrong] ++ repL [((-9 : Int), (0 : Int))] ((ps.length : Int) - k)) (k := k) (by rw [List.length_append, List.length_append, tl]; simp; omega) (fun i hi => by
        rw [B i hi, List.getD_eq_getElem?_getD, List.getElem?_eq_getElem (by omega), Option.getD_some]
        have r := pz.rg _ (List.getElem_mem (show i < ps.length by omega))
        exact (piece_iff _).mpr ⟨r.1, r.2.2.1, r.2.2.2⟩) (by rw [Bk]; exact wbad)
      obtain ⟨b1, b2⟩ := refused bad
      obtain ⟨b3, b4⟩ := refused (ref_wait (w := -1 - w) (by omega) [])
      obtain ⟨b5, b6⟩ := refused (ref_nil (w := w) (by omega))
      refine ⟨⟨by omega, vat, i14, by rw [tl]; simp; omega, rp, by rw [List.length_append, tl]; simp; omega, b3, fun _ => ⟨b5, fun _ => b1⟩⟩, ?_⟩
      rw [b2, b4, b6]
      simp
      trivial

end L3

namespace L3
open PySem L2
theorem top_of {K : PySem.W.Frag} {h : Heap} {mg : Str → Option Value} {fa : Addr} (X : K.In h) (G : h.Ns mainGlobals mg) (hfa : mg "law" = some (.ref fa))
    {f_is_piece : Addr} (d_is_piece : ∃ fd : FuncData, mg "is_piece" = some (.ref f_is_piece) ∧ Fun K "is_piece" "is_piece" (topS 5) f_is_piece fd)
    {f_is_over : Addr} (d_is_over : ∃ fd : FuncData, mg "is_over" = some (.ref f_is_over) ∧ Fun K "is_over" "is_over" (topS 7) f_is_over fd)
    {f_plain : Addr} (d_plain : ∃ fd : FuncData, mg "plain" = some (.ref f_plain) ∧ Fun K "plain" "plain" (topS 6) f_plain fd)
    {f_is_gift : Addr} (d_is_gift : ∃ fd : FuncData, mg "is_gift" = some (.ref f_is_gift) ∧ Fun K "is_gift" "is_gift" (topS 8) f_is_gift fd)
    {f_plain_gift : Addr} (d_plain_gift : ∃ fd : FuncData, mg "plain_gift" = some (.ref f_plain_gift) ∧ Fun K "plain_gift" "plain_gift" (topS 9) f_plain_gift fd)
    {f_given_by : Addr} (d_given_by : ∃ fd : FuncData, mg "given_by" = some (.ref f_given_by) ∧ Fun K "given_by" "given_by" (topS 10) f_given_by fd)
    {f_ticks_for : Addr} (d_ticks_for : ∃ fd : FuncData, mg "ticks_for" = some (.ref f_ticks_for) ∧ Fun K "ticks_for" "ticks_for" (topS 11) f_ticks_for fd)
    {f_first_tick : Addr} (d_first_tick : ∃ fd : FuncData, mg "first_tick" = some (.ref f_first_tick) ∧ Fun K "first_tick" "first_tick" (topS 12) f_first_tick fd)
    {f__law_draws : Addr} (d__law_draws : ∃ fd : FuncData, mg "_law_draws" = some (.ref f__law_draws) ∧ Fun K "_law_draws" "_law_draws" (topS 14) f__law_draws fd)
    {f__law_mix : Addr} (d__law_mix : ∃ fd : FuncData, mg "_law_mix" = some (.ref f__law_mix) ∧ Fun K "_law_mix" "_law_mix" (topS 15) f__law_mix fd)
    {f__law_pieces : Addr} (d__law_pieces : ∃ fd : FuncData, mg "_law_pieces" = some (.ref f__law_pieces) ∧ Fun K "_law_pieces" "_law_pieces" (topS 16) f__law_pieces fd)
    {f__law_gives : Addr} (d__law_gives : ∃ fd : FuncData, mg "_law_gives" = some (.ref f__law_gives) ∧ Fun K "_law_gives" "_law_gives" (topS 17) f__law_gives fd)
    {f__law_is_least : Addr} (d__law_is_least : ∃ fd : FuncData, mg "_law_is_least" = some (.ref f__law_is_least) ∧ Fun K "_law_is_least" "_law_is_least" (topS 18) f__law_is_least fd)
    {f__law_plain : Addr} (d__law_plain : ∃ fd : FuncData, mg "_law_plain" = some (.ref f__law_plain) ∧ Fun K "_law_plain" "_law_plain" (topS 19) f__law_plain fd)
    {f__law_refused : Addr} (d__law_refused : ∃ fd : FuncData, mg "_law_refused" = some (.ref f__law_refused) ∧ Fun K "_law_refused" "_law_refused" (topS 20) f__law_refused fd)
    {f__law_is_gift : Addr} (d__law_is_gift : ∃ fd : FuncData, mg "_law_is_gift" = some (.ref f__law_is_gift) ∧ Fun K "_law_is_gift" "_law_is_gift" (topS 21) f__law_is_gift fd)
    {f_law : Addr} (d_law : ∃ fd : FuncData, mg "law" = some (.ref f_law) ∧ Fun K "law" "law" (topS 22) f_law fd)
    (xf : ∃ XF : Exf K mg iniS, True)
    (z_abs : PySem.W.nsIn K mainGlobals "abs" = some none)
    (z_all : PySem.W.nsIn K mainGlobals "all" = some none)
    (z_bool : PySem.W.nsIn K mainGlobals "bool" = some none)
    (z_enumerate : PySem.W.nsIn K mainGlobals "enumerate" = some none)
    (z_int : PySem.W.nsIn K mainGlobals "int" = some none)
    (z_isinstance : PySem.W.nsIn K mainGlobals "isinstance" = some none)
    (z_len : PySem.W.nsIn K mainGlobals "len" = some none)
    (z_max : PySem.W.nsIn K mainGlobals "max" = some none)
    (z_min : PySem.W.nsIn K mainGlobals "min" = some none)
    (z_range : PySem.W.nsIn K mainGlobals "range" = some none)
    (z_repr : PySem.W.nsIn K mainGlobals "repr" = some none)
    (z_set : PySem.W.nsIn K mainGlobals "set" = some none)
    (z_sorted : PySem.W.nsIn K mainGlobals "sorted" = some none)
    (z_tuple : PySem.W.nsIn K mainGlobals "tuple" = some none)
    {t_GREATEST_RATE : Tok} (z_GREATEST_RATE : PySem.W.nsIn K mainGlobals "GREATEST_RATE" = some (some (.int 1000000 t_GREATEST_RATE)))
    : ∃ T : Top K mg, T.a_law = fa ∧ ∀ (s : Shared) (u : Value), BindsTo s T.fd_law ⟨[u], []⟩ [("script", u)] := by
  obtain ⟨k_is_piece, g_is_piece, F_is_piece⟩ := d_is_piece
  obtain ⟨k_is_over, g_is_over, F_is_over⟩ := d_is_over
  obtain ⟨k_plain, g_plain, F_plain⟩ := d_plain
  obtain ⟨k_is_gift, g_is_gift, F_is_gift⟩ := d_is_gift
  obtain ⟨k_plain_gift, g_plain_gift, F_plain_gift⟩ := d_plain_gift
  obtain ⟨k_given_by, g_given_by, F_given_by⟩ := d_given_by
  obtain ⟨k_ticks_for, g_ticks_for, F_ticks_for⟩ := d_ticks_for
  obtain ⟨k_first_tick, g_first_tick, F_first_tick⟩ := d_first_tick
  obtain ⟨k__law_draws, g__law_draws, F__law_draws⟩ := d__law_draws
  obtain ⟨k__law_mix, g__law_mix, F__law_mix⟩ := d__law_mix
  obtain ⟨k__law_pieces, g__law_pieces, F__law_pieces⟩ := d__law_pieces
  obtain ⟨k__law_gives, g__law_gives, F__law_gives⟩ := d__law_gives
  obtain ⟨k__law_is_least, g__law_is_least, F__law_is_least⟩ := d__law_is_least
  obtain ⟨k__law_plain, g__law_plain, F__law_plain⟩ := d__law_plain
  obtain ⟨k__law_refused, g__law_refused, F__law_refused⟩ := d__law_refused
  obtain ⟨k__law_is_gift, g__law_is_gift, F__law_is_gift⟩ := d__law_is_gift
  obtain ⟨k_law, g_law, F_law⟩ := d_law
  obtain ⟨XF, _⟩ := xf
  have e : f_law = fa := by have e := g_law.symm.trans hfa; cases e; rfl
  subst e
  refine ⟨{
    xf := XF
    b_abs := PySem.W.mg_none_of X G z_abs
    b_all := PySem.W.mg_none_of X G z_all
    b_bool := PySem.W.mg_none_of X G z_bool
    b_enumerate := PySem.W.mg_none_of X G z_enumerate
    b_int := PySem.W.mg_none_of X G z_int
    b_isinstance := PySem.W.mg_none_of X G z_isinstance
    b_len := PySem.W.mg_none_of X G z_len
    b_max := PySem.W.mg_none_of X G z_max
    b_min := PySem.W.mg_none_of X G z_min
    b_range := PySem.W.mg_none_of X G z_range
    b_repr := PySem.W.mg_none_of X G z_repr
    b_set := PySem.W.mg_none_of X G z_set
    b_sorted := PySem.W.mg_none_of X G z_sorted
    b_tuple := PySem.W.mg_none_of X G z_tuple
    tc_GREATEST_RATE := t_GREATEST_RATE
    c_GREATEST_RATE := PySem.W.mg_of X G z_GREATEST_RATE
    a_is_piece := f_is_piece
    fd_is_piece := k_is_piece
    f_is_piece := F_is_piece
    g_is_piece := g_is_piece
    d_is_piece := F_is_piece.binds (ps := ["burst", "rate"]) fun _ _ _ _ _ _ us hl => match us, hl with | [_, _], _ => rfl
    a_is_over := f_is_over
    fd_is_over := k_is_over
    f_is_over := F_is_over
    g_is_over := g_is_over
    d_is_over := F_is_over.binds (ps := ["first", "middle", "last"]) fun _ _ _ _ _ _ us hl => match us, hl with | [_, _, _], _ => rfl
    a_plain := f_plain
    fd_plain := k_plain
    f_plain := F_plain
    g_plain := g_plain
    d_plain := F_plain.binds (ps := ["pieces"]) fun _ _ _ _ _ _ us hl => match us, hl with | [_], _ => rfl
    a_is_gift := f_is_gift
    fd_is_gift := k_is_gift
    f_is_gift := F_is_gift
    g_is_gift := g_is_gift
    d_is_gift := F_is_gift.binds (ps := ["gift"]) fun _ _ _ _ _ _ us hl => match us, hl with | [_], _ => rfl
    a_plain_gift := f_plain_gift
    fd_plain_gift := k_plain_gift
    f_plain_gift := F_plain_gift
    g_plain_gift := g_plain_gift
    d_plain_gift := F_plain_gift.binds (ps := ["wait", "pieces"]) fun _ _ _ _ _ _ us hl => match us, hl with | [_, _], _ => rfl
    a_given_by := f_given_by
    fd_given_by := k_given_by
    f_given_by := F_given_by
    g_given_by := g_given_by
    d_given_by := F_given_by.binds (ps := ["gift", "tick"]) fun _ _ _ _ _ _ us hl => match us, hl with | [_, _], _ => rfl
    a_ticks_for := f_ticks_for
    fd_ticks_for := k_ticks_for
    f_ticks_for := F_ticks_for
    g_ticks_for := g_ticks_for
    d_ticks_for := F_ticks_for.binds (ps := ["size", "burst", "rate"]) fun _ _ _ _ _ _ us hl => match us, hl with | [_, _, _], _ => rfl
    a_first_tick := f_first_tick
    fd_first_tick := k_first_tick
    f_first_tick := F_first_tick
    g_first_tick := g_first_tick
    d_first_tick := F_first_tick.binds (ps := ["gift", "size"]) fun _ _ _ _ _ _ us hl => match us, hl with | [_, _], _ => rfl
    a__law_draws := f__law_draws
    fd__law_draws := k__law_draws
    f__law_draws := F__law_draws
    g__law_draws := g__law_draws
    d__law_draws := F__law_draws.binds (ps := ["script"]) fun _ _ _ _ _ _ us hl => match us, hl with | [_], _ => rfl
    a__law_mix := f__law_mix
    fd__law_mix := k__law_mix
    f__law_mix := F__law_mix
    g__law_mix := g__law_mix
    d__law_mix := F__law_mix.binds (ps := ["draws", "k", "many"]) fun _ _ _ _ _ _ us hl => match us, hl with | [_, _, _], _ => rfl
    a__law_pieces := f__law_pieces
    fd__law_pieces := k__law_pieces
    f__law_pieces := F__law_pieces
    g__law_pieces := g__law_pieces
    d__law_pieces := F__law_pieces.binds (ps := ["draws", "k", "top"]) fun _ _ _ _ _ _ us hl => match us, hl with | [_, _, _], _ => rfl
    a__law_gives := f__law_gives
    fd__law_gives := k__law_gives
    f__law_gives := F__law_gives
    g__law_gives := g__law_gives
    d__law_gives := F__law_gives.binds (ps := ["wait", "pieces", "tick"]) fun _ _ _ _ _ _ us hl => match us, hl with | [_, _, _], _ => rfl
    a__law_is_least := f__law_is_least
    fd__law_is_least := k__law_is_least
    f__law_is_least := F__law_is_least
    g__law_is_least := g__law_is_least
    d__law_is_least := F__law_is_least.binds (ps := ["piece", "pieces"]) fun _ _ _ _ _ _ us hl => match us, hl with | [_, _], _ => rfl
    a__law_plain := f__law_plain
    fd__law_plain := k__law_plain
    f__law_plain := F__law_plain
    g__law_plain := g__law_plain
    d__law_plain := F__law_plain.binds (ps := ["pieces"]) fun _ _ _ _ _ _ us hl => match us, hl with | [_], _ => rfl
    a__law_refused := f__law_refused
    fd__law_refused := k__law_refused
    f__law_refused := F__law_refused
    g__law_refused := g__law_refused
    d__law_refused := F__law_refused.binds (ps := ["wait", "pieces"]) fun _ _ _ _ _ _ us hl => match us, hl with | [_, _], _ => rfl
    a__law_is_gift := f__law_is_gift
    fd__law_is_gift := k__law_is_gift
    f__law_is_gift := F__law_is_gift
    g__law_is_gift := g__law_is_gift
    d__law_is_gift := F__law_is_gift.binds (ps := ["wait", "pieces"]) fun _ _ _ _ _ _ us hl => match us, hl with | [_, _], _ => rfl
    a_law := f_law
    fd_law := k_law
    f_law := F_law
    g_law := g_law
    d_law := F_law.binds (ps := ["script"]) fun _ _ _ _ _ _ us hl => match us, hl with | [_], _ => rfl }, rfl, fun s u => ?_⟩
  obtain ⟨oc, od, kV, doc, pm, an, cdv, ct, osl, rfl, lk, hcd⟩ := F_law.ex
  exact .of_eq rfl
theorem law_F {l : PySem.W.OpenLaw} {w : World} {K : PySem.W.Frag} {mg : Str → Option Value} {fa : Addr} (T : ∃ T : Top K mg, T.a_law = fa ∧ ∀ (s : Shared) (u : Value), BindsTo s T.fd_law ⟨[u], []⟩ [("script", u)]) :
    ∃ fd : FuncData, (∀ (s : Shared) (u : Value), BindsTo s fd ⟨[u], []⟩ [("script", u)]) ∧ ∀ base : Heap, K.In base → base.Ns mainGlobals mg → FnG l.prog w K mg base CX0 5 fa fd ["script"] (spF (t1 (rQ K rI)) rB vc_law m_law) := by
  obtain ⟨T, rfl, hb⟩ := T
  exact ⟨_, hb, fun base _ _ => ok_law T⟩
end L3
open PySem PySem.W PyProof.Rows
set_option maxHeartbeats 0 in
theorem PySem.Challenge.cw_spoolbox_k59_gifts_and_their_pieces_holds : PySem.Challenge.rw_spoolbox_k59_gifts_and_their_pieces.Holds := by
  w_on; o_law; k_head; (case hw => w_witness2)
  k_fill
  refine L3.walk_ofG (l := PySem.Challenge.rw_spoolbox_k59_gifts_and_their_pieces) (n := 63) (k := 5) (x := "script") (vc := L3.vc_law) (m := L3.m_law) rfl (by decide) rfl ⟨rfl, by decide, by decide⟩ (fun w h Y => PySem.W.kIn_of Y) ?F L3.law_true
  case F =>
    intro w mg fa h KX G hmg
    refine' L3.law_F (L3.top_of KX G hmg ⟨_, L3.defAt KX G ?a0 ?l0 ?c0 ?k0⟩ ⟨_, L3.defAt KX G ?a1 ?l1 ?c1 ?k1⟩ ⟨_, L3.defAt KX G ?a2 ?l2 ?c2 ?k2⟩ ⟨_, L3.defAt KX G ?a3 ?l3 ?c3 ?k3⟩ ⟨_, L3.defAt KX G ?a4 ?l4 ?c4 ?k4⟩ ⟨_, L3.defAt KX G ?a5 ?l5 ?c5 ?k5⟩ ⟨_, L3.defAt KX G ?a6 ?l6 ?c6 ?k6⟩ ⟨_, L3.defAt KX G ?a7 ?l7 ?c7 ?k7⟩ ⟨_, L3.defAt KX G ?a8 ?l8 ?c8 ?k8⟩ ⟨_, L3.defAt KX G ?a9 ?l9 ?c9 ?k9⟩ ⟨_, L3.defAt KX G ?a10 ?l10 ?c10 ?k10⟩ ⟨_, L3.defAt KX G ?a11 ?l11 ?c11 ?k11⟩ ⟨_, L3.defAt KX G ?a12 ?l12 ?c12 ?k12⟩ ⟨_, L3.defAt KX G ?a13 ?l13 ?c13 ?k13⟩ ⟨_, L3.defAt KX G ?a14 ?l14 ?c14 ?k14⟩ ⟨_, L3.defAt KX G ?a15 ?l15 ?c15 ?k15⟩ ⟨_, L3.defAt KX G ?a16 ?l16 ?c16 ?k16⟩ (L3.exf_mk KX G (fun F => F.binds (ps := ["self", "at"]) fun _ _ _ _ _ _ us hl => match us, hl with | [_, _], _ => rfl) (L3.oex_mk ?xl ?xr ?xs1 ?xs2 ?xs3 ?xs4) ?xa1 ?xa2 ?xi1 ?xi2 ⟨_, L2.fun_mk ?xf1 ?xf2 ?xf3⟩ ?xn ?xv0 ?xv1 ⟨?xe1, ?xe2, ?xs2, ?xe3, ?xe4, ?xe5, ?xe6, ?xe7⟩ ?xm1 ?xm2 ?xm3 ?xm4) ?z_abs ?z_all ?z_bool ?z_enumerate ?z_int ?z_isinstance ?z_len ?z_max ?z_min ?z_range ?z_repr ?z_set ?z_sorted ?z_tuple ?z_GREATEST_RATE)
    (case a0 => k_is)
    (case l0 => k_is)
    (case c0 => k_is)
    (case k0 => k_is)
    (case a1 => k_is)
    (case l1 => k_is)
    (case c1 => k_is)
    (case k1 => k_is)
    (case a2 => k_is)
    (case l2 => k_is)
    (case c2 => k_is)
    (case k2 => k_is)
    (case a3 => k_is)
    (case l3 => k_is)
    (case c3 => k_is)
    (case k3 => k_is)
    (case a4 => k_is)
    (case l4 => k_is)
    (case c4 => k_is)
    (case k4 => k_is)
    (case a5 => k_is)
    (case l5 => k_is)
    (case c5 => k_is)
    (case k5 => k_is)
    (case a6 => k_is)
    (case l6 => k_is)
    (case c6 => k_is)
    (case k6 => k_is)
    (case a7 => k_is)
    (case l7 => k_is)
    (case c7 => k_is)
    (case k7 => k_is)
    (case a8 => k_is)
    (case l8 => k_is)
    (case c8 => k_is)
    (case k8 => k_is)
    (case a9 => k_is)
    (case l9 => k_is)
    (case c9 => k_is)
    (case k9 => k_is)
    (case a10 => k_is)
    (case l10 => k_is)
    (case c10 => k_is)
    (case k10 => k_is)
    (case a11 => k_is)
    (case l11 => k_is)
    (case c11 => k_is)
    (case k11 => k_is)
    (case a12 => k_is)
    (case l12 => k_is)
    (case c12 => k_is)
    (case k12 => k_is)
    (case a13 => k_is)
    (case l13 => k_is)
    (case c13 => k_is)
    (case k13 => k_is)
    (case a14 => k_is)
    (case l14 => k_is)
    (case c14 => k_is)
    (case k14 => k_is)
    (case a15 => k_is)
    (case l15 => k_is)
    (case c15 => k_is)
    (case k15 => k_is)
    (case a16 => k_is)
    (case l16 => k_is)
    (case c16 => k_is)
    (case k16 => k_is)
    (case xa1 => k_is)
    (case xa2 => k_is)
    (case xl => k_is)
    (case xr => exact ⟨_, _, _, _, _, _, _, _, _, _, _, _, _, _, _, rfl, rfl⟩)
    (case xs1 => k_is)
    (case xs2 => k_is)
    (case xs3 => k_is)
    (case xs4 => k_is)
    (case xi1 => k_is)
    (case xi2 => k_is)
    (case xf1 => k_is)
    (case xf2 => k_is)
    (case xf3 => k_is)
    (case xn => k_is)
    (case xv0 => k_is)
    (case xv1 => k_is)
    (case xe1 => k_is)
    (case xe2 => k_is)
    (case xe3 => k_is)
    (case xe4 => k_is)
    (case xe5 => k_is)
    (case xe6 => k_is)
    (case xe7 => k_is)
    (case xm1 => k_is)
    (case xm2 => k_is)
    (case xm3 => k_is)
    (case xm4 => k_is)
    (case z_abs => k_is)
    (case z_all => k_is)
    (case z_bool => k_is)
    (case z_enumerate => k_is)
    (case z_int => k_is)
    (case z_isinstance => k_is)
    (case z_len => k_is)
    (case z_max => k_is)
    (case z_min => k_is)
    (case z_range => k_is)
    (case z_repr => k_is)
    (case z_set => k_is)
    (case z_sorted => k_is)
    (case z_tuple => k_is)
    (case z_GREATEST_RATE => k_is)
