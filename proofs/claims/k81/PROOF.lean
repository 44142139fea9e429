import PyProof.Rows.All
import Wide.All
import OpenK.AllK
import Wide.FinOn
import HandS.ForMost
import HandS.ForExc
import HandS.Walk
import HandS.Star
import HandS.Defaults
import HandS.Wide
import HandS.Gcd
import HandS.Flow
import HandS.IsInst
import HandS.HeadHook4
import HandS.ExcIs
import HandS.Head0
import HandS.Head1
import HandS.Head2
import HandS.Head3
import HandS.HeadWalk
import PySem.Challenge.RW_fairstart_k81_weights_that_rest
set_option Elab.async false
section
set_option Elab.async false
set_option linter.all false
set_option maxRecDepth 100000
namespace Wk
open PySem L2

abbrev Fg := PySem.W.Frag
abbrev Sg := L2.St

/-! ### results of a mirror -/
structure Ex where
  name : Str
  args : List (Str × PyData) := []

/-- ok: the value; ex: an exception of the program is raised; no: nothing is told -/
inductive R (α : Type u) : Type u where
  | ok (a : α) | ex (e : Ex) | no

def R.bind {α : Type u} {β : Type v} (m : R α) (k : α → R β) : R β := match m with
  | .ok a => k a
  | .ex e => .ex e
  | .no => .no
def R.bindX {α : Type u} {β : Type v} (m : R α) (k : α → R β) (h : Ex → R β) : R β := match m with
  | .ok a => k a
  | .ex e => h e
  | .no => .no
/-- an exception is told of no more -/
def R.noex {α : Type u} (m : R α) : R α := match m with
  | .ok a => .ok a
  | _ => .no
def R.chk (c : Prop) [Decidable c] {α : Type u} (m : R α) : R α := if c then m else .no
section
variable {α : Type u} {β : Type v} {a : α} {e : Ex} {k : α → R β} {h : Ex → R β}
@[simp] theorem R.bind_ok : R.bind (.ok a) k = k a := rfl
@[simp] theorem R.bind_ex : R.bind (.ex e) k = .ex e := rfl
@[simp] theorem R.bind_no : R.bind .no k = .no := rfl
@[simp] theorem R.bindX_ok : R.bindX (.ok a) k h = k a := rfl
@[simp] theorem R.bindX_ex : R.bindX (.ex e) k h = h e := rfl
@[simp] theorem R.bindX_no : R.bindX .no k h = .no := rfl
@[simp] theorem R.noex_ok : R.noex (.ok a) = .ok a := rfl
@[simp] theorem R.noex_no : R.noex (.no : R α) = .no := rfl
@[simp] theorem R.noex_ex : R.noex (.ex e : R α) = .no := rfl
theorem R.chk_pos {c : Prop} [Decidable c] {m : R α} (h : c) : R.chk c m = m := if_pos h
theorem R.bind_assoc {γ : Type w} {m : R α} {k2 : β → R γ} : R.bind (R.bind m k) k2 = R.bind m fun x => R.bind (k x) k2 := by cases m <;> rfl
end

/-! ### typed values in a heap -/
class Py (α : Type) where
  rep : Fg → Hp → V → α → Prop
  mono : ∀ {K : Fg} {F F' : Hp} {v : V} {x : α}, Same F F' → rep K F v x → rep K F' v x

theorem same_rd {F F' : Hp} {a : Addr} {u : HO} (e : Same F F') (h : Rd F a u) : Rd F' a u := by
  rcases h with h | ⟨o, h⟩
  · exact .inl (e _ _ h)
  · exact .inr ⟨o, e _ _ h⟩
theorem same_l {K : Fg} {F F' : Hp} {a : Addr} {xs : List V} (e : Same F F') (h : SqL K F a xs) : SqL K F' a xs := by
  rcases h with h | h
  · exact .inl (same_rd e h)
  · exact .inr h
theorem same_t {K : Fg} {F F' : Hp} {a : Addr} {xs : List V} (e : Same F F') (h : SqT K F a xs) : SqT K F' a xs := by
  rcases h with h | h
  · exact .inl (same_rd e h)
  · exact .inr h

abbrev Reps {α : Type} [Py α] (K : Fg) (F : Hp) : List V → List α → Prop := PySem.Paired (Py.rep K F)
theorem Reps.mono {α : Type} [Py α] {K : Fg} {F F' : Hp} {vs : List V} {xs : List α} (e : Same F F') (h : Reps K F vs xs) : Reps K F' vs xs := L2.Paired.mapP h fun _ _ q => Py.mono e q

instance : Py Int where
  rep := fun _ _ v x => v = .int x
  mono := fun _ h => h
instance : Py Bool where
  rep := fun _ _ v x => v = .bl x
  mono := fun _ h => h
instance : Py Str where
  rep := fun _ _ v x => v = .str x
  mono := fun _ h => h
instance : Py Unit where
  rep := fun _ _ v _ => v = .non
  mono := fun _ h => h
instance instPyList {α : Type} [Py α] : Py (List α) where
  rep := fun K F v xs => ∃ a vs, v = .ref a ∧ F a = some (.lst vs) ∧ Reps K F vs xs
  mono := fun e ⟨a, vs, h1, h2, h3⟩ => ⟨a, vs, h1, e _ _ h2, h3.mono e⟩
/-- the script: a list of ints that is only read -/
structure Scr where
  xs : List Int
instance : Py Scr where
  rep := fun K F v x => ∃ a, v = .ref a ∧ SqL K F a (x.xs.map V.int)
  mono := fun e ⟨a, h1, h2⟩ => ⟨a, h1, same_l e h2⟩
instance {α β : Type} [Py α] [Py β] : Py (α × β) where
  rep := fun K F v x => ∃ a v1 v2, v = .ref a ∧ SqT K F a [v1, v2] ∧ Py.rep K F v1 x.1 ∧ Py.rep K F v2 x.2
  mono := fun e ⟨a, v1, v2, h1, h2, h3, h4⟩ => ⟨a, v1, v2, h1, same_t e h2, Py.mono e h3, Py.mono e h4⟩
/-- three in a tuple -/
structure T3 (α β γ : Type) where
  a : α
  b : β
  c : γ
instance {α β γ : Type} [Py α] [Py β] [Py γ] : Py (T3 α β γ) where
  rep := fun K F v x => ∃ a v1 v2 v3, v = .ref a ∧ SqT K F a [v1, v2, v3] ∧ Py.rep K F v1 x.a ∧ Py.rep K F v2 x.b ∧ Py.rep K F v3 x.c
  mono := fun e ⟨a, v1, v2, v3, h1, h2, h3, h4, h5⟩ => ⟨a, v1, v2, v3, h1, same_t e h2, Py.mono e h3, Py.mono e h4, Py.mono e h5⟩
instance {α : Type} [Py α] : Py (Option α) where
  rep := fun K F v x => match x with
    | none => v = .non
    | some y => Py.rep K F v y ∧ v ≠ .non
  mono := fun {K F F' v x} e h => by
    cases x with
    | none => exact h
    | some y => exact ⟨Py.mono e h.1, h.2⟩

/-! ### the frozen part F of a heap H, how both grow -/
structure Ext (F H F' H' : Hp) : Prop where
  ff : Same F F'
  hh : Same H H'
  sub : Same F' H'
  out : ∀ b, H b ≠ none → F b = none → F' b = none
theorem Ext.refl {F H : Hp} (h : Same F H) : Ext F H F H := ⟨Same.refl F, Same.refl H, h, fun _ _ q => q⟩
theorem same_some {H H' : Hp} (e : Same H H') {b : Addr} (h : H b ≠ none) : H' b ≠ none := by
  intro q
  exact h (e.free q)
theorem Ext.trans {F H F1 H1 F2 H2 : Hp} (a : Ext F H F1 H1) (b : Ext F1 H1 F2 H2) : Ext F H F2 H2 :=
  ⟨a.ff.trans b.ff, a.hh.trans b.hh, b.sub, fun c h q => b.out c (same_some a.hh h) (a.out c h q)⟩
/-- a new object, frozen at once -/
theorem Ext.new {F H : Hp} {p : Addr} {o : HO} (h : Same F H) (hp : H p = none) : Ext F H (upd F p o) (upd H p o) := by
  have fp : F p = none := h.free hp
  refine ⟨fun b u e => ?_, fun b u e => ?_, fun b u e => ?_, fun b h1 h2 => ?_⟩
  · rw [upd_ne (ne_of_none e fp)]; exact e
  · rw [upd_ne (ne_of_none e hp)]; exact e
  · by_cases hb : b = p
    · subst hb; rw [upd_same] at e ⊢; exact e
    · rw [upd_ne hb] at e ⊢; exact h b u e
  · have hb : b ≠ p := fun e => h1 (by rw [e]; exact hp)
    rw [upd_ne hb]; exact h2
/-- a new object, not frozen -/
theorem Ext.cell {F H : Hp} {p : Addr} {o : HO} (h : Same F H) (hp : H p = none) : Ext F H F (upd H p o) := by
  have e0 : Same H (upd H p o) := fun b u e => by rw [upd_ne (ne_of_none e hp)]; exact e
  exact ⟨Same.refl F, e0, h.trans e0, fun _ _ q => q⟩
/-- a cell is frozen -/
theorem Ext.freeze {F H F' H' : Hp} {p : Addr} {o : HO} (e : Ext F H F' H') (hn : H p = none) (hf : F' p = none) (hp : H' p = some o) : Ext F H (upd F' p o) H' := by
  refine ⟨fun b u q => ?_, e.hh, fun b u q => ?_, fun b h1 h2 => ?_⟩
  · rw [upd_ne (ne_of_none (e.ff b u q) hf)]; exact e.ff b u q
  · by_cases hb : b = p
    · subst hb; rw [upd_same] at q; rw [← q]; exact hp
    · rw [upd_ne hb] at q; exact e.sub b u q
  · have hb : b ≠ p := fun q => h1 (by rw [q]; exact hn)
    rw [upd_ne hb]; exact e.out b h1 h2

/-! ### slots -/
/-- how a value that a def alone holds lies in the heap: its cells -/
structure Ow (α : Type) where
  ow : Fg → Hp → Hp → V → α → List Addr → Prop
  mono : ∀ {K : Fg} {F F' H H' : Hp} {v : V} {x : α} {cs : List Addr}, Same F F' → (∀ c ∈ cs, ∀ u, H c = some u → H' c = some u) → ow K F H v x cs → ow K F' H' v x cs
  cell : ∀ {K : Fg} {F H : Hp} {v : V} {x : α} {cs : List Addr}, ow K F H v x cs → ∀ c ∈ cs, H c ≠ none
/-- a list, its items frozen -/
def Ow.list {α : Type} (i : Py α) : Ow (List α) where
  ow := fun K F H v xs cs => ∃ p vs, v = .ref p ∧ H p = some (.lst vs) ∧ Reps K F vs xs ∧ cs = [p]
  mono := fun s k ⟨p, vs, h1, h2, h3, h4⟩ => ⟨p, vs, h1, k p (by rw [h4]; exact List.mem_singleton_self p) _ h2, h3.mono s, h4⟩
  cell := fun ⟨p, vs, h1, h2, h3, h4⟩ c hc => by
    rw [h4] at hc
    rw [List.mem_singleton.mp hc, h2]
    exact fun q => nomatch q
inductive OReps {α : Type} (o : Ow α) (K : Fg) (F H : Hp) : List V → List α → List (List Addr) → Prop where
  | nil : OReps o K F H [] [] []
  | cons {v : V} {x : α} {c : List Addr} {vs : List V} {xs : List α} {css : List (List Addr)} : o.ow K F H v x c → OReps o K F H vs xs css → OReps o K F H (v :: vs) (x :: xs) (c :: css)
theorem OReps.mono {α : Type} {o : Ow α} {K : Fg} {F F' H H' : Hp} (s : Same F F') : ∀ {vs : List V} {xs : List α} {css : List (List Addr)}, (∀ c ∈ css.flatten, ∀ u, H c = some u → H' c = some u) → OReps o K F H vs xs css → OReps o K F' H' vs xs css
  | _, _, _, _, .nil => .nil
  | _, _, _, k, .cons h t => .cons (o.mono s (fun c hc => k c (by rw [List.flatten_cons]; exact List.mem_append_left _ hc)) h) (OReps.mono s (fun c hc => k c (by rw [List.flatten_cons]; exact List.mem_append_right _ hc)) t)
theorem OReps.cell {α : Type} {o : Ow α} {K : Fg} {F H : Hp} : ∀ {vs : List V} {xs : List α} {css : List (List Addr)}, OReps o K F H vs xs css → ∀ c ∈ css.flatten, H c ≠ none
  | _, _, _, .nil, c, hc => by simp at hc
  | _, _, _, .cons h t, c, hc => by
    rw [List.flatten_cons, List.mem_append] at hc
    rcases hc with hc | hc
    · exact o.cell h c hc
    · exact OReps.cell t c hc
/-- a list, its items held too -/
def Ow.deep {α : Type} (o : Ow α) : Ow (List α) where
  ow := fun K F H v xs cs => ∃ p vs css, v = .ref p ∧ H p = some (.lst vs) ∧ OReps o K F H vs xs css ∧ cs = p :: css.flatten
  mono := fun s k ⟨p, vs, css, h1, h2, h3, h4⟩ => ⟨p, vs, css, h1, k p (by rw [h4]; exact List.mem_cons_self) _ h2, h3.mono s fun c hc => k c (by rw [h4]; exact List.mem_cons_of_mem _ hc), h4⟩
  cell := fun ⟨p, vs, css, h1, h2, h3, h4⟩ c hc => by
    rw [h4] at hc
    rcases List.mem_cons.mp hc with e | hc
    · rw [e, h2]; exact fun q => nomatch q
    · exact h3.cell c hc
inductive Slot : Type 1 where
  | any
  | val {α : Type} (i : Py α) (x : α)
  | own {α : Type} (i : Ow α) (x : α)
abbrev sv {α : Type} [i : Py α] (x : α) : Slot := .val i x
abbrev so {α : Type} [i : Py α] (x : List α) : Slot := .own (Ow.list i) x

def SlotC (K : Fg) (F H : Hp) : Slot → Option V → List Addr → Prop
  | .any, _, cs => cs = []
  | .val i x, o, cs => (∃ v, o = some v ∧ i.rep K F v x) ∧ cs = []
  | .own i x, o, cs => ∃ v, o = some v ∧ i.ow K F H v x cs

inductive SOk (K : Fg) (F H : Hp) : List Slot → Sg → List Addr → Prop where
  | nil : SOk K F H [] [] []
  | cons {s : Slot} {o : Option V} {c : List Addr} {G : List Slot} {σ : Sg} {cs : List Addr} : SlotC K F H s o c → SOk K F H G σ cs → SOk K F H (s :: G) (o :: σ) (c ++ cs)

section
variable {K : Fg} {F F' H0 H H' : Hp} {G : List Slot} {σ : Sg} {s : Slot} {o : Option V} {cs : List Addr}
theorem SlotC.mono (a : Same F F') (k : ∀ c ∈ cs, ∀ u, H c = some u → H' c = some u) (h : SlotC K F H s o cs) : SlotC K F' H' s o cs := by
  cases s with
  | any => exact h
  | val i x => obtain ⟨⟨v, h1, h2⟩, h3⟩ := h; exact ⟨⟨v, h1, Py.mono a h2⟩, h3⟩
  | own i x => obtain ⟨v, h1, h2⟩ := h; exact ⟨v, h1, i.mono a k h2⟩
theorem SlotC.cell (h : SlotC K F H s o cs) : ∀ c ∈ cs, H c ≠ none := by
  cases s with
  | any => intro c hc; rw [show cs = [] from h] at hc; simp at hc
  | val i x => intro c hc; rw [h.2] at hc; simp at hc
  | own i x => obtain ⟨v, h1, h2⟩ := h; exact i.cell h2
theorem SOk.mono (a : Same F F') : ∀ {G : List Slot} {σ : Sg} {cs : List Addr}, (∀ c ∈ cs, ∀ u, H c = some u → H' c = some u) → SOk K F H G σ cs → SOk K F' H' G σ cs
  | _, _, _, _, .nil => .nil
  | _, _, _, k, .cons h t => .cons (h.mono a fun c hc => k c (List.mem_append_left _ hc)) (SOk.mono a (fun c hc => k c (List.mem_append_right _ hc)) t)
theorem SOk.cell : ∀ {G : List Slot} {σ : Sg} {cs : List Addr}, SOk K F H G σ cs → ∀ c ∈ cs, H c ≠ none
  | _, _, _, .nil, c, hc => by simp at hc
  | _, _, _, .cons h t, c, hc => by
    rw [List.mem_append] at hc
    rcases hc with hc | hc
    · exact h.cell c hc
    · exact SOk.cell t c hc
theorem SOk.length : ∀ {G : List Slot} {σ : Sg} {cs : List Addr}, SOk K F H G σ cs → σ.length = G.length
  | _, _, _, .nil => rfl
  | _, _, _, .cons _ t => by simp [SOk.length t]
/-- one slot apart: it may change, the heap may change off the others' cells -/
theorem SOk.split : ∀ {G : List Slot} {σ : Sg} {cs : List Addr} {n : Nat} {s : Slot}, SOk K F H G σ cs → G[n]? = some s →
    ∃ o c cr, σ[n]? = some o ∧ SlotC K F H s o c ∧ cs.Perm (c ++ cr) ∧ ∀ F2 H2, Same F F2 → (∀ b ∈ cr, ∀ u, H b = some u → H2 b = some u) → ∀ s' o' c', SlotC K F2 H2 s' o' c' → ∃ cs', SOk K F2 H2 (G.set n s') (σ.set n o') cs' ∧ cs'.Perm (c' ++ cr)
  | _, _, _, _, _, .nil, h => by simp at h
  | _, _, _, 0, _, .cons (o := o) (c := c) (cs := cs) h t, e => by
    simp at e; subst e
    exact ⟨o, c, cs, rfl, h, .refl _, fun F2 H2 a k s' o' c' h' => ⟨c' ++ cs, .cons h' (t.mono a k), .refl _⟩⟩
  | _, _, _, n + 1, _, .cons (c := c0) (cs := cs0) h t, e => by
    simp at e
    obtain ⟨o, c, cr, h1, h2, h3, h4⟩ := SOk.split t e
    refine ⟨o, c, c0 ++ cr, by simpa using h1, h2, ?_, fun F2 H2 a k s' o' c' h' => ?_⟩
    · exact (h3.append_left c0).trans ((List.perm_append_comm_assoc c0 c cr))
    · obtain ⟨cs', q1, q2⟩ := h4 F2 H2 a (fun b hb => k b (List.mem_append_right _ hb)) s' o' c' h'
      exact ⟨c0 ++ cs', .cons (h.mono a fun b hb => k b (List.mem_append_left _ hb)) q1, (q2.append_left c0).trans (List.perm_append_comm_assoc c0 c' cr)⟩
end

/-! ### argument lists -/
class PyA (A : Type) where
  len : Nat
  reps : Fg → Hp → List V → A → Prop
  slots : A → List Slot
  mono : ∀ {K : Fg} {F F' : Hp} {vs : List V} {x : A}, Same F F' → reps K F vs x → reps K F' vs x
  hlen : ∀ {K : Fg} {F : Hp} {vs : List V} {x : A}, reps K F vs x → vs.length = len
  hok : ∀ {K : Fg} {F H : Hp} {vs : List V} {x : A}, reps K F vs x → SOk K F H (slots x) (vs.map some) []
instance : PyA Unit where
  len := 0
  reps := fun _ _ vs _ => vs = []
  slots := fun _ => []
  mono := fun _ h => h
  hlen := fun h => by rw [h]; rfl
  hok := fun h => by rw [h]; exact .nil
instance instPyACons {α A : Type} [i : Py α] [PyA A] : PyA (α × A) where
  len := PyA.len A + 1
  reps := fun K F vs x => ∃ v ws, vs = v :: ws ∧ Py.rep K F v x.1 ∧ PyA.reps K F ws x.2
  slots := fun x => .val i x.1 :: PyA.slots x.2
  mono := fun e ⟨v, ws, h1, h2, h3⟩ => ⟨v, ws, h1, Py.mono e h2, PyA.mono e h3⟩
  hlen := fun ⟨v, ws, h1, h2, h3⟩ => by rw [h1, List.length_cons, PyA.hlen h3]
  hok := fun {K F H vs x} ⟨v, ws, h1, h2, h3⟩ => by
    subst h1
    have q := PyA.hok (H := H) h3
    exact .cons (c := []) (cs := []) ⟨⟨v, rfl, h2⟩, rfl⟩ q

/-! ### a state: the base (F0, H0) of the def's entry, the frozen F, the heap H, the slots -/
structure Sta (K : Fg) (F0 H0 F H : Hp) (σ : Sg) (G : List Slot) : Prop where
  ext : Ext F0 H0 F H
  ok : ∃ cs, SOk K F H G σ cs ∧ cs.Nodup ∧ ∀ c ∈ cs, F c = none ∧ H0 c = none
section
variable {K : Fg} {F0 H0 F F' H H' : Hp} {G : List Slot} {σ : Sg}
theorem Sta.mono (e : Ext F H F' H') (s : Sta K F0 H0 F H σ G) : Sta K F0 H0 F' H' σ G := by
  obtain ⟨cs, h1, h2, h3⟩ := s.ok
  exact ⟨s.ext.trans e, cs, h1.mono e.ff fun c _ => e.hh c, h2, fun c hc => ⟨e.out c (h1.cell c hc) (h3 c hc).1, (h3 c hc).2⟩⟩
theorem Sta.sub (s : Sta K F0 H0 F H σ G) : Same F H := s.ext.sub
theorem Sta.len (s : Sta K F0 H0 F H σ G) : σ.length = G.length := by
  obtain ⟨cs, h1, h2, h3⟩ := s.ok
  exact h1.length
/-- a slot is laid anew, its cells new -/
theorem Sta.put {s : Slot} {o : Option V} {c : List Addr} (i : Nat) (S : Sta K F0 H0 F H σ G) (e : Ext F H F' H') (h : SlotC K F' H' s o c) (nd : c.Nodup) (fr : ∀ q ∈ c, H q = none ∧ F' q = none) : Sta K F0 H0 F' H' (σ.set i o) (G.set i s) := by
  have S2 := S.mono e
  cases hg : G[i]? with
  | none =>
    have hl := List.getElem?_eq_none_iff.mp hg
    rw [List.set_eq_of_length_le hl, List.set_eq_of_length_le (by rw [S.len]; exact hl)]
    exact S2
  | some s0 =>
    obtain ⟨cs, h1, h2, h3⟩ := S.ok
    have old := h1.cell
    obtain ⟨o0, c0, cr, q1, q2, q3, q4⟩ := h1.split hg
    obtain ⟨cs', r1, r2⟩ := q4 F' H' e.ff (fun b _ => e.hh b) s o c h
    have nd2 := q3.nodup_iff.mp h2
    rw [List.nodup_append] at nd2
    refine ⟨S2.ext, cs', r1, ?_, fun b hb => ?_⟩
    · rw [r2.nodup_iff, List.nodup_append]
      exact ⟨nd, nd2.2.1, fun a ha b hb z => by
        subst z
        exact old a (q3.mem_iff.mpr (List.mem_append_right _ hb)) (fr a ha).1⟩
    · rcases List.mem_append.mp (r2.mem_iff.mp hb) with hb | hb
      · exact ⟨(fr b hb).2, S.ext.hh.free (fr b hb).1⟩
      · have hm := q3.mem_iff.mpr (List.mem_append_right _ hb)
        exact ⟨e.out b (old b hm) (h3 b hm).1, (h3 b hm).2⟩
theorem Sta.setV {α : Type} [Py α] {x : α} {v : V} (i : Nat) (S : Sta K F0 H0 F H σ G) (h : Py.rep K F v x) : Sta K F0 H0 F H (σ.set i (some v)) (G.set i (.val (α := α) inferInstance x)) :=
  S.put i (Ext.refl S.sub) (c := []) ⟨⟨v, rfl, h⟩, rfl⟩ List.nodup_nil fun q hq => by simp at hq
theorem Sta.setAny {o : Option V} (i : Nat) (S : Sta K F0 H0 F H σ G) : Sta K F0 H0 F H (σ.set i o) (G.set i .any) :=
  S.put i (Ext.refl S.sub) (c := []) rfl List.nodup_nil fun q hq => by simp at hq
theorem Sta.getV {α : Type} {i : Py α} {x : α} {n : Nat} (S : Sta K F0 H0 F H σ G) (h : G[n]? = some (.val i x)) : ∃ o, σ[n]? = some o ∧ ∃ v, o = some v ∧ i.rep K F v x := by
  obtain ⟨cs, h1, h2, h3⟩ := S.ok
  obtain ⟨o, c, cr, q1, q2, q3, q4⟩ := h1.split h
  exact ⟨o, q1, q2.1⟩
theorem set_same {α : Type} {l : List α} {n : Nat} {o : α} (h : l[n]? = some o) : l.set n o = l := by
  obtain ⟨h1, h2⟩ := List.getElem?_eq_some_iff.mp h
  rw [← h2, List.set_getElem_self]
/-- an own slot: how it lies; it may change, and what it holds -/
theorem Sta.own {α : Type} {i : Ow α} {x : α} {n : Nat} (S : Sta K F0 H0 F H σ G) (h : G[n]? = some (.own i x)) : ∃ v cs, σ[n]? = some (some v) ∧ i.ow K F H v x cs ∧ cs.Nodup ∧ (∀ c ∈ cs, F c = none ∧ H0 c = none) ∧
    ∀ F2 H2 s' v' c', Same F F2 → (∀ b u, b ∉ cs → H b = some u → H2 b = some u) → Same F2 H2 → (∀ b, F b = none → F2 b ≠ none → b ∈ cs ∨ H b = none) → SlotC K F2 H2 s' (some v') c' → c'.Nodup → (∀ c ∈ c', F2 c = none ∧ (c ∈ cs ∨ H c = none)) →
      Sta K F0 H0 F2 H2 (σ.set n (some v')) (G.set n s') := by
  obtain ⟨cs, h1, h2, h3⟩ := S.ok
  have old := h1.cell
  obtain ⟨o, c, cr, q1, ⟨v, q2, q2'⟩, q3, q4⟩ := h1.split h
  subst q2
  have nd := q3.nodup_iff.mp h2
  rw [List.nodup_append] at nd
  have inc : ∀ b ∈ c, F b = none ∧ H0 b = none := fun b hb => h3 b (q3.mem_iff.mpr (List.mem_append_left _ hb))
  have inr : ∀ b ∈ cr, b ∉ c ∧ H b ≠ none ∧ F b = none ∧ H0 b = none := fun b hb => by
    have hm := q3.mem_iff.mpr (List.mem_append_right c hb)
    exact ⟨fun z => nd.2.2 b z b hb rfl, old b hm, h3 b hm⟩
  refine ⟨v, c, q1, q2', nd.1, inc, fun F2 H2 s' v' c' a k sb fz hs nd' fr => ?_⟩
  obtain ⟨cs', r1, r2⟩ := q4 F2 H2 a (fun b hb u z => k b u (inr b hb).1 z) s' (some v') c' hs
  refine ⟨⟨S.ext.ff.trans a, fun b u z => ?_, sb, fun b z1 z2 => ?_⟩, cs', r1, ?_, fun b hb => ?_⟩
  · exact k b u (fun z2 => by rw [(inc b z2).2] at z; cases z) (S.ext.hh b u z)
  · cases q : F2 b with
    | none => rfl
    | some u =>
      rcases fz b (S.ext.out b z1 z2) (by rw [q]; exact fun z => nomatch z) with z | z
      · exact absurd (inc b z).2 z1
      · exact absurd (S.ext.hh.free z) z1
  · rw [r2.nodup_iff, List.nodup_append]
    refine ⟨nd', nd.2.1, fun a ha b hb z => ?_⟩
    subst z
    rcases (fr a ha).2 with z | z
    · exact (inr a hb).1 z
    · exact (inr a hb).2.1 z
  · rcases List.mem_append.mp (r2.mem_iff.mp hb) with hb | hb
    · refine ⟨(fr b hb).1, ?_⟩
      rcases (fr b hb).2 with z | z
      · exact (inc b z).2
      · exact S.ext.hh.free z
    · obtain ⟨z1, z2, z3, z4⟩ := inr b hb
      refine ⟨?_, z4⟩
      cases q : F2 b with
      | none => rfl
      | some u =>
        rcases fz b z3 (by rw [q]; exact fun z => nomatch z) with z | z
        · exact absurd z z1
        · exact absurd z z2
/-- an own list: its cell; the cell may be written -/
theorem Sta.ownL {α : Type} {i : Py α} {xs : List α} {n : Nat} (S : Sta K F0 H0 F H σ G) (h : G[n]? = some (.own (Ow.list i) xs)) : ∃ o, σ[n]? = some o ∧ ∃ p vs, o = some (.ref p) ∧ F p = none ∧ H0 p = none ∧ H p = some (.lst vs) ∧ Reps K F vs xs ∧
    ∀ {β : Type} (ib : Py β) (ws : List V) (ys : List β), Reps K F ws ys → Sta K F0 H0 F (upd H p (.lst ws)) σ (G.set n (.own (Ow.list ib) ys)) := by
  obtain ⟨v, cs, h1, ⟨p, vs, h2, h3, h4, h5⟩, h6, h7, h8⟩ := S.own h
  subst h2 h5
  have hp := h7 p (List.mem_singleton_self p)
  refine ⟨_, h1, p, vs, rfl, hp.1, hp.2, h3, h4, fun {β} ib ws ys hr => ?_⟩
  have := h8 F (upd H p (.lst ws)) (.own (Ow.list ib) ys) (.ref p) [p] (Same.refl F) (fun b u hb z => by rw [upd_ne (fun e => hb (by rw [e]; exact List.mem_singleton_self p))]; exact z)
    (fun b u z => by rw [upd_ne (ne_of_none z hp.1)]; exact S.sub b u z) (fun b z1 z2 => absurd z1 z2) ⟨.ref p, rfl, p, ws, rfl, upd_same, hr, rfl⟩ (by simp) (fun c hc => by rw [List.mem_singleton.mp hc]; exact ⟨hp.1, .inl (List.mem_singleton_self p)⟩)
  rw [set_same h1] at this
  exact this
/-- what an own value is, once it is frozen -/
class Fz {α : Type} (i : Ow α) (j : outParam (Py α)) : Prop where
  fz : ∀ {K : Fg} {F F2 H : Hp} {v : V} {x : α} {cs : List Addr}, i.ow K F H v x cs → Same F F2 → (∀ c ∈ cs, ∀ u, H c = some u → F2 c = some u) → j.rep K F2 v x
instance {α : Type} {i : Py α} : Fz (Ow.list i) (@instPyList α i) where
  fz := fun ⟨p, vs, h1, h2, h3, h4⟩ s k => ⟨p, vs, h1, k p (by rw [h4]; exact List.mem_singleton_self p) _ h2, h3.mono s⟩
theorem OReps.fz {α : Type} {o : Ow α} {j : Py α} [Fz o j] {K : Fg} {F F2 H : Hp} (s : Same F F2) : ∀ {vs : List V} {xs : List α} {css : List (List Addr)}, (∀ c ∈ css.flatten, ∀ u, H c = some u → F2 c = some u) → OReps o K F H vs xs css → Reps K F2 vs xs
  | _, _, _, _, .nil => .nil
  | _, _, _, k, .cons h t => .cons (Fz.fz h s fun c hc => k c (by rw [List.flatten_cons]; exact List.mem_append_left _ hc)) (OReps.fz s (fun c hc => k c (by rw [List.flatten_cons]; exact List.mem_append_right _ hc)) t)
instance {α : Type} {o : Ow α} {j : Py α} [Fz o j] : Fz (Ow.deep o) (@instPyList α j) where
  fz := fun ⟨p, vs, css, h1, h2, h3, h4⟩ s k => ⟨p, vs, h1, k p (by rw [h4]; exact List.mem_cons_self) _ h2, h3.fz s fun c hc => k c (by rw [h4]; exact List.mem_cons_of_mem _ hc)⟩
def frz (F H : Hp) (cs : List Addr) : Hp := fun b => if b ∈ cs then H b else F b
theorem frz_facts {cs : List Addr} (s : Same F H) (hc : ∀ c ∈ cs, F c = none) : Same F (frz F H cs) ∧ Same (frz F H cs) H ∧ (∀ c ∈ cs, ∀ u, H c = some u → frz F H cs c = some u) ∧ ∀ b, F b = none → frz F H cs b ≠ none → b ∈ cs := by
  refine ⟨fun b u z => ?_, fun b u z => ?_, fun c h u z => by unfold frz; rw [if_pos h]; exact z, fun b z1 z2 => ?_⟩
  · unfold frz
    by_cases hb : b ∈ cs
    · rw [hc b hb] at z; cases z
    · rw [if_neg hb]; exact z
  · unfold frz at z
    by_cases hb : b ∈ cs
    · rw [if_pos hb] at z; exact z
    · rw [if_neg hb] at z; exact s b u z
  · by_cases hb : b ∈ cs
    · exact hb
    · unfold frz at z2; rw [if_neg hb] at z2; exact absurd z1 z2
theorem Sta.freeze {α : Type} {i : Ow α} {j : Py α} [Fz i j] {x : α} {n : Nat} (h : G[n]? = some (.own i x)) (S : Sta K F0 H0 F H σ G) : ∃ F' cs, Same F F' ∧ Sta K F0 H0 F' H σ (G.set n (.val j x)) ∧ (∀ c ∈ cs, F c = none) ∧ F' = frz F H cs := by
  obtain ⟨v, cs, h1, h2, h3, h4, h5⟩ := S.own h
  have hc : ∀ c ∈ cs, F c = none := fun c hc => (h4 c hc).1
  obtain ⟨a1, a2, a3, a4⟩ := frz_facts S.sub hc
  have := h5 (frz F H cs) H (.val j x) v [] a1 (fun b u _ z => z) a2 (fun b z1 z2 => .inl (a4 b z1 z2)) ⟨⟨v, rfl, Fz.fz h2 a1 a3⟩, rfl⟩ List.nodup_nil (fun c hc => by simp at hc)
  rw [set_same h1] at this
  exact ⟨_, cs, a1, this, hc, rfl⟩
end
end Wk
end
section
set_option Elab.async false
set_option linter.all false
set_option maxRecDepth 100000
namespace Wk
open PySem L2

/-! ### how a value is told: frozen (rv), an own new list (ro), a list that is read (rl) -/
abbrev Rr (α : Type) := α → Hp → Hp → Hp → V → Prop
def rv (K : Fg) {α : Type} [Py α] : Rr α := fun x _ F _ v => Py.rep K F v x
def ro (K : Fg) {α : Type} [Py α] : Rr (List α) := fun xs H F H' v => ∃ p vs, v = .ref p ∧ H p = none ∧ F p = none ∧ H' p = some (.lst vs) ∧ Reps K F vs xs
def rl (K : Fg) {α : Type} [Py α] : Rr (List α) := fun xs _ F H' v => ∃ p vs, v = .ref p ∧ H' p = some (.lst vs) ∧ Reps K F vs xs
class Rst {α : Type} (rr : Rr α) : Prop where
  mono : ∀ {x : α} {H F H1 F2 H2 : Hp} {v : V}, rr x H F H1 v → Ext F H1 F2 H2 → rr x H F2 H2 v
  back : ∀ {x : α} {Ha H F H1 : Hp} {v : V}, Same Ha H → rr x H F H1 v → rr x Ha F H1 v
instance {K : Fg} {α : Type} [Py α] : Rst (rv K (α := α)) where
  mono := fun h e => Py.mono e.ff h
  back := fun _ h => h
instance {K : Fg} {α : Type} [Py α] : Rst (ro K (α := α)) where
  mono := fun ⟨p, vs, h1, h2, h3, h4, h5⟩ e => ⟨p, vs, h1, h2, e.out p (by rw [h4]; exact fun q => (nomatch q)) h3, e.hh _ _ h4, h5.mono e.ff⟩
  back := fun s ⟨p, vs, h1, h2, h3, h4, h5⟩ => ⟨p, vs, h1, s.free h2, h3, h4, h5⟩
instance {K : Fg} {α : Type} [Py α] : Rst (rl K (α := α)) where
  mono := fun ⟨p, vs, h1, h2, h3⟩ e => ⟨p, vs, h1, e.hh _ _ h2, h3.mono e.ff⟩
  back := fun _ h => h

/-! ### exceptions -/
def ExOk (K : Fg) (e : Ex) (cls : Value) (d : Option Addr) (H : Hp) : Prop :=
  cls = .ref (He.ga K e.name) ∧ ((e.args = [] ∧ d = none) ∨ e.args ≠ [] ∧ ∃ a fs, d = some a ∧ H a = some (.xd fs) ∧ ∀ f x, (f, x) ∈ e.args → ∃ v, fs.lookup f = some v ∧ Dp K H v x)

/-! ### expressions -/
def Gv (K : Fg) (E : Sg → XK) (te : TE) (G : List Slot) {α : Type} (rr : Rr α) (m : R α) : Prop :=
  ∀ F0 H0 F H σ, Sta K F0 H0 F H σ G → m ≠ .no → (∀ e, m = .ex e → ∀ cls d F' H', Ext F H F' H' → ExOk K e cls d H' → E σ cls d H') →
    ∀ Q : VK, (∀ x, m = .ok x → ∀ v F' H', Ext F H F' H' → rr x H F' H' v → Q v H') → te σ H Q
def Gt (K : Fg) (E : Sg → XK) (tt : TT) (G : List Slot) (m : R Bool) : Prop :=
  ∀ F0 H0 F H σ, Sta K F0 H0 F H σ G → m ≠ .no → (∀ e, m = .ex e → ∀ cls d F' H', Ext F H F' H' → ExOk K e cls d H' → E σ cls d H') →
    ∀ Q : Bool → Hp → Prop, (∀ b, m = .ok b → ∀ F' H', Ext F H F' H' → Q b H') → tt σ H Q
def Ga (K : Fg) (E : Sg → XK) (ta : TA) (G : List Slot) {A : Type} [PyA A] (m : R A) : Prop :=
  ∀ F0 H0 F H σ, Sta K F0 H0 F H σ G → m ≠ .no → (∀ e, m = .ex e → ∀ cls d F' H', Ext F H F' H' → ExOk K e cls d H' → E σ cls d H') →
    ∀ Q : List V → Hp → Prop, (∀ x, m = .ok x → ∀ vs F' H', Ext F H F' H' → PyA.reps K F' vs x → Q vs H') → ta σ H Q
def Go (K : Fg) (E : Sg → XK) (to : TO) (G : List Slot) (m : R (Option Int)) : Prop :=
  ∀ F0 H0 F H σ, Sta K F0 H0 F H σ G → m ≠ .no → (∀ e, m = .ex e → ∀ cls d F' H', Ext F H F' H' → ExOk K e cls d H' → E σ cls d H') →
    ∀ Q : Option Int → Hp → Prop, (∀ x, m = .ok x → ∀ F' H', Ext F H F' H' → Q x H') → to σ H Q

section
variable {K : Fg} {E : Sg → XK} {te ta tb tc : TE} {tt tu : TT} {G : List Slot} {α β γ δ : Type}

/-! the glue: one part after another -/
theorem Gv.step {rr : Rr α} {m : R α} {k : α → R β} (h : Gv K E te G rr m) {F0 H0 F H : Hp} {σ : Sg} (S : Sta K F0 H0 F H σ G) (hn : R.bind m k ≠ .no)
    (hx : ∀ e, R.bind m k = .ex e → ∀ cls d F' H', Ext F H F' H' → ExOk K e cls d H' → E σ cls d H') {Q : VK}
    (q : ∀ x, m = .ok x → k x ≠ .no → (∀ F' H', Ext F H F' H' → ∀ e, k x = .ex e → ∀ cls d F2 H2, Ext F' H' F2 H2 → ExOk K e cls d H2 → E σ cls d H2) → ∀ v F' H', Ext F H F' H' → rr x H F' H' v → Q v H') : te σ H Q := by
  refine h F0 H0 F H σ S (fun z => hn (by rw [z]; rfl)) (fun e z => hx e (by rw [z]; rfl)) Q fun x z v F' H' e r => ?_
  subst z
  exact q x rfl hn (fun F' H' e1 e z cls d F2 H2 e2 o => hx e z cls d F2 H2 (e1.trans e2) o) v F' H' e r
theorem Gt.step {m : R Bool} {k : Bool → R β} (h : Gt K E tt G m) {F0 H0 F H : Hp} {σ : Sg} (S : Sta K F0 H0 F H σ G) (hn : R.bind m k ≠ .no)
    (hx : ∀ e, R.bind m k = .ex e → ∀ cls d F' H', Ext F H F' H' → ExOk K e cls d H' → E σ cls d H') {Q : Bool → Hp → Prop}
    (q : ∀ x, m = .ok x → k x ≠ .no → (∀ F' H', Ext F H F' H' → ∀ e, k x = .ex e → ∀ cls d F2 H2, Ext F' H' F2 H2 → ExOk K e cls d H2 → E σ cls d H2) → ∀ F' H', Ext F H F' H' → Q x H') : tt σ H Q := by
  refine h F0 H0 F H σ S (fun z => hn (by rw [z]; rfl)) (fun e z => hx e (by rw [z]; rfl)) Q fun x z F' H' e => ?_
  subst z
  exact q x rfl hn (fun F' H' e1 e z cls d F2 H2 e2 o => hx e z cls d F2 H2 (e1.trans e2) o) F' H' e
theorem Ga.step {A : Type} [PyA A] {ta : TA} {m : R A} {k : A → R β} (h : Ga K E ta G m) {F0 H0 F H : Hp} {σ : Sg} (S : Sta K F0 H0 F H σ G) (hn : R.bind m k ≠ .no)
    (hx : ∀ e, R.bind m k = .ex e → ∀ cls d F' H', Ext F H F' H' → ExOk K e cls d H' → E σ cls d H') {Q : List V → Hp → Prop}
    (q : ∀ x, m = .ok x → k x ≠ .no → (∀ F' H', Ext F H F' H' → ∀ e, k x = .ex e → ∀ cls d F2 H2, Ext F' H' F2 H2 → ExOk K e cls d H2 → E σ cls d H2) → ∀ vs F' H', Ext F H F' H' → PyA.reps K F' vs x → Q vs H') : ta σ H Q := by
  refine h F0 H0 F H σ S (fun z => hn (by rw [z]; rfl)) (fun e z => hx e (by rw [z]; rfl)) Q fun x z vs F' H' e r => ?_
  subst z
  exact q x rfl hn (fun F' H' e1 e z cls d F2 H2 e2 o => hx e z cls d F2 H2 (e1.trans e2) o) vs F' H' e r
theorem Go.step {to : TO} {m : R (Option Int)} {k : Option Int → R β} (h : Go K E to G m) {F0 H0 F H : Hp} {σ : Sg} (S : Sta K F0 H0 F H σ G) (hn : R.bind m k ≠ .no)
    (hx : ∀ e, R.bind m k = .ex e → ∀ cls d F' H', Ext F H F' H' → ExOk K e cls d H' → E σ cls d H') {Q : Option Int → Hp → Prop}
    (q : ∀ x, m = .ok x → k x ≠ .no → (∀ F' H', Ext F H F' H' → ∀ e, k x = .ex e → ∀ cls d F2 H2, Ext F' H' F2 H2 → ExOk K e cls d H2 → E σ cls d H2) → ∀ F' H', Ext F H F' H' → Q x H') : to σ H Q := by
  refine h F0 H0 F H σ S (fun z => hn (by rw [z]; rfl)) (fun e z => hx e (by rw [z]; rfl)) Q fun x z F' H' e => ?_
  subst z
  exact q x rfl hn (fun F' H' e1 e z cls d F2 H2 e2 o => hx e z cls d F2 H2 (e1.trans e2) o) F' H' e

/-! weakening the way of telling -/
theorem Gv.imp {r1 r2 : Rr α} {m : R α} (h : Gv K E te G r1 m) (w : ∀ x F H F' H' v, Ext F H F' H' → r1 x H F' H' v → ∃ F2, Ext F H F2 H' ∧ r2 x H F2 H' v) : Gv K E te G r2 m :=
  fun F0 H0 F H σ S hn hx Q q => h F0 H0 F H σ S hn hx Q fun x z v F' H' e r => by
    obtain ⟨F2, e2, r2⟩ := w x F H F' H' v e r
    exact q x z v F2 H' e2 r2
theorem Gv.fr [Py α] {m : R (List α)} (h : Gv K E te G (ro K) m) : Gv K E te G (rv K) m := h.imp fun x F H F' H' v e ⟨p, vs, h1, h2, h3, h4, h5⟩ =>
  ⟨upd F' p (.lst vs), e.freeze h2 h3 h4, p, vs, h1, upd_same, h5.mono fun b u q => by rw [upd_ne (ne_of_none q h3)]; exact q⟩
theorem Gv.lv [Py α] {m : R (List α)} (h : Gv K E te G (rv K) m) : Gv K E te G (rl K) m := h.imp fun x F H F' H' v e ⟨p, vs, h1, h2, h3⟩ => ⟨F', e, p, vs, h1, e.sub _ _ h2, h3⟩
theorem Gv.lo [Py α] {m : R (List α)} (h : Gv K E te G (ro K) m) : Gv K E te G (rl K) m := h.imp fun x F H F' H' v e ⟨p, vs, h1, h2, h3, h4, h5⟩ => ⟨F', e, p, vs, h1, h4, h5⟩

/-! names and constants -/
theorem gv_var [i : Py α] (n : Nat) {x : α} (h : G[n]? = some (.val i x) := by rfl) : Gv K E (tVar n) G (rv K) (.ok x) := fun F0 H0 F H σ S _ _ Q q => by
  obtain ⟨o, h1, v, h2, h3⟩ := S.getV h
  subst h2
  exact ⟨v, h1, q x rfl v F H (Ext.refl S.sub) h3⟩
/-- an own list that is read -/
theorem gv_own [i : Py α] (n : Nat) {x : List α} (h : G[n]? = some (so x) := by rfl) : Gv K E (tVar n) G (rl K) (.ok x) := fun F0 H0 F H σ S _ _ Q q => by
  obtain ⟨o, h1, p, vs, h2, h3, h4, h5, h6, _⟩ := S.ownL h
  subst h2
  exact ⟨_, h1, q x rfl _ F H (Ext.refl S.sub) ⟨p, vs, rfl, h5, h6⟩⟩
theorem gv_int {i : Int} : Gv K E (tC (.int i)) G (rv K) (.ok i) := fun F0 H0 F H σ S _ _ Q q => q i rfl _ F H (Ext.refl S.sub) rfl
theorem gv_bl {b : Bool} : Gv K E (tC (.bl b)) G (rv K) (.ok b) := fun F0 H0 F H σ S _ _ Q q => q b rfl _ F H (Ext.refl S.sub) rfl
theorem gv_str {x : Str} : Gv K E (tC (.str x)) G (rv K) (.ok x) := fun F0 H0 F H σ S _ _ Q q => q x rfl _ F H (Ext.refl S.sub) rfl
theorem gv_non : Gv K E (tC .non) G (rv K) (.ok ()) := fun F0 H0 F H σ S _ _ Q q => q () rfl _ F H (Ext.refl S.sub) rfl
/-- a constant of the module -/
theorem gv_con [Py α] {v : V} {x : α} (h : ∀ F, Py.rep K F v x) : Gv K E (tC v) G (rv K) (.ok x) := fun F0 H0 F H σ S _ _ Q q => q x rfl _ F H (Ext.refl S.sub) (h F)

/-! operations by values -/
def NoEx (m : R α) : Prop := ∀ e, m ≠ .ex e
def Op2 (K : Fg) (r : R2) (ra : Rr α) (rb : Rr β) (rr : Rr γ) (f : α → β → R γ) : Prop :=
  (∀ x y, NoEx (f x y)) ∧ ∀ x y z, f x y = .ok z → ∀ Ha Hb F H v w, Same F H → ra x Ha F H v → rb y Hb F H w → ∀ Q : VK, (∀ u F' H', Ext F H F' H' → rr z H F' H' u → Q u H') → r v w H Q
def Op1 (K : Fg) (r : V → Hp → VK → Prop) (ra : Rr α) (rr : Rr γ) (f : α → R γ) : Prop :=
  (∀ x, NoEx (f x)) ∧ ∀ x z, f x = .ok z → ∀ Ha F H v, Same F H → ra x Ha F H v → ∀ Q : VK, (∀ u F' H', Ext F H F' H' → rr z H F' H' u → Q u H') → r v H Q
def OpC (K : Fg) (r : List V → Hp → VK → Prop) (n : Nat) (rs : α → Hp → Hp → List V → Prop) (rr : Rr γ) (f : α → R γ) : Prop :=
  (∀ x, NoEx (f x)) ∧ ∀ x z, f x = .ok z → ∀ F H vs, Same F H → rs x F H vs → ∀ Q : VK, (∀ u F' H', Ext F H F' H' → rr z H F' H' u → Q u H') → r vs H Q
theorem noex_ok {x : α} : NoEx (.ok x : R α) := fun _ h => nomatch h
theorem noex_no : NoEx (.no : R α) := fun _ h => nomatch h
theorem noex_if {c : Prop} [Decidable c] {m : R α} (h : NoEx m) : NoEx (if c then m else .no) := by
  split
  · exact h
  · exact noex_no
theorem R.bind_no_of {m : R α} {k : α → R β} (h : R.bind m k ≠ .no) : m ≠ .no := fun z => h (by rw [z]; rfl)

theorem gv_op {r : R2} {ra : Rr α} {rb : Rr β} {rr : Rr γ} [Rst ra] [Rst rb] [Rst rr] {ma : R α} {mb : R β} {f : α → β → R γ} (o : Op2 K r ra rb rr f) (ha : Gv K E ta G ra ma) (hb : Gv K E tb G rb mb) :
    Gv K E (tOp r ta tb) G rr (R.bind ma fun x => R.bind mb fun y => f x y) := fun F0 H0 F H σ S hn hx Q q =>
  ha.step S hn hx fun x z hn1 hx1 v F1 H1 e1 r1 => by
    subst z
    refine hb.step (S.mono e1) hn1 (hx1 F1 H1 e1) fun y z hn2 hx2 w F2 H2 e2 r2 => ?_
    subst z
    cases hz : f x y with
    | no => exact absurd hz hn2
    | ex e => exact absurd hz (o.1 x y e)
    | ok z => exact o.2 x y z hz H H1 F2 H2 v w e2.sub (Rst.mono r1 e2) r2 Q fun u F' H' e3 r3 => q z hz u F' H' ((e1.trans e2).trans e3) (Rst.back (e1.trans e2).hh r3)
theorem gv_un {r : V → Hp → VK → Prop} {ra : Rr α} {rr : Rr γ} [Rst rr] {ma : R α} {f : α → R γ} (o : Op1 K r ra rr f) (ha : Gv K E ta G ra ma) : Gv K E (tUn r ta) G rr (R.bind ma f) := fun F0 H0 F H σ S hn hx Q q =>
  ha.step S hn hx fun x z hn1 hx1 v F1 H1 e1 r1 => by
    subst z
    cases hz : f x with
    | no => exact absurd hz hn1
    | ex e => exact absurd hz (o.1 x e)
    | ok z => exact o.2 x z hz H F1 H1 v e1.sub r1 Q fun u F' H' e3 r3 => q z hz u F' H' (e1.trans e3) (Rst.back e1.hh r3)
/-- a built-in of one argument -/
theorem gv_cb1 {r : List V → Hp → VK → Prop} {ra : Rr α} {rr : Rr γ} [Rst rr] {ma : R α} {f : α → R γ} (o : Op1 K (fun v => r [v]) ra rr f) (ha : Gv K E ta G ra ma) : Gv K E (tCB r (tCons ta tNil)) G rr (R.bind ma f) := fun F0 H0 F H σ S hn hx Q q =>
  gv_un o ha F0 H0 F H σ S hn hx Q q
theorem gv_cb2 {r : List V → Hp → VK → Prop} {ra : Rr α} {rb : Rr β} {rr : Rr γ} [Rst ra] [Rst rb] [Rst rr] {ma : R α} {mb : R β} {f : α → β → R γ} (o : Op2 K (fun v w => r [v, w]) ra rb rr f) (ha : Gv K E ta G ra ma) (hb : Gv K E tb G rb mb) :
    Gv K E (tCB r (tCons ta (tCons tb tNil))) G rr (R.bind ma fun x => R.bind mb fun y => f x y) := fun F0 H0 F H σ S hn hx Q q => gv_op o ha hb F0 H0 F H σ S hn hx Q q

/-! tests -/
theorem gt_test {m : R Bool} (h : Gv K E te G (rv K) m) : Gt K E (tTest te) G m := fun F0 H0 F H σ S hn hx Q q =>
  h F0 H0 F H σ S hn hx _ fun x z v F' H' e r => ⟨x, r, q x z F' H' e⟩
theorem gt_B {m : R Bool} (h : Gv K E te G (rv K) m) : Gt K E (tB te) G m := gt_test h
theorem gt_and {m1 m2 : R Bool} (h1 : Gt K E tt G m1) (h2 : Gt K E tu G m2) : Gt K E (tAnd tt tu) G (R.bind m1 fun b => if b = true then m2 else .ok false) := fun F0 H0 F H σ S hn hx Q q =>
  h1.step S hn hx fun b z hn1 hx1 F1 H1 e1 => by
    subst z
    cases b with
    | true => exact h2 F0 H0 F1 H1 σ (S.mono e1) hn1 (hx1 F1 H1 e1) Q fun b z F' H' e2 => q b z F' H' (e1.trans e2)
    | false => exact q false rfl F1 H1 e1
theorem gt_or {m1 m2 : R Bool} (h1 : Gt K E tt G m1) (h2 : Gt K E tu G m2) : Gt K E (tOr tt tu) G (R.bind m1 fun b => if b = true then .ok true else m2) := fun F0 H0 F H σ S hn hx Q q =>
  h1.step S hn hx fun b z hn1 hx1 F1 H1 e1 => by
    subst z
    cases b with
    | true => exact q true rfl F1 H1 e1
    | false => exact h2 F0 H0 F1 H1 σ (S.mono e1) hn1 (hx1 F1 H1 e1) Q fun b z F' H' e2 => q b z F' H' (e1.trans e2)
theorem gt_not {m1 : R Bool} (h1 : Gt K E tt G m1) : Gt K E (tNot tt) G (R.bind m1 fun b => .ok (!b)) := fun F0 H0 F H σ S hn hx Q q =>
  h1.step S hn hx fun b z hn1 hx1 F1 H1 e1 => by
    subst z
    exact q (!b) rfl F1 H1 e1
theorem gv_andV {m1 m2 : R Bool} (h1 : Gv K E ta G (rv K) m1) (h2 : Gv K E tb G (rv K) m2) : Gv K E (tAndV ta tb) G (rv K) (R.bind m1 fun b => if b = true then m2 else .ok false) := fun F0 H0 F H σ S hn hx Q q =>
  h1.step S hn hx fun b z hn1 hx1 v F1 H1 e1 r => ⟨b, r, by
    subst z
    cases b with
    | true => exact h2 F0 H0 F1 H1 σ (S.mono e1) hn1 (hx1 F1 H1 e1) Q fun b z v F' H' e2 r => q b z v F' H' (e1.trans e2) r
    | false => exact q false rfl _ F1 H1 e1 rfl⟩
theorem gv_orV {m1 m2 : R Bool} (h1 : Gv K E ta G (rv K) m1) (h2 : Gv K E tb G (rv K) m2) : Gv K E (tOrV ta tb) G (rv K) (R.bind m1 fun b => if b = true then .ok true else m2) := fun F0 H0 F H σ S hn hx Q q =>
  h1.step S hn hx fun b z hn1 hx1 v F1 H1 e1 r => ⟨b, r, by
    subst z
    cases b with
    | true => exact q true rfl _ F1 H1 e1 rfl
    | false => exact h2 F0 H0 F1 H1 σ (S.mono e1) hn1 (hx1 F1 H1 e1) Q fun b z v F' H' e2 r => q b z v F' H' (e1.trans e2) r⟩
theorem gv_notV {m1 : R Bool} (h1 : Gv K E ta G (rv K) m1) : Gv K E (tNotV ta) G (rv K) (R.bind m1 fun b => .ok (!b)) := fun F0 H0 F H σ S hn hx Q q =>
  h1.step S hn hx fun b z hn1 hx1 v F1 H1 e1 r => ⟨b, r, by
    subst z
    exact q (!b) rfl _ F1 H1 e1 rfl⟩
theorem gv_if {rr : Rr α} [Rst rr] {mc : R Bool} {ma mb : R α} (hc : Gt K E tt G mc) (ha : Gv K E ta G rr ma) (hb : Gv K E tb G rr mb) : Gv K E (tIf tt ta tb) G rr (R.bind mc fun b => if b = true then ma else mb) := fun F0 H0 F H σ S hn hx Q q =>
  hc.step S hn hx fun b z hn1 hx1 F1 H1 e1 => by
    subst z
    cases b with
    | true => exact ha F0 H0 F1 H1 σ (S.mono e1) hn1 (hx1 F1 H1 e1) Q fun b z v F' H' e2 r => q b z v F' H' (e1.trans e2) (Rst.back e1.hh r)
    | false => exact hb F0 H0 F1 H1 σ (S.mono e1) hn1 (hx1 F1 H1 e1) Q fun b z v F' H' e2 r => q b z v F' H' (e1.trans e2) (Rst.back e1.hh r)

/-! argument lists -/
theorem ga_nil : Ga K E tNil G (.ok ()) := fun F0 H0 F H σ S _ _ Q q => q () rfl [] F H (Ext.refl S.sub) rfl
theorem ga_cons [Py α] {A : Type} [PyA A] {tr : TA} {m : R α} {mr : R A} (h : Gv K E te G (rv K) m) (hr : Ga K E tr G mr) : Ga K E (tCons te tr) G (R.bind m fun x => R.bind mr fun y => .ok (x, y)) := fun F0 H0 F H σ S hn hx Q q =>
  h.step S hn hx fun x z hn1 hx1 v F1 H1 e1 r1 => by
    subst z
    refine hr.step (S.mono e1) hn1 (hx1 F1 H1 e1) fun y z hn2 hx2 vs F2 H2 e2 r2 => ?_
    subst z
    exact q (x, y) rfl _ F2 H2 (e1.trans e2) ⟨v, vs, rfl, Py.mono e2.ff r1, r2⟩

/-! displays -/
theorem gv_pair [Py α] [Py β] {ma : R α} {mb : R β} (ha : Gv K E ta G (rv K) ma) (hb : Gv K E tb G (rv K) mb) : Gv K E (tTup (tCons ta (tCons tb tNil))) G (rv K) (R.bind ma fun x => R.bind mb fun y => .ok (x, y)) := fun F0 H0 F H σ S hn hx Q q =>
  ha.step S hn hx fun x z hn1 hx1 v F1 H1 e1 r1 => by
    subst z
    refine hb.step (S.mono e1) hn1 (hx1 F1 H1 e1) fun y z hn2 hx2 w F2 H2 e2 r2 => ⟨by show 2 ≤ sizeLine; decide, fun p hp => ?_⟩
    subst z
    have e3 := Ext.new (o := .tup [v, w]) e2.sub hp
    exact q (x, y) rfl _ _ _ ((e1.trans e2).trans e3) ⟨p, v, w, rfl, .inl (.inl upd_same), Py.mono (e2.trans e3).ff r1, Py.mono e3.ff r2⟩
theorem gv_tup3 [Py α] [Py β] [Py γ] {ma : R α} {mb : R β} {mc : R γ} (ha : Gv K E ta G (rv K) ma) (hb : Gv K E tb G (rv K) mb) (hc : Gv K E tc G (rv K) mc) :
    Gv K E (tTup (tCons ta (tCons tb (tCons tc tNil)))) G (rv K) (R.bind ma fun x => R.bind mb fun y => R.bind mc fun z => .ok (T3.mk x y z)) := fun F0 H0 F H σ S hn hx Q q =>
  ha.step S hn hx fun x z hn1 hx1 v F1 H1 e1 r1 => by
    subst z
    refine hb.step (S.mono e1) hn1 (hx1 F1 H1 e1) fun y z hn2 hx2 w F2 H2 e2 r2 => ?_
    subst z
    refine hc.step ((S.mono e1).mono e2) hn2 (hx2 F2 H2 e2) fun y' z hn3 hx3 w' F3 H3 e3 r3 => ⟨by show 3 ≤ sizeLine; decide, fun p hp => ?_⟩
    subst z
    have e4 := Ext.new (o := .tup [v, w, w']) e3.sub hp
    exact q (T3.mk x y y') rfl _ _ _ (((e1.trans e2).trans e3).trans e4) ⟨p, v, w, w', rfl, .inl (.inl upd_same), Py.mono ((e2.trans e3).trans e4).ff r1, Py.mono (e3.trans e4).ff r2, Py.mono e4.ff r3⟩
/-- items of a list display: n of them -/
def Gs (K : Fg) (E : Sg → XK) (ta : TA) (G : List Slot) {α : Type} [Py α] (n : Nat) (m : R (List α)) : Prop :=
  (∀ x, m = .ok x → x.length = n) ∧ ∀ F0 H0 F H σ, Sta K F0 H0 F H σ G → m ≠ .no → (∀ e, m = .ex e → ∀ cls d F' H', Ext F H F' H' → ExOk K e cls d H' → E σ cls d H') →
    ∀ Q : List V → Hp → Prop, (∀ x, m = .ok x → ∀ vs F' H', Ext F H F' H' → Reps K F' vs x → Q vs H') → ta σ H Q
theorem gs_nil [Py α] : Gs K E tNil G 0 (.ok ([] : List α)) := ⟨fun x h => by cases h; rfl, fun F0 H0 F H σ S _ _ Q q => q [] rfl [] F H (Ext.refl S.sub) .nil⟩
theorem gs_cons [Py α] {tr : TA} {n : Nat} {m : R α} {mr : R (List α)} (h : Gv K E te G (rv K) m) (hr : Gs K E tr G n mr) : Gs K E (tCons te tr) G (n + 1) (R.bind m fun x => R.bind mr fun y => .ok (x :: y)) := by
  refine ⟨fun x hx => ?_, fun F0 H0 F H σ S hn hx Q q => ?_⟩
  · cases m with
    | no => cases hx
    | ex e => cases hx
    | ok a =>
      cases mr with
      | no => cases hx
      | ex e => cases hx
      | ok b => cases hx; simp [hr.1 b rfl]
  · exact h.step S hn hx fun x z hn1 hx1 v F1 H1 e1 r1 => by
      subst z
      refine hr.2 F0 H0 F1 H1 σ (S.mono e1) (R.bind_no_of hn1) (fun e z => hx1 F1 H1 e1 e (by rw [z]; rfl)) _ fun y z vs F2 H2 e2 r2 => ?_
      subst z
      exact q (x :: y) rfl _ F2 H2 (e1.trans e2) (.cons (Py.mono e2.ff r1) r2)
theorem gv_lst [Py α] {ta : TA} {n : Nat} {m : R (List α)} (h : Gs K E ta G n m) (hl : n ≤ 100000 := by decide) : Gv K E (tLst ta) G (ro K) m := fun F0 H0 F H σ S hn hx Q q =>
  h.2 F0 H0 F H σ S hn hx _ fun x z vs F1 H1 e1 r1 => ⟨by rw [PySem.Paired.length r1, h.1 x z]; exact Nat.le_trans hl (by decide), fun p hp => by
    have e2 := Ext.cell (o := .lst vs) e1.sub hp
    exact q x z _ _ _ (e1.trans e2) ⟨p, vs, rfl, e1.hh.free hp, e1.sub.free hp, upd_same, r1⟩⟩
end
end Wk
end
section
set_option Elab.async false
set_option linter.all false
set_option maxRecDepth 100000
namespace Wk
open PySem L2

/-! ### lists of flat things -/
section
variable {K : Fg} {F : Hp}
theorem reps_int : ∀ {vs : List V} {xs : List Int}, Reps K F vs xs → vs = xs.map V.int
  | _, _, .nil => rfl
  | _, _, .cons h t => by rw [show _ = V.int _ from h, reps_int t]; rfl
theorem reps_bool : ∀ {vs : List V} {xs : List Bool}, Reps K F vs xs → vs = xs.map V.bl
  | _, _, .nil => rfl
  | _, _, .cons h t => by rw [show _ = V.bl _ from h, reps_bool t]; rfl
theorem reps_str : ∀ {vs : List V} {xs : List Str}, Reps K F vs xs → vs = xs.map V.str
  | _, _, .nil => rfl
  | _, _, .cons h t => by rw [show _ = V.str _ from h, reps_str t]; rfl
theorem reps_of_int : ∀ {xs : List Int}, Reps K F (xs.map V.int) xs
  | [] => .nil
  | _ :: _ => .cons rfl reps_of_int
variable {α : Type} [Py α]
theorem reps_get : ∀ {vs : List V} {xs : List α} {i : Nat} {x : α}, Reps K F vs xs → xs[i]? = some x → ∃ v, vs[i]? = some v ∧ Py.rep K F v x
  | _, _, _, _, .nil, h => by simp at h
  | _, _, 0, _, .cons h t, e => by simp at e; subst e; exact ⟨_, rfl, h⟩
  | _, _, i + 1, _, .cons h t, e => by
    simp at e
    obtain ⟨v, h1, h2⟩ := reps_get t e
    exact ⟨v, by simpa using h1, h2⟩
theorem reps_getV : ∀ {vs : List V} {xs : List α} {i : Nat} {v : V}, Reps K F vs xs → vs[i]? = some v → ∃ x, xs[i]? = some x ∧ Py.rep K F v x
  | _, _, _, _, .nil, h => by simp at h
  | _, _, 0, _, .cons h t, e => by simp at e; subst e; exact ⟨_, rfl, h⟩
  | _, _, i + 1, _, .cons h t, e => by
    simp at e
    obtain ⟨v, h1, h2⟩ := reps_getV t e
    exact ⟨v, by simpa using h1, h2⟩
theorem reps_append : ∀ {vs ws : List V} {xs ys : List α}, Reps K F vs xs → Reps K F ws ys → Reps K F (vs ++ ws) (xs ++ ys)
  | _, _, _, _, .nil, s => s
  | _, _, _, _, .cons h t, s => .cons h (reps_append t s)
theorem reps_drop : ∀ {vs : List V} {xs : List α} (n : Nat), Reps K F vs xs → Reps K F (vs.drop n) (xs.drop n)
  | _, _, 0, h => h
  | _, _, _ + 1, .nil => .nil
  | _, _, n + 1, .cons _ t => reps_drop n t
theorem reps_take : ∀ {vs : List V} {xs : List α} (n : Nat), Reps K F vs xs → Reps K F (vs.take n) (xs.take n)
  | _, _, 0, _ => .nil
  | _, _, _ + 1, .nil => .nil
  | _, _, n + 1, .cons h t => .cons h (reps_take n t)
theorem reps_set : ∀ {vs : List V} {xs : List α} {v : V} {x : α} (n : Nat), Reps K F vs xs → Py.rep K F v x → Reps K F (vs.set n v) (xs.set n x)
  | _, _, _, _, _, .nil, _ => .nil
  | _, _, _, _, 0, .cons _ t, h => .cons h t
  | _, _, _, _, n + 1, .cons q t, h => .cons q (reps_set n t h)
end

/-! ### arithmetic -/
section
variable {K : Fg} {α β γ : Type}
theorem o2_I0 [Py γ] {g : Int → Int → V} {f : Int → Int → γ} (h : ∀ F i j, Py.rep K F (g i j) (f i j)) : Op2 K (rI0 g) (rv K) (rv K) (rv K) (fun i j => .ok (f i j)) := by
  refine ⟨fun _ _ => noex_ok, fun x y z hz Ha Hb F H v w s h1 h2 Q q => ?_⟩
  cases hz
  exact ⟨x, y, h1, h2, q _ F H (Ext.refl s) (h F x y)⟩
theorem o2_I [Py γ] {C : Int → Int → Prop} [∀ i j, Decidable (C i j)] {g : Int → Int → V} {f : Int → Int → γ} (h : ∀ F i j, Py.rep K F (g i j) (f i j)) : Op2 K (rI C g) (rv K) (rv K) (rv K) (fun i j => R.chk (C i j) (.ok (f i j))) := by
  refine ⟨fun _ _ => noex_if noex_ok, fun x y z hz Ha Hb F H v w s h1 h2 Q q => ?_⟩
  dsimp only at hz
  by_cases c : C x y
  · rw [R.chk_pos c] at hz
    cases hz
    exact ⟨x, y, h1, h2, c, q _ F H (Ext.refl s) (h F x y)⟩
  · unfold R.chk at hz
    rw [if_neg c] at hz
    cases hz
theorem o2_add : Op2 K (rI0 fun i j => .int (i + j)) (rv K) (rv K) (rv K) (fun (i j : Int) => .ok (i + j)) := o2_I0 fun _ _ _ => rfl
theorem o2_sub : Op2 K (rI0 fun i j => .int (i - j)) (rv K) (rv K) (rv K) (fun (i j : Int) => .ok (i - j)) := o2_I0 fun _ _ _ => rfl
instance {i j : Int} : Decidable (CMulW i j) := inferInstanceAs (Decidable (_ < _))
instance {i j : Int} : Decidable (CDivW i j) := inferInstanceAs (Decidable (_ ∧ _))
instance {i j : Int} : Decidable (CPow i j) := inferInstanceAs (Decidable (_ ∧ _ ∧ _))
def mulR (i j : Int) : R Int := R.chk (CMulW i j) (.ok (i * j))
def divR (i j : Int) : R Int := R.chk (CDivW i j) (.ok (i / j))
def modR (i j : Int) : R Int := R.chk (0 < j) (.ok (i % j))
def powR (i j : Int) : R Int := R.chk (CPow i j) (.ok (i ^ j.toNat))
theorem o2_mul : Op2 K (rI CMulW fun i j => .int (i * j)) (rv K) (rv K) (rv K) mulR := o2_I fun _ _ _ => rfl
theorem o2_div : Op2 K (rI CDivW fun i j => .int (i / j)) (rv K) (rv K) (rv K) divR := o2_I fun _ _ _ => rfl
theorem o2_mod : Op2 K (rI (fun _ j => 0 < j) fun i j => .int (i % j)) (rv K) (rv K) (rv K) modR := o2_I fun _ _ _ => rfl
theorem o2_pow : Op2 K (rI CPow fun i j => .int (i ^ j.toNat)) (rv K) (rv K) (rv K) powR := o2_I fun _ _ _ => rfl
theorem o2_lt : Op2 K (rI0 fun i j => .bl (decide (i < j))) (rv K) (rv K) (rv K) (fun (i j : Int) => .ok (decide (i < j))) := o2_I0 fun _ _ _ => rfl
theorem o2_le : Op2 K (rI0 fun i j => .bl (decide (i ≤ j))) (rv K) (rv K) (rv K) (fun (i j : Int) => .ok (decide (i ≤ j))) := o2_I0 fun _ _ _ => rfl
theorem o2_gt : Op2 K (rI0 fun i j => .bl (decide (j < i))) (rv K) (rv K) (rv K) (fun (i j : Int) => .ok (decide (j < i))) := o2_I0 fun _ _ _ => rfl
theorem o2_ge : Op2 K (rI0 fun i j => .bl (decide (j ≤ i))) (rv K) (rv K) (rv K) (fun (i j : Int) => .ok (decide (j ≤ i))) := o2_I0 fun _ _ _ => rfl
theorem o1_neg : Op1 K (rU fun i => .int (-i)) (rv K) (rv K) (fun (i : Int) => .ok (-i)) := by
  refine ⟨fun _ => noex_ok, fun x z hz Ha F H v s h1 Q q => ?_⟩
  cases hz
  exact ⟨x, h1, q _ F H (Ext.refl s) rfl⟩
/-- == and != of flat values -/
class PySc (α : Type) [Py α] [DecidableEq α] where
  v : α → V
  eq : ∀ {K : Fg} {F : Hp} {w : V} {x : α}, Py.rep K F w x → w = v x
  sc : ∀ x y, scal (v x) (v y) = true
  inj : ∀ x y, v x = v y → x = y
instance : PySc Int := ⟨V.int, fun h => h, fun _ _ => rfl, fun _ _ h => by cases h; rfl⟩
instance : PySc Bool := ⟨V.bl, fun h => h, fun _ _ => rfl, fun _ _ h => by cases h; rfl⟩
instance : PySc Str := ⟨V.str, fun h => h, fun _ _ => rfl, fun _ _ h => by cases h; rfl⟩
theorem dec_v [Py α] [DecidableEq α] [PySc α] (x y : α) : decide (PySc.v x = PySc.v y) = decide (x = y) := by
  by_cases h : x = y
  · subst h; simp
  · rw [decide_eq_false h, decide_eq_false (fun q => h (PySc.inj _ _ q))]
theorem o2_eq [Py α] [DecidableEq α] [PySc α] : Op2 K rEq (rv K) (rv K) (rv K) (fun (i j : α) => .ok (decide (i = j))) := by
  refine ⟨fun _ _ => noex_ok, fun x y z hz Ha Hb F H v w s h1 h2 Q q => ?_⟩
  cases hz
  rw [PySc.eq h1, PySc.eq h2]
  exact ⟨PySc.sc _ _, q _ F H (Ext.refl s) (by rw [dec_v]; rfl)⟩
theorem o2_ne [Py α] [DecidableEq α] [PySc α] : Op2 K rNe (rv K) (rv K) (rv K) (fun (i j : α) => .ok (!decide (i = j))) := by
  refine ⟨fun _ _ => noex_ok, fun x y z hz Ha Hb F H v w s h1 h2 Q q => ?_⟩
  cases hz
  rw [PySc.eq h1, PySc.eq h2]
  exact ⟨PySc.sc _ _, q _ F H (Ext.refl s) (by rw [dec_v]; rfl)⟩
theorem o2_isN [Py α] : Op2 K (fun x y H Q => y = .non ∧ Q (.bl (decide (x = .non))) H) (rv K) (rv K) (rv K) (fun (i : Option α) (_ : Unit) => .ok (decide (i.isNone = true))) := by
  refine ⟨fun _ _ => noex_ok, fun x y z hz Ha Hb F H v w s h1 h2 Q q => ?_⟩
  cases hz
  refine ⟨h2, q _ F H (Ext.refl s) ?_⟩
  cases x with
  | none => rw [show v = .non from h1]; rfl
  | some x => rw [decide_eq_false h1.2]; rfl
theorem o2_notN [Py α] : Op2 K (fun x y H Q => y = .non ∧ Q (.bl (!decide (x = .non))) H) (rv K) (rv K) (rv K) (fun (i : Option α) (_ : Unit) => .ok (!decide (i.isNone = true))) := by
  refine ⟨fun _ _ => noex_ok, fun x y z hz Ha Hb F H v w s h1 h2 Q q => ?_⟩
  cases hz
  refine ⟨h2, q _ F H (Ext.refl s) ?_⟩
  cases x with
  | none => rw [show v = .non from h1]; rfl
  | some x => rw [decide_eq_false h1.2]; rfl

/-! ### lists: items, slices, lengths -/
def ixR {α : Type} (xs : List α) (i : Int) : R α := match atI xs i with
  | some x => .ok x
  | none => .no
theorem ix_noex {α : Type} (xs : List α) (i : Int) : NoEx (ixR xs i) := by
  unfold ixR
  split
  · exact noex_ok
  · exact noex_no
theorem reps_atI [Py α] {F : Hp} {vs : List V} {xs : List α} {i : Int} {x : α} (h : Reps K F vs xs) (e : atI xs i = some x) : ∃ v, atI vs i = some v ∧ Py.rep K F v x := by
  unfold atI at e ⊢
  rw [PySem.Paired.length h]
  cases q : ixN xs.length i with
  | none => rw [q] at e; cases e
  | some j =>
    rw [q] at e
    exact reps_get h e
theorem o2_ix [Py α] : Op2 K (rIxL K) (rl K) (rv K) (rv K) (fun (xs : List α) (i : Int) => ixR xs i) := by
  refine ⟨ix_noex, fun xs i z hz Ha Hb F H v w s ⟨p, vs, h1, h2, h3⟩ h4 Q q => ?_⟩
  dsimp only [ixR] at hz
  split at hz
  · rename_i x e
    cases hz
    obtain ⟨u, hu, r⟩ := reps_atI h3 e
    exact ⟨p, vs, i, u, h1, h4, .inl (.inl h2), hu, q u F H (Ext.refl s) r⟩
  · cases hz
theorem o2_ixScr : Op2 K (rIxL K) (rv K) (rv K) (rv K) (fun (xs : Scr) (i : Int) => ixR xs.xs i) := by
  refine ⟨fun xs i => ix_noex _ _, fun xs i z hz Ha Hb F H v w s ⟨p, h1, h2⟩ h4 Q q => ?_⟩
  dsimp only [ixR] at hz
  split at hz
  · rename_i x e
    cases hz
    obtain ⟨u, hu, r⟩ := reps_atI (K := K) (F := F) reps_of_int e
    exact ⟨p, _, i, u, h1, h4, same_l s h2, hu, q u F H (Ext.refl s) r⟩
  · cases hz
theorem o2_fst [Py α] [Py β] : Op2 K (rIxT K) (rv K) (fun (_ : Unit) _ _ _ v => v = .int 0) (rv K) (fun (x : α × β) (_ : Unit) => .ok x.1) := by
  refine ⟨fun _ _ => noex_ok, fun x y z hz Ha Hb F H v w s ⟨p, v1, v2, h1, h2, h3, h4⟩ h5 Q q => ?_⟩
  cases hz
  exact ⟨p, _, 0, v1, h1, h5, same_t s h2, rfl, q v1 F H (Ext.refl s) h3⟩
theorem o2_snd [Py α] [Py β] : Op2 K (rIxT K) (rv K) (fun (_ : Unit) _ _ _ v => v = .int 1) (rv K) (fun (x : α × β) (_ : Unit) => .ok x.2) := by
  refine ⟨fun _ _ => noex_ok, fun x y z hz Ha Hb F H v w s ⟨p, v1, v2, h1, h2, h3, h4⟩ h5 Q q => ?_⟩
  cases hz
  exact ⟨p, _, 1, v2, h1, h5, same_t s h2, rfl, q v2 F H (Ext.refl s) h4⟩
instance : Rst (fun (_ : Unit) _ _ _ v => v = V.int 0) := ⟨fun h _ => h, fun _ h => h⟩
instance : Rst (fun (_ : Unit) _ _ _ v => v = V.int 1) := ⟨fun h _ => h, fun _ h => h⟩
def lenR {α : Type} (xs : List α) : R Int := .ok (xs.length : Int)
def rLenS (K : Fg) : List V → Hp → VK → Prop := fun xs H Q => ∃ p ys, xs = [.ref p] ∧ (SqL K H p ys ∨ SqT K H p ys) ∧ Q (.int ys.length) H
theorem o1_len [Py α] : Op1 K (fun v => rLenS K [v]) (rl K) (rv K) (fun (xs : List α) => .ok (xs.length : Int)) := by
  refine ⟨fun _ => noex_ok, fun x z hz Ha F H v s ⟨p, vs, h1, h2, h3⟩ Q q => ?_⟩
  cases hz
  subst h1
  exact ⟨p, vs, rfl, .inl (.inl (.inl h2)), q _ F H (Ext.refl s) (by rw [PySem.Paired.length h3]; rfl)⟩
theorem o1_lenScr : Op1 K (fun v => rLenS K [v]) (rv K) (rv K) (fun (xs : Scr) => .ok (xs.xs.length : Int)) := by
  refine ⟨fun _ => noex_ok, fun x z hz Ha F H v s ⟨p, h1, h2⟩ Q q => ?_⟩
  cases hz
  subst h1
  exact ⟨p, _, rfl, .inl (same_l s h2), q _ F H (Ext.refl s) (by rw [List.length_map]; rfl)⟩
theorem o1_len2 [Py α] [Py β] : Op1 K (fun v => rLenS K [v]) (rv K) (rv K) (fun (_ : α × β) => .ok (2 : Int)) := by
  refine ⟨fun _ => noex_ok, fun x z hz Ha F H v s ⟨p, v1, v2, h1, h2, _⟩ Q q => ?_⟩
  cases hz
  subst h1
  exact ⟨p, _, rfl, .inr (same_t s h2), q _ F H (Ext.refl s) rfl⟩
def rListS (K : Fg) : List V → Hp → VK → Prop := fun xs H Q => ∃ p ys, xs = [.ref p] ∧ (SqL K H p ys ∨ SqT K H p ys) ∧ ∀ l, H l = none → Q (.ref l) (upd H l (.lst ys))
theorem o1_list [Py α] : Op1 K (fun v => rListS K [v]) (rl K) (ro K) (fun (xs : List α) => .ok xs) := by
  refine ⟨fun _ => noex_ok, fun x z hz Ha F H v s ⟨p, vs, h1, h2, h3⟩ Q q => ?_⟩
  cases hz
  subst h1
  exact ⟨p, vs, rfl, .inl (.inl (.inl h2)), fun l hl => q _ F _ (Ext.cell s hl) ⟨l, vs, rfl, hl, s.free hl, upd_same, h3⟩⟩
def cutL {α : Type} (xs : List α) (lo hi : Option Int) : List α := (xs.drop (HT.sIx xs.length 0 lo)).take (HT.sIx xs.length xs.length hi - HT.sIx xs.length 0 lo)
theorem reps_cut [Py α] {F : Hp} {vs : List V} {xs : List α} {lo hi : Option Int} (h : Reps K F vs xs) : Reps K F (cutV vs lo hi) (cutL xs lo hi) := by
  unfold cutV cutL
  rw [PySem.Paired.length h]
  exact reps_take _ (reps_drop _ h)
def catR {α : Type} (xs ys : List α) : R (List α) := R.chk (xs.length + ys.length ≤ 100000) (.ok (xs ++ ys))
theorem o2_cat [Py α] : Op2 K rCat (rl K) (rl K) (ro K) (fun (xs ys : List α) => catR xs ys) := by
  refine ⟨fun _ _ => noex_if noex_ok, fun x y z hz Ha Hb F H v w s ⟨p, vs, h1, h2, h3⟩ ⟨p', vs', h1', h2', h3'⟩ Q q => ?_⟩
  dsimp only [catR] at hz
  by_cases c : x.length + y.length ≤ 100000
  · rw [R.chk_pos c] at hz
    cases hz
    refine ⟨p, p', vs, vs', h1, h1', h2, h2', ?_, fun l hl => q _ F _ (Ext.cell s hl) ⟨l, _, rfl, hl, s.free hl, upd_same, reps_append h3 h3'⟩⟩
    rw [PySem.Paired.length h3, PySem.Paired.length h3']
    exact Nat.le_trans c (by decide)
  · unfold R.chk at hz
    rw [if_neg c] at hz
    cases hz
def repL {α : Type} (xs : List α) (k : Int) : List α := (List.replicate k.toNat xs).flatten
/-! ### sums, min, max, abs -/
theorem o1_sum : Op1 K (fun v => rSum K [v]) (rl K) (rv K) (fun (xs : List Int) => .ok xs.sum) := by
  refine ⟨fun _ => noex_ok, fun x z hz Ha F H v s ⟨p, vs, h1, h2, h3⟩ Q q => ?_⟩
  cases hz
  subst h1
  have e := reps_int h3
  subst e
  exact ⟨p, x, rfl, .inl (.inl h2), q _ F H (Ext.refl s) rfl⟩
def minR (xs : List Int) : R Int := match xs.min? with
  | some m => .ok m
  | none => .no
def maxR (xs : List Int) : R Int := match xs.max? with
  | some m => .ok m
  | none => .no
theorem o1_min : Op1 K (fun v => rMin K [v]) (rl K) (rv K) minR := by
  refine ⟨fun xs => by unfold minR; split <;> simp [NoEx], fun x z hz Ha F H v s ⟨p, vs, h1, h2, h3⟩ Q q => ?_⟩
  unfold minR at hz
  cases e : x.min? with
  | none => rw [e] at hz; cases hz
  | some m =>
    rw [e] at hz
    cases hz
    subst h1
    have e2 := reps_int h3
    subst e2
    have h := List.min?_eq_some_iff.mp e
    have h0 : 0 < x.length := List.length_pos_of_mem h.1
    refine ⟨p, x, rfl, .inl (.inl h2), h0, fun m' hm hle => q _ F H (Ext.refl s) ?_⟩
    have h6 : m' = z := Int.le_antisymm (hle z h.1) (h.2 m' hm)
    rw [h6]; rfl
theorem o1_max : Op1 K (fun v => rMax K [v]) (rl K) (rv K) maxR := by
  refine ⟨fun xs => by unfold maxR; split <;> simp [NoEx], fun x z hz Ha F H v s ⟨p, vs, h1, h2, h3⟩ Q q => ?_⟩
  unfold maxR at hz
  cases e : x.max? with
  | none => rw [e] at hz; cases hz
  | some m =>
    rw [e] at hz
    cases hz
    subst h1
    have e2 := reps_int h3
    subst e2
    have h := List.max?_eq_some_iff.mp e
    have h0 : 0 < x.length := List.length_pos_of_mem h.1
    refine ⟨p, x, rfl, .inl (.inl h2), h0, fun m' hm hle => q _ F H (Ext.refl s) ?_⟩
    have h6 : m' = z := Int.le_antisymm (h.2 m' hm) (hle z h.1)
    rw [h6]; rfl
theorem o1_abs : Op1 K (fun v H Q => ∃ i, [v] = [V.int i] ∧ Q (.int (if i < 0 then -i else i)) H) (rv K) (rv K) (fun (i : Int) => .ok (i.natAbs : Int)) := by
  refine ⟨fun _ => noex_ok, fun x z hz Ha F H v s h1 Q q => ?_⟩
  cases hz
  refine ⟨x, by rw [show v = .int x from h1], q _ F H (Ext.refl s) ?_⟩
  show V.int _ = V.int _
  congr 1
  split <;> omega
theorem o1_int : Op1 K (fun v H Q => (∃ i, [v] = [V.int i] ∧ Q (.int i) H) ∨ ∃ k, [v] = [V.bl k] ∧ Q (.int (if k then 1 else 0)) H) (rv K) (rv K) (fun (i : Int) => .ok i) := by
  refine ⟨fun _ => noex_ok, fun x z hz Ha F H v s h1 Q q => ?_⟩
  cases hz
  exact .inl ⟨x, by rw [show v = .int x from h1], q _ F H (Ext.refl s) rfl⟩
theorem o1_intB : Op1 K (fun v H Q => (∃ i, [v] = [V.int i] ∧ Q (.int i) H) ∨ ∃ k, [v] = [V.bl k] ∧ Q (.int (if k then 1 else 0)) H) (rv K) (rv K) (fun (b : Bool) => .ok (if b then (1 : Int) else 0)) := by
  refine ⟨fun _ => noex_ok, fun x z hz Ha F H v s h1 Q q => ?_⟩
  cases hz
  exact .inr ⟨x, by rw [show v = .bl x from h1], q _ F H (Ext.refl s) rfl⟩
theorem o2_min : Op2 K (fun v w H Q => ∃ i j, [v, w] = [V.int i, V.int j] ∧ Q (.int (if j < i then j else i)) H) (rv K) (rv K) (rv K) (fun (i j : Int) => .ok (min i j)) := by
  refine ⟨fun _ _ => noex_ok, fun x y z hz Ha Hb F H v w s h1 h2 Q q => ?_⟩
  cases hz
  refine ⟨x, y, by rw [show v = .int x from h1, show w = .int y from h2], q _ F H (Ext.refl s) ?_⟩
  show V.int _ = V.int _
  congr 1
  split <;> omega
theorem o2_max : Op2 K (fun v w H Q => ∃ i j, [v, w] = [V.int i, V.int j] ∧ Q (.int (if j > i then j else i)) H) (rv K) (rv K) (rv K) (fun (i j : Int) => .ok (max i j)) := by
  refine ⟨fun _ _ => noex_ok, fun x y z hz Ha Hb F H v w s h1 h2 Q q => ?_⟩
  cases hz
  refine ⟨x, y, by rw [show v = .int x from h1, show w = .int y from h2], q _ F H (Ext.refl s) ?_⟩
  show V.int _ = V.int _
  congr 1
  split <;> omega
theorem o2_gcd : Op2 K (fun v w => rGcd [v, w]) (rv K) (rv K) (rv K) (fun (i j : Int) => .ok ((Int.gcd i j : Nat) : Int)) := by
  refine ⟨fun _ _ => noex_ok, fun x y z hz Ha Hb F H v w s h1 h2 Q q => ?_⟩
  cases hz
  exact ⟨x, y, by rw [show v = .int x from h1, show w = .int y from h2], q _ F H (Ext.refl s) rfl⟩
end

/-! ### slices -/
section
variable {K : Fg} {E : Sg → XK} {te ta tb tc : TE} {to tp : TO} {G : List Slot} {α β γ δ : Type}
theorem go_none : Go K E tNoPart G (.ok none) := fun F0 H0 F H σ S _ _ Q q => q none rfl F H (Ext.refl S.sub)
theorem go_some {m : R Int} (h : Gv K E te G (rv K) m) : Go K E (tPart te) G (R.bind m fun i => .ok (some i)) := fun F0 H0 F H σ S hn hx Q q =>
  h.step S hn hx fun x z hn1 hx1 v F1 H1 e1 r => ⟨x, r, by subst z; exact q (some x) rfl F1 H1 e1⟩
theorem gv_slice [Py α] {m : R (List α)} {ml mh : R (Option Int)} (h : Gv K E te G (rl K) m) (hl : Go K E to G ml) (hh : Go K E tp G mh) :
    Gv K E (tSl (rSlL K) te to tp) G (ro K) (R.bind m fun x => R.bind ml fun l => R.bind mh fun u => .ok (cutL x l u)) := fun F0 H0 F H σ S hn hx Q q =>
  h.step S hn hx fun x z hn1 hx1 v F1 H1 e1 r1 => by
    subst z
    refine hl.step (S.mono e1) hn1 (hx1 F1 H1 e1) fun l z hn2 hx2 F2 H2 e2 => ?_
    subst z
    refine hh.step ((S.mono e1).mono e2) hn2 (hx2 F2 H2 e2) fun u z hn3 hx3 F3 H3 e3 => ?_
    subst z
    obtain ⟨p, vs, h1, h2, h3⟩ := Rst.mono r1 (e2.trans e3)
    have e := (e1.trans e2).trans e3
    exact ⟨p, vs, h1, .inl (.inl h2), fun l' hl' => q _ rfl _ F3 _ (e.trans (Ext.cell e.sub hl')) ⟨l', _, rfl, e.hh.free hl', e.sub.free hl', upd_same, reps_cut h3⟩⟩
/-- an item by a written place of a tuple -/
theorem gv_fst [Py α] [Py β] {m : R (α × β)} (h : Gv K E te G (rv K) m) : Gv K E (tOp (rIxT K) te (tC (.int 0))) G (rv K) (R.bind m fun x => .ok x.1) :=
  gv_op (rb := fun (_ : Unit) _ _ _ v => v = .int 0) (mb := .ok ()) o2_fst h (fun F0 H0 F H σ S _ _ Q q => q () rfl _ F H (Ext.refl S.sub) rfl)
theorem gv_snd [Py α] [Py β] {m : R (α × β)} (h : Gv K E te G (rv K) m) : Gv K E (tOp (rIxT K) te (tC (.int 1))) G (rv K) (R.bind m fun x => .ok x.2) :=
  gv_op (rb := fun (_ : Unit) _ _ _ v => v = .int 1) (mb := .ok ()) o2_snd h (fun F0 H0 F H σ S _ _ Q q => q () rfl _ F H (Ext.refl S.sub) rfl)
end
end Wk
end
section
set_option Elab.async false
set_option linter.all false
set_option maxRecDepth 100000
namespace Wk
open PySem L2

/-! ### the promise of a def: it computes the mirror m -/
def Prm (K : Fg) {A ρ : Type} [PyA A] (rr : Rr ρ) (m : A → R ρ) : Sp := fun vs H Q E => ∃ (F : Hp) (a : A), Same F H ∧ PyA.reps K F vs a ∧ m a ≠ .no ∧
  (∀ r, m a = .ok r → ∀ v F' H', Ext F H F' H' → rr r H F' H' v → Q v H') ∧ (∀ e, m a = .ex e → ∀ cls d F' H', Ext F H F' H' → ExOk K e cls d H' → E cls d H')
theorem Prm.len {K : Fg} {A ρ : Type} [PyA A] {rr : Rr ρ} {m : A → R ρ} {n : Nat} (hn : PyA.len A = n) : ∀ vs H Q E, Prm K rr m vs H Q E → vs.length = n := fun vs H Q E ⟨_, _, _, h, _⟩ => by rw [← hn]; exact PyA.hlen h
section
variable {K : Fg} {E : Sg → XK} {te ta tb tc : TE} {tA : TA} {G : List Slot} {α β γ ρ A : Type}
theorem Prm.use [PyA A] {rr : Rr ρ} [Rst rr] {m : A → R ρ} {ma : R A} {T : TE} {Ec : Sg → XK} (hE : ∀ σ, E σ = Ec σ) (hT : ∀ σ H Q, tA σ H (fun vs H1 => Prm K rr m vs H1 Q (Ec σ)) → T σ H Q) (ha : Ga K E tA G ma) :
    Gv K E T G rr (R.bind ma m) := fun F0 H0 F H σ S hn hx Q q => hT σ H Q (ha.step S hn hx fun x z hn1 hx1 vs F1 H1 e1 r1 => by
  subst z
  exact ⟨F1, x, e1.sub, r1, hn1, fun r z v F' H' e r' => q r z v F' H' (e1.trans e) (Rst.back e1.hh r'), fun e z cls d F' H' e2 o => by rw [← hE]; exact hx1 F1 H1 e1 e z cls d F' H' e2 o⟩)
theorem gv_callS [PyA A] {rr : Rr ρ} [Rst rr] {m : A → R ρ} {ma : R A} (ha : Ga K E tA G ma) : Gv K E (tCallS (Prm K rr m) E tA) G rr (R.bind ma m) :=
  Prm.use (fun _ => rfl) (fun _ _ _ h => h) ha
theorem gv_call [PyA A] {rr : Rr ρ} [Rst rr] {m : A → R ρ} {ma : R A} {Ec : XK} (ha : Ga K (fun _ => Ec) tA G ma) : Gv K (fun _ => Ec) (tCall (Prm K rr m) [] Ec tA) G rr (R.bind ma m) :=
  Prm.use (fun _ => rfl) (fun _ _ _ h => by show tA _ _ _; simp only [List.append_nil]; exact h) ha
/-- x(*y), y a list: the def takes all its arguments as one tuple -/
def PrmS (K : Fg) {α ρ : Type} [Py α] (rr : Rr ρ) (m : List α → R ρ) : Sp := fun vs H Q E => ∃ (F : Hp) (a : List α), Same F H ∧ Reps K F vs a ∧ m a ≠ .no ∧
  (∀ r, m a = .ok r → ∀ v F' H', Ext F H F' H' → rr r H F' H' v → Q v H') ∧ (∀ e, m a = .ex e → ∀ cls d F' H', Ext F H F' H' → ExOk K e cls d H' → E cls d H')
theorem gv_star [Py α] {rr : Rr ρ} [Rst rr] {m : List α → R ρ} {ma : R (List α)} {Ec : XK} (ha : Gv K (fun _ => Ec) te G (rl K) ma) :
    Gv K (fun _ => Ec) (fun σ H Q => te σ H fun y H1 => ∃ a xs, y = V.ref a ∧ (SqT K H1 a xs ∨ SqL K H1 a xs) ∧ PrmS K rr m xs H1 Q Ec) G rr (R.bind ma m) := fun F0 H0 F H σ S hn hx Q q =>
  ha.step S hn hx fun x z hn1 hx1 v F1 H1 e1 ⟨p, vs, h1, h2, h3⟩ => by
    subst z
    exact ⟨p, vs, h1, .inr (.inl (.inl h2)), F1, x, e1.sub, h3, hn1, fun r z v F' H' e r' => q r z v F' H' (e1.trans e) (Rst.back e1.hh r'), fun e z cls d F' H' e2 o => hx1 F1 H1 e1 e z cls d F' H' e2 o⟩
/-- x(a, b, ..) of such a def -/
theorem gv_callV [Py α] {rr : Rr ρ} [Rst rr] {m : List α → R ρ} {ma : R (List α)} {n : Nat} {Ec : XK} (ha : Gs K (fun _ => Ec) tA G n ma) :
    Gv K (fun _ => Ec) (fun σ H Q => tA σ H fun vs H1 => PrmS K rr m vs H1 Q Ec) G rr (R.bind ma m) := fun F0 H0 F H σ S hn hx Q q =>
  ha.2 F0 H0 F H σ S (R.bind_no_of hn) (fun e z => hx e (by rw [z]; rfl)) _ fun x z vs F1 H1 e1 r1 => by
    subst z
    exact ⟨F1, x, e1.sub, r1, hn, fun r z v F' H' e r' => q r z v F' H' (e1.trans e) (Rst.back e1.hh r'), fun e z cls d F' H' e2 o => hx e z cls d F' H' (e1.trans e2) o⟩

/-! ### what is walked -/
def WalkOk (K : Fg) (live : Bool) (J : It) {α : Type} [Py α] (xs : List α) (Fs Hs : Hp) : Prop := ∃ Gd Y, Walk J xs.length Gd Y ∧ (∀ F H, Same Fs F → Same F H → (live = true → Same Hs H) → Gd H) ∧
  ∀ i H x H' F, i < xs.length → Same Fs F → Same F H → (live = true → Same Hs H) → Y i H x H' → ∃ F' y, Ext F H F' H' ∧ xs[i]? = some y ∧ Py.rep K F' x y
def Gi (K : Fg) (E : Sg → XK) (wi : TI) (G : List Slot) (live : Bool) {α : Type} [Py α] (m : R (List α)) : Prop :=
  ∀ F0 H0 F H σ, Sta K F0 H0 F H σ G → m ≠ .no → (∀ e, m = .ex e → ∀ cls d F' H', Ext F H F' H' → ExOk K e cls d H' → E σ cls d H') →
    ∀ Q : It → Hp → Prop, (∀ x, m = .ok x → ∀ J F' H', Ext F H F' H' → WalkOk K live J x F' H' → Q J H') → wi σ H Q
theorem gi_list [Py α] {m : R (List α)} (h : Gv K E te G (rv K) m) : Gi K E (iList K te) G false m := fun F0 H0 F H σ S hn hx Q q =>
  h F0 H0 F H σ S hn hx _ fun x z v F' H' e ⟨p, vs, h1, h2, h3⟩ => ⟨p, h1, ⟨vs, .inl (.inl (e.sub _ _ h2))⟩, q x z _ F' H' e
    ⟨fun H => SqL K H p vs, YAt vs, by rw [← PySem.Paired.length h3]; exact walk_list, fun F2 H2 s1 s2 _ => .inl (.inl (s2 _ _ (s1 _ _ h2))), fun i H x' H2 F2 hi s1 s2 _ ⟨y1, y2⟩ => by
      subst y1
      obtain ⟨y, e1, e2⟩ := reps_getV h3 y2
      exact ⟨F2, y, Ext.refl s2, e1, Py.mono s1 e2⟩⟩⟩
/-- over an own list (a comprehension) -/
theorem gi_live [Py α] {m : R (List α)} (h : Gv K E te G (rl K) m) : Gi K E (iList K te) G true m := fun F0 H0 F H σ S hn hx Q q =>
  h F0 H0 F H σ S hn hx _ fun x z v F' H' e ⟨p, vs, h1, h2, h3⟩ => ⟨p, h1, ⟨vs, .inl (.inl h2)⟩, q x z _ F' H' e
    ⟨fun H => SqL K H p vs, YAt vs, by rw [← PySem.Paired.length h3]; exact walk_list, fun F2 H2 s1 s2 s3 => .inl (.inl (s3 rfl _ _ h2)), fun i H x' H2 F2 hi s1 s2 _ ⟨y1, y2⟩ => by
      subst y1
      obtain ⟨y, e1, e2⟩ := reps_getV h3 y2
      exact ⟨F2, y, Ext.refl s2, e1, Py.mono s1 e2⟩⟩⟩
def rangeL (lo hi : Int) : List Int := (List.range (hi - lo).toNat).map fun i => lo + (i : Nat)
def rangeR (lo hi : Int) : R (List Int) := R.chk (-(2 ^ 62) ≤ lo ∧ lo < 2 ^ 62 ∧ -(2 ^ 62) ≤ hi ∧ hi < 2 ^ 62) (.ok (rangeL lo hi))
theorem walk_rangeL {K : Fg} {F' H' : Hp} {live : Bool} {lo hi : Int} : WalkOk K live (Itr lo (hi - lo).toNat) (rangeL lo hi) F' H' := by
  have hl : (rangeL lo hi).length = (hi - lo).toNat := by unfold rangeL; simp
  refine ⟨fun _ => True, YFn fun i => .int (lo + i), by rw [hl]; exact walk_range, fun _ _ _ _ _ => trivial, fun i H x' H2 F2 hi' s1 s2 _ ⟨y1, y2⟩ => ?_⟩
  subst y1
  refine ⟨F2, lo + (i : Nat), Ext.refl s2, ?_, y2⟩
  rw [hl] at hi'
  unfold rangeL
  rw [List.getElem?_map, List.getElem?_range hi']
  rfl
theorem gi_range1 {live : Bool} {m : R Int} (h : Gv K E te G (rv K) m) : Gi K E (iRng1 (tCons te tNil)) G live (R.bind m fun n => rangeR 0 n) := fun F0 H0 F H σ S hn hx Q q =>
  h.step S hn hx fun x z hn1 hx1 v F' H' e r => by
    subst z
    unfold rangeR at hn1 q
    by_cases c : -(2 ^ 62) ≤ (0 : Int) ∧ (0 : Int) < 2 ^ 62 ∧ -(2 ^ 62) ≤ x ∧ x < 2 ^ 62
    · refine ⟨x, by rw [show v = .int x from r], c.2.2.1, c.2.2.2, q _ (R.chk_pos c) _ F' H' e ?_⟩
      have := walk_rangeL (K := K) (F' := F') (H' := H') (live := live) (lo := 0) (hi := x)
      rw [show x - 0 = x by omega] at this
      exact this
    · exact absurd (if_neg c) hn1
theorem gi_range2 {live : Bool} {ma mb : R Int} (ha : Gv K E ta G (rv K) ma) (hb : Gv K E tb G (rv K) mb) : Gi K E (iRng2 (tCons ta (tCons tb tNil))) G live (R.bind ma fun a => R.bind mb fun b => rangeR a b) := fun F0 H0 F H σ S hn hx Q q =>
  ha.step S hn hx fun x z hn1 hx1 v F1 H1 e1 r1 => by
    subst z
    refine hb.step (S.mono e1) hn1 (hx1 F1 H1 e1) fun y z hn2 hx2 w F2 H2 e2 r2 => ?_
    subst z
    by_cases c : -(2 ^ 62) ≤ x ∧ x < 2 ^ 62 ∧ -(2 ^ 62) ≤ y ∧ y < 2 ^ 62
    · exact ⟨x, y, by rw [show v = .int x from r1, show w = .int y from r2], c, q _ (R.chk_pos c) _ F2 H2 (e1.trans e2) walk_rangeL⟩
    · exact absurd (if_neg c) hn2
def enumL {α : Type} (xs : List α) : List (Int × α) := (List.range xs.length).zipWith (fun (i : Nat) x => ((i : Int), x)) xs
theorem gi_enum [Py α] {m : R (List α)} (h : Gv K E te G (rv K) m) : Gi K E (iEnum K (tCons te tNil)) G false (R.bind m fun x => .ok (enumL x)) := fun F0 H0 F H σ S hn hx Q q =>
  h.step S hn hx fun x z hn1 hx1 v F' H' e ⟨p, vs, h1, h2, h3⟩ => by
    subst z
    have hl : (enumL x).length = vs.length := by unfold enumL; simp [PySem.Paired.length h3]
    refine ⟨p, vs, by rw [h1], .inl (.inl (e.sub _ _ h2)), q _ rfl _ F' H' e ⟨fun H => SqL K H p vs, _, by rw [hl]; exact walk_enum, fun F2 H2 s1 s2 _ => .inl (.inl (s2 _ _ (s1 _ _ h2))), fun i H x' H2 F2 hi s1 s2 _ y => ?_⟩⟩
    obtain ⟨T, a, b, y1, y2, y3, y4, y5⟩ := y
    subst y1 y3
    cases y4
    obtain ⟨y, e1, e2⟩ := reps_getV h3 y5
    have e3 := Ext.new (o := .tup [V.int (i : Nat), b]) s2 y2
    refine ⟨_, ((i : Int), y), e3, ?_, T, _, _, rfl, .inl (.inl upd_same), rfl, Py.mono (s1.trans e3.ff) e2⟩
    have hi2 : i < x.length := (List.getElem?_eq_some_iff.mp e1).1
    unfold enumL
    rw [List.getElem?_zipWith, List.getElem?_range hi2, e1]
theorem gi_zip [Py α] [Py β] {ma : R (List α)} {mb : R (List β)} (ha : Gv K E ta G (rv K) ma) (hb : Gv K E tb G (rv K) mb) :
    Gi K E (iZip K (tCons ta (tCons tb tNil))) G false (R.bind ma fun x => R.bind mb fun y => .ok (x.zip y)) := fun F0 H0 F H σ S hn hx Q q =>
  ha.step S hn hx fun x z hn1 hx1 v F1 H1 e1 r1 => by
    subst z
    refine hb.step (S.mono e1) hn1 (hx1 F1 H1 e1) fun y z hn2 hx2 w F2 H2 e2 r2 => ?_
    subst z
    obtain ⟨p, vs, h1, h2, h3⟩ := Py.mono e2.ff (show Py.rep K F1 v x from r1)
    obtain ⟨p', vs', h1', h2', h3'⟩ := r2
    subst h1 h1'
    have hl : (x.zip y).length = min vs.length vs'.length := by rw [List.length_zip, PySem.Paired.length h3, PySem.Paired.length h3']
    refine ⟨p, p', vs, vs', rfl, .inl (.inl (e2.sub _ _ h2)), .inl (.inl (e2.sub _ _ h2')), q _ rfl _ F2 H2 (e1.trans e2) ⟨_, _, walk_zip hl, fun F3 H3 s1 s2 _ => ⟨.inl (.inl (s2 _ _ (s1 _ _ h2))), .inl (.inl (s2 _ _ (s1 _ _ h2')))⟩, fun i H x' H2 F2 hi s1 s2 _ yy => ?_⟩⟩
    obtain ⟨T, a, b, y1, y2, y3, y4, y5⟩ := yy
    subst y1 y3
    obtain ⟨z1, e3, e4⟩ := reps_getV h3 y4
    obtain ⟨z2, e5, e6⟩ := reps_getV h3' y5
    have e7 := Ext.new (o := .tup [a, b]) s2 y2
    refine ⟨_, (z1, z2), e7, ?_, T, _, _, rfl, .inl (.inl upd_same), Py.mono (s1.trans e7.ff) e4, Py.mono (s1.trans e7.ff) e6⟩
    rw [List.zip_eq_zipWith, List.getElem?_zipWith, e3, e5]

/-! ### targets -/
def Gg (K : Fg) (g : TG) (is : List Nat) {α : Type} [Py α] (U : α → List Slot → List Slot) : Prop :=
  ∀ F0 H0 F H σ G v x, Sta K F0 H0 F H σ G → Py.rep K F v x → ∀ Q : Sg → Hp → Prop, (∀ σ', Sta K F0 H0 F H σ' (U x G) → (∀ vs : List Nat, (∀ i ∈ is, i ∈ vs) → wipe σ' vs = wipe σ vs) → Q σ' H) → g v σ H Q
theorem wipe_set : ∀ {vs : List Nat} {σ : Sg} {i : Nat} {o : Option V}, i ∈ vs → wipe (σ.set i o) vs = wipe σ vs
  | [], _, _, _, h => by simp at h
  | v :: vs, σ, i, o, h => by
    unfold wipe
    by_cases hv : i ∈ vs
    · rw [wipe_set hv]
    · have e : i = v := by rcases List.mem_cons.mp h with e | e; exact e; exact absurd e hv
      subst e
      clear h
      have q : ∀ {vs : List Nat}, i ∉ vs → wipe (σ.set i o) vs = (wipe σ vs).set i o := by
        intro vs
        induction vs with
        | nil => intro _; rfl
        | cons w ws ih =>
          intro hn
          unfold wipe
          rw [ih (fun z => hn (List.mem_cons_of_mem _ z)), List.set_comm]
          exact fun z => hn (by rw [z]; exact List.mem_cons_self)
      rw [q hv, List.set_set]
theorem wipe_wipe {σ : Sg} {vs : List Nat} : ∀ {us : List Nat}, (∀ i ∈ us, i ∈ vs) → wipe (wipe σ us) vs = wipe σ vs
  | [], _ => rfl
  | u :: us, h => by
    show wipe ((wipe σ us).set u none) vs = wipe σ vs
    rw [wipe_set (h u List.mem_cons_self)]
    exact wipe_wipe fun i hi => h i (List.mem_cons_of_mem _ hi)
theorem gg_name [Py α] (i : Nat) : Gg K (gName i) [i] (fun (x : α) G => G.set i (.val inferInstance x)) := fun F0 H0 F H σ G v x S r Q q =>
  q _ (S.setV i r) fun vs h => wipe_set (h i (by simp))
theorem gg_any [Py α] (i : Nat) : Gg K (gName i) [i] (fun (x : α) G => G.set i .any) := fun F0 H0 F H σ G v x S r Q q =>
  q _ (S.setAny i) fun vs h => wipe_set (h i (by simp))
theorem gg_pair [Py α] [Py β] {g1 g2 : TG} {i1 i2 : List Nat} {U1 : α → List Slot → List Slot} {U2 : β → List Slot → List Slot} (h1 : Gg K g1 i1 U1) (h2 : Gg K g2 i2 U2) :
    Gg K (gTup K 2 (gCons g1 (gCons g2 gNil))) (i1 ++ i2) (fun (x : α × β) G => U2 x.2 (U1 x.1 G)) := fun F0 H0 F H σ G v x S ⟨p, v1, v2, e1, e2, r1, r2⟩ Q q =>
  ⟨p, _, e1, same_t S.sub e2, rfl, v1, [v2], rfl, h1 F0 H0 F H σ G v1 x.1 S r1 _ fun σ1 S1 w1 => ⟨v2, [], rfl, h2 F0 H0 F H σ1 _ v2 x.2 S1 r2 _ fun σ2 S2 w2 =>
    ⟨rfl, q σ2 S2 fun vs h => (w2 vs fun i hi => h i (List.mem_append_right _ hi)).trans (w1 vs fun i hi => h i (List.mem_append_left _ hi))⟩⟩⟩
theorem gg_tup3 [Py α] [Py β] [Py γ] {g1 g2 g3 : TG} {i1 i2 i3 : List Nat} {U1 : α → List Slot → List Slot} {U2 : β → List Slot → List Slot} {U3 : γ → List Slot → List Slot} (h1 : Gg K g1 i1 U1) (h2 : Gg K g2 i2 U2) (h3 : Gg K g3 i3 U3) :
    Gg K (gTup K 3 (gCons g1 (gCons g2 (gCons g3 gNil)))) (i1 ++ i2 ++ i3) (fun (x : T3 α β γ) G => U3 x.c (U2 x.b (U1 x.a G))) := fun F0 H0 F H σ G v x S ⟨p, v1, v2, v3, e1, e2, r1, r2, r3⟩ Q q =>
  ⟨p, _, e1, same_t S.sub e2, rfl, v1, [v2, v3], rfl, h1 F0 H0 F H σ G v1 x.a S r1 _ fun σ1 S1 w1 => ⟨v2, [v3], rfl, h2 F0 H0 F H σ1 _ v2 x.b S1 r2 _ fun σ2 S2 w2 => ⟨v3, [], rfl, h3 F0 H0 F H σ2 _ v3 x.c S2 r3 _ fun σ3 S3 w3 =>
    ⟨rfl, q σ3 S3 fun vs h => (w3 vs fun i hi => h i (List.mem_append_right _ hi)).trans ((w2 vs fun i hi => h i (List.mem_append_left _ (List.mem_append_right _ hi))).trans (w1 vs fun i hi => h i (List.mem_append_left _ (List.mem_append_left _ hi))))⟩⟩⟩⟩

/-! ### comprehensions -/
/-- what is kept and what is made of it -/
def lcR {α β : Type} (c : α → R Bool) (f : α → R β) : List α → R (List β)
  | [] => .ok []
  | x :: r => R.bind (R.noex (c x)) fun b => if b = true then R.bind (R.noex (f x)) fun y => R.bind (lcR c f r) fun ys => .ok (y :: ys) else lcR c f r
def compIf {α β : Type} (xs : List α) (c : α → R Bool) (f : α → R β) : R (List β) := R.chk (xs.length ≤ 100000) (lcR c f xs)
def comp {α β : Type} (xs : List α) (f : α → R β) : R (List β) := compIf xs (fun _ => .ok true) f
theorem lc_noex {α β : Type} {c : α → R Bool} {f : α → R β} : ∀ xs : List α, NoEx (lcR c f xs)
  | [] => noex_ok
  | x :: r => by
    unfold lcR
    intro e
    cases c x with
    | no => exact fun h => nomatch h
    | ex e => exact fun h => nomatch h
    | ok b =>
      cases b with
      | false => exact lc_noex r e
      | true =>
        cases f x with
        | no => exact fun h => nomatch h
        | ex e => exact fun h => nomatch h
        | ok y =>
          cases h : lcR c f r with
          | no => simp [h]
          | ex e => exact absurd h (lc_noex r e)
          | ok ys => simp [h]
theorem Sta.wipe {F0 H0 F H : Hp} {σ : Sg} (S : Sta K F0 H0 F H σ G) : ∀ {vs : List Nat}, (∀ i ∈ vs, G[i]? = some .any) → Sta K F0 H0 F H (L2.wipe σ vs) G
  | [], _ => S
  | v :: vs, h => by
    have S1 := Sta.wipe S (vs := vs) fun i hi => h i (List.mem_cons_of_mem _ hi)
    have S2 := S1.setAny (o := none) v
    have e : G.set v .any = G := by
      apply List.ext_getElem?
      intro j
      by_cases hj : v = j
      · subst hj
        have hv := h v List.mem_cons_self
        have hlt := (List.getElem?_eq_some_iff.mp hv).1
        rw [List.getElem?_set_self hlt, hv]
      · rw [List.getElem?_set_ne hj]
    rw [e] at S2
    exact S2
abbrev EN : Sg → XK := fun _ _ _ _ => False
theorem gv_lcI [Py α] [Py β] {wi : TI} {g : TG} {tt : TT} {live : Bool} {is : List Nat} {U : α → List Slot → List Slot} {vs : List Nat} {mi : R (List α)} {c : α → R Bool} {f : α → R β} (hi : Gi K E wi G live mi) (hg : Gg K g is U) (his : ∀ i ∈ is, i ∈ vs) (hG : ∀ i ∈ vs, G[i]? = some .any)
    (ht : ∀ x, Gt K EN tt (U x G) (R.noex (c x))) (he : ∀ x, Gv K EN te (U x G) (rv K) (R.noex (f x))) : Gv K E (tLc wi g tt te vs) G (ro K) (R.bind mi fun xs => compIf xs c f) := fun F0 H0 F H σ S hn hx Q q => by
  refine hi F0 H0 F H σ S (R.bind_no_of hn) (fun e z => hx e (by rw [z]; rfl)) _ fun xs z J F1 H1 e1 ⟨Gd, Y, w, hw, hy⟩ D hD => ?_
  subst z
  have hn1 : compIf xs c f ≠ .no := hn
  have hlen : xs.length ≤ 100000 := by
    by_cases q : xs.length ≤ 100000
    · exact q
    · exact absurd (if_neg q) hn1
  have ht' : compIf xs c f = lcR c f xs := R.chk_pos hlen
  rw [ht'] at hn1
  have q' : ∀ x, lcR c f xs = .ok x → ∀ v F' H', Ext F H F' H' → ro K x H F' H' v → Q v H' := fun x z => q x (by show compIf xs c f = _; rw [ht', z])
  have S1 : Sta K F0 H0 F1 H1 (L2.wipe σ vs) G := Sta.wipe (S.mono e1) hG
  -- the invariant
  have P : ∀ i H', (∃ F' acc ys, Ext F1 H1 F' H' ∧ F' D = none ∧ H' D = some (.lst acc) ∧ Reps K F' acc ys ∧ ys.length ≤ i ∧ R.bind (lcR c f (xs.drop i)) (fun zs => .ok (ys ++ zs)) = lcR c f xs) → ∃ F', Same F1 F' ∧ Same F' H' ∧ Same H1 H' := fun i H' ⟨F', acc, ys, e, _⟩ => ⟨F', e.ff, e.sub, e.hh⟩
  refine lc_it w (fun i H' => ∃ F' acc ys, Ext F1 H1 F' H' ∧ F' D = none ∧ H' D = some (.lst acc) ∧ Reps K F' acc ys ∧ ys.length ≤ i ∧ R.bind (lcR c f (xs.drop i)) (fun zs => .ok (ys ++ zs)) = lcR c f xs) ?_ ?_ ?_ ?_
  · refine ⟨F1, [], [], Ext.cell e1.sub hD, e1.sub.free hD, upd_same, .nil, Nat.le_refl _, ?_⟩
    rw [List.drop_zero]
    cases lcR c f xs <;> rfl
  · intro i H' _ h
    obtain ⟨F', s1, s2, s3⟩ := P i H' h
    exact hw F' H' s1 s2 fun _ => s3
  · rintro i x H2 H3 hi ⟨F2, acc, ys, e2, fD, hDl, hr, hyl, ht2⟩ hyy
    obtain ⟨F3, y, e3, hxy, hry⟩ := hy i H2 x H3 F2 hi e2.ff e2.sub (fun _ => e2.hh) hyy
    have e13 := e2.trans e3
    have fD3 : F3 D = none := e3.out D (by rw [hDl]; exact fun q => (nomatch q)) fD
    have hD3 : H3 D = some (.lst acc) := e3.hh _ _ hDl
    have hdrop : xs.drop i = y :: xs.drop (i + 1) := by
      obtain ⟨h1, h2⟩ := List.getElem?_eq_some_iff.mp hxy
      rw [List.drop_eq_getElem_cons h1, h2]
    rw [hdrop] at ht2
    have hc0 : c y ≠ .no ∧ NoEx (c y) := by
      constructor
      · intro z; rw [lcR, z] at ht2; exact hn1 ht2.symm
      · intro e z; rw [lcR, z] at ht2; exact hn1 ht2.symm
    refine hg F0 H0 F3 H3 (L2.wipe σ vs) G x y (S1.mono e13) hry _ fun σ' S' hwp => ⟨?_, ?_⟩
    · exact (hwp vs his).trans (wipe_wipe fun i hi => hi)
    refine ht y F0 H0 F3 H3 σ' S' ?_ (fun e z => ?_) _ fun b z F4 H4 e4 => ?_
    · intro z
      cases h : c y with
      | no => exact hc0.1 h
      | ex e => exact hc0.2 e h
      | ok b => rw [h] at z; cases z
    · cases h : c y with
      | no => rw [h] at z; cases z
      | ex e => rw [h] at z; cases z
      | ok b => rw [h] at z; cases z
    have hcy : c y = .ok b := by
      cases h : c y with
      | no => rw [h] at z; cases z
      | ex e => rw [h] at z; cases z
      | ok b' => rw [h] at z; cases z; rfl
    rw [lcR, hcy] at ht2
    cases b with
    | false => exact ⟨F4, acc, ys, e13.trans e4, e4.out D (by rw [hD3]; exact fun q => (nomatch q)) fD3, e4.hh _ _ hD3, hr.mono (e3.trans e4).ff, by omega, ht2⟩
    | true =>
      have hf0 : ∃ u, f y = .ok u := by
        cases h : f y with
        | no => simp only [R.noex_ok, R.bind_ok, if_true, h, R.noex_no, R.bind_no] at ht2; exact absurd ht2.symm hn1
        | ex e => simp only [R.noex_ok, R.bind_ok, if_true, h, R.noex_ex, R.bind_no] at ht2; exact absurd ht2.symm hn1
        | ok u => exact ⟨u, rfl⟩
      obtain ⟨u, hu⟩ := hf0
      show te σ' H4 _
      refine he y F0 H0 F4 H4 σ' (S'.mono e4) (by rw [hu]; exact fun q => (nomatch q)) (fun e z => by rw [hu] at z; cases z) _ fun u' z v F5 H5 e5 rv' => ?_
      rw [hu] at z
      cases z
      have e45 := e4.trans e5
      have fD5 : F5 D = none := e45.out D (by rw [hD3]; exact fun q => (nomatch q)) fD3
      have hD5 := e45.hh _ _ hD3
      have hal : acc.length = ys.length := PySem.Paired.length hr
      refine ⟨acc, hD5, Nat.lt_of_lt_of_le (show acc.length < 100000 by omega) (by decide), F5, acc ++ [v], ys ++ [u], ?_, fD5, upd_same, reps_append (hr.mono (e3.trans e45).ff) (.cons rv' .nil), by simp; omega, ?_⟩
      · have e15 := e13.trans e45
        refine ⟨e15.ff, fun b o z => ?_, fun b o z => ?_, e15.out⟩
        · rw [upd_ne (ne_of_none z hD)]; exact e15.hh _ _ z
        · have hb : b ≠ D := fun q => by rw [q, fD5] at z; cases z
          rw [upd_ne hb]; exact e15.sub _ _ z
      · rw [← ht2, hu]
        simp only [R.noex_ok, R.bind_ok, if_true]
        cases lcR c f (xs.drop (i + 1)) with
        | no => rfl
        | ex e => rfl
        | ok zs => simp
  · rintro H2 ⟨F2, acc, ys, e2, fD, hDl, hr, hyl, ht2⟩
    rw [List.drop_length] at ht2
    have e := e1.trans e2
    exact q' (ys ++ []) (by rw [← ht2]; rfl) _ F2 H2 e ⟨D, acc, rfl, e1.hh.free hD, fD, hDl, by rw [List.append_nil]; exact hr⟩
theorem gt_yes : Gt K E tYes G (.ok true) := fun F0 H0 F H σ S hn hx Q q => q true rfl F H (Ext.refl S.sub)
theorem gv_lc [Py α] [Py β] {wi : TI} {g : TG} {live : Bool} {is : List Nat} {U : α → List Slot → List Slot} {vs : List Nat} {mi : R (List α)} {f : α → R β} (hi : Gi K E wi G live mi) (hg : Gg K g is U) (his : ∀ i ∈ is, i ∈ vs) (hG : ∀ i ∈ vs, G[i]? = some .any)
    (he : ∀ x, Gv K EN te (U x G) (rv K) (R.noex (f x))) : Gv K E (tLc wi g tYes te vs) G (ro K) (R.bind mi fun xs => comp xs f) :=
  gv_lcI hi hg his hG (fun x F0 H0 F H σ S hn hx Q q => q true rfl F H (Ext.refl S.sub)) he
end
end Wk
end
section
set_option Elab.async false
set_option linter.all false
set_option maxRecDepth 100000
namespace Wk
open PySem L2

/-! ### statements: from the slots G toward the result t of the whole def -/
structure Ks (ρ : Type) where
  N : List Slot → R ρ → Prop
  B : List Slot → R ρ → Prop := fun _ _ => False
  C : List Slot → R ρ → Prop := fun _ _ => False
  X : Ex → List Slot → R ρ → Prop := fun e _ t => t = .ex e
def Ks.Pl {ρ : Type} (k : Ks ρ) : Prop := ∀ e G, k.X e G (.ex e)
def GS (K : Fg) (E : Sg → XK) (ts : TS) (G : List Slot) {ρ : Type} (rr : Rr ρ) (k : Ks ρ) (t : R ρ) : Prop :=
  ∀ F0 H0 F H σ D, Sta K F0 H0 F H σ G → t ≠ .no →
    (∀ e G' t', t' = t → k.X e G' t' → ∀ cls d F' H' σ', Sta K F0 H0 F' H' σ' G' → ExOk K e cls d H' → E σ' cls d H') →
    (∀ r, t = .ok r → ∀ v F' H', Ext F0 H0 F' H' → rr r H0 F' H' v → D.rt v H') →
    (∀ G' t', t' = t → k.N G' t' → ∀ F' H' σ', Sta K F0 H0 F' H' σ' G' → Same F F' → D.nx σ' H') →
    (∀ G' t', t' = t → k.B G' t' → ∀ F' H' σ', Sta K F0 H0 F' H' σ' G' → Same F F' → D.bk σ' H') →
    (∀ G' t', t' = t → k.C G' t' → ∀ F' H' σ', Sta K F0 H0 F' H' σ' G' → Same F F' → D.ct σ' H') → ts D σ H

/-! slots of which less is told -/
inductive Le : List Slot → List Slot → Prop where
  | nil : Le [] []
  | r {s : Slot} {G G' : List Slot} : Le G G' → Le (s :: G) (s :: G')
  | a {s : Slot} {G G' : List Slot} : Le G G' → Le (s :: G) (.any :: G')
theorem Le.refl : ∀ G : List Slot, Le G G
  | [] => .nil
  | _ :: G => .r (Le.refl G)
section
variable {K : Fg} {E : Sg → XK} {te ti : TE} {tt : TT} {ts ta tb : TS} {G G' : List Slot} {α β γ ρ S : Type} {rr : Rr ρ} {k : Ks ρ} {t : R ρ}
theorem Le.sok {F H : Hp} : ∀ {G G' : List Slot} {σ : Sg} {cs : List Addr}, Le G G' → SOk K F H G σ cs → ∃ cs', SOk K F H G' σ cs' ∧ cs'.Sublist cs
  | _, _, _, _, .nil, h => ⟨_, h, .refl _⟩
  | _, _, _, _, .r l, .cons h t => by
    obtain ⟨cs', q1, q2⟩ := l.sok t
    exact ⟨_, .cons h q1, (List.Sublist.refl _).append q2⟩
  | _, _, _, _, .a l, .cons h t => by
    obtain ⟨cs', q1, q2⟩ := l.sok t
    exact ⟨_, .cons (c := []) rfl q1, q2.trans (List.sublist_append_right _ _)⟩
theorem Sta.le {F0 H0 F H : Hp} {σ : Sg} (l : Le G G') (s : Sta K F0 H0 F H σ G) : Sta K F0 H0 F H σ G' := by
  obtain ⟨cs, h1, h2, h3⟩ := s.ok
  obtain ⟨cs', q1, q2⟩ := l.sok h1
  exact ⟨s.ext, cs', q1, h2.sublist q2, fun c hc => h3 c (q2.subset hc)⟩
theorem GS.weak (l : Le G G') (h : GS K E ts G' rr k t) : GS K E ts G rr k t := fun F0 H0 F H σ D s => h F0 H0 F H σ D (s.le l)

/-! an own value is frozen -/
theorem gs_freeze {i : Ow α} {j : Py α} [Fz i j] (n : Nat) {xs : α} (hg : GS K E ts (G.set n (.val j xs)) rr k t) (h : G[n]? = some (.own i xs) := by rfl) : GS K E ts G rr k t := fun F0 H0 F H σ D s hn hX hR hN hB hC => by
  obtain ⟨F', cs, s1, s2, _⟩ := s.freeze h
  exact hg F0 H0 F' H σ D s2 hn hX hR (fun G' t' a b F2 H2 σ' c d => hN G' t' a b F2 H2 σ' c (s1.trans d)) (fun G' t' a b F2 H2 σ' c d => hB G' t' a b F2 H2 σ' c (s1.trans d)) fun G' t' a b F2 H2 σ' c d => hC G' t' a b F2 H2 σ' c (s1.trans d)

/-! blocks -/
theorem gs_next (h : k.N G t) : GS K E tNext G rr k t := fun F0 H0 F H σ D s hn hX hR hN hB hC => hN G t rfl h F H σ s (Same.refl F)
theorem gs_break (h : k.B G t) : GS K E tBreak G rr k t := fun F0 H0 F H σ D s hn hX hR hN hB hC => hB G t rfl h F H σ s (Same.refl F)
theorem gs_cont (h : k.C G t) : GS K E tCont G rr k t := fun F0 H0 F H σ D s hn hX hR hN hB hC => hC G t rfl h F H σ s (Same.refl F)
theorem gs_seq (h : GS K E ta G rr { k with N := fun G' t' => GS K E tb G' rr k t' } t) : GS K E (tSeq ta tb) G rr k t := fun F0 H0 F H σ D s hn hX hR hN hB hC =>
  h F0 H0 F H σ { D with nx := tb D } s hn hX hR (fun G' t' e h' F' H' σ' s' q => by
    subst e
    exact h' F0 H0 F' H' σ' D s' hn hX hR (fun G2 t2 a b F2 H2 σ2 c d => hN G2 t2 a b F2 H2 σ2 c (q.trans d)) (fun G2 t2 a b F2 H2 σ2 c d => hB G2 t2 a b F2 H2 σ2 c (q.trans d)) fun G2 t2 a b F2 H2 σ2 c d => hC G2 t2 a b F2 H2 σ2 c (q.trans d)) hB hC
/-- the ways meet again -/
theorem gs_join (Gj : S → List Slot) (kj : S → R ρ) (hr : ∀ s, k.N (Gj s) (kj s)) (h : GS K E ts G rr { k with N := fun G' t' => ∃ s, Le G' (Gj s) ∧ t' = kj s } t) : GS K E ts G rr k t := fun F0 H0 F H σ D s hn hX hR hN hB hC =>
  h F0 H0 F H σ D s hn hX hR (fun G' t' e ⟨u, l, e2⟩ F' H' σ' s' q => hN _ (kj u) (by rw [← e2, e]) (hr u) F' H' σ' (s'.le l) q) hB hC

/-! single statements -/
theorem Gv.run {rq : Rr α} {m : R α} {κ : α → R ρ} (h : Gv K E te G rq m) (hp : k.Pl) {F0 H0 F H : Hp} {σ : Sg} (S : Sta K F0 H0 F H σ G) (hn : R.bind m κ ≠ .no)
    (hX : ∀ e G' t', t' = R.bind m κ → k.X e G' t' → ∀ cls d F' H' σ', Sta K F0 H0 F' H' σ' G' → ExOk K e cls d H' → E σ' cls d H') {Q : VK}
    (q : ∀ x, m = .ok x → ∀ v F' H', Ext F H F' H' → rq x H F' H' v → Q v H') : te σ H Q :=
  h F0 H0 F H σ S (R.bind_no_of hn) (fun e z cls d F' H' e1 o => hX e G (.ex e) (by rw [z]; rfl) (hp e G) cls d F' H' σ (S.mono e1) o) Q q
theorem gs_expr [Py α] {m' m : R α} {κ : α → R ρ} (h' : Gv K E te G (rv K) m') (hk : ∀ x, k.N G (κ x)) (em : m' = m := by first | with_reducible rfl | simp (implicitDefEqProofs := false) only [R.bind_assoc, R.bind_ok]) (hp : k.Pl := by exact fun _ _ => rfl) : GS K E (tDrop te) G rr k (R.bind m κ) := fun F0 H0 F H σ D s hn hX hR hN hB hC =>
  have h : Gv K E te G (rv K) m := em ▸ h'
  h.run hp s hn hX fun x z v F' H' e r => hN _ (κ x) (by rw [z]; rfl) (hk x) F' H' σ (s.mono e) e.ff
theorem gs_asgT [Py α] {g : TG} {is : List Nat} {U : α → List Slot → List Slot} {m' m : R α} {κ : α → R ρ} (hg : Gg K g is U) (h' : Gv K E te G (rv K) m') (hk : ∀ x, k.N (U x G) (κ x)) (em : m' = m := by first | with_reducible rfl | simp (implicitDefEqProofs := false) only [R.bind_assoc, R.bind_ok]) (hp : k.Pl := by exact fun _ _ => rfl) : GS K E (tAsg te g) G rr k (R.bind m κ) := fun F0 H0 F H σ D s hn hX hR hN hB hC =>
  have h : Gv K E te G (rv K) m := em ▸ h'
  h.run hp s hn hX fun x z v F' H' e r => hg F0 H0 F' H' σ G v x (s.mono e) r D.nx fun σ' s' _ => hN _ (κ x) (by rw [z]; rfl) (hk x) F' H' σ' s' e.ff
theorem gs_asg [Py α] {i : Nat} {m' m : R α} {κ : α → R ρ} (h : Gv K E te G (rv K) m') (hk : ∀ x, k.N (G.set i (.val inferInstance x)) (κ x)) (em : m' = m := by first | with_reducible rfl | simp (implicitDefEqProofs := false) only [R.bind_assoc, R.bind_ok]) (hp : k.Pl := by exact fun _ _ => rfl) : GS K E (tAsg te (gName i)) G rr k (R.bind m κ) :=
  gs_asgT (gg_name i) h hk em hp
/-- a value of which every cell is new -/
def rd (K : Fg) {α : Type} (i : Ow α) : Rr α := fun x H F H' v => ∃ cs, i.ow K F H' v x cs ∧ cs.Nodup ∧ ∀ c ∈ cs, H c = none ∧ F c = none
instance {α : Type} {i : Ow α} : Rst (rd K i) where
  mono := fun ⟨cs, h1, h2, h3⟩ e => ⟨cs, i.mono e.ff (fun c _ => e.hh c) h1, h2, fun c hc => ⟨(h3 c hc).1, e.out c (i.cell h1 c hc) (h3 c hc).2⟩⟩
  back := fun s ⟨cs, h1, h2, h3⟩ => ⟨cs, h1, h2, fun c hc => ⟨s.free (h3 c hc).1, (h3 c hc).2⟩⟩
theorem Gv.od [Py α] {m : R (List α)} (h : Gv K E te G (ro K) m) : Gv K E te G (rd K (Ow.list inferInstance)) m := h.imp fun x F H F' H' v e ⟨p, vs, h1, h2, h3, h4, h5⟩ =>
  ⟨F', e, [p], ⟨p, vs, h1, h4, h5, rfl⟩, by simp, fun c hc => by rw [List.mem_singleton.mp hc]; exact ⟨h2, h3⟩⟩
theorem gs_asgD {o : Ow α} {i : Nat} {m' m : R α} {κ : α → R ρ} (h' : Gv K E te G (rd K o) m') (hk : ∀ x, k.N (G.set i (.own o x)) (κ x)) (em : m' = m := by first | with_reducible rfl | simp (implicitDefEqProofs := false) only [R.bind_assoc, R.bind_ok]) (hp : k.Pl := by exact fun _ _ => rfl) : GS K E (tAsg te (gName i)) G rr k (R.bind m κ) := fun F0 H0 F H σ D s hn hX hR hN hB hC =>
  have h : Gv K E te G (rd K o) m := em ▸ h'
  h.run hp s hn hX fun x z v F' H' e ⟨cs, h1, h2, h3⟩ => hN _ (κ x) (by rw [z]; rfl) (hk x) F' H' _ (s.put i e ⟨v, rfl, h1⟩ h2 h3) e.ff
theorem gs_asgO [Py α] {i : Nat} {m' m : R (List α)} {κ : List α → R ρ} (h' : Gv K E te G (ro K) m') (hk : ∀ x, k.N (G.set i (so x)) (κ x)) (em : m' = m := by first | with_reducible rfl | simp (implicitDefEqProofs := false) only [R.bind_assoc, R.bind_ok]) (hp : k.Pl := by exact fun _ _ => rfl) : GS K E (tAsg te (gName i)) G rr k (R.bind m κ) :=
  gs_asgD h'.od hk em hp
theorem gs_ret [Rst rr] {m' m : R ρ} (h' : Gv K E te G rr m') (em : m' = m := by first | with_reducible rfl | simp (implicitDefEqProofs := false) only [R.bind_assoc, R.bind_ok]) (hp : k.Pl := by exact fun _ _ => rfl) : GS K E (tRet te) G rr k m := fun F0 H0 F H σ D s hn hX hR hN hB hC =>
  have h : Gv K E te G rr m := em ▸ h'
  h F0 H0 F H σ s hn (fun e z cls d F' H' e1 o => hX e G (.ex e) z.symm (hp e G) cls d F' H' σ (s.mono e1) o) D.rt fun x z v F' H' e r => hR x z v F' H' (s.ext.trans e) (Rst.back s.ext.hh r)
theorem gs_retN {rr : Rr Unit} {k : Ks Unit} (hr : ∀ Ha F H, rr () Ha F H .non) : GS K E tRetN G rr k (.ok ()) := fun F0 H0 F H σ D s hn hX hR hN hB hC => hR () rfl _ F H s.ext (hr _ _ _)
theorem gs_retO {α : Type} [Py α] {k : Ks (Option α)} : GS K E tRetN G (rv K) k (.ok (none : Option α)) := fun F0 H0 F H σ D s hn hX hR hN hB hC => hR none rfl _ F H s.ext rfl
theorem gs_if {m' m : R Bool} {t1 t2 : R ρ} (hc' : Gt K E tt G m') (ha : GS K E ta G rr k t1) (hb : GS K E tb G rr k t2) (em : m' = m := by first | with_reducible rfl | simp (implicitDefEqProofs := false) only [R.bind_assoc, R.bind_ok]) (hp : k.Pl := by exact fun _ _ => rfl) : GS K E (tIfS tt ta tb) G rr k (R.bind m fun b => if b = true then t1 else t2) := fun F0 H0 F H σ D s hn hX hR hN hB hC =>
  have hc : Gt K E tt G m := em ▸ hc'
  hc F0 H0 F H σ s (R.bind_no_of hn) (fun e z cls d F' H' e1 o => hX e G (.ex e) (by rw [z]; rfl) (hp e G) cls d F' H' σ (s.mono e1) o) _ fun b z F' H' e => by
    subst z
    cases b with
    | true => exact ha F0 H0 F' H' σ D (s.mono e) hn hX hR (fun G2 t2 a b F2 H2 σ2 c d => hN G2 t2 a b F2 H2 σ2 c (e.ff.trans d)) (fun G2 t2 a b F2 H2 σ2 c d => hB G2 t2 a b F2 H2 σ2 c (e.ff.trans d)) fun G2 t2 a b F2 H2 σ2 c d => hC G2 t2 a b F2 H2 σ2 c (e.ff.trans d)
    | false => exact hb F0 H0 F' H' σ D (s.mono e) hn hX hR (fun G2 t2 a b F2 H2 σ2 c d => hN G2 t2 a b F2 H2 σ2 c (e.ff.trans d)) (fun G2 t2 a b F2 H2 σ2 c d => hB G2 t2 a b F2 H2 σ2 c (e.ff.trans d)) fun G2 t2 a b F2 H2 σ2 c d => hC G2 t2 a b F2 H2 σ2 c (e.ff.trans d)
theorem gs_never : GS K E tNever G rr k .no := fun F0 H0 F H σ D s hn => absurd rfl hn
theorem gs_no {ts : TS} : GS K E ts G rr k .no := fun F0 H0 F H σ D s hn => absurd rfl hn
/-- raise X(..) of an own class without an __init__ -/
theorem gs_raise {W : WX} {x : Str} (hE : ∀ σ cls d H, E σ cls d H = W cls d σ H) (hx : k.X ⟨x, []⟩ G (.ex ⟨x, []⟩)) : GS K E (fun _ σ H => W (.ref (He.ga K x)) none σ H) G rr k (.ex ⟨x, []⟩) := fun F0 H0 F H σ D s hn hX hR hN hB hC => by
  have := hX ⟨x, []⟩ G _ rfl hx (.ref (He.ga K x)) none F H σ s ⟨rfl, .inl ⟨rfl, rfl⟩⟩
  rw [hE] at this
  exact this
/-- own list: append -/
theorem gs_append [i : Py α] {n : Nat} {xs : List α} {m' m : R α} {κ : α → R ρ} (hG : G[n]? = some (so xs)) (h' : Gv K E te G (rv K) m') (hk : ∀ x, k.N (G.set n (so (xs ++ [x]))) (κ x)) (em : m' = m := by first | with_reducible rfl | simp (implicitDefEqProofs := false) only [R.bind_assoc, R.bind_ok]) (hp : k.Pl := by exact fun _ _ => rfl) :
    GS K E (tDrop (tBM K "list" rAppend (tVar n) (tCons te tNil))) G rr k (R.bind m fun x => R.chk (xs.length < 100000) (κ x)) := fun F0 H0 F H σ D s hn hX hR hN hB hC => by
  have h : Gv K E te G (rv K) m := em ▸ h'
  obtain ⟨o, h1, p, vs, h2, h3, h4, h5, h6, wr⟩ := s.ownL hG
  subst h2
  refine ⟨_, h1, .inl ⟨rfl, vs, .inl (.inl h5)⟩, ?_⟩
  refine h.run (κ := fun x => R.chk (xs.length < 100000) (κ x)) hp s hn hX fun x z v F' H' e r => ?_
  have hne : H p ≠ none := by rw [h5]; exact fun q => (nomatch q)
  have hx : H' p = some (.lst vs) := e.hh _ _ h5
  have hl := PySem.Paired.length h6
  have hlen : xs.length < 100000 := by
    by_cases q : xs.length < 100000
    · exact q
    · exact absurd (by rw [z]; exact if_neg q) hn
  refine ⟨p, vs, v, rfl, rfl, hx, Nat.lt_of_lt_of_le (show vs.length < 100000 by omega) (by decide), ?_⟩
  obtain ⟨o, h1', p', vs', h2', _, _, _, _, wr'⟩ := (s.mono e).ownL hG
  rw [h1] at h1'; cases h1'; cases h2'
  exact hN _ (κ x) (by rw [z]; exact (if_pos hlen).symm) (hk x) F' _ σ (wr' i _ _ (reps_append (h6.mono e.ff) (.cons r .nil))) e.ff
def setR {α : Type} (xs : List α) (j : Int) (v : α) : R (List α) := match ixN xs.length j with
  | some n => .ok (xs.set n v)
  | none => .no
/-- own list: an item is stored -/
theorem gs_setitem [i : Py α] {n : Nat} {xs : List α} {m' m : R α} {mi' mi : R Int} {κ : List α → R ρ} (hG : G[n]? = some (so xs)) (h' : Gv K E te G (rv K) m') (hi' : Gv K E ti G (rv K) mi') (hk : ∀ ys, k.N (G.set n (so ys)) (κ ys)) (em : m' = m := by first | with_reducible rfl | simp (implicitDefEqProofs := false) only [R.bind_assoc, R.bind_ok]) (emi : mi' = mi := by first | with_reducible rfl | simp (implicitDefEqProofs := false) only [R.bind_assoc, R.bind_ok]) (hp : k.Pl := by exact fun _ _ => rfl) :
    GS K E (tAsg te (gSub (tVar n) ti rSetL)) G rr k (R.bind m fun x => R.bind mi fun j => R.bind (setR xs j x) κ) := fun F0 H0 F H σ D s hn hX hR hN hB hC => by
  have h : Gv K E te G (rv K) m := em ▸ h'
  have hi : Gv K E ti G (rv K) mi := emi ▸ hi'
  obtain ⟨o, h1, p, vs, h2, h3, h4, h5, h6, wr⟩ := s.ownL hG
  subst h2
  refine h.run (κ := fun x => R.bind mi fun j => R.bind (setR xs j x) κ) hp s hn hX fun x z v F1 H1 e1 r1 => ⟨_, h1, ?_⟩
  subst z
  refine hi.run (κ := fun j => R.bind (setR xs j x) κ) hp (s.mono e1) hn hX fun j z w F2 H2 e2 r2 => ?_
  subst z
  have e := e1.trans e2
  have hne : H p ≠ none := by rw [h5]; exact fun q => (nomatch q)
  have hl := PySem.Paired.length h6
  cases hj : ixN xs.length j with
  | none => exact absurd (by simp [setR, hj]) hn
  | some jn =>
    refine ⟨p, vs, j, jn, rfl, r2, e.hh _ _ h5, by rw [hl]; exact hj, ?_⟩
    obtain ⟨o, h1', p', vs', h2', _, _, _, _, wr'⟩ := (s.mono e).ownL hG
    rw [h1] at h1'; cases h1'; cases h2'
    exact hN _ (κ (xs.set jn x)) (by simp [setR, hj]) (hk _) F2 _ σ (wr' i _ _ (reps_set jn (h6.mono e.ff) (Py.mono e2.ff r1))) e.ff
/-- own list: cleared -/
theorem gs_clear [i : Py α] {n : Nat} {xs : List α} (hG : G[n]? = some (so xs)) (hk : k.N (G.set n (so (α := α) [])) t) : GS K E (tDrop (tBM0 K "list" rClear (tVar n))) G rr k t := fun F0 H0 F H σ D s hn hX hR hN hB hC => by
  obtain ⟨o, h1, p, vs, h2, h3, h4, h5, h6, wr⟩ := s.ownL hG
  subst h2
  refine ⟨_, h1, .inl ⟨rfl, vs, .inl (.inl h5)⟩, p, vs, rfl, rfl, h5, ?_⟩
  exact hN _ t rfl hk F _ σ (wr i [] [] .nil) (Same.refl F)
/-- x += e, x -= e (ints) -/
theorem gs_aug {n : Nat} {f : Int → Int → Int} {x : Int} {m' m : R Int} {κ : Int → R ρ} (hG : G[n]? = some (.val inferInstance x)) (h' : Gv K E te G (rv K) m') (hk : ∀ y, k.N (G.set n (.val inferInstance y)) (κ y)) (em : m' = m := by first | with_reducible rfl | simp (implicitDefEqProofs := false) only [R.bind_assoc, R.bind_ok]) (hp : k.Pl := by exact fun _ _ => rfl) :
    GS K E (tAug n te (ipI f)) G rr k (R.bind m fun y => κ (f x y)) := fun F0 H0 F H σ D s hn hX hR hN hB hC => by
  have h : Gv K E te G (rv K) m := em ▸ h'
  obtain ⟨o, h1, v, h2, h3⟩ := s.getV hG
  subst h2
  refine ⟨v, h1, h.run (κ := fun y => κ (f x y)) hp s hn hX fun y z w F1 H1 e1 r1 => ⟨x, y, h3, r1, ?_⟩⟩
  exact hN _ (κ (f x y)) (by rw [z]; rfl) (hk _) F1 H1 _ ((s.mono e1).setV n (show Py.rep K F1 (.int (f x y)) (f x y) from rfl)) e1.ff

/-! loops -/
def forC {α : Type} (xs : List α) (body : S → α → (S → R ρ) → (S → R ρ) → R ρ) (k : S → R ρ) (s : S) : R ρ := match xs with
  | [] => k s
  | x :: r => body s x (fun s' => forC r body k s') k
theorem gs_for [Py α] {wi : TI} {g : TG} {is : List Nat} {U : α → List Slot → List Slot} {mi' mi : R (List α)} (Gs : S → List Slot) (s0 : S) {body : S → α → (S → R ρ) → (S → R ρ) → R ρ} {κ : S → R ρ}
    (hi' : Gi K E wi G false mi') (hg : Gg K g is U) (h0 : Le G (Gs s0)) (hb : ∀ s x kn kb, GS K E tb (U x (Gs s)) rr { N := fun G' t' => ∃ s', Le G' (Gs s') ∧ t' = kn s', C := fun G' t' => ∃ s', Le G' (Gs s') ∧ t' = kn s', B := fun G' t' => ∃ s', Le G' (Gs s') ∧ t' = kb s', X := k.X } (body s x kn kb))
    (hk : ∀ s, k.N (Gs s) (κ s)) (em : mi' = mi := by first | with_reducible rfl | simp (implicitDefEqProofs := false) only [R.bind_assoc, R.bind_ok]) (hp : k.Pl := by exact fun _ _ => rfl) : GS K E (tFor wi g tb) G rr k (R.bind mi fun xs => forC xs body κ s0) := fun F0 H0 F H σ D s hn hX hR hN hB hC => by
  have hi : Gi K E wi G false mi := em ▸ hi'
  refine hi F0 H0 F H σ s (R.bind_no_of hn) (fun e z cls d F' H' e1 o => hX e G (.ex e) (by rw [z]; rfl) (hp e G) cls d F' H' σ (s.mono e1) o) _ fun xs z J F1 H1 e1 ⟨Gd, Y, w, hw, hy⟩ => ?_
  subst z
  have hn1 : forC xs body κ s0 ≠ .no := hn
  refine for_it w (fun i σ' H' => ∃ F' s', Sta K F0 H0 F' H' σ' (Gs s') ∧ Same F1 F' ∧ forC (xs.drop i) body κ s' = forC xs body κ s0) ?_ ?_ ?_ ?_
  · exact ⟨F1, s0, (s.mono e1).le h0, Same.refl F1, by rw [List.drop_zero]⟩
  · rintro i σ' H' _ ⟨F', s', S', sa, _⟩
    exact hw F' H' sa S'.sub fun q => nomatch q
  · rintro i x σ' H' H2 hi ⟨F', s', S', sa, ht⟩ hyy
    obtain ⟨F2, y, e2, hxy, hry⟩ := hy i H' x H2 F' hi sa S'.sub (fun q => nomatch q) hyy
    have hdrop : xs.drop i = y :: xs.drop (i + 1) := by
      obtain ⟨h1, h2⟩ := List.getElem?_eq_some_iff.mp hxy
      rw [List.drop_eq_getElem_cons h1, h2]
    rw [hdrop, forC] at ht
    refine hg F0 H0 F2 H2 σ' (Gs s') x y (S'.mono e2) hry _ fun σ2 S2 _ => ?_
    have sa2 := sa.trans e2.ff
    exact hb s' y (fun s' => forC (xs.drop (i + 1)) body κ s') κ F0 H0 F2 H2 σ2 _ S2 (by rw [ht]; exact hn1) (by rw [ht]; exact hX) (by rw [ht]; exact hR)
      (fun G' t' z ⟨s2, l, e3⟩ F3 H3 σ3 S3 s3 => ⟨F3, s2, S3.le l, sa2.trans s3, by rw [← e3, z, ht]⟩)
      (fun G' t' z ⟨s2, l, e3⟩ F3 H3 σ3 S3 s3 => hN _ (κ s2) (by rw [← e3, z, ht]; rfl) (hk s2) F3 H3 σ3 (S3.le l) (e1.ff.trans (sa2.trans s3)))
      (fun G' t' z ⟨s2, l, e3⟩ F3 H3 σ3 S3 s3 => ⟨F3, s2, S3.le l, sa2.trans s3, by rw [← e3, z, ht]⟩)
  · rintro σ' H' ⟨F', s', S', sa, ht⟩
    rw [List.drop_length, forC] at ht
    exact hN _ (κ s') (by rw [ht]; rfl) (hk s') F' H' σ' S' (e1.ff.trans sa)
def whileC (n : Nat) (c : S → R Bool) (body : S → (S → R ρ) → (S → R ρ) → R ρ) (k : S → R ρ) (s : S) : R ρ := match n with
  | 0 => .no
  | n + 1 => R.bind (c s) fun b => if b = true then body s (fun s' => whileC n c body k s') k else k s
theorem gs_while (fuel : Nat) (Gs : S → List Slot) (s0 : S) {c' c : S → R Bool} {body : S → (S → R ρ) → (S → R ρ) → R ρ} {κ : S → R ρ}
    (h0 : Le G (Gs s0)) (hc' : ∀ s, Gt K E tt (Gs s) (c' s)) (hb : ∀ s kn kb, GS K E tb (Gs s) rr { N := fun G' t' => ∃ s', Le G' (Gs s') ∧ t' = kn s', C := fun G' t' => ∃ s', Le G' (Gs s') ∧ t' = kn s', B := fun G' t' => ∃ s', Le G' (Gs s') ∧ t' = kb s', X := k.X } (body s kn kb))
    (hk : ∀ s, k.N (Gs s) (κ s)) (em : ∀ s, c' s = c s := by first | (intro _; with_reducible rfl) | (intro _; simp (implicitDefEqProofs := false) only [R.bind_assoc, R.bind_ok])) (hp : k.Pl := by exact fun _ _ => rfl) : GS K E (tWhile tt tb) G rr k (whileC fuel c body κ s0) := fun F0 H0 F H σ D s hn hX hR hN hB hC => by
  have hc : ∀ s, Gt K E tt (Gs s) (c s) := fun s => (em s) ▸ (hc' s)
  refine ⟨fun m σ' H' => ∃ F' s', Sta K F0 H0 F' H' σ' (Gs s') ∧ Same F F' ∧ whileC m c body κ s' = whileC fuel c body κ s0, ⟨fuel, F, s0, s.le h0, Same.refl F, rfl⟩, ?_⟩
  rintro m σ' H' ⟨F', s', S', sa, ht⟩
  cases m with
  | zero => exact absurd ht.symm hn
  | succ m =>
    rw [whileC] at ht
    refine hc s' F0 H0 F' H' σ' S' (fun z => hn (by rw [← ht, z]; rfl)) (fun e z cls d F2 H2 e1 o => hX e _ (.ex e) (by rw [← ht, z]; rfl) (hp e _) cls d F2 H2 σ' (S'.mono e1) o) _ fun b z F2 H2 e2 => ?_
    rw [z, R.bind_ok] at ht
    have sa2 := sa.trans e2.ff
    cases b with
    | true =>
      rw [if_pos rfl] at ht ⊢
      refine ⟨fun σ3 H3 => ∃ F3 s3, Sta K F0 H0 F3 H3 σ3 (Gs s3) ∧ Same F F3 ∧ whileC m c body κ s3 = whileC fuel c body κ s0, fun σ3 H3 q => ⟨m, Nat.lt_succ_self m, q⟩, ?_⟩
      exact hb s' (fun s' => whileC m c body κ s') κ F0 H0 F2 H2 σ' _ (S'.mono e2) (by rw [ht]; exact hn) (by rw [ht]; exact hX) (by rw [ht]; exact hR)
        (fun G' t' z ⟨s2, l, e3⟩ F3 H3 σ3 S3 s3 => ⟨F3, s2, S3.le l, sa2.trans s3, by rw [← e3, z, ht]⟩)
        (fun G' t' z ⟨s2, l, e3⟩ F3 H3 σ3 S3 s3 => hN _ (κ s2) (by rw [← e3, z, ht]) (hk s2) F3 H3 σ3 (S3.le l) (sa2.trans s3))
        (fun G' t' z ⟨s2, l, e3⟩ F3 H3 σ3 S3 s3 => ⟨F3, s2, S3.le l, sa2.trans s3, by rw [← e3, z, ht]⟩)
    | false =>
      rw [if_neg Bool.false_ne_true] at ht ⊢
      exact hN _ (κ s') (by rw [ht]) (hk s') F2 H2 σ' (S'.mono e2) sa2

/-! a def's body -/
theorem Prm.body {A : Type} [PyA A] [Rst rr] {m : A → R ρ} {N : List Str} {vs : List V} {H : Hp} {Q : VK} {Ec : XK} (h : Prm K rr m vs H Q Ec) (hN : PyA.len A ≤ N.length)
    (hg : ∀ a, GS K (fun _ => Ec) ts (PyA.slots a ++ List.replicate (N.length - PyA.len A) .any) rr { N := fun _ t' => ∃ r, t' = .ok r ∧ ∀ Ha F H, rr r Ha F H .non } (m a)) : ts { nx := fun _ H' => Q .non H', rt := Q } (L2.start N vs) H := by
  obtain ⟨F, a, s, r, hn, hq, hx⟩ := h
  have o1 := PyA.hok (H := H) r
  have hl := PyA.hlen r
  have any : ∀ n : Nat, SOk K F H (List.replicate n .any) (List.replicate n none) [] := fun n => by
    induction n with
    | zero => exact .nil
    | succ n ih => exact .cons (c := []) (cs := []) rfl ih
  have app : ∀ {G1 : List Slot} {σ1 : Sg} {cs : List Addr} (n : Nat), SOk K F H G1 σ1 cs → SOk K F H (G1 ++ List.replicate n .any) (σ1 ++ List.replicate n none) cs := fun {G1 σ1 cs} n q => by
    induction q with
    | nil => exact any n
    | @cons s0 o c G1 σ1 cs h t ih => exact .cons h ih
  have q1 := app (N.length - PyA.len A) o1
  have e : L2.start N vs = vs.map some ++ List.replicate (N.length - PyA.len A) none := by unfold L2.start; rw [hl]
  rw [e]
  refine hg a F H F H _ _ ⟨Ext.refl s, [], q1, List.nodup_nil, fun c hc => by simp at hc⟩ hn (fun e G' t' z1 z2 cls d F' H' σ' s' o => hx e (by rw [← z1, z2]) cls d F' H' s'.ext o) (fun r z v F' H' e q => hq r z v F' H' e q)
    (fun G' t' z1 ⟨r, z2, q⟩ F' H' σ' s' _ => hq r (by rw [← z1, z2]) _ F' H' s'.ext (q _ _ _)) (fun _ _ _ q => False.elim q) fun _ _ _ q => False.elim q
end
end Wk
end
section
set_option Elab.async false
set_option linter.all false
set_option maxRecDepth 100000
namespace Wk
open PySem PySem.Spec PyProof.Rows L2

/-! ### a def of the module, a method, a class, as callers use them -/
structure FnX (P : Program) (w : World) (K : Fg) (mg : Str → Option Value) (base : Heap) (k : Nat) (x : Str) (sp : Sp) : Prop where
  fn : FnR P w K mg base (L2.CX P w) k (He.ga K x) sp
  kp : PySem.W.keepIn K (.ref (He.ga K x)) = true
  gl : mg x = some (.ref (He.ga K x))
structure MtX (P : Program) (w : World) (K : Fg) (mg : Str → Option Value) (base : Heap) (k : Nat) (c m : Str) (sp : Sp) : Prop where
  fn : FnR P w K mg base (L2.CX P w) k (He.ma K (He.ga K c) m) sp
  mt : Meth K (He.ga K c) m (He.ma K (He.ga K c) m)
  cl : Cls K (He.ga K c)
structure MkX (P : Program) (w : World) (K : Fg) (mg : Str → Option Value) (base : Heap) (k : Nat) (c : Str) (sp : Sp) : Prop where
  fn : FnR P w K mg base (L2.CX P w) k (He.ma K (He.ga K c) "__init__") sp
  mkk : Mk K (He.ga K c) (He.ma K (He.ga K c) "__init__")
  gl : mg c = some (.ref (He.ga K c))

def tMthS (C : Addr) (m : Str) (sp : Sp) (E : L2.St → XK) (ta : TE) (t : TA) : TE := fun σ H Q => ta σ H fun x H1 => ∃ a dx fs, x = .ref a ∧ H1 a = some (.ins C dx fs) ∧ fs.lookup m = none ∧ t σ H1 fun vs H2 => sp (x :: vs) H2 Q (E σ)
def tMkS (C : Addr) (sp : Sp) (E : L2.St → XK) (t : TA) : TE := fun σ H Q => t σ H fun vs H1 => ∀ x dx, H1 x = none → H1 dx = none → dx ≠ x →
  sp (.ref x :: vs) (upd (upd H1 dx (.own x)) x (.ins C dx [])) (fun v H2 => v = .non ∧ Q (.ref x) H2) (E σ)
def tStarS (K : Fg) (sp : Sp) (E : L2.St → XK) (te : TE) : TE := fun σ H Q => te σ H fun y H1 => ∃ a xs, y = V.ref a ∧ (SqT K H1 a xs ∨ SqL K H1 a xs) ∧ sp xs H1 Q (E σ)

section
variable {X : Cx} {k : Nat} {sp : Sp} {E : L2.St → XK} {x m c : Str} {p pos apos sp_ : Pos} {e o : Expr} {es : List Expr} {te ta : TE} {t : TA}
theorem run_fnRS {pins : List (Addr × Obj)} {σ : L2.St} {H : Hp} {s : Shared} {Q : VK} {us : List Value} {vs : List V} {f : Addr} (F : FnR X.prog X.w X.K X.mg X.base (L2.CX X.prog X.w) k f sp) (hr : Room k X.A) (hx : PassesAt (L2.CX X.prog X.w) X σ (E σ))
    (I : Inv X pins σ H s) (r : Vals vs us) (h : sp vs H Q (E σ)) : wpAny (model X.prog X.w) X.A (call (.ref f) us) (EP X pins σ Q) X.xe s := by
  refine wpAny_call (codeAny_mono (F X.A X.stack s H us vs Q (E σ) hr I.env0 r h) fun r s' hq => ?_)
  cases r with
  | error e => exact hx pins H s e s' I hq
  | ok fl =>
    cases fl with
    | ret u => exact I.after hq
    | next => exact False.elim hq
    | brk => exact False.elim hq
    | cont => exact False.elim hq
/-- x(a, ..) -/
theorem pe_fn (F : FnX X.prog X.w X.K X.mg X.base k x sp) (hr : Room k X.A) (hg : Gl X x) (hx : ∀ σ, PassesAt (L2.CX X.prog X.w) X σ (E σ))
    (ha : PA X (e :: es) t) (hdb : (x == ("__debug__" : Str)) = false := by decide) (he : starEach (e :: es) X.env = (false, eval e X.env) :: starEach es X.env := by rfl) (hpl : (backTo pos (starEach es X.env)).any (·.1) = false := by rfl) :
    PE X (.Call (.Name x p) (e :: es) [] pos) (tCallS sp E t) := by
  refine ⟨fun pins s σ H Q I h => ?_⟩
  refine wpAny_Call_Name_kw (ld_glob I hg F.gl ?_ hdb)
  refine PySem.W.callWith_K (h₀ := X.base) I.ok.mod.kin F.kp (thn (ha.run pos pins s σ H _ I h) fun us s1 ⟨vs, H1, I1, r, q⟩ => ⟨I1.kIn, ?_⟩) he hpl
  exact run_fnRS F.fn hr (hx σ) I1 r q
/-- x() -/
theorem pe_fn0 (F : FnX X.prog X.w X.K X.mg X.base k x sp) (hr : Room k X.A) (hg : Gl X x) (hx : ∀ σ, PassesAt (L2.CX X.prog X.w) X σ (E σ)) (hdb : (x == ("__debug__" : Str)) = false := by decide) :
    PE X (.Call (.Name x p) [] [] pos) (tCallS sp E tNil) := by
  refine ⟨fun pins s σ H Q I h => ?_⟩
  refine wpAny_Call_Name_kw (ld_glob I hg F.gl ?_ hdb)
  exact PySem.W.callWith_K0 I.kIn F.kp (run_fnRS (us := []) F.fn hr (hx σ) I .nil h)
/-- x(*y) -/
theorem pe_fnS (F : FnX X.prog X.w X.K X.mg X.base k x sp) (hr : Room k X.A) (hg : Gl X x) (hx : ∀ σ, PassesAt (L2.CX X.prog X.w) X σ (E σ)) (he : PE X e te) (hd : (x == ("__debug__" : Str)) = false := by decide)
    (hst : starEach [.Starred e sp_] X.env = [(true, eval e X.env)] := by rfl) : PE X (.Call (.Name x p) [.Starred e sp_] [] pos) (tStarS X.K sp E te) := by
  refine ⟨fun pins s σ H Q I h => ?_⟩
  refine wpAny_Call_Name_kw (ld_glob I hg F.gl ?_ hd)
  refine PySem.W.callWith_S (h₀ := X.base) I.ok.mod.kin F.kp (thn (he.run pins s σ H _ I h) fun v s1 ⟨y, H1, I1, ry, a, xs, ey, hxs, q⟩ => ?_) hst
  subst ey
  obtain rfl : v = Value.ref a := ry
  exact StX.star_any I1 hxs fun us s2 I2 rv => ⟨I2.kIn, run_fnRS F.fn hr (hx σ) I2 rv q⟩
/-- o.m(a, ..) -/
theorem pe_mth {pl : Sem Bool} (he : PE X o ta) (F : MtX X.prog X.w X.K X.mg X.base k c m sp) (hr : Room k X.A) (hx : ∀ σ, PassesAt (L2.CX X.prog X.w) X σ (E σ)) (ha : PA X (e :: es) t)
    (hst : starEach (e :: es) X.env = (false, eval e X.env) :: starEach es X.env := by rfl) (hpl : (backTo pos (starEach es X.env)).any (·.1) = false := by rfl)
    (ht : eval (.Call (.Attribute o m apos) (e :: es) [] pos) X.env = (do
      let ov ← eval o X.env
      standAt apos.atName
      let (f, first) ← holding [ov] (getMethod ov m pl)
      callWith pos f first (backTo pos (starEach (e :: es) X.env)) (backToKw pos (keywordEach [] X.env))) := by rfl) :
    PE X (.Call (.Attribute o m apos) (e :: es) [] pos) (tMthS (He.ga X.K c) m sp E ta t) := by
  refine ⟨fun pins s σ H Q I h => ?_⟩
  refine PySem.W.methodCall_KW (pl := pl) (thn (he.run pins s σ H _ I h) fun u s1 ⟨x, H1, I1, rx, a, dx, fs, ex, ea, l, q⟩ => ?_) ht
  subst ex
  obtain rfl : u = Value.ref a := rx
  refine getmeth_ok I1 ea F.cl F.mt l ?_
  refine PySem.W.callWith_K (first := [.ref a]) (h₀ := X.base) I.ok.mod.kin F.mt.kp (thn (ha.run pos pins s1 σ H1 _ I1 q) fun us s2 ⟨vs, H2, I2, r, q2⟩ => ⟨I2.kIn, ?_⟩) hst hpl
  exact run_fnRS (us := .ref a :: us) (vs := .ref a :: vs) F.fn hr (hx σ) I2 (.cons rfl r) q2
/-- o.m() -/
theorem pe_mth0 {pl : Sem Bool} (he : PE X o ta) (F : MtX X.prog X.w X.K X.mg X.base k c m sp) (hr : Room k X.A) (hx : ∀ σ, PassesAt (L2.CX X.prog X.w) X σ (E σ))
    (ht : eval (.Call (.Attribute o m apos) [] [] pos) X.env = (do
      let ov ← eval o X.env
      standAt apos.atName
      let (f, first) ← holding [ov] (getMethod ov m pl)
      callWith pos f first (backTo pos (starEach [] X.env)) (backToKw pos (keywordEach [] X.env))) := by rfl) :
    PE X (.Call (.Attribute o m apos) [] [] pos) (tMthS (He.ga X.K c) m sp E ta tNil) := by
  refine ⟨fun pins s σ H Q I h => ?_⟩
  refine PySem.W.methodCall_KW (pl := pl) (thn (he.run pins s σ H _ I h) fun u s1 ⟨x, H1, I1, rx, a, dx, fs, ex, ea, l, q⟩ => ?_) ht
  subst ex
  obtain rfl : u = Value.ref a := rx
  refine getmeth_ok I1 ea F.cl F.mt l ?_
  exact PySem.W.callWith_K0 (first := [.ref a]) I1.kIn F.mt.kp (run_fnRS (us := [.ref a]) (vs := [.ref a]) F.fn hr (hx σ) I1 (.cons rfl .nil) q)
/-- C(a, ..) -/
theorem pe_mkx (F : MkX X.prog X.w X.K X.mg X.base k x sp) (hr : Room (k + 1) X.A) (hg : Gl X x) (hx : ∀ σ, PassesAt (L2.CX X.prog X.w) X σ (E σ)) (ha : PA X (e :: es) t) (hdb : (x == ("__debug__" : Str)) = false := by decide)
    (he : starEach (e :: es) X.env = (false, eval e X.env) :: starEach es X.env := by rfl) (hpl : (backTo pos (starEach es X.env)).any (·.1) = false := by rfl) : PE X (.Call (.Name x p) (e :: es) [] pos) (tMkS (He.ga X.K x) sp E t) := by
  refine ⟨fun pins s σ H Q I h => ?_⟩
  refine wpAny_Call_Name_kw (ld_glob I hg F.gl ?_ hdb)
  refine PySem.W.callWith_K (h₀ := X.base) I.ok.mod.kin F.mkk.kp (thn (ha.run pos pins s σ H _ I h) fun us s1 ⟨vs, H1, I1, r, q⟩ => ⟨I1.kIn, ?_⟩) he hpl
  have hq := q (s1.heap.objs.size + 1) s1.heap.objs.size (I1.hok.fresh (Nat.le_succ _)) (I1.hok.fresh (Nat.le_refl _)) (Nat.ne_of_lt (Nat.lt_succ_self _))
  have I2 := Inv.made (C := He.ga X.K x) I1
  have r2 : Vals (V.ref (s1.heap.objs.size + 1) :: vs) (Value.ref (s1.heap.objs.size + 1) :: us) := .cons rfl r
  refine wpAny_call (make_map (f := He.ma X.K (He.ga X.K x) "__init__") I1.kIn F.mkk.makes F.mkk.init (beq_iff_eq.mp F.mkk.fn) (codeAny_mono (F.fn _ X.stack _ _ (Value.ref (s1.heap.objs.size + 1) :: us) _ _ (E σ) (hr.make _ us []) (I2.env0.make _ us []) r2 hq) fun r s' hq' => ?_))
  cases r with
  | error e => exact hx σ pins _ _ e s' I2 hq'
  | ok fl =>
    cases fl with
    | ret u =>
      obtain ⟨v, H', I3, rv, ev, q3⟩ := I2.after hq'
      subst ev
      exact ⟨rv, ⟨V.ref (s1.heap.objs.size + 1), H', I3, rfl, q3⟩⟩
    | next => exact False.elim hq'
    | brk => exact False.elim hq'
    | cont => exact False.elim hq'
end

/-! ### a def from its body -/
section
variable {P : Program} {w : World} {K : Fg} {mg : Str → Option Value} {base : Heap}
abbrev WF (E : XK) : WX := fun cls d _ H => E cls d H
theorem fnr_of {x qual : Str} {params : Arguments} {body : List Stmt} {scope : Scope} {f : Addr} {fd : FuncData} {N ps : List Str} {k : Nat} {A ρ : Type} [PyA A] {rr : Rr ρ} [Rst rr] {m : A → R ρ}
    (F : FunD K x qual params body scope [] [] f fd) (S : FnScope N ps scope) (hn : ps.length ≤ N.length) (hl : PyA.len A = ps.length)
    (hb : ∀ (kV doc pm : Value) (an : Option Addr) (cdv ct : Value) (us : List Value), us.length = ps.length → bindArgs (PySem.W.fnOf x qual params body scope .none kV doc pm an cdv ct) ⟨us, []⟩ = pure (ps.zip us))
    (hbody : ∀ (cdv : Value) (A' : Around) (outer : List Env) (s : Shared) (H : Hp) (E : XK), Room k (A'.deeper (envOfC qual scope s.heap.objs.size f cdv)) →
      ∃ t, PSs (cxOf (L2.CX P w) P w K mg base N qual scope f cdv A' outer s H E) body t ∧ ∀ a : A, GS K (WE (WF E)) t (PyA.slots a ++ List.replicate (N.length - ps.length) .any) rr { N := fun _ t' => ∃ r, t' = .ok r ∧ ∀ Ha F H, rr r Ha F H .non } (m a)) :
    FnR P w K mg base (L2.CX P w) (k + 1) f (Prm K rr m) := by
  have G := FunD.ok (P := P) (w := w) (K := K) (mg := mg) (base := base) (CX := L2.CX P w) (k := k) (sp := Prm K rr m) F S (Prm.len hl) fun cdv A' outer s H vs Q E hr h => by
    obtain ⟨t, ht, hg⟩ := hbody cdv A' outer s H E hr
    exact ⟨t, ht, Prm.body h (by rw [hl]; exact hn) (by rw [hl]; exact hg)⟩
  have R := FnOk.raw G (FunD.bindsN F hb) .nil
  exact R.imp fun vs H Q E h => by
    show Prm K rr m (vs ++ []) H Q E
    rw [List.append_nil]; exact h
/-- a list that a def takes as one tuple -/
structure Tl (α : Type) where
  xs : List α
instance {α : Type} [Py α] : Py (Tl α) where
  rep := fun K F v x => ∃ a vs, v = .ref a ∧ SqT K F a vs ∧ Reps K F vs x.xs
  mono := fun e ⟨a, vs, h1, h2, h3⟩ => ⟨a, vs, h1, same_t e h2, h3.mono e⟩
theorem gi_tup {E : Sg → XK} {te : TE} {G : List Slot} {α : Type} [Py α] {m : R (Tl α)} (h : Gv K E te G (rv K) m) : Gi K E (iTup K te) G false (R.bind m fun x => .ok x.xs) := fun F0 H0 F H σ S hn hx Q q =>
  h.step S hn hx fun x z hn1 hx1 v F' H' e ⟨p, vs, h1, h2, h3⟩ => by
    subst z
    exact ⟨p, h1, ⟨vs, same_t e.sub h2⟩, q x.xs rfl _ F' H' e
      ⟨fun H => SqT K H p vs, YAt vs, by rw [← PySem.Paired.length h3]; exact walk_tup, fun F2 H2 s1 s2 _ => same_t (s1.trans s2) h2, fun i H x' H2 F2 hi s1 s2 _ ⟨y1, y2⟩ => by
        subst y1
        obtain ⟨y, e1, e2⟩ := reps_getV h3 y2
        exact ⟨F2, y, Ext.refl s2, e1, Py.mono s1 e2⟩⟩⟩
/-- def x(*v) -/
theorem fnr_star {x qual : Str} {params : Arguments} {body : List Stmt} {scope : Scope} {f : Addr} {fd : FuncData} {N : List Str} {pv : Str} {k : Nat} {α ρ : Type} [Py α] {rr : Rr ρ} [Rst rr] {m : List α → R ρ}
    (F : FunD K x qual params body scope [] [] f fd) (S : FnScope N [pv] scope) (hn : 1 ≤ N.length) (hm : ∀ xs, m xs ≠ .no → xs.length ≤ 100000)
    (hb0 : ∀ (kV doc pm : Value) (an : Option Addr) (cdv ct : Value), bindArgs (PySem.W.fnOf x qual params body scope .none kV doc pm an cdv ct) ⟨[], []⟩ = (newTuple [] >>= fun t => pure [(pv, t)]))
    (hb1 : ∀ (kV doc pm : Value) (an : Option Addr) (cdv ct : Value) (r : Value) (rs : List Value), bindArgs (PySem.W.fnOf x qual params body scope .none kV doc pm an cdv ct) ⟨r :: rs, []⟩ = (newTuple (r :: rs) >>= fun t => pure [(pv, t)]))
    (hbody : ∀ (cdv : Value) (A' : Around) (outer : List Env) (s : Shared) (H : Hp) (E : XK), Room k (A'.deeper (envOfC qual scope s.heap.objs.size f cdv)) →
      ∃ t, PSs (cxOf (L2.CX P w) P w K mg base N qual scope f cdv A' outer s H E) body t ∧ ∀ a : Tl α × Unit, GS K (WE (WF E)) t (PyA.slots a ++ List.replicate (N.length - 1) .any) rr { N := fun _ t' => ∃ r, t' = .ok r ∧ ∀ Ha F H, rr r Ha F H .non } (m a.1.xs)) :
    FnR P w K mg base (L2.CX P w) (k + 1) f (PrmS K rr m) := by
  obtain ⟨oc, od, dV, kV, doc, pm, an, cdv, ct, osl, rfl, lk, hcd, hD, hK⟩ := F.ex
  rcases hD with ⟨_, rfl⟩ | ⟨e, _⟩
  · have G := StX.fn_star (P := P) (w := w) (K := K) (mg := mg) (base := base) (CX := L2.CX P w) (k := k) (ps := []) (sp := Prm K rr fun (a : Tl α × Unit) => m a.1.xs) lk hcd S StX.cxUp
      (fun us rest hl => by
        cases us with
        | cons => cases hl
        | nil =>
          cases rest with
          | nil => exact hb0 kV doc pm an cdv ct
          | cons r rs => exact hb1 kV doc pm an cdv ct r rs)
      fun A' outer s H vs Q E hr h => by
        obtain ⟨t, ht, hg⟩ := hbody cdv A' outer s H E hr
        exact ⟨t, ht, Prm.body h hn hg⟩
    refine G.imp fun vs H Q E ⟨F1, xs, s, r, hm2, hq, hx⟩ => ⟨[], vs, rfl, rfl, ?_, fun p hp => ?_⟩
    · rw [PySem.Paired.length r]
      exact Nat.le_trans (hm xs hm2) (by decide)
    have e := Ext.new (o := .tup vs) s hp
    refine ⟨upd F1 p (.tup vs), (⟨xs⟩, ()), e.sub, ⟨.ref p, [], rfl, ⟨p, vs, rfl, .inl (.inl upd_same), r.mono e.ff⟩, rfl⟩, hm2, fun r' z v F' H' e' q => hq r' z v F' H' (e.trans e') (Rst.back e.hh q), fun e2 z cls d F' H' e' o => hx e2 z cls d F' H' (e.trans e') o⟩
  · exact absurd rfl e
end
end Wk
end
section
set_option Elab.async false
set_option linter.all false
set_option maxRecDepth 100000
namespace Wk
open PySem L2

/-! ### values as data of any form -/
theorem Dp.mono {K : Fg} {F F' : Hp} (e : Same F F') : ∀ {v : V} {d : PyData}, Dp K F v d → Dp K F' v d := fun {v d} h => by
  refine Dp.rec (motive_1 := fun v d _ => Dp K F' v d) (motive_2 := fun vs ds _ => DpAll K F' vs ds) .non .bl .int .str (fun h1 _ ih => .lst (same_l e h1) ih) (fun h1 _ ih => .tup (same_t e h1) ih) .nil (fun _ _ h1 h2 => .cons h1 h2) h
instance : Py PyData where
  rep := fun K F v d => Dp K F v d
  mono := fun e h => Dp.mono e h
class ToPd (α : Type) [Py α] where
  pd : α → PyData
  dp : ∀ {K : Fg} {F : Hp} {v : V} {x : α}, Py.rep K F v x → Dp K F v (pd x)
  sh : Nat                       -- a bound of the depth
  lay : ∀ x, (pd x).canLay0 = true ∧ (pd x).depth ≤ sh
theorem dpAll {α : Type} [Py α] [ToPd α] {K : Fg} {F : Hp} : ∀ {vs : List V} {xs : List α}, Reps K F vs xs → DpAll K F vs (xs.map ToPd.pd)
  | _, _, .nil => .nil
  | _, _, .cons h t => .cons (ToPd.dp h) (dpAll t)
theorem lay_all {α : Type} [Py α] [ToPd α] : ∀ xs : List α, PyData.canLayAll0 (xs.map ToPd.pd) = true ∧ PyData.depthAll (xs.map ToPd.pd) ≤ ToPd.sh α
  | [] => ⟨by simp [PyData.canLayAll0], by simp [PyData.depthAll]⟩
  | x :: r => by
    obtain ⟨h1, h2⟩ := lay_all r
    obtain ⟨h3, h4⟩ := ToPd.lay x
    simp only [List.map_cons, PyData.canLayAll0, PyData.depthAll, h1, h3, Bool.and_self, true_and]
    omega
instance : ToPd Int where
  pd := .int
  dp := fun h => by rw [show _ = V.int _ from h]; exact .int _
  sh := 1
  lay := fun x => ⟨by simp [PyData.canLay0], by simp [PyData.depth]⟩
instance : ToPd Bool where
  pd := .bool
  dp := fun h => by rw [show _ = V.bl _ from h]; exact .bl _
  sh := 1
  lay := fun x => ⟨by simp [PyData.canLay0], by simp [PyData.depth]⟩
instance {α : Type} [Py α] [ToPd α] : ToPd (List α) where
  pd := fun xs => .list (xs.map ToPd.pd)
  dp := fun ⟨a, vs, h1, h2, h3⟩ => by rw [h1]; exact .lst (.inl (.inl h2)) (dpAll h3)
  sh := ToPd.sh α + 1
  lay := fun xs => by
    obtain ⟨h1, h2⟩ := lay_all xs
    simp only [PyData.canLay0, PyData.depth, h1, true_and]
    omega
instance {α β : Type} [Py α] [Py β] [ToPd α] [ToPd β] : ToPd (α × β) where
  pd := fun x => .tuple [ToPd.pd x.1, ToPd.pd x.2]
  dp := fun ⟨a, v1, v2, h1, h2, h3, h4⟩ => by rw [h1]; exact .tup h2 (.cons (ToPd.dp h3) (.cons (ToPd.dp h4) .nil))
  sh := max (ToPd.sh α) (ToPd.sh β) + 1
  lay := fun x => by
    obtain ⟨h1, h2⟩ := ToPd.lay x.1
    obtain ⟨h3, h4⟩ := ToPd.lay x.2
    simp only [PyData.canLay0, PyData.canLayAll0, PyData.depth, PyData.depthAll, h1, h3, Bool.and_self, true_and]
    omega
instance {α : Type} [Py α] [ToPd α] : ToPd (Option α) where
  pd := fun x => match x with
    | none => .none
    | some y => ToPd.pd y
  dp := fun {K F v x} h => by
    cases x with
    | none => rw [show v = .non from h]; exact .non
    | some y => exact ToPd.dp h.1
  sh := ToPd.sh α + 1
  lay := fun x => by
    cases x with
    | none => exact ⟨by simp [PyData.canLay0], by simp [PyData.depth]⟩
    | some y => obtain ⟨h1, h2⟩ := ToPd.lay y; exact ⟨h1, Nat.le_succ_of_le h2⟩
section
variable {K : Fg} {E : Sg → XK} {te ta tb tc : TE} {G : List Slot} {α β γ : Type}
/-- a typed value handed on as data -/
theorem Gv.pd [Py α] [ToPd α] {m : R α} (h : Gv K E te G (rv K) m) : Gv K E te G (rv K) (R.bind m fun x => .ok (ToPd.pd x)) := fun F0 H0 F H σ S hn hx Q q =>
  h.step S hn hx fun x z hn1 hx1 v F1 H1 e1 r => by
    subst z
    exact q _ rfl v F1 H1 e1 (ToPd.dp r)

/-! == and != of such data: both sides read (a list that is an own one too) -/
class Rpd {α : Type} [Py α] [ToPd α] (K : Fg) (rr : Rr α) : Prop where
  dp : ∀ {x : α} {Ha F H : Hp} {v : V}, Same F H → rr x Ha F H v → Dp K H v (ToPd.pd x)
instance [Py α] [ToPd α] : Rpd K (rv K (α := α)) := ⟨fun s h => Dp.mono s (ToPd.dp h)⟩
instance [Py α] [ToPd α] : Rpd K (rl K (α := α)) := ⟨fun s ⟨p, vs, h1, h2, h3⟩ => by rw [h1]; exact .lst (.inl (.inl h2)) (dpAll (h3.mono s))⟩
theorem o2_eqD [Py α] [Py β] [ToPd α] [ToPd β] {ra : Rr α} {rb : Rr β} [Rpd K ra] [Rpd K rb] (ha : ToPd.sh α ≤ 64 := by decide) (hb : ToPd.sh β ≤ 64 := by decide) : Op2 K (rEqD K) ra rb (rv K) (fun x y => .ok (PyData.eqv (ToPd.pd x) (ToPd.pd y))) := by
  refine ⟨fun _ _ => noex_ok, fun x y z hz Ha Hb F H v w s h1 h2 Q q => ?_⟩
  cases hz
  obtain ⟨l1, l2⟩ := ToPd.lay x
  obtain ⟨l3, l4⟩ := ToPd.lay y
  exact ⟨_, _, Rpd.dp s h1, Rpd.dp s h2, by simp [SeqAt.shaped, l1]; omega, by simp [SeqAt.shaped, l3]; omega, q _ F H (Ext.refl s) rfl⟩
theorem o2_neD [Py α] [Py β] [ToPd α] [ToPd β] {ra : Rr α} {rb : Rr β} [Rpd K ra] [Rpd K rb] (ha : ToPd.sh α ≤ 64 := by decide) (hb : ToPd.sh β ≤ 64 := by decide) : Op2 K (rNeD K) ra rb (rv K) (fun x y => .ok (!PyData.eqv (ToPd.pd x) (ToPd.pd y))) := by
  refine ⟨fun _ _ => noex_ok, fun x y z hz Ha Hb F H v w s h1 h2 Q q => ?_⟩
  cases hz
  obtain ⟨l1, l2⟩ := ToPd.lay x
  obtain ⟨l3, l4⟩ := ToPd.lay y
  exact ⟨_, _, Rpd.dp s h1, Rpd.dp s h2, by simp [SeqAt.shaped, l1]; omega, by simp [SeqAt.shaped, l3]; omega, q _ F H (Ext.refl s) rfl⟩
/-! data of which nothing is known: ints only are compared by == -/
def pdEqR (x y : PyData) : R Bool := match x, y with
  | .int i, .int j => .ok (decide (i = j))
  | _, _ => .no
theorem o2_eqPd : Op2 K rEq (rv K) (rv K) (rv K) pdEqR := by
  refine ⟨fun x y => by unfold pdEqR; split <;> simp [NoEx], fun x y z hz Ha Hb F H v w s h1 h2 Q q => ?_⟩
  unfold pdEqR at hz
  split at hz
  · cases hz
    cases h1
    cases h2
    exact ⟨rfl, q _ F H (Ext.refl s) (by rw [show decide (V.int _ = V.int _) = decide (_ = _) from dec_v (α := Int) _ _]; rfl)⟩
  · cases hz
def pdNone : PyData → Bool
  | .none => true
  | _ => false
theorem o2_isNPd : Op2 K (fun x y H Q => y = .non ∧ Q (.bl (decide (x = .non))) H) (rv K) (rv K) (rv K) (fun (i : PyData) (_ : Unit) => .ok (pdNone i)) := by
  refine ⟨fun _ _ => noex_ok, fun x y z hz Ha Hb F H v w s h1 h2 Q q => ?_⟩
  cases hz
  refine ⟨h2, q _ F H (Ext.refl s) ?_⟩
  cases h1 <;> rfl
def pdLen : PyData → R Int
  | .list xs => .ok (xs.length : Int)
  | .tuple xs => .ok (xs.length : Int)
  | _ => .no
theorem dpAll_length {F : Hp} : ∀ {vs : List V} {ds : List PyData}, DpAll K F vs ds → vs.length = ds.length
  | _, _, .nil => rfl
  | _, _, .cons _ t => by simp [dpAll_length t]
theorem o1_lenPd : Op1 K (fun v => rLenS K [v]) (rv K) (rv K) pdLen := by
  refine ⟨fun x => by unfold pdLen; split <;> simp [NoEx], fun x z hz Ha F H v s h1 Q q => ?_⟩
  unfold pdLen at hz
  split at hz
  · cases hz
    cases h1 with
    | lst h2 h3 => exact ⟨_, _, rfl, .inl (same_l s h2), q _ F H (Ext.refl s) (by rw [dpAll_length h3]; rfl)⟩
  · cases hz
    cases h1 with
    | tup h2 h3 => exact ⟨_, _, rfl, .inr (same_t s h2), q _ F H (Ext.refl s) (by rw [dpAll_length h3]; rfl)⟩
  · cases hz
def pdIx (x : PyData) (i : Int) : R PyData := match x with
  | .list xs => ixR xs i
  | .tuple xs => ixR xs i
  | _ => .no
theorem dpAll_get {F : Hp} : ∀ {vs : List V} {ds : List PyData} {i : Nat} {x : PyData}, DpAll K F vs ds → ds[i]? = some x → ∃ v, vs[i]? = some v ∧ Dp K F v x
  | _, _, _, _, .nil, h => by simp at h
  | _, _, 0, _, .cons h t, e => by simp at e; subst e; exact ⟨_, rfl, h⟩
  | _, _, i + 1, _, .cons h t, e => by
    simp at e
    obtain ⟨v, h1, h2⟩ := dpAll_get t e
    exact ⟨v, by simpa using h1, h2⟩
theorem dpAll_atI {F : Hp} {vs : List V} {xs : List PyData} {i : Int} {x : PyData} (h : DpAll K F vs xs) (e : atI xs i = some x) : ∃ v, atI vs i = some v ∧ Dp K F v x := by
  unfold atI at e ⊢
  rw [dpAll_length h]
  cases q : ixN xs.length i with
  | none => rw [q] at e; cases e
  | some j => rw [q] at e; exact dpAll_get h e
theorem o2_ixPd : Op2 K (rIx K) (rv K) (rv K) (rv K) pdIx := by
  refine ⟨fun x i => by unfold pdIx; split; exact ix_noex _ _; exact ix_noex _ _; exact noex_no, fun x i z hz Ha Hb F H v w s h1 h2 Q q => ?_⟩
  unfold pdIx at hz
  split at hz
  · unfold ixR at hz
    split at hz
    · rename_i x e
      cases hz
      cases h1 with
      | lst h3 h4 =>
        obtain ⟨u, hu, r⟩ := dpAll_atI h4 e
        exact .inl ⟨_, _, i, u, rfl, h2, same_l s h3, hu, q u F H (Ext.refl s) r⟩
    · cases hz
  · unfold ixR at hz
    split at hz
    · rename_i x e
      cases hz
      cases h1 with
      | tup h3 h4 =>
        obtain ⟨u, hu, r⟩ := dpAll_atI h4 e
        exact .inr (.inl ⟨_, _, i, u, rfl, h2, same_t s h3, hu, q u F H (Ext.refl s) r⟩)
    · cases hz
  · cases hz
/-! isinstance of a built-in class -/
class PyTy (α : Type) [Py α] where
  ty : α → String
  ok : ∀ {K : Fg} {F : Hp} {v : V} {x : α}, Py.rep K F v x → TyX K F v (.type (ty x))
theorem tyx_t {K : Fg} {F : Hp} {a : Addr} {xs : List V} (h : SqT K F a xs) : TyX K F (.ref a) (.type "tuple") := by
  rcases h with (h | ⟨o, h⟩) | ⟨o, its, n, h1, h2, _⟩
  · exact .base (.tup h)
  · exact .fTuple h
  · exact .kTuple h1 h2
theorem tyx_l {K : Fg} {F : Hp} {a : Addr} {xs : List V} (h : SqL K F a xs) : TyX K F (.ref a) (.type "list") := by
  rcases h with (h | ⟨o, h⟩) | ⟨o, its, n, h1, h2, _⟩
  · exact .base (.lst h)
  · exact .base (.frz h)
  · exact .kList h1 h2
instance : PyTy Int := ⟨fun _ => "int", fun h => by rw [show _ = V.int _ from h]; exact .base (.int _)⟩
instance : PyTy Bool := ⟨fun _ => "bool", fun h => by rw [show _ = V.bl _ from h]; exact .base (.bl _)⟩
instance : PyTy Str := ⟨fun _ => "str", fun h => by rw [show _ = V.str _ from h]; exact .base (.str _)⟩
instance {α : Type} [Py α] : PyTy (List α) := ⟨fun _ => "list", fun ⟨a, vs, h1, h2, _⟩ => by rw [h1]; exact tyx_l (.inl (.inl h2))⟩
instance {α β : Type} [Py α] [Py β] : PyTy (α × β) := ⟨fun _ => "tuple", fun ⟨a, v1, v2, h1, h2, _⟩ => by rw [h1]; exact tyx_t h2⟩
def pdTy : PyData → String
  | .none => "NoneType"
  | .bool _ => "bool"
  | .int _ => "int"
  | .str _ => "str"
  | .list _ => "list"
  | .tuple _ => "tuple"
  | .dict _ => "dict"
instance : PyTy PyData := ⟨pdTy, fun {K F v x} h => by
  cases h with
  | non => exact .base .non
  | bl b => exact .base (.bl b)
  | int i => exact .base (.int i)
  | str x => exact .base (.str x)
  | lst h _ => exact tyx_l h
  | tup h _ => exact tyx_t h⟩
def isR (a b : String) : R Bool := match kitB a b with
  | some r => .ok r
  | none => .no
theorem isR_noex (a b : String) : NoEx (isR a b) := by unfold isR; split <;> simp [NoEx]
theorem o2_isi [Py α] [PyTy α] {t : String} : Op2 K (fun v w => rIsi K [v, w]) (rv K) (fun (_ : Unit) _ _ _ w => w = .ty t) (rv K) (fun (x : α) (_ : Unit) => isR (PyTy.ty x) t) := by
  refine ⟨fun x _ => isR_noex _ _, fun x y z hz Ha Hb F H v w s h1 h2 Q q => ?_⟩
  dsimp only at hz
  unfold isR at hz
  split at hz
  · rename_i r e
    cases hz
    subst h2
    refine ⟨v, .ty t, .type (PyTy.ty x), .type t, _, rfl, .ty t, ?_, kit_ty e, q _ F H (Ext.refl s) rfl⟩
    exact PyTy.ok (Py.mono s h1)
  · cases hz
end
end Wk
end
section
set_option Elab.async false
set_option linter.all false
set_option maxRecDepth 100000
namespace Wk
open PySem PySem.Spec PyProof.Rows L2
def joinR {S : Type u} {ρ : Type v} (k : S → R ρ) (f : (S → R ρ) → R ρ) : R ρ := f k
section
variable {K : Fg} {E : Sg → XK} {te ta tb tc : TE} {tA : TA} {ts : TS} {G : List Slot} {α β γ ρ S : Type} {rr : Rr ρ} {k : Ks ρ} {t : R ρ}
theorem Gv.nx {α : Type} {rr : Rr α} {m : R α} (h : Gv K EN te G rr m) : Gv K EN te G rr (R.noex m) := fun F0 H0 F H σ S hn hx Q q => by
  cases m with
  | no => exact absurd rfl hn
  | ex e => exact absurd rfl hn
  | ok a => exact h F0 H0 F H σ S (fun z => nomatch z) (fun e z => nomatch z) Q fun x z => q x z
theorem Gt.nx {tt : TT} {m : R Bool} (h : Gt K EN tt G m) : Gt K EN tt G (R.noex m) := fun F0 H0 F H σ S hn hx Q q => by
  cases m with
  | no => exact absurd rfl hn
  | ex e => exact absurd rfl hn
  | ok a => exact h F0 H0 F H σ S (fun z => nomatch z) (fun e z => nomatch z) Q fun x z => q x z
theorem any1 {i : Nat} (h : G[i]? = some .any) : ∀ j ∈ [i], G[j]? = some .any := fun j hj => by
  have : j = i := by simpa using hj
  rw [this]; exact h
theorem any2 {i i2 : Nat} (h : G[i]? = some .any) (h2 : G[i2]? = some .any) : ∀ j ∈ [i, i2], G[j]? = some .any := fun j hj => by
  have : j = i ∨ j = i2 := by simpa using hj
  rcases this with e | e
  · rw [e]; exact h
  · rw [e]; exact h2
theorem any3 {i i2 i3 : Nat} (h : G[i]? = some .any) (h2 : G[i2]? = some .any) (h3 : G[i3]? = some .any) : ∀ j ∈ [i, i2, i3], G[j]? = some .any := fun j hj => by
  have : j = i ∨ j = i2 ∨ j = i3 := by simpa using hj
  rcases this with e | e | e
  · rw [e]; exact h
  · rw [e]; exact h2
  · rw [e]; exact h3
theorem gs_joinR (Gj : S → List Slot) {kj : S → R ρ} {f : (S → R ρ) → R ρ} (hr : ∀ s, k.N (Gj s) (kj s)) (h : GS K E ts G rr { k with N := fun G' t' => ∃ s, Le G' (Gj s) ∧ t' = kj s } (f kj)) : GS K E ts G rr k (joinR kj f) :=
  gs_join Gj kj hr h
/-- an own list is handed back -/
theorem gs_retOwn [i : Py α] (n : Nat) {xs : List α} {k : Ks (List α)} (hG : G[n]? = some (so xs) := by rfl) : GS K E (tRet (tVar n)) G (ro K) k (.ok xs) := fun F0 H0 F H σ D s hn hX hR hN hB hC => by
  obtain ⟨o, h1, p, vs, h2, h3, h4, h5, h6, _⟩ := s.ownL hG
  subst h2
  exact ⟨_, h1, hR xs rfl _ F H s.ext ⟨p, vs, rfl, h4, h3, h5, h6⟩⟩
class NotNon (α : Type) [Py α] : Prop where
  ne : ∀ {K : Fg} {F : Hp} {v : V} {x : α}, Py.rep K F v x → v ≠ .non
instance : NotNon Int := ⟨fun h => by rw [show _ = V.int _ from h]; exact fun q => nomatch q⟩
instance : NotNon Bool := ⟨fun h => by rw [show _ = V.bl _ from h]; exact fun q => nomatch q⟩
instance [Py α] : NotNon (List α) := ⟨fun ⟨a, vs, h, _⟩ => by rw [h]; exact fun q => nomatch q⟩
instance [Py α] [Py β] : NotNon (α × β) := ⟨fun ⟨a, v1, v2, h, _⟩ => by rw [h]; exact fun q => nomatch q⟩
theorem Gv.some [Py α] [NotNon α] {m : R α} (h : Gv K E te G (rv K) m) : Gv K E te G (rv K) (R.bind m fun x => .ok (some x)) := fun F0 H0 F H σ S hn hx Q q =>
  h.step S hn hx fun x z hn1 hx1 v F1 H1 e1 r => by
    subst z
    exact q _ rfl v F1 H1 e1 ⟨r, NotNon.ne r⟩
theorem gv_noneO [Py α] : Gv K E (tC .non) G (rv K) (.ok (none : Option α)) := fun F0 H0 F H σ S _ _ Q q => q none rfl _ F H (Ext.refl S.sub) rfl
theorem gv_ty {t : String} : Gv K E (tC (.ty t)) G (fun (_ : Unit) _ _ _ w => w = .ty t) (.ok ()) := fun F0 H0 F H σ S _ _ Q q => q () rfl _ F H (Ext.refl S.sub) rfl
instance {t : String} : Rst (fun (_ : Unit) _ _ _ w => w = V.ty t) := ⟨fun h _ => h, fun _ h => h⟩
theorem gv_isi [Py α] [PyTy α] {t : String} {m : R α} (h : Gv K E te G (rv K) m) : Gv K E (tCB (rIsi K) (tCons te (tCons (tC (.ty t)) tNil))) G (rv K) (R.bind m fun x => isR (PyTy.ty x) t) :=
  gv_cb2 (mb := .ok ()) o2_isi h gv_ty
theorem gv_isN [Py α] {m : R (Option α)} (h : Gv K E te G (rv K) m) : Gv K E (tOp (fun x y H Q => y = .non ∧ Q (.bl (decide (x = .non))) H) te (tC .non)) G (rv K) (R.bind m fun x => .ok (decide (x.isNone = true))) := gv_op (mb := .ok ()) o2_isN h gv_non
theorem gv_notN [Py α] {m : R (Option α)} (h : Gv K E te G (rv K) m) : Gv K E (tOp (fun x y H Q => y = .non ∧ Q (.bl (!decide (x = .non))) H) te (tC .non)) G (rv K) (R.bind m fun x => .ok (!decide (x.isNone = true))) := gv_op (mb := .ok ()) o2_notN h gv_non
theorem gv_isNPd {m : R PyData} (h : Gv K E te G (rv K) m) : Gv K E (tOp (fun x y H Q => y = .non ∧ Q (.bl (decide (x = .non))) H) te (tC .non)) G (rv K) (R.bind m fun x => .ok (pdNone x)) := gv_op (mb := .ok ()) o2_isNPd h gv_non
/-- x(*y), x(a, ..) of a def that takes all its arguments as one tuple -/
theorem gv_starS [Py α] {rr : Rr ρ} [Rst rr] {m : List α → R ρ} {ma : R (List α)} (ha : Gv K E te G (rl K) ma) : Gv K E (tStarS K (PrmS K rr m) E te) G rr (R.bind ma m) := fun F0 H0 F H σ S hn hx Q q =>
  ha.step S hn hx fun x z hn1 hx1 v F1 H1 e1 ⟨p, vs, h1, h2, h3⟩ => by
    subst z
    exact ⟨p, vs, h1, .inr (.inl (.inl h2)), F1, x, e1.sub, h3, hn1, fun r z v F' H' e r' => q r z v F' H' (e1.trans e) (Rst.back e1.hh r'), fun e z cls d F' H' e2 o => hx1 F1 H1 e1 e z cls d F' H' e2 o⟩
theorem gv_callSV [Py α] {rr : Rr ρ} [Rst rr] {m : List α → R ρ} {n : Nat} {ma : R (List α)} (ha : Gs K E tA G n ma) : Gv K E (tCallS (PrmS K rr m) E tA) G rr (R.bind ma m) := fun F0 H0 F H σ S hn hx Q q =>
  ha.2 F0 H0 F H σ S (R.bind_no_of hn) (fun e z => hx e (by rw [z]; rfl)) _ fun x z vs F1 H1 e1 r1 => by
    subst z
    exact ⟨F1, x, e1.sub, r1, hn, fun r z v F' H' e r' => q r z v F' H' (e1.trans e) (Rst.back e1.hh r'), fun e z cls d F' H' e2 o => hx e z cls d F' H' (e1.trans e2) o⟩
/-- xs * n -/
def repR {α : Type} (xs : List α) (n : Int) : R (List α) := R.chk (-1000 ≤ n ∧ n ≤ 100000 ∧ xs.length * n.toNat ≤ 100000) (.ok (List.replicate n.toNat xs).flatten)
def rGcdS : List V → Hp → VK → Prop := rGcd
theorem gt_truthL [Py α] {m : R (List α)} (h : Gv K E te G (rl K) m) : Gv K E te G (rl K) m := h
end
/-- math.lcm, up to 13,000 bits -/
def CLcm (i j : Int) : Prop := i.natAbs.log2 < 13000 ∧ j.natAbs.log2 < 13000
instance {i j : Int} : Decidable (CLcm i j) := inferInstanceAs (Decidable (_ ∧ _))
def lcmR (i j : Int) : R Int := R.chk (CLcm i j) (.ok ((Int.lcm i j : Nat) : Int))
def rLcm : List V → Hp → VK → Prop := fun vs H Q => ∃ a b : Int, vs = [.int a, .int b] ∧ CLcm a b ∧ Q (.int ((Int.lcm a b : Nat) : Int)) H
theorem log2_max {a b n : Nat} (ha : a.log2 < n) (hb : b.log2 < n) : (max a b).log2 < n := by
  rcases Nat.le_total a b with h | h
  · rw [Nat.max_eq_right h]; exact hb
  · rw [Nat.max_eq_left h]; exact ha
theorem log2_mul_lt {a b n m : Nat} (ha : a.log2 < n) (hb : b.log2 < m) : (a * b).log2 < n + m := by
  have h1 : a < 2 ^ n := by
    by_cases h : a = 0
    · subst h; exact Nat.pow_pos (by decide)
    · exact (Nat.log2_lt h).mp ha
  have h2 : b < 2 ^ m := by
    by_cases h : b = 0
    · subst h; exact Nat.pow_pos (by decide)
    · exact (Nat.log2_lt h).mp hb
  by_cases h : a * b = 0
  · rw [h, Nat.log2_zero]; omega
  · rw [Nat.log2_lt h, Nat.pow_add]
    exact Nat.mul_lt_mul'' h1 h2
theorem log2_mono {a b : Nat} (h : a ≤ b) : a.log2 ≤ b.log2 := by
  by_cases ha : a = 0
  · subst ha; rw [Nat.log2_zero]; exact Nat.zero_le _
  · by_cases hb : b = 0
    · omega
    · exact (Nat.le_log2 hb).mpr (Nat.le_trans (Nat.log2_self_le ha) h)
section
variable {X : Cx}
theorem cr_lcm : CallR X (.builtin "math.lcm") rLcm := by
  intro pins s σ H vs us Q I r h
  obtain ⟨a, b, rfl, ⟨c1, c2⟩, q⟩ := h
  obtain ⟨t, u, rfl⟩ := Vals.int2 r
  have e : ((Nat.lcm 1 a.natAbs).lcm b.natAbs : Nat) = Int.lcm a b := by rw [Nat.lcm_one_left]; rfl
  have h1 : (1 : Nat).log2 < 13000 := by decide
  have h2 := log2_max h1 c1
  have h3 := log2_max c1 c2
  have hz : ((((Nat.lcm 1 a.natAbs).lcm b.natAbs : Nat) : Int)).natAbs.log2 < bitsLine := by
    rw [e, Int.natAbs_natCast]
    have h4 : Int.lcm a b ≤ a.natAbs * b.natAbs := by
      by_cases h0 : a.natAbs * b.natAbs = 0
      · have : Int.lcm a b = 0 := by
          show Nat.lcm _ _ = 0
          rcases Nat.mul_eq_zero.mp h0 with z | z
          · rw [z, Nat.lcm_zero_left]
          · rw [z, Nat.lcm_zero_right]
        omega
      · exact Nat.le_of_dvd (Nat.pos_of_ne_zero h0) (Nat.lcm_dvd (Nat.dvd_mul_right _ _) (Nat.dvd_mul_left _ _))
    have h5 := log2_mono h4
    have h6 := log2_mul_lt c1 c2
    have h7 : bitsLine = 134217728 := by decide
    omega
  exact PySem.call_function_meets PySem.W.MGF.kind_lcm PySem.W.MGF.plain_lcm PySem.W.MGF.entry_lcm (PySem.W.MGF.args_lcm _ _) (PySem.W.mg_run_lcm a t b u (by omega) (by omega) hz).meets ⟨.int _, H, I.tok _, ⟨_, rfl⟩, by rw [e]; exact q⟩
end
theorem o2_lcm {K : Fg} : Op2 K (fun v w => rLcm [v, w]) (rv K) (rv K) (rv K) lcmR := by
  refine ⟨fun _ _ => noex_if noex_ok, fun x y z hz Ha Hb F H v w s h1 h2 Q q => ?_⟩
  unfold lcmR at hz
  by_cases c : CLcm x y
  · rw [R.chk_pos c] at hz
    cases hz
    exact ⟨x, y, by rw [show v = .int x from h1, show w = .int y from h2], c, q _ F H (Ext.refl s) rfl⟩
  · unfold R.chk at hz
    rw [if_neg c] at hz
    cases hz
theorem reps_rep {K : Fg} {F : Hp} {α : Type} [Py α] {vs : List V} {xs : List α} (h : Reps K F vs xs) : ∀ n : Nat, Reps K F (List.replicate n vs).flatten (List.replicate n xs).flatten
  | 0 => .nil
  | n + 1 => by
    rw [List.replicate_succ, List.replicate_succ, List.flatten_cons, List.flatten_cons]
    exact reps_append h (reps_rep h n)
theorem o2_rep {K : Fg} {α : Type} [Py α] : Op2 K rRep (rl K) (rv K) (ro K) (fun (xs : List α) (n : Int) => repR xs n) := by
  refine ⟨fun xs n => noex_if noex_ok, fun xs n z hz Ha Hb F H v w s ⟨p, vs, h1, h2, h3⟩ h4 Q q => ?_⟩
  dsimp only [repR] at hz
  by_cases c : -1000 ≤ n ∧ n ≤ 100000 ∧ xs.length * n.toNat ≤ 100000
  · rw [R.chk_pos c] at hz
    cases hz
    refine ⟨p, n, vs, h1, h4, h2, by omega, by omega, ?_, fun l hl => q _ F _ (Ext.cell s hl) ⟨l, _, rfl, hl, s.free hl, upd_same, reps_rep h3 _⟩⟩
    rw [PySem.Paired.length h3]
    exact Nat.le_trans c.2.2 (by decide)
  · unfold R.chk at hz
    rw [if_neg c] at hz
    cases hz
end Wk
end
section
set_option Elab.async false
set_option linter.all false
set_option maxRecDepth 100000
namespace Wk
open PySem PySem.Spec PyProof.Rows L2
section
variable {X : Cx} {pos : Pos}
/-- a constant of the module: an int; an object -/
theorem pe_gint {x : Str} {i : Int} (hg : Gl X x) (h : ∃ t, X.mg x = some (.int i t)) (hd : (x == ("__debug__" : Str)) = false := by decide) : PE X (.Name x pos) (tC (.int i)) := by
  obtain ⟨t, h⟩ := h
  exact pe_glob (r := ⟨t, rfl⟩) hg h (hd := hd)
theorem pe_gref {x : Str} {a : Addr} (hg : Gl X x) (h : X.mg x = some (.ref a)) (hd : (x == ("__debug__" : Str)) = false := by decide) : PE X (.Name x pos) (tC (.ref a)) := pe_glob (r := rfl) hg h (hd := hd)
end
/-! ### objects that don't change: fields, methods -/
def FldP (K : Fg) {O β : Type} [Py O] [Py β] (C f : Str) (get : O → β) : Prop := ∀ F v x, Py.rep K F v x → ∃ a dx fs u, v = V.ref a ∧ F a = some (.ins (He.ga K C) dx fs) ∧ fs.lookup f = some u ∧ Py.rep K F u (get x)
def ObjP (K : Fg) (O : Type) [Py O] (C : Str) (names : List Str) : Prop := ∀ F v (x : O), Py.rep K F v x → ∃ a dx fs, v = V.ref a ∧ F a = some (.ins (He.ga K C) dx fs) ∧ ∀ m, names.contains m = false → fs.lookup m = none
section
variable {K : Fg} {E : Sg → XK} {te ta tb tc : TE} {tA : TA} {ts : TS} {G : List Slot} {α β γ ρ S O A : Type} {rr : Rr ρ} {k : Ks ρ} {t : R ρ}
theorem gv_fld [Py O] [Py β] {C f : Str} {get : O → β} {m : R O} (h : FldP K C f get) (cl : Cls K (He.ga K C)) (na : NoAttr K (He.ga K C) f) (ha : Gv K E ta G (rv K) m) : Gv K E (tFld K ta f) G (rv K) (R.bind m fun x => .ok (get x)) := fun F0 H0 F H σ S hn hx Q q =>
  ha.step S hn hx fun x z hn1 hx1 v F1 H1 e1 r => by
    subst z
    obtain ⟨a, dx, fs, u, h1, h2, h3, h4⟩ := h F1 v x r
    exact ⟨a, _, dx, fs, u, h1, e1.sub _ _ h2, cl, na, h3, q _ rfl u F1 H1 e1 h4⟩
theorem gv_mth [Py O] [PyA A] {C m : Str} {names : List Str} [Rst rr] {mm : O × A → R ρ} {mo : R O} {ma : R A} (ho : ObjP K O C names) (hm : names.contains m = false) (h : Gv K E ta G (rv K) mo) (ha : Ga K E tA G ma) :
    Gv K E (tMthS (He.ga K C) m (Prm K rr mm) E ta tA) G rr (R.bind mo fun o => R.bind ma fun a => mm (o, a)) := fun F0 H0 F H σ S hn hx Q q =>
  h.step S hn hx fun o z hn1 hx1 v F1 H1 e1 r1 => by
    subst z
    obtain ⟨a, dx, fs, h1, h2, h3⟩ := ho F1 v o r1
    refine ⟨a, dx, fs, h1, e1.sub _ _ h2, h3 m hm, ?_⟩
    refine ha.step (S.mono e1) hn1 (hx1 F1 H1 e1) fun y z hn2 hx2 vs F2 H2 e2 r2 => ?_
    subst z
    have e := e1.trans e2
    exact ⟨F2, (o, y), e2.sub, ⟨v, vs, rfl, Py.mono e2.ff r1, r2⟩, hn2, fun r z v F' H' e' r' => q r z v F' H' (e.trans e') (Rst.back e.hh r'), fun e' z cls d F' H' e3 o => hx2 F2 H2 e2 e' z cls d F' H' e3 o⟩
/-! in, not in, index of flat items -/
theorem inV_sc [Py α] [DecidableEq α] [PySc α] (hv : ∀ x y : α, eqV (PySc.v x) (PySc.v y) = decide (x = y)) : ∀ {F : Hp} {vs : List V} {xs : List α} (x : α), Reps K F vs xs → inV (PySc.v x) vs = decide (x ∈ xs)
  | _, _, _, x, .nil => by simp [inV]
  | _, _, _, x, .cons (a := v) (b := y) h t => by
    have ih := inV_sc hv x t
    have e := PySc.eq h
    subst e
    unfold inV at ih ⊢
    rw [List.any_cons, ih, hv]
    by_cases h1 : y = x
    · subst h1; simp
    · have h2 : ¬ x = y := fun q => h1 q.symm
      simp [h1, h2]
theorem flat_sc [Py α] [DecidableEq α] [PySc α] (hf : ∀ x : α, flatV (PySc.v x) = true) : ∀ {F : Hp} {vs : List V} {xs : List α}, Reps K F vs xs → vs.all flatV = true
  | _, _, _, .nil => rfl
  | _, _, _, .cons h t => by
    rw [List.all_cons, flat_sc hf t, PySc.eq h, hf]; rfl
theorem o2_in : Op2 K (rIn K false) (rv K) (rl K) (rv K) (fun (x : Int) (xs : List Int) => .ok (decide (x ∈ xs))) := by
  refine ⟨fun _ _ => noex_ok, fun x xs z hz Ha Hb F H v w s h1 ⟨p, vs, h2, h3, h4⟩ Q q => ?_⟩
  cases hz
  rw [show v = V.int x from h1]
  refine ⟨p, vs, h2, .inl (.inl (.inl h3)), rfl, flat_sc (fun _ => rfl) h4, q _ F H (Ext.refl s) ?_⟩
  show V.bl _ = V.bl _
  rw [if_neg Bool.false_ne_true]
  exact congrArg V.bl (inV_sc (α := Int) (fun a b => by show (a == b) = _; exact Bool.beq_eq_decide_eq a b) x h4)
theorem o2_notin : Op2 K (rIn K true) (rv K) (rl K) (rv K) (fun (x : Int) (xs : List Int) => .ok (!decide (x ∈ xs))) := by
  refine ⟨fun _ _ => noex_ok, fun x xs z hz Ha Hb F H v w s h1 ⟨p, vs, h2, h3, h4⟩ Q q => ?_⟩
  cases hz
  rw [show v = V.int x from h1]
  refine ⟨p, vs, h2, .inl (.inl (.inl h3)), rfl, flat_sc (fun _ => rfl) h4, q _ F H (Ext.refl s) ?_⟩
  show V.bl _ = V.bl _
  rw [if_pos rfl]
  exact congrArg (fun b => V.bl (!b)) (inV_sc (α := Int) (fun a b => by show (a == b) = _; exact Bool.beq_eq_decide_eq a b) x h4)
def indexR (xs : List Bool) (y : Bool) : R Int := match xs.findIdx? (· == y) with
  | some j => .ok (j : Int)
  | none => .no
theorem o2_index : Op2 K (fun v w => rIndex K v [w]) (rl K) (rv K) (rv K) (fun (xs : List Bool) (y : Bool) => indexR xs y) := by
  refine ⟨fun xs y => by show NoEx (indexR xs y); unfold indexR; split <;> simp [NoEx], fun xs y z hz Ha Hb F H v w s ⟨p, vs, h1, h2, h3⟩ h4 Q q => ?_⟩
  dsimp only [indexR] at hz
  split at hz
  · rename_i j e
    cases hz
    have hv := reps_bool h3
    subst hv
    obtain ⟨h5, h6, h7⟩ := List.findIdx?_eq_some_iff_getElem.mp e
    refine ⟨p, _, .bl y, j, .bl xs[j], h1, by rw [show w = V.bl y from h4], .inl (.inl h2), rfl, flat_sc (α := Bool) (fun _ => rfl) h3, by rw [List.getElem?_map, List.getElem?_eq_getElem h5]; rfl, h6, fun m z' hm hz' => ?_, q _ F H (Ext.refl s) rfl⟩
    rw [List.getElem?_map] at hz'
    have hm2 : m < xs.length := Nat.lt_trans hm h5
    rw [List.getElem?_eq_getElem hm2] at hz'
    cases hz'
    have := h7 m hm
    show (xs[m] == y) = false
    simpa using this
  · cases hz
theorem gv_index {ma : R (List Bool)} {mb : R Bool} (ha : Gv K E ta G (rl K) ma) (hb : Gv K E tb G (rv K) mb) : Gv K E (tBM K "list" (rIndex K) ta (tCons tb tNil)) G (rv K) (R.bind ma fun x => R.bind mb fun y => indexR x y) := fun F0 H0 F H σ S hn hx Q q =>
  ha.step S hn hx fun xs z hn1 hx1 v F1 H1 e1 ⟨p, vs, h1, h2, h3⟩ => by
    subst z
    refine ⟨by rw [h1]; exact .inl ⟨rfl, vs, .inl (.inl h2)⟩, ?_⟩
    refine hb.step (S.mono e1) hn1 (hx1 F1 H1 e1) fun y z hn2 hx2 w F2 H2 e2 r2 => ?_
    subst z
    cases hz : indexR xs y with
    | no => exact absurd hz hn2
    | ex e => exact absurd hz (o2_index (K := K).1 xs y e)
    | ok z => exact o2_index.2 xs y z hz H F2 F2 H2 v w e2.sub ⟨p, vs, h1, e2.hh _ _ h2, h3.mono e2.ff⟩ r2 Q fun u F' H' e3 r3 => q z hz u F' H' ((e1.trans e2).trans e3) r3
/-! own list: the last item goes -/
theorem gs_pop [i : Py α] {n : Nat} {xs : List α} (hG : G[n]? = some (so xs)) (hk : k.N (G.set n (so xs.dropLast)) t) : GS K E (tDrop (tBM0 K "list" rPop (tVar n))) G rr k (R.chk (0 < xs.length) t) := fun F0 H0 F H σ D s hn hX hR hN hB hC => by
  obtain ⟨o, h1, p, vs, h2, h3, h4, h5, h6, wr⟩ := s.ownL hG
  subst h2
  have hl := PySem.Paired.length h6
  have hlen : 0 < xs.length := by
    by_cases q : 0 < xs.length
    · exact q
    · exact absurd (if_neg q) hn
  have hv : vs.length - 1 < vs.length := by omega
  refine ⟨_, h1, .inl ⟨rfl, vs, .inl (.inl h5)⟩, p, vs, vs[vs.length - 1], rfl, rfl, h5, List.getElem?_eq_getElem hv, ?_⟩
  have hd : Reps K F vs.dropLast xs.dropLast := by
    rw [List.dropLast_eq_take, List.dropLast_eq_take, hl]
    exact reps_take _ h6
  exact hN _ t (by rw [R.chk_pos hlen]) hk F _ σ (wr i _ _ hd) (Same.refl F)
end
/-! ### a game -/
structure GameO where
  outcomes : Int
  people : Int
  choices : List Int
  pays : List (List Int)
  steps : List Int
instance : Py GameO where
  rep := fun K F v x => ∃ a dx v1 v2 v3 v4 v5, v = V.ref a ∧ F a = some (.ins (He.ga K "Game") dx [("outcomes", v1), ("people", v2), ("_choices", v3), ("_pays", v4), ("_steps", v5)]) ∧
    Py.rep K F v1 x.outcomes ∧ Py.rep K F v2 x.people ∧ Py.rep K F v3 x.choices ∧ Py.rep K F v4 x.pays ∧ Py.rep K F v5 x.steps
  mono := fun e ⟨a, dx, v1, v2, v3, v4, v5, h1, h2, h3, h4, h5, h6, h7⟩ => ⟨a, dx, v1, v2, v3, v4, v5, h1, e _ _ h2, Py.mono e h3, Py.mono e h4, Py.mono e h5, Py.mono e h6, Py.mono e h7⟩
theorem GameO.f_outcomes {K : Fg} : FldP K "Game" "outcomes" GameO.outcomes := fun F v x ⟨a, dx, v1, v2, v3, v4, v5, h1, h2, h3, h4, h5, h6, h7⟩ => ⟨a, dx, _, v1, h1, h2, by kernel_rfl, h3⟩
theorem GameO.f_people {K : Fg} : FldP K "Game" "people" GameO.people := fun F v x ⟨a, dx, v1, v2, v3, v4, v5, h1, h2, h3, h4, h5, h6, h7⟩ => ⟨a, dx, _, v2, h1, h2, by kernel_rfl, h4⟩
theorem GameO.f__choices {K : Fg} : FldP K "Game" "_choices" GameO.choices := fun F v x ⟨a, dx, v1, v2, v3, v4, v5, h1, h2, h3, h4, h5, h6, h7⟩ => ⟨a, dx, _, v3, h1, h2, by kernel_rfl, h5⟩
theorem GameO.f__pays {K : Fg} : FldP K "Game" "_pays" GameO.pays := fun F v x ⟨a, dx, v1, v2, v3, v4, v5, h1, h2, h3, h4, h5, h6, h7⟩ => ⟨a, dx, _, v4, h1, h2, by kernel_rfl, h6⟩
theorem GameO.f__steps {K : Fg} : FldP K "Game" "_steps" GameO.steps := fun F v x ⟨a, dx, v1, v2, v3, v4, v5, h1, h2, h3, h4, h5, h6, h7⟩ => ⟨a, dx, _, v5, h1, h2, by kernel_rfl, h7⟩
theorem lookup_none {β : Type} {m : Str} : ∀ {fs : List (Str × β)}, (fs.map (·.1)).contains m = false → fs.lookup m = none
  | [], _ => rfl
  | (f, b) :: r, h => by
    simp only [List.map_cons, List.contains_cons, Bool.or_eq_false_iff] at h
    rw [List.lookup_cons, h.1]
    exact lookup_none h.2
theorem GameO.obj {K : Fg} : ObjP K GameO "Game" ["outcomes", "people", "_choices", "_pays", "_steps"] := fun F v x ⟨a, dx, v1, v2, v3, v4, v5, h1, h2, _⟩ => ⟨a, dx, _, h1, h2, fun m hm => lookup_none hm⟩
end Wk
end
section
set_option Elab.async false
set_option linter.all false
set_option maxRecDepth 100000
namespace Wk
open PySem PySem.Spec PyProof.Rows L2
/-! ### the operations under names that are not unfolded by the walk -/
@[irreducible] def mulQ (i j : Int) : R Int := mulR i j
@[irreducible] def divQ (i j : Int) : R Int := divR i j
@[irreducible] def modQ (i j : Int) : R Int := modR i j
@[irreducible] def powQ (i j : Int) : R Int := powR i j
@[irreducible] def lcmQ (i j : Int) : R Int := lcmR i j
@[irreducible] def ixQ {α : Type} (xs : List α) (i : Int) : R α := ixR xs i
@[irreducible] def catQ {α : Type} (xs ys : List α) : R (List α) := catR xs ys
@[irreducible] def repQ {α : Type} (xs : List α) (n : Int) : R (List α) := repR xs n
@[irreducible] def setQ {α : Type} (xs : List α) (i : Int) (v : α) : R (List α) := setR xs i v
@[irreducible] def minQ (xs : List Int) : R Int := minR xs
@[irreducible] def maxQ (xs : List Int) : R Int := maxR xs
@[irreducible] def indexQ (xs : List Bool) (y : Bool) : R Int := indexR xs y
@[irreducible] def rangeQ (lo hi : Int) : R (List Int) := rangeR lo hi
@[irreducible] def isQ (a b : String) : R Bool := isR a b
@[irreducible] def pdEqQ (a b : PyData) : R Bool := pdEqR a b
@[irreducible] def pdLenQ (a : PyData) : R Int := pdLen a
@[irreducible] def pdIxQ (a : PyData) (i : Int) : R PyData := pdIx a i
section
variable {K : Fg} {E : Sg → XK} {te ti ta tb tc : TE} {tA : TA} {ts : TS} {G : List Slot} {α β γ ρ S O A : Type} {rr : Rr ρ} {k : Ks ρ} {t : R ρ}
theorem q2_mul : Op2 K (rI CMulW fun i j => .int (i * j)) (rv K) (rv K) (rv K) mulQ := by have e : mulQ = mulR := by { funext i j; unfold mulQ; rfl }; rw [e]; exact o2_mul
theorem q2_div : Op2 K (rI CDivW fun i j => .int (i / j)) (rv K) (rv K) (rv K) divQ := by have e : divQ = divR := by { funext i j; unfold divQ; rfl }; rw [e]; exact o2_div
theorem q2_mod : Op2 K (rI (fun _ j => 0 < j) fun i j => .int (i % j)) (rv K) (rv K) (rv K) modQ := by have e : modQ = modR := by { funext i j; unfold modQ; rfl }; rw [e]; exact o2_mod
theorem q2_pow : Op2 K (rI CPow fun i j => .int (i ^ j.toNat)) (rv K) (rv K) (rv K) powQ := by have e : powQ = powR := by { funext i j; unfold powQ; rfl }; rw [e]; exact o2_pow
theorem q2_lcm : Op2 K (fun v w => rLcm [v, w]) (rv K) (rv K) (rv K) lcmQ := by have e : lcmQ = lcmR := by { funext i j; unfold lcmQ; rfl }; rw [e]; exact o2_lcm
theorem q2_ix [Py α] : Op2 K (rIxL K) (rl K) (rv K) (rv K) (fun (xs : List α) (i : Int) => ixQ xs i) := by have e : @ixQ α = ixR := by { funext i j; unfold ixQ; rfl }; rw [e]; exact o2_ix
theorem q2_ixScr : Op2 K (rIxL K) (rv K) (rv K) (rv K) (fun (xs : Scr) (i : Int) => ixQ xs.xs i) := by have e : @ixQ Int = ixR := by { funext i j; unfold ixQ; rfl }; rw [e]; exact o2_ixScr
theorem q2_cat [Py α] : Op2 K rCat (rl K) (rl K) (ro K) (fun (xs ys : List α) => catQ xs ys) := by have e : @catQ α = catR := by { funext i j; unfold catQ; rfl }; rw [e]; exact o2_cat
theorem q2_rep [Py α] : Op2 K rRep (rl K) (rv K) (ro K) (fun (xs : List α) (n : Int) => repQ xs n) := by have e : @repQ α = repR := by { funext i j; unfold repQ; rfl }; rw [e]; exact o2_rep
theorem q1_min : Op1 K (fun v => rMin K [v]) (rl K) (rv K) minQ := by have e : minQ = minR := by { funext i; unfold minQ; rfl }; rw [e]; exact o1_min
theorem q1_max : Op1 K (fun v => rMax K [v]) (rl K) (rv K) maxQ := by have e : maxQ = maxR := by { funext i; unfold maxQ; rfl }; rw [e]; exact o1_max
theorem qv_index {ma : R (List Bool)} {mb : R Bool} (ha : Gv K E ta G (rl K) ma) (hb : Gv K E tb G (rv K) mb) : Gv K E (tBM K "list" (rIndex K) ta (tCons tb tNil)) G (rv K) (R.bind ma fun x => R.bind mb fun y => indexQ x y) := by
  have e : indexQ = indexR := by funext i j; unfold indexQ; rfl
  rw [e]; exact gv_index ha hb
theorem qi_range1 {live : Bool} {m : R Int} (h : Gv K E te G (rv K) m) : Gi K E (iRng1 (tCons te tNil)) G live (R.bind m fun n => rangeQ 0 n) := by
  have e : rangeQ = rangeR := by funext i j; unfold rangeQ; rfl
  rw [e]; exact gi_range1 h
theorem qi_range2 {live : Bool} {ma mb : R Int} (ha : Gv K E ta G (rv K) ma) (hb : Gv K E tb G (rv K) mb) : Gi K E (iRng2 (tCons ta (tCons tb tNil))) G live (R.bind ma fun a => R.bind mb fun b => rangeQ a b) := by
  have e : rangeQ = rangeR := by funext i j; unfold rangeQ; rfl
  rw [e]; exact gi_range2 ha hb
theorem qv_isi [Py α] [PyTy α] {t : String} {m : R α} (h : Gv K E te G (rv K) m) : Gv K E (tCB (rIsi K) (tCons te (tCons (tC (.ty t)) tNil))) G (rv K) (R.bind m fun x => isQ (PyTy.ty x) t) := by
  have e : isQ = isR := by funext i j; unfold isQ; rfl
  rw [e]; exact gv_isi h
theorem q2_eqPd : Op2 K rEq (rv K) (rv K) (rv K) pdEqQ := by have e : pdEqQ = pdEqR := by { funext i j; unfold pdEqQ; rfl }; rw [e]; exact o2_eqPd
theorem q1_lenPd : Op1 K (fun v => rLenS K [v]) (rv K) (rv K) pdLenQ := by have e : pdLenQ = pdLen := by { funext i; unfold pdLenQ; rfl }; rw [e]; exact o1_lenPd
theorem q2_ixPd : Op2 K (rIx K) (rv K) (rv K) (rv K) pdIxQ := by have e : pdIxQ = pdIx := by { funext i j; unfold pdIxQ; rfl }; rw [e]; exact o2_ixPd
theorem qs_setitem [i : Py α] {n : Nat} {xs : List α} {m' m : R α} {mi' mi : R Int} {κ : List α → R ρ} (hG : G[n]? = some (so xs)) (h' : Gv K E te G (rv K) m') (hi' : Gv K E ti G (rv K) mi') (hk : ∀ ys, k.N (G.set n (so ys)) (κ ys))
    (em : m' = m := by first | with_reducible rfl | simp (implicitDefEqProofs := false) only [R.bind_assoc, R.bind_ok]) (emi : mi' = mi := by first | with_reducible rfl | simp (implicitDefEqProofs := false) only [R.bind_assoc, R.bind_ok]) (hp : k.Pl := by exact fun _ _ => rfl) :
    GS K E (tAsg te (gSub (tVar n) ti rSetL)) G rr k (R.bind m fun x => R.bind mi fun j => R.bind (setQ xs j x) κ) := by
  have e : @setQ α = setR := by funext i j v; unfold setQ; rfl
  rw [e]; exact gs_setitem hG h' hi' hk em emi hp
end
/-! ### derivations with the written part K told (within comprehensions it can't be found by unification) -/
section
variable {X : Cx} (K : Fg) (hK : X.K = K := by rfl)
include hK
theorem ixL : IxR X (rIxL K) := hK ▸ ix_list
theorem ixT : IxR X (rIxT K) := hK ▸ ix_tup
theorem ixA : IxR X (rIx K) := hK ▸ ix_seq
theorem slL : SlR X (rSlL K) := hK ▸ sl_list
theorem opIn : OpR X (compareOp .In) (rIn K false) := hK ▸ op_in_seq
theorem opNotIn : OpR X (compareOp .NotIn) (rIn K true) := hK ▸ op_notIn_seq
theorem opEqD (hu : X.A.units + 64 < cLine) : OpR X (compareOp .Eq) (rEqD K) := hK ▸ op_eqD hu
theorem opNeD (hu : X.A.units + 64 < cLine) : OpR X (compareOp .NotEq) (rNeD K) := hK ▸ op_neD hu
theorem crLen : CallR X (.builtin "len") (rLenS K) := hK ▸ call_len_seq
theorem crList : CallR X (.type "list") (rListS K) := hK ▸ call_list_of
theorem crSum (hc : X.calm = true := by rfl) : CallR X (.builtin "sum") (rSum K) := hK ▸ cr_sum hc
theorem crMin (hc : X.calm = true := by rfl) : CallR X (.builtin "min") (rMin K) := hK ▸ cr_min hc
theorem crMax (hc : X.calm = true := by rfl) : CallR X (.builtin "max") (rMax K) := hK ▸ cr_max hc
theorem crIsi : CallR X (.builtin "isinstance") (rIsi K) := hK ▸ call_isi
theorem mtIndex : MtR X "list.index" (rIndex K) := hK ▸ mt_index
end
section
variable {X : Cx} (K : Fg) {k : Nat} {sp : Sp} {E : L2.St → XK} {x m c f : Str} {p pos apos sp_ : Pos} {e o e2 : Expr} {es : List Expr} {te ta : TE} {t : TA} {tg l : Expr} {tl : TE} {tA : TA}
theorem peFld (he : PE X o ta) (hb : attributeBase o f X.env (eval o X.env) = eval o X.env := by rfl) (hK : X.K = K := by rfl) : PE X (.Attribute o f pos) (tFld K ta f) := by subst hK; exact pe_fld he hb
theorem peFnS (F : FnX X.prog X.w X.K X.mg X.base k x sp) (hr : Room k X.A) (hg : Gl X x) (hx : ∀ σ, PassesAt (L2.CX X.prog X.w) X σ (E σ)) (he : PE X e te) (hd : (x == ("__debug__" : Str)) = false := by decide)
    (hst : starEach [.Starred e sp_] X.env = [(true, eval e X.env)] := by rfl) (hK : X.K = K := by rfl) : PE X (.Call (.Name x p) [.Starred e sp_] [] pos) (tStarS K sp E te) := by subst hK; exact pe_fnS F hr hg hx he hd hst
theorem peMth {pl : Sem Bool} (he : PE X o ta) (F : MtX X.prog X.w X.K X.mg X.base k c m sp) (hr : Room k X.A) (hx : ∀ σ, PassesAt (L2.CX X.prog X.w) X σ (E σ)) (ha : PA X (e :: es) t)
    (hst : starEach (e :: es) X.env = (false, eval e X.env) :: starEach es X.env := by rfl) (hpl : (backTo pos (starEach es X.env)).any (·.1) = false := by rfl)
    (ht : eval (.Call (.Attribute o m apos) (e :: es) [] pos) X.env = (do
      let ov ← eval o X.env
      standAt apos.atName
      let (f, first) ← holding [ov] (getMethod ov m pl)
      callWith pos f first (backTo pos (starEach (e :: es) X.env)) (backToKw pos (keywordEach [] X.env))) := by rfl) (hK : X.K = K := by rfl) :
    PE X (.Call (.Attribute o m apos) (e :: es) [] pos) (tMthS (He.ga K c) m sp E ta t) := by subst hK; exact pe_mth he F hr hx ha hst hpl ht
theorem peMth0 {pl : Sem Bool} (he : PE X o ta) (F : MtX X.prog X.w X.K X.mg X.base k c m sp) (hr : Room k X.A) (hx : ∀ σ, PassesAt (L2.CX X.prog X.w) X σ (E σ))
    (ht : eval (.Call (.Attribute o m apos) [] [] pos) X.env = (do
      let ov ← eval o X.env
      standAt apos.atName
      let (f, first) ← holding [ov] (getMethod ov m pl)
      callWith pos f first (backTo pos (starEach [] X.env)) (backToKw pos (keywordEach [] X.env))) := by rfl) (hK : X.K = K := by rfl) :
    PE X (.Call (.Attribute o m apos) [] [] pos) (tMthS (He.ga K c) m sp E ta tNil) := by subst hK; exact pe_mth0 he F hr hx ht
theorem piList (hl : PE X l tl) (hK : X.K = K := by rfl) : PI X tg l (iList K tl) := by subst hK; exact pi_list hl
theorem piTup (hl : PE X l tl) (hK : X.K = K := by rfl) : PI X tg l (iTup K tl) := by subst hK; exact pi_tup hl
theorem piEnum {tpos : Pos} {elts : List Expr} {kk : Nat} (hg : Gl X "enumerate") (hm : X.mg "enumerate" = none) (ha : PA X [e] tA) (hs : starEach [e] X.env = [(false, eval e X.env)] := by rfl) (hK : X.K = K := by rfl) :
    PI X (.Tuple elts kk tpos) (.Call (.Name "enumerate" p) [e] [] pos) (iEnum K tA) := by subst hK; exact pi_enum hg hm ha hs
theorem piZip {tpos : Pos} {elts : List Expr} {kk : Nat} (hg : Gl X "zip") (hm : X.mg "zip" = none) (ha : PA X [e, e2] tA) (hs : starEach [e, e2] X.env = (false, eval e X.env) :: starEach [e2] X.env := by rfl) (hpl : (backTo pos (starEach [e2] X.env)).any (·.1) = false := by rfl) (hK : X.K = K := by rfl) :
    PI X (.Tuple elts kk tpos) (.Call (.Name "zip" p) [e, e2] [] pos) (iZip K tA) := by subst hK; exact pi_zip hg hm ha hs hpl
theorem pgTup {es : List Expr} {kk : Nat} {tt : TGs} {n : Nat} (hc : X.calm = true) (h : PGs X es tt) (hn : (assignEach es X.env).length = n := by rfl) (hst : (assignEach es X.env).findIdx? (·.1) = none := by rfl) (hK : X.K = K := by rfl) : PG X (.Tuple es kk pos) (gTup K n tt) := by
  subst hK; exact pg_tup hc h hn hst
end
end Wk
end
section
set_option Elab.async false
set_option linter.all false
set_option maxRecDepth 100000
namespace Wk
open PySem PySem.Spec PyProof.Rows L2
/-! ### an own list lent to an expression that hands back a scalar -/
class Sca (α : Type) [Py α] : Prop where
  any : ∀ {K : Fg} {F F' : Hp} {v : V} {x : α}, Py.rep K F v x → Py.rep K F' v x
instance : Sca Int := ⟨fun h => h⟩
instance : Sca Bool := ⟨fun h => h⟩
instance : Sca Unit := ⟨fun h => h⟩
instance : Sca Str := ⟨fun h => h⟩
def era (F : Hp) (cs : List Addr) : Hp := fun b => if b ∈ cs then none else F b
section
variable {K : Fg} {E : Sg → XK} {te ti ta tb tc : TE} {tt : TT} {tA : TA} {ts : TS} {G : List Slot} {α β γ ρ S O A : Type} {rr : Rr ρ} {k : Ks ρ} {t : R ρ}
theorem lend_core {F0 H0 F H : Hp} {σ : Sg} {i : Ow β} {j : Py β} [Fz i j] {xs : β} {n : Nat} (hG : G[n]? = some (.own i xs)) (s : Sta K F0 H0 F H σ G) : ∃ cs F1, Sta K F0 H0 F1 H σ (G.set n (.val j xs)) ∧ ∀ F' H', Ext F1 H F' H' → Ext F H (era F' cs) H' := by
  obtain ⟨F1, cs, h1, h2, h3, h4⟩ := s.freeze hG
  refine ⟨cs, F1, h2, fun F' H' e => ⟨fun b u q => ?_, e.hh, fun b u q => ?_, fun b a1 a2 => ?_⟩⟩
  · have hb : b ∉ cs := fun z => by rw [h3 b z] at q; cases q
    unfold era
    rw [if_neg hb]
    exact e.ff _ _ (h1 b u q)
  · unfold era at q
    by_cases hb : b ∈ cs
    · rw [if_pos hb] at q; cases q
    · rw [if_neg hb] at q; exact e.sub _ _ q
  · unfold era
    by_cases hb : b ∈ cs
    · rw [if_pos hb]
    · rw [if_neg hb]
      refine e.out b a1 ?_
      rw [h4]; unfold frz; rw [if_neg hb]; exact a2
theorem gv_lend [Py α] [Sca α] {i : Ow β} {j : Py β} [Fz i j] (n : Nat) {xs : β} {m : R α} (h : Gv K E te (G.set n (.val j xs)) (rv K) m) (hG : G[n]? = some (.own i xs) := by rfl) : Gv K E te G (rv K) m := fun F0 H0 F H σ s hn hx Q q => by
  obtain ⟨p, F1, s1, w⟩ := lend_core hG s
  exact h F0 H0 F1 H σ s1 hn (fun e z cls d F' H' e1 o => hx e z cls d _ H' (w F' H' e1) o) Q fun x z v F' H' e r => q x z v _ H' (w F' H' e) (Sca.any r)
theorem gt_lend {i : Ow β} {j : Py β} [Fz i j] (n : Nat) {xs : β} {m : R Bool} (h : Gt K E tt (G.set n (.val j xs)) m) (hG : G[n]? = some (.own i xs) := by rfl) : Gt K E tt G m := fun F0 H0 F H σ s hn hx Q q => by
  obtain ⟨p, F1, s1, w⟩ := lend_core hG s
  exact h F0 H0 F1 H σ s1 hn (fun e z cls d F' H' e1 o => hx e z cls d _ H' (w F' H' e1) o) Q fun x z F' H' e => q x z _ H' (w F' H' e)
end

/-! ### a list of two unlike things -/
structure Hd (α β : Type) where
  a : α
  b : β
instance {α β : Type} [Py α] [Py β] : Py (Hd α β) where
  rep := fun K F v x => ∃ a v1 v2, v = .ref a ∧ F a = some (.lst [v1, v2]) ∧ Py.rep K F v1 x.a ∧ Py.rep K F v2 x.b
  mono := fun e ⟨a, v1, v2, h1, h2, h3, h4⟩ => ⟨a, v1, v2, h1, e _ _ h2, Py.mono e h3, Py.mono e h4⟩
section
variable {K : Fg} {E : Sg → XK} {te ti ta tb tc : TE} {tt : TT} {tA : TA} {ts : TS} {G : List Slot} {α β γ ρ S O A : Type} {rr : Rr ρ} {k : Ks ρ} {t : R ρ}
theorem gv_h2 [Py α] [Py β] {ma : R α} {mb : R β} (ha : Gv K E ta G (rv K) ma) (hb : Gv K E tb G (rv K) mb) : Gv K E (tLst (tCons ta (tCons tb tNil))) G (rv K) (R.bind ma fun x => R.bind mb fun y => .ok (Hd.mk x y)) := fun F0 H0 F H σ S hn hx Q q =>
  ha.step S hn hx fun x z hn1 hx1 v F1 H1 e1 r1 => by
    subst z
    refine hb.step (S.mono e1) hn1 (hx1 F1 H1 e1) fun y z hn2 hx2 w F2 H2 e2 r2 => ⟨by show 2 ≤ sizeLine; decide, fun p hp => ?_⟩
    subst z
    have e3 := Ext.new (o := .lst [v, w]) e2.sub hp
    exact q (Hd.mk x y) rfl _ _ _ ((e1.trans e2).trans e3) ⟨p, v, w, rfl, upd_same, Py.mono (e2.trans e3).ff r1, Py.mono e3.ff r2⟩
theorem o2_h2a [Py α] [Py β] : Op2 K (rIxL K) (rv K) (fun (_ : Unit) _ _ _ v => v = .int 0) (rv K) (fun (x : Hd α β) (_ : Unit) => .ok x.a) := by
  refine ⟨fun _ _ => noex_ok, fun x y z hz Ha Hb F H v w s ⟨p, v1, v2, h1, h2, h3, h4⟩ h5 Q q => ?_⟩
  cases hz
  exact ⟨p, _, 0, v1, h1, h5, .inl (.inl (s _ _ h2)), rfl, q v1 F H (Ext.refl s) h3⟩
theorem o2_h2b [Py α] [Py β] : Op2 K (rIxL K) (rv K) (fun (_ : Unit) _ _ _ v => v = .int 1) (rv K) (fun (x : Hd α β) (_ : Unit) => .ok x.b) := by
  refine ⟨fun _ _ => noex_ok, fun x y z hz Ha Hb F H v w s ⟨p, v1, v2, h1, h2, h3, h4⟩ h5 Q q => ?_⟩
  cases hz
  exact ⟨p, _, 1, v2, h1, h5, .inl (.inl (s _ _ h2)), rfl, q v2 F H (Ext.refl s) h4⟩
theorem gv_h2a [Py α] [Py β] {m : R (Hd α β)} (h : Gv K E te G (rv K) m) : Gv K E (tOp (rIxL K) te (tC (.int 0))) G (rv K) (R.bind m fun x => .ok x.a) :=
  gv_op (rb := fun (_ : Unit) _ _ _ v => v = .int 0) (mb := .ok ()) o2_h2a h (fun F0 H0 F H σ S _ _ Q q => q () rfl _ F H (Ext.refl S.sub) rfl)
theorem gv_h2b [Py α] [Py β] {m : R (Hd α β)} (h : Gv K E te G (rv K) m) : Gv K E (tOp (rIxL K) te (tC (.int 1))) G (rv K) (R.bind m fun x => .ok x.b) :=
  gv_op (rb := fun (_ : Unit) _ _ _ v => v = .int 1) (mb := .ok ()) o2_h2b h (fun F0 H0 F H σ S _ _ Q q => q () rfl _ F H (Ext.refl S.sub) rfl)
theorem o2_t3a [Py α] [Py β] [Py γ] : Op2 K (rIxT K) (rv K) (fun (_ : Unit) _ _ _ v => v = .int 0) (rv K) (fun (x : T3 α β γ) (_ : Unit) => .ok x.a) := by
  refine ⟨fun _ _ => noex_ok, fun x y z hz Ha Hb F H v w s ⟨p, v1, v2, v3, h1, h2, h3, h4, h6⟩ h5 Q q => ?_⟩
  cases hz
  exact ⟨p, _, 0, v1, h1, h5, same_t s h2, rfl, q v1 F H (Ext.refl s) h3⟩
theorem gv_t3a [Py α] [Py β] [Py γ] {m : R (T3 α β γ)} (h : Gv K E te G (rv K) m) : Gv K E (tOp (rIxT K) te (tC (.int 0))) G (rv K) (R.bind m fun x => .ok x.a) :=
  gv_op (rb := fun (_ : Unit) _ _ _ v => v = .int 0) (mb := .ok ()) o2_t3a h (fun F0 H0 F H σ S _ _ Q q => q () rfl _ F H (Ext.refl S.sub) rfl)

/-! ### a walk over data: a list, a tuple -/
def pdItemsT (x : PyData) : R (List PyData) := match x with
  | .tuple xs => .ok xs
  | _ => .no
def pdItemsL (x : PyData) : R (List PyData) := match x with
  | .list xs => .ok xs
  | _ => .no
theorem dpAll_getV {F : Hp} : ∀ {vs : List V} {ds : List PyData} {i : Nat} {v : V}, DpAll K F vs ds → vs[i]? = some v → ∃ x, ds[i]? = some x ∧ Dp K F v x
  | _, _, _, _, .nil, h => by simp at h
  | _, _, 0, _, .cons h t, e => by simp at e; subst e; exact ⟨_, rfl, h⟩
  | _, _, i + 1, _, .cons h t, e => by
    simp at e
    obtain ⟨v, h1, h2⟩ := dpAll_getV t e
    exact ⟨v, by simpa using h1, h2⟩
theorem gi_pdT {m : R PyData} (h : Gv K E te G (rv K) m) : Gi K E (iTup K te) G false (R.bind m fun x => pdItemsT x) := fun F0 H0 F H σ S hn hx Q q =>
  h.step S hn hx fun x z hn1 hx1 v F' H' e r => by
    subst z
    unfold pdItemsT at hn1 q
    cases r with
    | @tup a vs ds h2 h3 =>
      refine ⟨a, rfl, ⟨vs, same_t e.sub h2⟩, q _ rfl _ F' H' e ⟨fun H => SqT K H a vs, YAt vs, by rw [← dpAll_length h3]; exact walk_tup, fun F2 H2 s1 s2 _ => same_t (s1.trans s2) h2, fun i H x' H2 F2 hi s1 s2 _ ⟨y1, y2⟩ => ?_⟩⟩
      subst y1
      obtain ⟨y, e1, e2⟩ := dpAll_getV h3 y2
      exact ⟨F2, y, Ext.refl s2, e1, Dp.mono s1 e2⟩
    | _ => exact absurd rfl hn1
theorem gi_pdL {m : R PyData} (h : Gv K E te G (rv K) m) : Gi K E (iList K te) G false (R.bind m fun x => pdItemsL x) := fun F0 H0 F H σ S hn hx Q q =>
  h.step S hn hx fun x z hn1 hx1 v F' H' e r => by
    subst z
    unfold pdItemsL at hn1 q
    cases r with
    | @lst a vs ds h2 h3 =>
      refine ⟨a, rfl, ⟨vs, same_l e.sub h2⟩, q _ rfl _ F' H' e ⟨fun H => SqL K H a vs, YAt vs, by rw [← dpAll_length h3]; exact walk_list, fun F2 H2 s1 s2 _ => same_l (s1.trans s2) h2, fun i H x' H2 F2 hi s1 s2 _ ⟨y1, y2⟩ => ?_⟩⟩
      subst y1
      obtain ⟨y, e1, e2⟩ := dpAll_getV h3 y2
      exact ⟨F2, y, Ext.refl s2, e1, Dp.mono s1 e2⟩
    | _ => exact absurd rfl hn1
/-! data that is an int, used as one -/
def pdInt (x : PyData) : R Int := match x with
  | .int i => .ok i
  | _ => .no
theorem Gv.pdInt {m : R PyData} (h : Gv K E te G (rv K) m) : Gv K E te G (rv K) (R.bind m fun x => Wk.pdInt x) := fun F0 H0 F H σ S hn hx Q q =>
  h.step S hn hx fun x z hn1 hx1 v F' H' e r => by
    subst z
    unfold Wk.pdInt at hn1 q
    cases r with
    | int i => exact q i rfl _ F' H' e rfl
    | _ => exact absurd rfl hn1

/-! ### tests that store (x := ..) -/
def GW (K : Fg) (E : Sg → XK) (tw : TTw) (G : List Slot) (X : Ex → List Slot → R ρ → Prop) (NT NF : List Slot → R ρ → Prop) (t : R ρ) : Prop :=
  ∀ F0 H0 F H σ, Sta K F0 H0 F H σ G → t ≠ .no →
    (∀ e G' t', t' = t → X e G' t' → ∀ cls d F' H' σ', Sta K F0 H0 F' H' σ' G' → ExOk K e cls d H' → E σ' cls d H') →
    ∀ Q : Bool → Sg → Hp → Prop, (∀ G' t', t' = t → NT G' t' → ∀ F' H' σ', Sta K F0 H0 F' H' σ' G' → Same F F' → Q true σ' H') →
      (∀ G' t', t' = t → NF G' t' → ∀ F' H' σ', Sta K F0 H0 F' H' σ' G' → Same F F' → Q false σ' H') → tw σ H Q
def wAnd (t : TT) (u : TTw) : TTw := fun σ H Q => t σ H fun c H1 => if c = true then u σ H1 Q else Q false σ H1
theorem ptw_and {X : Cx} {a b : Expr} {pos : Pos} {t : TT} {u : TTw} (ha : PT X a t) (hb : PTw X b u) : PTw X (.BoolOp .And [a, b] pos) (wAnd t u) := by
  refine ⟨fun pins s σ H Q I h => ?_⟩
  refine isTrue_and (thn (ha.run pins s σ H _ I h) fun c s1 ⟨H1, I1, q1⟩ => ?_)
  cases c with
  | true =>
    refine isTrue_and (thn (hb.run pins s1 σ H1 Q I1 q1) fun c s2 e => ?_)
    cases c with
    | true => exact isTrue_and_nil e
    | false => exact e
  | false => exact ⟨σ, H1, I1, q1⟩
variable {X : Ex → List Slot → R ρ → Prop} {NT NF : List Slot → R ρ → Prop}
theorem gw_and {tw : TTw} {m' m : R Bool} {t1 t2 : R ρ} (hc : Gt K E tt G m') (h1 : GW K E tw G X NT NF t1) (h2 : NF G t2) (em : m' = m := by first | with_reducible rfl | simp (implicitDefEqProofs := false) only [R.bind_assoc, R.bind_ok]) (hX : ∀ e, X e G (.ex e) := by exact fun _ => rfl) :
    GW K E (wAnd tt tw) G X NT NF (R.bind m fun b => if b = true then t1 else t2) := fun F0 H0 F H σ s hn hx Q qt qf => by
  subst em
  refine hc F0 H0 F H σ s (R.bind_no_of hn) (fun e z cls d F' H' e1 o => hx e G (.ex e) (by rw [z]; rfl) (hX e) cls d F' H' σ (s.mono e1) o) _ fun b z F' H' e => ?_
  subst z
  cases b with
  | true => exact h1 F0 H0 F' H' σ (s.mono e) hn hx Q (fun G2 t2 a b F2 H2 σ2 c d => qt G2 t2 a b F2 H2 σ2 c (e.ff.trans d)) fun G2 t2 a b F2 H2 σ2 c d => qf G2 t2 a b F2 H2 σ2 c (e.ff.trans d)
  | false => exact qf G t2 rfl h2 F' H' σ (s.mono e) e.ff
/-- (x := e) op c, an int's place -/
theorem gw_cmp {r : R2} {i : Nat} {f : Int → Int → R Bool} {m' m : R Int} {mb : R Int} {t1 t2 : Int → R ρ} (o : Op2 K r (rv K) (rv K) (rv K) f) (h : Gv K E te G (rv K) m') (hb : ∀ x, Gv K E tb (G.set i (.val (α := Int) inferInstance x)) (rv K) mb) (h1 : ∀ x, NT (G.set i (.val inferInstance x)) (t1 x)) (h2 : ∀ x, NF (G.set i (.val inferInstance x)) (t2 x))
    (em : m' = m := by first | with_reducible rfl | simp (implicitDefEqProofs := false) only [R.bind_assoc, R.bind_ok]) (hX : ∀ e G, X e G (.ex e) := by exact fun _ _ => rfl) :
    GW K E (wCmp r (wNm (wE te) i) tb) G X NT NF (R.bind m fun x => R.bind (R.bind mb fun y => f x y) fun b => if b = true then t1 x else t2 x) := fun F0 H0 F H σ s hn hx Q qt qf => by
  subst em
  show te σ H _
  refine h F0 H0 F H σ s (R.bind_no_of hn) (fun e z cls d F' H' e1 o => hx e G (.ex e) (by rw [z]; rfl) (hX e G) cls d F' H' σ (s.mono e1) o) _ fun x z v F1 H1 e1 r1 => ?_
  subst z
  have s1 := (s.mono e1).setV i r1
  refine (hb x).step s1 (R.bind_no_of hn) (fun e z cls d F' H' e2 o => hx e _ (.ex e) (by show Wk.R.ex e = R.bind (R.ok x) _; rw [R.bind_ok, z]; rfl) (hX e _) cls d F' H' _ (s1.mono e2) o) fun y z hn2 hx2 w F2 H2 e2 r2 => ?_
  subst z
  cases hz : f x y with
  | no => exact absurd hz hn2
  | ex e => exact absurd hz (o.1 x y e)
  | ok b =>
    refine o.2 x y b hz H H1 F2 H2 v w e2.sub (Py.mono e2.ff r1) r2 _ fun u F3 H3 e3 r3 => ⟨b, r3, ?_⟩
    have s3 := (s1.mono e2).mono e3
    have ff := (e1.ff.trans e2.ff).trans e3.ff
    cases b with
    | true => exact qt _ (t1 x) (by simp only [R.bind_ok, hz, if_true]) (h1 x) F3 H3 _ s3 ff
    | false => exact qf _ (t2 x) (by simp only [R.bind_ok, hz, Bool.false_eq_true, if_false]) (h2 x) F3 H3 _ s3 ff
def whileW (n : Nat) (step : S → (S → R ρ) → (S → R ρ) → R ρ) (k : S → R ρ) (s : S) : R ρ := match n with
  | 0 => .no
  | n + 1 => step s (fun s' => whileW n step k s') k
theorem gs_whileW {c : TTw} {tb' : TS} (fuel : Nat) (Gs : S → List Slot) (s0 : S) {step : S → (S → R ρ) → (S → R ρ) → R ρ} {κ : S → R ρ}
    (h0 : Le G (Gs s0)) (hc : ∀ s kn kb, GW K E c (Gs s) k.X (fun G' t' => GS K E tb' G' rr { N := fun G' t' => ∃ s', Le G' (Gs s') ∧ t' = kn s', C := fun G' t' => ∃ s', Le G' (Gs s') ∧ t' = kn s', B := fun G' t' => ∃ s', Le G' (Gs s') ∧ t' = kb s', X := k.X } t')
      (fun G' t' => ∃ s', Le G' (Gs s') ∧ t' = kb s') (step s kn kb))
    (hk : ∀ s, k.N (Gs s) (κ s)) : GS K E (tWhileW c tb' tNext) G rr k (whileW fuel step κ s0) := fun F0 H0 F H σ D s hn hX hR hN hB hC => by
  refine ⟨fun m σ' H' => ∃ F' s', Sta K F0 H0 F' H' σ' (Gs s') ∧ Same F F' ∧ whileW m step κ s' = whileW fuel step κ s0, ⟨fuel, F, s0, s.le h0, Same.refl F, rfl⟩, ?_⟩
  rintro m σ' H' ⟨F', s', S', sa, ht⟩
  cases m with
  | zero => exact absurd ht.symm hn
  | succ m =>
    rw [whileW] at ht
    refine hc s' (fun s' => whileW m step κ s') κ F0 H0 F' H' σ' S' (by rw [ht]; exact hn) (by rw [ht]; exact hX) _ (fun G1 t1 e1 hg F1 H1 σ1 S1 s1 => ?_) (fun G1 t1 e1 ⟨s2, l, e2⟩ F1 H1 σ1 S1 s1 => ?_)
    · rw [if_pos rfl]
      refine ⟨fun σ3 H3 => ∃ F3 s3, Sta K F0 H0 F3 H3 σ3 (Gs s3) ∧ Same F F3 ∧ whileW m step κ s3 = whileW fuel step κ s0, fun σ3 H3 q => ⟨m, Nat.lt_succ_self m, q⟩, ?_⟩
      have et : t1 = whileW fuel step κ s0 := e1.trans ht
      have sa1 := sa.trans s1
      refine hg F0 H0 F1 H1 σ1 _ S1 (by rw [et]; exact hn) (by rw [et]; exact hX) (by rw [et]; exact hR) (fun G' t' z ⟨s2, l, e3⟩ F3 H3 σ3 S3 s3 => ⟨F3, s2, S3.le l, sa1.trans s3, by rw [← et, ← z, e3]⟩)
        (fun G' t' z ⟨s2, l, e3⟩ F3 H3 σ3 S3 s3 => hN _ (κ s2) (by rw [← e3, z, et]) (hk s2) F3 H3 σ3 (S3.le l) (sa1.trans s3)) (fun G' t' z ⟨s2, l, e3⟩ F3 H3 σ3 S3 s3 => ⟨F3, s2, S3.le l, sa1.trans s3, by rw [← et, ← z, e3]⟩)
    · rw [if_neg Bool.false_ne_true]
      exact hN _ (κ s2) (by rw [← e2, e1, ht]) (hk s2) F1 H1 σ1 (S1.le l) (sa.trans s1)
end
end Wk
end
section
set_option Elab.async false
set_option linter.all false
set_option maxRecDepth 100000
namespace Wk
open PySem PySem.Spec PyProof.Rows L2
/-! ### try: .. except C as e: .., a body without return -/
def rF {α : Type} : Rr α := fun _ _ _ _ _ => False
instance {α : Type} : Rst (rF (α := α)) where
  mono := fun h _ => h
  back := fun _ h => h
section
variable {K : Fg} {E : Sg → XK} {te ta tb tc : TE} {tA : TA} {ts : TS} {G Gn : List Slot} {α β γ ρ S O A : Type} {rr : Rr ρ} {k : Ks ρ} {t : R ρ}
theorem gs_tryAs {tb : WX → TS} {c : Value} {i : Nat} {th : Addr → Value → Option Addr → TS} {Wout : WX} {mb : R Unit}
    (hb : ∀ W, GS K (WE W) (tb W) G (rF (α := Unit)) { N := fun G' t' => Le G' Gn ∧ t' = .ok () } mb) (hno : mb ≠ .no) (hN : mb = .ok () → k.N Gn t)
    (hH : ∀ e, mb = .ex e → ∀ F0 H0 F H σ G' D cls d, Sta K F0 H0 F H σ G' → ExOk K e cls d H → (∀ r, t = .ok r → ∀ v F' H', Ext F0 H0 F' H' → rr r H0 F' H' v → D.rt v H') → wAs K c i th Wout D cls d σ H) :
    GS K E (fun D σ H => tb (wAs K c i th Wout D) D σ H) G rr k t := fun F0 H0 F H σ D s hn hX hR hN' hB hC => by
  refine hb (wAs K c i th Wout D) F0 H0 F H σ D s hno (fun e G' t' z hx cls d F' H' σ' s' o => ?_) (fun r z v F' H' e q => False.elim q) (fun G' t' z q F' H' σ' s' sa => ?_) (fun G' t' z q => False.elim q) (fun G' t' z q => False.elim q)
  · have hx2 : t' = .ex e := hx
    exact hH e (by rw [← z, hx2]) F0 H0 F' H' σ' G' D cls d s' o hR
  · exact hN' Gn t rfl (hN (by rw [← z, q.2])) F' H' σ' (s'.le q.1) sa
end
section
variable {X : Cx} {b : List Stmt}
theorem pss_len {t : TS} (h : PSs X b t) : PSs X b (fun D σ H => σ.length = X.N.length → t D σ H) := ⟨fun pins s σ H D I q => h.run pins s σ H D I (q I.len)⟩
theorem pss_pre {t : TS} {c : Prop} (h : c → PSs X b t) : PSs X b (fun D σ H => c ∧ t D σ H) := ⟨fun pins s σ H D I q => (h q.1).run pins s σ H D I q.2⟩
end
end Wk
end
section
set_option Elab.async false
set_option linter.all false
set_option maxRecDepth 100000
namespace Wk
open PySem PySem.Spec PyProof.Rows L2
/-! ### a part of an own value, by a path of indices -/
def PathOk (K : Fg) (F0 H0 F H : Hp) (σ : Sg) (G : List Slot) (n : Nat) {α β : Type} (i : Ow α) (ib : Ow β) (u : V) (y : β) (put : β → α) : Prop :=
  ∃ c1, ib.ow K F H u y c1 ∧ c1.Nodup ∧ (∀ c ∈ c1, F c = none ∧ H0 c = none) ∧ ∀ F2 H2 y' c', Same F F2 → (∀ b w, b ∉ c1 → H b = some w → H2 b = some w) → Same F2 H2 → (∀ b, F b = none → F2 b ≠ none → b ∈ c1 ∨ H b = none) → ib.ow K F2 H2 u y' c' → c'.Nodup →
    (∀ c ∈ c', F2 c = none ∧ (c ∈ c1 ∨ H c = none)) → Sta K F0 H0 F2 H2 σ (G.set n (.own i (put y')))
section
variable {K : Fg} {F0 H0 F H F' H' : Hp} {σ : Sg} {G : List Slot} {n : Nat} {α β γ : Type} {i : Ow α} {ib : Ow β} {u : V} {y : β} {put : β → α}
theorem PathOk.mono (e : Ext F H F' H') (p : PathOk K F0 H0 F H σ G n i ib u y put) : PathOk K F0 H0 F' H' σ G n i ib u y put := by
  obtain ⟨c1, h1, h2, h3, h4⟩ := p
  refine ⟨c1, ib.mono e.ff (fun c _ => e.hh c) h1, h2, fun c hc => ⟨e.out c (ib.cell h1 c hc) (h3 c hc).1, (h3 c hc).2⟩, fun F2 H2 y' c' a k sb fz ho nd fr => h4 F2 H2 y' c' (e.ff.trans a) (fun b w hb z => k b w hb (e.hh b w z)) sb (fun b z1 z2 => ?_) ho nd fun c hc => ⟨(fr c hc).1, ?_⟩⟩
  · cases q : F' b with
    | some w =>
      right
      cases q2 : H b with
      | none => rfl
      | some w2 => rw [e.out b (by rw [q2]; exact fun z => nomatch z) z1] at q; cases q
    | none =>
      rcases fz b q z2 with z | z
      · exact .inl z
      · exact .inr (e.hh.free z)
  · rcases (fr c hc).2 with z | z
    · exact .inl z
    · exact .inr (e.hh.free z)
theorem Sta.path {x : α} (S : Sta K F0 H0 F H σ G) (h : G[n]? = some (.own i x)) : ∃ u, σ[n]? = some (some u) ∧ PathOk K F0 H0 F H σ G n i i u x (fun z => z) := by
  obtain ⟨v, cs, h1, h2, h3, h4, h5⟩ := S.own h
  refine ⟨v, h1, cs, h2, h3, h4, fun F2 H2 y' c' a k sb fz ho nd fr => ?_⟩
  have := h5 F2 H2 (.own i y') v c' a k sb fz ⟨v, rfl, ho⟩ nd fr
  rw [set_same h1] at this
  exact this
theorem OReps.get {o : Ow β} : ∀ {vs : List V} {xs : List β} {css : List (List Addr)} {j : Nat} {y : β}, OReps o K F H vs xs css → xs[j]? = some y →
    ∃ w c cr, vs[j]? = some w ∧ o.ow K F H w y c ∧ css.flatten.Perm (c ++ cr) ∧ ∀ F2 H2, Same F F2 → (∀ b ∈ cr, ∀ w, H b = some w → H2 b = some w) → ∀ y' c', o.ow K F2 H2 w y' c' → ∃ css', OReps o K F2 H2 vs (xs.set j y') css' ∧ css'.flatten.Perm (c' ++ cr)
  | _, _, _, _, _, .nil, e => by simp at e
  | _, _, _, 0, _, .cons (v := v) (c := c) (css := css) h t, e => by
    simp at e; subst e
    exact ⟨v, c, css.flatten, rfl, h, by rw [List.flatten_cons], fun F2 H2 a k y' c' ho => ⟨c' :: css, .cons ho (t.mono a k), by rw [List.flatten_cons]⟩⟩
  | _, _, _, j + 1, _, .cons (c := c0) (css := css0) h t, e => by
    simp at e
    obtain ⟨w, c, cr, h1, h2, h3, h4⟩ := OReps.get t e
    refine ⟨w, c, c0 ++ cr, by simpa using h1, h2, ?_, fun F2 H2 a k y' c' ho => ?_⟩
    · rw [List.flatten_cons]; exact (h3.append_left c0).trans (List.perm_append_comm_assoc c0 c cr)
    · obtain ⟨css', q1, q2⟩ := h4 F2 H2 a (fun b hb => k b (List.mem_append_right _ hb)) y' c' ho
      exact ⟨c0 :: css', .cons (o.mono a (fun b hb => k b (List.mem_append_left _ hb)) h) q1, by rw [List.flatten_cons]; exact (q2.append_left c0).trans (List.perm_append_comm_assoc c0 c' cr)⟩
theorem OReps.length {o : Ow β} : ∀ {vs : List V} {xs : List β} {css : List (List Addr)}, OReps o K F H vs xs css → vs.length = xs.length
  | _, _, _, .nil => rfl
  | _, _, _, .cons _ t => by simp [OReps.length t]
theorem PathOk.ix {o : Ow γ} {ys : List γ} {put : List γ → α} (p : PathOk K F0 H0 F H σ G n i (Ow.deep o) u ys put) : ∃ a vs, u = .ref a ∧ H a = some (.lst vs) ∧ vs.length = ys.length ∧ ∀ {j : Nat} {y : γ}, ys[j]? = some y → ∃ w, vs[j]? = some w ∧ PathOk K F0 H0 F H σ G n i o w y (fun y' => put (ys.set j y')) := by
  obtain ⟨c1, ⟨a, vs, css, h1, h2, h3, h4⟩, nd, fr, ch⟩ := p
  refine ⟨a, vs, h1, h2, h3.length, fun {j y} hy => ?_⟩
  obtain ⟨w, c, cr, q1, q2, q3, q4⟩ := h3.get hy
  subst h4
  rw [List.nodup_cons] at nd
  have ndf := q3.nodup_iff.mp nd.2
  rw [List.nodup_append] at ndf
  have inc : ∀ b ∈ c, b ∈ a :: css.flatten := fun b hb => List.mem_cons_of_mem _ (q3.mem_iff.mpr (List.mem_append_left _ hb))
  have ac : a ∉ c := fun z => nd.1 (q3.mem_iff.mpr (List.mem_append_left _ z))
  refine ⟨w, q1, c, q2, ndf.1, fun b hb => fr b (inc b hb), fun F2 H2 y' c' s k sb fz ho nd' fr' => ?_⟩
  have kr : ∀ b ∈ cr, ∀ w, H b = some w → H2 b = some w := fun b hb w z => k b w (fun z2 => ndf.2.2 b z2 b hb rfl) z
  obtain ⟨css', r1, r2⟩ := q4 F2 H2 s kr y' c' ho
  have aliv : H a ≠ none := by rw [h2]; exact fun z => nomatch z
  have old : ∀ b ∈ cr, H b ≠ none := fun b hb => h3.cell b (q3.mem_iff.mpr (List.mem_append_right _ hb))
  have cc : ∀ b ∈ c', b ∉ cr ∧ b ≠ a := fun b hb => by
    rcases (fr' b hb).2 with z | z
    · exact ⟨fun z2 => ndf.2.2 b z b z2 rfl, fun z2 => ac (by rw [← z2]; exact z)⟩
    · exact ⟨fun z2 => old b z2 z, fun z2 => aliv (by rw [← z2]; exact z)⟩
  have acr : a ∉ cr := fun z => nd.1 (q3.mem_iff.mpr (List.mem_append_right _ z))
  have F2n : ∀ b, b ∈ cr ∨ b = a → F2 b = none := fun b hb => by
    have hb1 : b ∈ a :: css.flatten := by
      rcases hb with hb | hb
      · exact List.mem_cons_of_mem _ (q3.mem_iff.mpr (List.mem_append_right _ hb))
      · rw [hb]; exact List.mem_cons_self
    have hb2 : b ∉ c ∧ H b ≠ none := by
      rcases hb with hb | hb
      · exact ⟨fun z2 => ndf.2.2 b z2 b hb rfl, old b hb⟩
      · rw [hb]; exact ⟨ac, aliv⟩
    cases q : F2 b with
    | none => rfl
    | some z0 =>
      rcases fz b (fr b hb1).1 (by rw [q]; exact fun z => nomatch z) with z | z
      · exact absurd z hb2.1
      · exact absurd z hb2.2
  refine ch F2 H2 (ys.set j y') (a :: css'.flatten) s (fun b w hb z => k b w (fun z2 => hb (inc b z2)) z) sb (fun b z1 z2 => ?_) ⟨a, vs, css', h1, k a _ ac h2, r1, rfl⟩ ?_ fun b hb => ?_
  · rcases fz b z1 z2 with z | z
    · exact .inl (inc b z)
    · exact .inr z
  · rw [List.nodup_cons]
    refine ⟨fun z => ?_, ?_⟩
    · rcases List.mem_append.mp (r2.mem_iff.mp z) with z | z
      · exact (cc a z).2 rfl
      · exact acr z
    · rw [r2.nodup_iff, List.nodup_append]
      exact ⟨nd', ndf.2.1, fun b hb b2 hb2 z => (cc b hb).1 (by rw [z]; exact hb2)⟩
  · rcases List.mem_cons.mp hb with z | z
    · rw [z]; exact ⟨F2n a (.inr rfl), .inl List.mem_cons_self⟩
    · rcases List.mem_append.mp (r2.mem_iff.mp z) with z | z
      · refine ⟨(fr' b z).1, ?_⟩
        rcases (fr' b z).2 with z | z
        · exact .inl (inc b z)
        · exact .inr z
      · exact ⟨F2n b (.inl z), .inl (List.mem_cons_of_mem _ (q3.mem_iff.mpr (List.mem_append_right _ z)))⟩
/-- the part is a list of frozen items: its cell may be written -/
theorem PathOk.list {γ : Type} {i0 : Py γ} {ys : List γ} {put : List γ → α} (sub : Same F H) (p : PathOk K F0 H0 F H σ G n i (Ow.list i0) u ys put) : ∃ a vs, u = .ref a ∧ H a = some (.lst vs) ∧ Reps K F vs ys ∧ ∀ ws zs, Reps K F ws zs → Sta K F0 H0 F (upd H a (.lst ws)) σ (G.set n (.own i (put zs))) := by
  obtain ⟨c1, ⟨a, vs, h1, h2, h3, h4⟩, nd, fr, ch⟩ := p
  subst h4
  have ha := fr a (List.mem_singleton_self a)
  refine ⟨a, vs, h1, h2, h3, fun ws zs hr => ch F (upd H a (.lst ws)) zs [a] (Same.refl F) (fun b w hb z => by rw [upd_ne (fun e => hb (by rw [e]; exact List.mem_singleton_self a))]; exact z) (fun b w z => by rw [upd_ne (ne_of_none z ha.1)]; exact sub b w z)
    (fun b z1 z2 => absurd z1 z2) ⟨a, ws, h1, upd_same, hr, rfl⟩ (by simp) fun c hc => by rw [List.mem_singleton.mp hc]; exact ⟨ha.1, .inl (List.mem_singleton_self a)⟩⟩
end
/-- an expression that leads to a part of slot n -/
def Gp (K : Fg) (E : Sg → XK) (te : TE) (G : List Slot) (n : Nat) {α β : Type} (i : Ow α) (ib : Ow β) (m : R (β × (β → α))) : Prop :=
  ∀ F0 H0 F H σ, Sta K F0 H0 F H σ G → m ≠ .no → (∀ e, m = .ex e → ∀ cls d F' H', Ext F H F' H' → ExOk K e cls d H' → E σ cls d H') →
    ∀ Q : VK, (∀ r, m = .ok r → ∀ u F' H', Ext F H F' H' → PathOk K F0 H0 F' H' σ G n i ib u r.1 r.2 → Q u H') → te σ H Q
def pixR {α β : Type} (r : List β × (List β → α)) (j : Int) : R (β × (β → α)) := match ixN r.1.length j with
  | some jn => (match r.1[jn]? with
    | some y => .ok (y, fun y' => r.2 (r.1.set jn y'))
    | none => .no)
  | none => .no
section
variable {K : Fg} {E : Sg → XK} {te ti ta tb tc : TE} {tA : TA} {ts : TS} {G : List Slot} {n : Nat} {α β γ ρ : Type} {rr : Rr ρ} {k : Ks ρ} {t : R ρ} {i : Ow α} {ib : Ow β}
theorem Gp.step {m : R (β × (β → α))} {κ : β × (β → α) → R γ} (h : Gp K E te G n i ib m) {F0 H0 F H : Hp} {σ : Sg} (S : Sta K F0 H0 F H σ G) (hn : R.bind m κ ≠ .no)
    (hx : ∀ e, R.bind m κ = .ex e → ∀ cls d F' H', Ext F H F' H' → ExOk K e cls d H' → E σ cls d H') {Q : VK}
    (q : ∀ x, m = .ok x → κ x ≠ .no → (∀ F' H', Ext F H F' H' → ∀ e, κ x = .ex e → ∀ cls d F2 H2, Ext F' H' F2 H2 → ExOk K e cls d H2 → E σ cls d H2) → ∀ u F' H', Ext F H F' H' → PathOk K F0 H0 F' H' σ G n i ib u x.1 x.2 → Q u H') : te σ H Q := by
  refine h F0 H0 F H σ S (fun z => hn (by rw [z]; rfl)) (fun e z => hx e (by rw [z]; rfl)) Q fun x z v F' H' e r => ?_
  subst z
  exact q x rfl hn (fun F' H' e1 e z cls d F2 H2 e2 o => hx e z cls d F2 H2 (e1.trans e2) o) v F' H' e r
theorem gp_var (n : Nat) {x : α} (h : G[n]? = some (.own i x) := by rfl) : Gp K E (tVar n) G n i i (.ok (x, fun z => z)) := fun F0 H0 F H σ S hn hx Q q => by
  obtain ⟨u, h1, h2⟩ := S.path h
  exact ⟨u, h1, q _ rfl u F H (Ext.refl S.sub) h2⟩
theorem gp_ix {o : Ow γ} {m : R (List γ × (List γ → α))} {mi : R Int} (h : Gp K E te G n i (Ow.deep o) m) (hi : Gv K E ti G (rv K) mi) : Gp K E (tOp (rIxL K) te ti) G n i o (R.bind m fun r => R.bind mi fun j => pixR r j) := fun F0 H0 F H σ S hn hx Q q =>
  h.step S hn hx fun r z hn1 hx1 u F1 H1 e1 p1 => by
    subst z
    refine hi.step (S.mono e1) hn1 (hx1 F1 H1 e1) fun j z hn2 hx2 w F2 H2 e2 r2 => ?_
    subst z
    obtain ⟨a, vs, h1, h2, h3, h4⟩ := (p1.mono e2).ix
    unfold pixR at hn2 q
    cases hj : ixN r.1.length j with
    | none => rw [hj] at hn2; exact absurd rfl hn2
    | some jn =>
      rw [hj] at hn2
      cases hy : r.1[jn]? with
      | none => rw [show (match some jn with
          | some jn => (match r.1[jn]? with
            | some y => R.ok (y, fun y' => r.2 (r.1.set jn y'))
            | none => .no)
          | none => .no) = R.no by simp [hy]] at hn2; exact absurd rfl hn2
      | some y =>
        obtain ⟨v, q1, q2⟩ := h4 hy
        refine ⟨a, vs, j, v, h1, r2, .inl (.inl h2), by unfold atI; rw [h3, hj]; exact q1, q (y, fun y' => r.2 (r.1.set jn y')) (by simp [hj, hy]) v F2 H2 (e1.trans e2) q2⟩
/-- part[j] = e -/
theorem gs_setP {γ : Type} {i0 : Py γ} {m' m : R γ} {mp' mp : R (List γ × (List γ → α))} {mi' mi : R Int} {κ : α → R ρ} (h' : Gv K E te G (rv K) m') (hP' : Gp K E tc G n i (Ow.list i0) mp') (hi' : Gv K E ti G (rv K) mi') (hk : ∀ ys, k.N (G.set n (.own i ys)) (κ ys))
    (em : m' = m := by first | with_reducible rfl | simp (implicitDefEqProofs := false) only [R.bind_assoc, R.bind_ok]) (emp : mp' = mp := by first | with_reducible rfl | simp (implicitDefEqProofs := false) only [R.bind_assoc, R.bind_ok]) (emi : mi' = mi := by first | with_reducible rfl | simp (implicitDefEqProofs := false) only [R.bind_assoc, R.bind_ok]) (hp : k.Pl := by exact fun _ _ => rfl) :
    GS K E (tAsg te (gSub tc ti rSetL)) G rr k (R.bind m fun x => R.bind mp fun r => R.bind mi fun j => R.bind (setR r.1 j x) fun ys => κ (r.2 ys)) := fun F0 H0 F H σ D s hn hX hR hN hB hC => by
  have h : Gv K E te G (rv K) m := em ▸ h'
  have hP : Gp K E tc G n i (Ow.list i0) mp := emp ▸ hP'
  have hi : Gv K E ti G (rv K) mi := emi ▸ hi'
  refine h.run (κ := fun x => R.bind mp fun r => R.bind mi fun j => R.bind (setR r.1 j x) fun ys => κ (r.2 ys)) hp s hn hX fun x z v F1 H1 e1 r1 => ?_
  subst z
  have hn1 : (R.bind mp fun r => R.bind mi fun j => R.bind (setR r.1 j x) fun ys => κ (r.2 ys)) ≠ .no := hn
  refine hP F0 H0 F1 H1 σ (s.mono e1) (R.bind_no_of hn1) (fun e z cls d F' H' e2 o => hX e G (.ex e) (by rw [z]; rfl) (hp e G) cls d F' H' σ ((s.mono e1).mono e2) o) _ fun r z u F2 H2 e2 p2 => ?_
  subst z
  have s2 := (s.mono e1).mono e2
  refine hi.run (κ := fun j => R.bind (setR r.1 j x) fun ys => κ (r.2 ys)) hp s2 hn1 hX fun j z w F3 H3 e3 r3 => ?_
  subst z
  obtain ⟨a, vs, h1, h2, h3, wr⟩ := (p2.mono e3).list (s2.mono e3).sub
  cases hj : ixN r.1.length j with
  | none => exact absurd (by simp [setR, hj]) hn1
  | some jn =>
    refine ⟨a, vs, j, jn, h1, r3, h2, by rw [PySem.Paired.length h3]; exact hj, ?_⟩
    exact hN _ (κ (r.2 (r.1.set jn x))) (by simp [setR, hj]) (hk _) F3 _ σ (wr _ _ (reps_set jn h3 (Py.mono (e2.trans e3).ff r1))) ((e1.trans e2).trans e3).ff
/-- part.append(e) -/
theorem gs_appendP {γ : Type} {i0 : Py γ} {m' m : R γ} {mp' mp : R (List γ × (List γ → α))} {κ : α → R ρ} (hP' : Gp K E tc G n i (Ow.list i0) mp') (h' : Gv K E te G (rv K) m') (hk : ∀ ys, k.N (G.set n (.own i ys)) (κ ys))
    (emp : mp' = mp := by first | with_reducible rfl | simp (implicitDefEqProofs := false) only [R.bind_assoc, R.bind_ok]) (em : m' = m := by first | with_reducible rfl | simp (implicitDefEqProofs := false) only [R.bind_assoc, R.bind_ok]) (hp : k.Pl := by exact fun _ _ => rfl) :
    GS K E (tDrop (tBM K "list" rAppend tc (tCons te tNil))) G rr k (R.bind mp fun r => R.bind m fun x => R.chk (r.1.length < 100000) (κ (r.2 (r.1 ++ [x])))) := fun F0 H0 F H σ D s hn hX hR hN hB hC => by
  have h : Gv K E te G (rv K) m := em ▸ h'
  have hP : Gp K E tc G n i (Ow.list i0) mp := emp ▸ hP'
  refine hP F0 H0 F H σ s (R.bind_no_of hn) (fun e z cls d F' H' e1 o => hX e G (.ex e) (by rw [z]; rfl) (hp e G) cls d F' H' σ (s.mono e1) o) _ fun r z u F1 H1 e1 p1 => ?_
  subst z
  have hn1 : (R.bind m fun x => R.chk (r.1.length < 100000) (κ (r.2 (r.1 ++ [x])))) ≠ .no := hn
  obtain ⟨a, vs, h1, h2, _⟩ := p1.list (s.mono e1).sub
  subst h1
  refine ⟨.inl ⟨rfl, vs, .inl (.inl h2)⟩, ?_⟩
  refine h.run (κ := fun x => R.chk (r.1.length < 100000) (κ (r.2 (r.1 ++ [x])))) hp (s.mono e1) hn1 hX fun x z v F2 H2 e2 r2 => ?_
  subst z
  have hlen : r.1.length < 100000 := by
    by_cases q : r.1.length < 100000
    · exact q
    · exact absurd (if_neg q) hn1
  obtain ⟨a', vs', h1', h2', h3', wr⟩ := (p1.mono e2).list ((s.mono e1).mono e2).sub
  cases h1'
  have hl := PySem.Paired.length h3'
  refine ⟨a, vs', v, rfl, rfl, h2', Nat.lt_of_lt_of_le (show vs'.length < 100000 by omega) (by decide), ?_⟩
  exact hN _ (κ (r.2 (r.1 ++ [x]))) (by exact (if_pos hlen).symm) (hk _) F2 _ σ (wr _ _ (reps_append h3' (.cons r2 .nil))) (e1.trans e2).ff
theorem PathOk.drop {F0 H0 F H : Hp} {σ : Sg} {u : V} {o : Ow γ} {ys : List γ} {put : List γ → α} (sub : Same F H) (p : PathOk K F0 H0 F H σ G n i (Ow.deep o) u ys put) : ∃ a vs, u = .ref a ∧ H a = some (.lst vs) ∧ vs.length = ys.length ∧ Sta K F0 H0 F (upd H a (.lst vs.dropLast)) σ (G.set n (.own i (put ys.dropLast))) := by
  obtain ⟨c1, ⟨a, vs, css, h1, h2, h3, h4⟩, nd, fr, ch⟩ := p
  subst h4
  have ha := fr a List.mem_cons_self
  have dl : ∀ {vs : List V} {xs : List γ} {css : List (List Addr)}, OReps o K F H vs xs css → OReps o K F H vs.dropLast xs.dropLast css.dropLast := fun {vs xs css} r => by
    induction r with
    | nil => exact .nil
    | cons h t ih =>
      cases t with
      | nil => exact .nil
      | cons h2 t2 => exact .cons h ih
  have dsub : ∀ css : List (List Addr), css.dropLast.flatten.Sublist css.flatten := fun css => by
    induction css with
    | nil => exact .refl _
    | cons c r ih =>
      cases r with
      | nil => simp
      | cons c2 r2 =>
        rw [List.dropLast_cons₂, List.flatten_cons, List.flatten_cons]
        exact (List.Sublist.refl _).append ih
  refine ⟨a, vs, h1, h2, h3.length, ch F (upd H a (.lst vs.dropLast)) ys.dropLast (a :: css.dropLast.flatten) (Same.refl F) (fun b w hb z => by rw [upd_ne (fun e => hb (by rw [e]; exact List.mem_cons_self))]; exact z) (fun b w z => by rw [upd_ne (ne_of_none z ha.1)]; exact sub b w z)
    (fun b z1 z2 => absurd z1 z2) ⟨a, vs.dropLast, css.dropLast, h1, upd_same, ?_, rfl⟩ (nd.sublist ((dsub css).cons_cons a)) fun c hc => ?_⟩
  · refine (dl h3).mono (Same.refl F) fun c hc w z => ?_
    have : c ≠ a := fun e => (List.nodup_cons.mp nd).1 ((dsub css).subset (by rw [← e]; exact hc))
    rw [upd_ne this]; exact z
  · have hm := ((dsub css).cons_cons a).subset hc
    exact ⟨(fr c hm).1, .inl hm⟩
/-- part.pop() -/
theorem gs_popP {o : Ow γ} {mp' mp : R (List γ × (List γ → α))} {κ : α → R ρ} (hP' : Gp K E tc G n i (Ow.deep o) mp') (hk : ∀ ys, k.N (G.set n (.own i ys)) (κ ys))
    (emp : mp' = mp := by first | with_reducible rfl | simp (implicitDefEqProofs := false) only [R.bind_assoc, R.bind_ok]) (hp : k.Pl := by exact fun _ _ => rfl) :
    GS K E (tDrop (tBM0 K "list" rPop tc)) G rr k (R.bind mp fun r => R.chk (0 < r.1.length) (κ (r.2 r.1.dropLast))) := fun F0 H0 F H σ D s hn hX hR hN hB hC => by
  have hP : Gp K E tc G n i (Ow.deep o) mp := emp ▸ hP'
  refine hP F0 H0 F H σ s (R.bind_no_of hn) (fun e z cls d F' H' e1 o => hX e G (.ex e) (by rw [z]; rfl) (hp e G) cls d F' H' σ (s.mono e1) o) _ fun r z u F1 H1 e1 p1 => ?_
  subst z
  have hn1 : R.chk (0 < r.1.length) (κ (r.2 r.1.dropLast)) ≠ .no := hn
  obtain ⟨a, vs, h1, h2, h3, st⟩ := p1.drop (s.mono e1).sub
  subst h1
  have hlen : 0 < r.1.length := by
    by_cases q : 0 < r.1.length
    · exact q
    · exact absurd (if_neg q) hn1
  have hv : vs.length - 1 < vs.length := by omega
  refine ⟨.inl ⟨rfl, vs, .inl (.inl h2)⟩, a, vs, vs[vs.length - 1], rfl, rfl, h2, List.getElem?_eq_getElem hv, ?_⟩
  exact hN _ (κ (r.2 r.1.dropLast)) (if_pos hlen).symm (hk _) F1 _ σ st e1.ff

/-! ### a comprehension whose items are new too -/
theorem OReps.append {o : Ow β} {F H : Hp} : ∀ {vs : List V} {xs : List β} {css : List (List Addr)} {v : V} {x : β} {c : List Addr}, OReps o K F H vs xs css → o.ow K F H v x c → OReps o K F H (vs ++ [v]) (xs ++ [x]) (css ++ [c])
  | _, _, _, _, _, _, .nil, h => .cons h .nil
  | _, _, _, _, _, _, .cons h0 t, h => .cons h0 (OReps.append t h)
theorem gv_lcD [Py γ] {o : Ow β} {wi : TI} {g : TG} {live : Bool} {is : List Nat} {U : γ → List Slot → List Slot} {vs : List Nat} {mi : R (List γ)} {f : γ → R β} (hi : Gi K E wi G live mi) (hg : Gg K g is U) (his : ∀ i ∈ is, i ∈ vs) (hG : ∀ i ∈ vs, G[i]? = some .any)
    (he : ∀ x, Gv K EN te (U x G) (rd K o) (R.noex (f x))) : Gv K E (tLc wi g tYes te vs) G (rd K (Ow.deep o)) (R.bind mi fun xs => comp xs f) := fun F0 H0 F H σ S hn hx Q q => by
  refine hi F0 H0 F H σ S (R.bind_no_of hn) (fun e z => hx e (by rw [z]; rfl)) _ fun xs z J F1 H1 e1 ⟨Gd, Y, w, hw, hy⟩ D hD => ?_
  subst z
  let c : γ → R Bool := fun _ => .ok true
  have hn1 : compIf xs c f ≠ .no := hn
  have hlen : xs.length ≤ 100000 := by
    by_cases q : xs.length ≤ 100000
    · exact q
    · exact absurd (if_neg q) hn1
  have ht' : compIf xs c f = lcR c f xs := R.chk_pos hlen
  rw [ht'] at hn1
  have q' : ∀ x, lcR c f xs = .ok x → ∀ v F' H', Ext F H F' H' → rd K (Ow.deep o) x H F' H' v → Q v H' := fun x z => q x (by show compIf xs c f = _; rw [ht', z])
  have S1 : Sta K F0 H0 F1 H1 (L2.wipe σ vs) G := Sta.wipe (S.mono e1) hG
  refine lc_it w (fun i H' => ∃ F' acc ys css, Ext F1 H1 F' H' ∧ F' D = none ∧ H' D = some (.lst acc) ∧ OReps o K F' H' acc ys css ∧ css.flatten.Nodup ∧ (∀ c ∈ css.flatten, H1 c = none ∧ F' c = none ∧ c ≠ D) ∧ ys.length ≤ i ∧ R.bind (lcR c f (xs.drop i)) (fun zs => .ok (ys ++ zs)) = lcR c f xs) ?_ ?_ ?_ ?_
  · refine ⟨F1, [], [], [], Ext.cell e1.sub hD, e1.sub.free hD, upd_same, .nil, List.nodup_nil, fun c hc => by simp at hc, Nat.le_refl _, ?_⟩
    rw [List.drop_zero]
    cases lcR c f xs <;> rfl
  · rintro i H' _ ⟨F', acc, ys, css, e, _⟩
    exact hw F' H' e.ff e.sub fun _ => e.hh
  · rintro i x H2 H3 hi ⟨F2, acc, ys, css, e2, fD, hDl, hr, hnd, hfr, hyl, ht2⟩ hyy
    obtain ⟨F3, y, e3, hxy, hry⟩ := hy i H2 x H3 F2 hi e2.ff e2.sub (fun _ => e2.hh) hyy
    have e13 := e2.trans e3
    have fD3 : F3 D = none := e3.out D (by rw [hDl]; exact fun q => (nomatch q)) fD
    have hD3 : H3 D = some (.lst acc) := e3.hh _ _ hDl
    have hdrop : xs.drop i = y :: xs.drop (i + 1) := by
      obtain ⟨h1, h2⟩ := List.getElem?_eq_some_iff.mp hxy
      rw [List.drop_eq_getElem_cons h1, h2]
    rw [hdrop] at ht2
    refine hg F0 H0 F3 H3 (L2.wipe σ vs) G x y (S1.mono e13) hry _ fun σ' S' hwp => ⟨(hwp vs his).trans (wipe_wipe fun i hi => hi), ?_⟩
    have hf0 : ∃ u, f y = .ok u := by
      cases h : f y with
      | no => rw [lcR] at ht2; simp only [c, R.noex_ok, R.bind_ok, if_true, h, R.noex_no, R.bind_no] at ht2; exact absurd ht2.symm hn1
      | ex e => rw [lcR] at ht2; simp only [c, R.noex_ok, R.bind_ok, if_true, h, R.noex_ex, R.bind_no] at ht2; exact absurd ht2.symm hn1
      | ok u => exact ⟨u, rfl⟩
    obtain ⟨u, hu⟩ := hf0
    show te σ' H3 _
    refine he y F0 H0 F3 H3 σ' S' (by rw [hu]; exact fun q => (nomatch q)) (fun e z => by rw [hu] at z; cases z) _ fun u' z v F5 H5 e5 ⟨c5, o1, o2, o3⟩ => ?_
    rw [hu] at z
    cases z
    have e35 := e3.trans e5
    have fD5 : F5 D = none := e5.out D (by rw [hD3]; exact fun q => (nomatch q)) fD3
    have hD5 := e5.hh _ _ hD3
    have hal : acc.length = ys.length := hr.length
    have hr5 : OReps o K F5 H5 acc ys css := hr.mono e35.ff fun c _ => e35.hh c
    have old3 : ∀ b ∈ css.flatten, H3 b ≠ none := fun b hb => (hr.mono e3.ff fun c _ => e3.hh c).cell b hb
    have n5 : ∀ b ∈ c5, b ≠ D := fun b hb z => by rw [z] at hb; rw [(o3 D hb).1] at hD3; cases hD3
    have flt : (css ++ [c5]).flatten = css.flatten ++ c5 := by simp
    refine ⟨acc, hD5, Nat.lt_of_lt_of_le (show acc.length < 100000 by omega) (by decide), F5, acc ++ [v], ys ++ [u], css ++ [c5], ?_, fD5, upd_same, ?_, ?_, ?_, by simp; omega, ?_⟩
    · have e15 := e13.trans e5
      refine ⟨e15.ff, fun b o z => ?_, fun b o z => ?_, e15.out⟩
      · rw [upd_ne (ne_of_none z hD)]; exact e15.hh _ _ z
      · have hb : b ≠ D := fun q => by rw [q, fD5] at z; cases z
        rw [upd_ne hb]; exact e15.sub _ _ z
    · refine (hr5.append o1).mono (Same.refl F5) fun b hb w z => ?_
      rw [flt, List.mem_append] at hb
      have : b ≠ D := by
        rcases hb with hb | hb
        · exact (hfr b hb).2.2
        · exact n5 b hb
      rw [upd_ne this]; exact z
    · rw [flt, List.nodup_append]
      exact ⟨hnd, o2, fun a ha b hb z => old3 a ha (by rw [z]; exact (o3 b hb).1)⟩
    · intro b hb
      rw [flt, List.mem_append] at hb
      rcases hb with hb | hb
      · have z2 := hfr b hb
        exact ⟨z2.1, e35.out b (hr.cell b hb) z2.2.1, z2.2.2⟩
      · exact ⟨e13.hh.free (o3 b hb).1, (o3 b hb).2, n5 b hb⟩
    · rw [← ht2, lcR, hu]
      simp only [c, R.noex_ok, R.bind_ok, if_true]
      cases lcR (fun _ => R.ok true) f (xs.drop (i + 1)) with
      | no => rfl
      | ex e => rfl
      | ok zs => simp
  · rintro H2 ⟨F2, acc, ys, css, e2, fD, hDl, hr, hnd, hfr, hyl, ht2⟩
    rw [List.drop_length] at ht2
    have e := e1.trans e2
    refine q' (ys ++ []) (by rw [← ht2]; rfl) _ F2 H2 e ⟨D :: css.flatten, ⟨D, acc, css, rfl, hDl, by rw [List.append_nil]; exact hr, rfl⟩, ?_, fun b hb => ?_⟩
    · rw [List.nodup_cons]
      exact ⟨fun z => (hfr D z).2.2 rfl, hnd⟩
    · rcases List.mem_cons.mp hb with z | z
      · rw [z]; exact ⟨e1.hh.free hD, fD⟩
      · exact ⟨e1.hh.free (hfr b z).1, (hfr b z).2.1⟩
theorem Gv.dfr {i : Ow α} {j : Py α} [Fz i j] {m : R α} (h : Gv K E te G (rd K i) m) : Gv K E te G (rv K) m := h.imp fun x F H F' H' v e ⟨cs, h1, h2, h3⟩ => by
  obtain ⟨a1, a2, a3, a4⟩ := frz_facts e.sub fun c hc => (h3 c hc).2
  refine ⟨frz F' H' cs, ⟨e.ff.trans a1, e.hh, a2, fun b z1 z2 => ?_⟩, Fz.fz h1 a1 a3⟩
  cases q : frz F' H' cs b with
  | none => rfl
  | some u =>
    have hb := a4 b (e.out b z1 z2) (by rw [q]; exact fun z => nomatch z)
    exact absurd (h3 b hb).1 z1
end
end Wk
end
section
set_option Elab.async false
set_option linter.all false
set_option maxRecDepth 100000
namespace Wk
open PySem PySem.Spec PyProof.Rows L2
/-! ### objects that are held: their fields, in the order of the stores -/
structure Fs (A : Type) where
  names : List Str
  fs : Fg → Hp → Hp → List (Str × V) → A → List Addr → Prop
  mono : ∀ {K : Fg} {F F' H H' : Hp} {l : List (Str × V)} {x : A} {cs : List Addr}, Same F F' → (∀ c ∈ cs, ∀ u, H c = some u → H' c = some u) → fs K F H l x cs → fs K F' H' l x cs
  cell : ∀ {K : Fg} {F H : Hp} {l : List (Str × V)} {x : A} {cs : List Addr}, fs K F H l x cs → ∀ c ∈ cs, H c ≠ none
  hn : ∀ {K : Fg} {F H : Hp} {l : List (Str × V)} {x : A} {cs : List Addr}, fs K F H l x cs → l.map (·.1) = names
def Fs.nil : Fs Unit where
  names := []
  fs := fun _ _ _ l _ cs => l = [] ∧ cs = []
  mono := fun _ _ h => h
  cell := fun h c hc => by rw [h.2] at hc; simp at hc
  hn := fun h => by rw [h.1]; rfl
def Fs.val {A α : Type} (f : Str) (i : Py α) (r : Fs A) : Fs (A × α) where
  names := r.names ++ [f]
  fs := fun K F H l x cs => ∃ l0 v, l = l0 ++ [(f, v)] ∧ r.fs K F H l0 x.1 cs ∧ i.rep K F v x.2
  mono := fun s k ⟨l0, v, h1, h2, h3⟩ => ⟨l0, v, h1, r.mono s k h2, i.mono s h3⟩
  cell := fun ⟨l0, v, h1, h2, h3⟩ => r.cell h2
  hn := fun ⟨l0, v, h1, h2, h3⟩ => by rw [h1, List.map_append, r.hn h2]; rfl
def Fs.own {A α : Type} (f : Str) (i : Ow α) (r : Fs A) : Fs (A × α) where
  names := r.names ++ [f]
  fs := fun K F H l x cs => ∃ l0 v c0 c1, l = l0 ++ [(f, v)] ∧ r.fs K F H l0 x.1 c0 ∧ i.ow K F H v x.2 c1 ∧ cs = c0 ++ c1
  mono := fun s k ⟨l0, v, c0, c1, h1, h2, h3, h4⟩ => by
    subst h4
    exact ⟨l0, v, c0, c1, h1, r.mono s (fun c hc => k c (List.mem_append_left _ hc)) h2, i.mono s (fun c hc => k c (List.mem_append_right _ hc)) h3, rfl⟩
  cell := fun ⟨l0, v, c0, c1, h1, h2, h3, h4⟩ c hc => by
    rw [h4, List.mem_append] at hc
    rcases hc with hc | hc
    · exact r.cell h2 c hc
    · exact i.cell h3 c hc
  hn := fun ⟨l0, v, c0, c1, h1, h2, h3, h4⟩ => by rw [h1, List.map_append, r.hn h2]; rfl
def Ow.ob {A : Type} (C : Str) (r : Fs A) : Ow A where
  ow := fun K F H v x cs => ∃ a dx l c1, v = .ref a ∧ H a = some (.ins (He.ga K C) dx l) ∧ r.fs K F H l x c1 ∧ cs = a :: c1
  mono := fun s k ⟨a, dx, l, c1, h1, h2, h3, h4⟩ => by
    subst h4
    exact ⟨a, dx, l, c1, h1, k a List.mem_cons_self _ h2, r.mono s (fun c hc => k c (List.mem_cons_of_mem _ hc)) h3, rfl⟩
  cell := fun ⟨a, dx, l, c1, h1, h2, h3, h4⟩ c hc => by
    rw [h4] at hc
    rcases List.mem_cons.mp hc with e | hc
    · rw [e, h2]; exact fun q => nomatch q
    · exact r.cell h3 c hc
def Ow.pin {A : Type} (v0 : V) (i : Ow A) : Ow A where
  ow := fun K F H v x cs => v = v0 ∧ i.ow K F H v x cs
  mono := fun s k h => ⟨h.1, i.mono s k h.2⟩
  cell := fun h => i.cell h.2
theorem lookup_app {f : Str} {v : V} : ∀ {l : List (Str × V)}, (l.map (·.1)).contains f = false → (l ++ [(f, v)]).lookup f = some v
  | [], _ => by simp
  | (g, u) :: r, h => by
    simp only [List.map_cons, List.contains_cons, Bool.or_eq_false_iff] at h
    rw [List.cons_append, List.lookup_cons, h.1]
    exact lookup_app h.2
theorem lookup_app0 {f g : Str} {u v : V} : ∀ {l : List (Str × V)}, l.lookup f = some v → (l ++ [(g, u)]).lookup f = some v
  | [], h => by simp at h
  | (g0, u0) :: r, h => by
    rw [List.cons_append, List.lookup_cons]
    rw [List.lookup_cons] at h
    cases q : f == g0 with
    | true => rw [q] at h; exact h
    | false => rw [q] at h; exact lookup_app0 h
/-- a frozen field -/
structure FdV {A α : Type} (r : Fs A) (f : Str) (i : Py α) (get : A → α) : Prop where
  at_ : ∀ {K : Fg} {F H : Hp} {l : List (Str × V)} {x : A} {cs : List Addr}, r.fs K F H l x cs → ∃ v, l.lookup f = some v ∧ i.rep K F v (get x)
theorem FdV.here {A α : Type} {r : Fs A} {f : Str} {i : Py α} (h : r.names.contains f = false) : FdV (Fs.val f i r) f i Prod.snd := ⟨fun ⟨l0, v, h1, h2, h3⟩ => ⟨v, by rw [h1]; exact lookup_app (by rw [r.hn h2]; exact h), h3⟩⟩
theorem FdV.val {A α β : Type} {r : Fs A} {f g : Str} {i : Py α} {j : Py β} {get : A → α} (h : FdV r f i get) : FdV (Fs.val g j r) f i (fun x => get x.1) := ⟨fun ⟨l0, v, h1, h2, h3⟩ => by
  obtain ⟨u, q1, q2⟩ := h.at_ h2
  exact ⟨u, by rw [h1]; exact lookup_app0 q1, q2⟩⟩
theorem FdV.own {A α β : Type} {r : Fs A} {f g : Str} {i : Py α} {j : Ow β} {get : A → α} (h : FdV r f i get) : FdV (Fs.own g j r) f i (fun x => get x.1) := ⟨fun ⟨l0, v, c0, c1, h1, h2, h3, h4⟩ => by
  obtain ⟨u, q1, q2⟩ := h.at_ h2
  exact ⟨u, by rw [h1]; exact lookup_app0 q1, q2⟩⟩
/-- an own field -/
structure FdO {A α : Type} (r : Fs A) (f : Str) (i : Ow α) (get : A → α) (put : A → α → A) : Prop where
  at_ : ∀ {K : Fg} {F H : Hp} {l : List (Str × V)} {x : A} {cs : List Addr}, r.fs K F H l x cs → ∃ v c cr, l.lookup f = some v ∧ i.ow K F H v (get x) c ∧ cs.Perm (c ++ cr) ∧
    ∀ F2 H2, Same F F2 → (∀ b ∈ cr, ∀ w, H b = some w → H2 b = some w) → ∀ y' c', i.ow K F2 H2 v y' c' → ∃ cs', r.fs K F2 H2 l (put x y') cs' ∧ cs'.Perm (c' ++ cr)
theorem FdO.here {A α : Type} {r : Fs A} {f : Str} {i : Ow α} (h : r.names.contains f = false) : FdO (Fs.own f i r) f i Prod.snd (fun x y => (x.1, y)) := ⟨fun ⟨l0, v, c0, c1, h1, h2, h3, h4⟩ =>
  ⟨v, c1, c0, by rw [h1]; exact lookup_app (by rw [r.hn h2]; exact h), h3, by rw [h4]; exact List.perm_append_comm, fun F2 H2 s k y' c' ho => ⟨c0 ++ c', ⟨l0, v, c0, c', h1, r.mono s k h2, ho, rfl⟩, List.perm_append_comm⟩⟩⟩
theorem FdO.val {A α β : Type} {r : Fs A} {f g : Str} {i : Ow α} {j : Py β} {get : A → α} {put : A → α → A} (h : FdO r f i get put) : FdO (Fs.val g j r) f i (fun x => get x.1) (fun x y => (put x.1 y, x.2)) := ⟨fun ⟨l0, v, h1, h2, h3⟩ => by
  obtain ⟨u, c, cr, q1, q2, q3, q4⟩ := h.at_ h2
  refine ⟨u, c, cr, by rw [h1]; exact lookup_app0 q1, q2, q3, fun F2 H2 s k y' c' ho => ?_⟩
  obtain ⟨cs', z1, z2⟩ := q4 F2 H2 s k y' c' ho
  exact ⟨cs', ⟨l0, v, h1, z1, j.mono s h3⟩, z2⟩⟩
theorem FdO.own {A α β : Type} {r : Fs A} {f g : Str} {i : Ow α} {j : Ow β} {get : A → α} {put : A → α → A} (h : FdO r f i get put) : FdO (Fs.own g j r) f i (fun x => get x.1) (fun x y => (put x.1 y, x.2)) := ⟨fun ⟨l0, v, c0, c1, h1, h2, h3, h4⟩ => by
  obtain ⟨u, c, cr, q1, q2, q3, q4⟩ := h.at_ h2
  refine ⟨u, c, cr ++ c1, by rw [h1]; exact lookup_app0 q1, q2, by rw [h4, ← List.append_assoc]; exact q3.append_right c1, fun F2 H2 s k y' c' ho => ?_⟩
  obtain ⟨cs', z1, z2⟩ := q4 F2 H2 s (fun b hb => k b (List.mem_append_left _ hb)) y' c' ho
  exact ⟨cs' ++ c1, ⟨l0, v, cs', c1, h1, z1, j.mono s (fun b hb => k b (List.mem_append_right _ hb)) h3, rfl⟩, by rw [← List.append_assoc]; exact z2.append_right c1⟩⟩
section
variable {K : Fg} {F0 H0 F H F' H' : Hp} {σ : Sg} {G : List Slot} {n : Nat} {α β γ A : Type} {i : Ow α} {ib : Ow β} {u : V} {y : β} {put : β → α}
theorem PathOk.unpin {v0 : V} {y : β} {put : β → α} (p : PathOk K F0 H0 F H σ G n i (Ow.pin v0 ib) u y put) : u = v0 ∧ PathOk K F0 H0 F H σ G n i ib u y put := by
  obtain ⟨c1, ⟨h0, h1⟩, h2, h3, h4⟩ := p
  exact ⟨h0, c1, h1, h2, h3, fun F2 H2 y' c' a k sb fz ho nd fr => h4 F2 H2 y' c' a k sb fz ⟨h0, ho⟩ nd fr⟩
theorem PathOk.obj {C : Str} {r : Fs A} {y : A} {put : A → α} (p : PathOk K F0 H0 F H σ G n i (Ow.ob C r) u y put) : ∃ a dx l cs, u = .ref a ∧ H a = some (.ins (He.ga K C) dx l) ∧ r.fs K F H l y cs := by
  obtain ⟨c1, ⟨a, dx, l, c, h1, h2, h3, h4⟩, _⟩ := p
  exact ⟨a, dx, l, c, h1, h2, h3⟩
/-- an object's own field -/
theorem PathOk.fld {C : Str} {r : Fs A} {f : Str} {o : Ow γ} {get : A → γ} {pf : A → γ → A} {y : A} {put : A → α} (d : FdO r f o get pf) (p : PathOk K F0 H0 F H σ G n i (Ow.ob C r) u y put) :
    ∃ a dx l w, u = .ref a ∧ H a = some (.ins (He.ga K C) dx l) ∧ l.lookup f = some w ∧ PathOk K F0 H0 F H σ G n i o w (get y) (fun z => put (pf y z)) := by
  obtain ⟨c1, ⟨a, dx, l, c0, h1, h2, h3, h4⟩, nd, fr, ch⟩ := p
  obtain ⟨w, c, cr, q1, q2, q3, q4⟩ := d.at_ h3
  subst h4
  rw [List.nodup_cons] at nd
  have ndf := q3.nodup_iff.mp nd.2
  rw [List.nodup_append] at ndf
  have inc : ∀ b ∈ c, b ∈ a :: c0 := fun b hb => List.mem_cons_of_mem _ (q3.mem_iff.mpr (List.mem_append_left _ hb))
  have ac : a ∉ c := fun z => nd.1 (q3.mem_iff.mpr (List.mem_append_left _ z))
  refine ⟨a, dx, l, w, h1, h2, q1, c, q2, ndf.1, fun b hb => fr b (inc b hb), fun F2 H2 y' c' s k sb fz ho nd' fr' => ?_⟩
  have kr : ∀ b ∈ cr, ∀ w, H b = some w → H2 b = some w := fun b hb w z => k b w (fun z2 => ndf.2.2 b z2 b hb rfl) z
  obtain ⟨cs', r1, r2⟩ := q4 F2 H2 s kr y' c' ho
  have aliv : H a ≠ none := by rw [h2]; exact fun z => nomatch z
  have old : ∀ b ∈ cr, H b ≠ none := fun b hb => r.cell h3 b (q3.mem_iff.mpr (List.mem_append_right _ hb))
  have cc : ∀ b ∈ c', b ∉ cr ∧ b ≠ a := fun b hb => by
    rcases (fr' b hb).2 with z | z
    · exact ⟨fun z2 => ndf.2.2 b z b z2 rfl, fun z2 => ac (by rw [← z2]; exact z)⟩
    · exact ⟨fun z2 => old b z2 z, fun z2 => aliv (by rw [← z2]; exact z)⟩
  have acr : a ∉ cr := fun z => nd.1 (q3.mem_iff.mpr (List.mem_append_right _ z))
  have F2n : ∀ b, b ∈ cr ∨ b = a → F2 b = none := fun b hb => by
    have hb1 : b ∈ a :: c0 := by
      rcases hb with hb | hb
      · exact List.mem_cons_of_mem _ (q3.mem_iff.mpr (List.mem_append_right _ hb))
      · rw [hb]; exact List.mem_cons_self
    have hb2 : b ∉ c ∧ H b ≠ none := by
      rcases hb with hb | hb
      · exact ⟨fun z2 => ndf.2.2 b z2 b hb rfl, old b hb⟩
      · rw [hb]; exact ⟨ac, aliv⟩
    cases q : F2 b with
    | none => rfl
    | some z0 =>
      rcases fz b (fr b hb1).1 (by rw [q]; exact fun z => nomatch z) with z | z
      · exact absurd z hb2.1
      · exact absurd z hb2.2
  refine ch F2 H2 (pf y y') (a :: cs') s (fun b w hb z => k b w (fun z2 => hb (inc b z2)) z) sb (fun b z1 z2 => ?_) ⟨a, dx, l, cs', h1, k a _ ac h2, r1, rfl⟩ ?_ fun b hb => ?_
  · rcases fz b z1 z2 with z | z
    · exact .inl (inc b z)
    · exact .inr z
  · rw [List.nodup_cons]
    refine ⟨fun z => ?_, ?_⟩
    · rcases List.mem_append.mp (r2.mem_iff.mp z) with z | z
      · exact (cc a z).2 rfl
      · exact acr z
    · rw [r2.nodup_iff, List.nodup_append]
      exact ⟨nd', ndf.2.1, fun b hb b2 hb2 z => (cc b hb).1 (by rw [z]; exact hb2)⟩
  · rcases List.mem_cons.mp hb with z | z
    · rw [z]; exact ⟨F2n a (.inr rfl), .inl List.mem_cons_self⟩
    · rcases List.mem_append.mp (r2.mem_iff.mp z) with z | z
      · refine ⟨(fr' b z).1, ?_⟩
        rcases (fr' b z).2 with z | z
        · exact .inl (inc b z)
        · exact .inr z
      · exact ⟨F2n b (.inl z), .inl (List.mem_cons_of_mem _ (q3.mem_iff.mpr (List.mem_append_right _ z)))⟩
end
section
variable {K : Fg} {E : Sg → XK} {te ti ta tb tc tv : TE} {tA : TA} {ts : TS} {G : List Slot} {n : Nat} {α β γ ρ A P : Type} {rr : Rr ρ} {k : Ks ρ} {t : R ρ} {i : Ow α} {ib : Ow β}
theorem gp_pin {v0 : V} {m : R (β × (β → α))} (h : Gp K E te G n i (Ow.pin v0 ib) m) : Gp K E te G n i ib m := fun F0 H0 F H σ S hn hx Q q => h F0 H0 F H σ S hn hx Q fun r z u F' H' e p => q r z u F' H' e p.unpin.2
theorem gp_fld {C f : Str} {r : Fs A} {o : Ow γ} {get : A → γ} {pf : A → γ → A} {m : R (A × (A → α))} (d : FdO r f o get pf) (cl : Cls K (He.ga K C)) (na : NoAttr K (He.ga K C) f) (h : Gp K E te G n i (Ow.ob C r) m) :
    Gp K E (tFld K te f) G n i o (R.bind m fun r => .ok (get r.1, fun z => r.2 (pf r.1 z))) := fun F0 H0 F H σ S hn hx Q q =>
  h.step S hn hx fun r z hn1 hx1 u F1 H1 e1 p1 => by
    subst z
    obtain ⟨a, dx, l, w, h1, h2, h3, h4⟩ := p1.fld d
    exact ⟨a, _, dx, l, w, h1, h2, cl, na, h3, q _ rfl w F1 H1 e1 h4⟩
/-- a frozen field is read -/
theorem gv_pfld {C f : Str} {r : Fs A} [j : Py γ] {get : A → γ} {m : R (A × (A → α))} (d : FdV r f j get) (cl : Cls K (He.ga K C)) (na : NoAttr K (He.ga K C) f) (h : Gp K E te G n i (Ow.ob C r) m) : Gv K E (tFld K te f) G (rv K) (R.bind m fun r => .ok (get r.1)) := fun F0 H0 F H σ S hn hx Q q =>
  h.step S hn hx fun r z hn1 hx1 u F1 H1 e1 p1 => by
    subst z
    obtain ⟨a, dx, l, cs, h1, h2, h3⟩ := p1.obj
    obtain ⟨v, q1, q2⟩ := d.at_ h3
    exact ⟨a, _, dx, l, v, h1, h2, cl, na, q1, q _ rfl v F1 H1 e1 q2⟩
/-- an own list of a part is read -/
theorem gv_prd {j : Py γ} {m : R (List γ × (List γ → α))} (h : Gp K E te G n i (Ow.list j) m) : Gv K E te G (rl K) (R.bind m fun r => .ok r.1) := fun F0 H0 F H σ S hn hx Q q =>
  h.step S hn hx fun r z hn1 hx1 u F1 H1 e1 p1 => by
    subst z
    obtain ⟨a, vs, h1, h2, h3, _⟩ := p1.list (S.mono e1).sub
    exact q _ rfl u F1 H1 e1 ⟨a, vs, h1, h2, h3⟩
theorem putF_new {f : Str} {y : V} : ∀ {l : List (Str × V)}, (l.map (·.1)).contains f = false → putF f y l = l ++ [(f, y)]
  | [], _ => rfl
  | (g, u) :: r, h => by
    simp only [List.map_cons, List.contains_cons, Bool.or_eq_false_iff] at h
    rw [putF, List.cons_append]
    rw [if_neg (by intro q; rw [q] at h; simp at h)]
    rw [putF_new h.2]
/-- self.f = e, f new -/
theorem gs_fldV [j : Py γ] {v0 : V} {C f : Str} {r : Fs A} {x : A} {m' m : R γ} {κ : γ → R ρ} (hG : G[n]? = some (.own (Ow.pin v0 (Ow.ob C r)) x)) (h' : Gv K E tv G (rv K) m') (cl : Cls K (He.ga K C)) (na : NoAttr K (He.ga K C) f) (hk : ∀ y, k.N (G.set n (.own (Ow.pin v0 (Ow.ob C (Fs.val f j r))) (x, y))) (κ y))
    (hf : r.names.contains f = false := by decide) (hl : r.names.length < 1000 := by decide) (em : m' = m := by first | with_reducible rfl | simp (implicitDefEqProofs := false) only [R.bind_assoc, R.bind_ok]) (hp : k.Pl := by exact fun _ _ => rfl) :
    GS K E (sFld K (tVar n) tv f) G rr k (R.bind m κ) := fun F0 H0 F H σ D s hn hX hR hN hB hC => by
  have h : Gv K E tv G (rv K) m := em ▸ h'
  refine h.run hp s hn hX fun y z v F1 H1 e1 r1 => ?_
  subst z
  have s1 := s.mono e1
  obtain ⟨v', c0, h1, ⟨h2, a, dx, l, cs, h3, h4, h5, h6⟩, h7, h8, h9⟩ := s1.own hG
  subst h3 h6
  have ha := h8 a List.mem_cons_self
  have hnm := r.hn h5
  refine ⟨_, h1, a, _, dx, l, rfl, h4, cl, na, by rw [← List.length_map (f := (·.1)), hnm]; exact hl, ?_⟩
  rw [putF_new (by rw [hnm]; exact hf)]
  refine hN _ (κ y) rfl (hk y) F1 _ σ ?_ e1.ff
  have na' : ∀ c ∈ cs, c ≠ a := fun c hc z => (List.nodup_cons.mp h7).1 (by rw [← z]; exact hc)
  have := h9 F1 (upd H1 a (.ins (He.ga K C) dx (l ++ [(f, v)]))) (.own (Ow.pin v0 (Ow.ob C (Fs.val f j r))) (x, y)) (.ref a) (a :: cs) (Same.refl F1) (fun b u hb z => by rw [upd_ne (fun e => hb (by rw [e]; exact List.mem_cons_self))]; exact z) (fun b u z => by rw [upd_ne (ne_of_none z ha.1)]; exact s1.sub b u z)
    (fun b z1 z2 => absurd z1 z2) ⟨.ref a, rfl, h2, a, dx, _, cs, rfl, upd_same, ⟨l, v, rfl, r.mono (Same.refl F1) (fun c hc u z => by rw [upd_ne (na' c hc)]; exact z) h5, r1⟩, rfl⟩ h7 fun c hc => ⟨(h8 c hc).1, .inl hc⟩
  rw [set_same h1] at this
  exact this
theorem gs_fldO {o : Ow γ} {v0 : V} {C f : Str} {r : Fs A} {x : A} {m' m : R γ} {κ : γ → R ρ} (hG : G[n]? = some (.own (Ow.pin v0 (Ow.ob C r)) x)) (h' : Gv K E tv G (rd K o) m') (cl : Cls K (He.ga K C)) (na : NoAttr K (He.ga K C) f) (hk : ∀ y, k.N (G.set n (.own (Ow.pin v0 (Ow.ob C (Fs.own f o r))) (x, y))) (κ y))
    (hf : r.names.contains f = false := by decide) (hl : r.names.length < 1000 := by decide) (em : m' = m := by first | with_reducible rfl | simp (implicitDefEqProofs := false) only [R.bind_assoc, R.bind_ok]) (hp : k.Pl := by exact fun _ _ => rfl) :
    GS K E (sFld K (tVar n) tv f) G rr k (R.bind m κ) := fun F0 H0 F H σ D s hn hX hR hN hB hC => by
  have h : Gv K E tv G (rd K o) m := em ▸ h'
  refine h.run hp s hn hX fun y z v F1 H1 e1 ⟨c1, o1, o2, o3⟩ => ?_
  subst z
  have s1 := s.mono e1
  obtain ⟨v1, c9, g1, ⟨g2, a1, dx1, l1, cs1, g3, g4, g5, g6⟩, g7, g8, g9⟩ := s.own hG
  subst g3 g6
  have hcs1 : ∀ c ∈ a1 :: cs1, H c ≠ none := (Ow.pin v0 (Ow.ob C r)).cell (K := K) (F := F) (H := H) (v := .ref a1) (x := x) ⟨g2, a1, dx1, l1, cs1, rfl, g4, g5, rfl⟩
  have h4 := e1.hh _ _ g4
  have hnm := r.hn g5
  refine ⟨_, g1, a1, _, dx1, l1, rfl, h4, cl, na, by rw [← List.length_map (f := (·.1)), hnm]; exact hl, ?_⟩
  rw [putF_new (by rw [hnm]; exact hf)]
  refine hN _ (κ y) rfl (hk y) F1 _ σ ?_ e1.ff
  have ha := g8 a1 List.mem_cons_self
  have haF : F1 a1 = none := e1.out a1 (hcs1 a1 List.mem_cons_self) ha.1
  have na' : ∀ c ∈ cs1, c ≠ a1 := fun c hc z => (List.nodup_cons.mp g7).1 (by rw [← z]; exact hc)
  have nc1 : ∀ c ∈ c1, c ∉ a1 :: cs1 := fun c hc z => hcs1 c z (o3 c hc).1
  have := g9 F1 (upd H1 a1 (.ins (He.ga K C) dx1 (l1 ++ [(f, v)]))) (.own (Ow.pin v0 (Ow.ob C (Fs.own f o r))) (x, y)) (.ref a1) (a1 :: (cs1 ++ c1)) e1.ff (fun b u hb z => by rw [upd_ne (fun e => hb (by rw [e]; exact List.mem_cons_self))]; exact e1.hh _ _ z) (fun b u z => by rw [upd_ne (ne_of_none z haF)]; exact s1.sub b u z)
    (fun b z1 z2 => by
      cases q : H b with
      | none => exact .inr rfl
      | some w => exact absurd (e1.out b (by rw [q]; exact fun z => nomatch z) z1) z2)
    ⟨.ref a1, rfl, g2, a1, dx1, _, cs1 ++ c1, rfl, upd_same, ⟨l1, v, cs1, c1, rfl, r.mono e1.ff (fun c hc u z => by rw [upd_ne (na' c hc)]; exact e1.hh _ _ z) g5, o.mono (Same.refl F1) (fun c hc u z => by rw [upd_ne (fun e => nc1 c hc (by rw [e]; exact List.mem_cons_self))]; exact z) o1, rfl⟩, rfl⟩ ?_ fun c hc => ?_
  · rw [set_same g1] at this
    exact this
  · rw [List.nodup_cons] at g7 ⊢
    rw [List.mem_append, List.nodup_append]
    exact ⟨fun z => z.elim g7.1 fun z => nc1 a1 z List.mem_cons_self, g7.2, o2, fun b hb b2 hb2 z => nc1 b2 hb2 (by rw [← z]; exact List.mem_cons_of_mem _ hb)⟩
  · rw [← List.cons_append, List.mem_append] at hc
    rcases hc with hc | hc
    · exact ⟨e1.out c (hcs1 c hc) (g8 c hc).1, .inl hc⟩
    · exact ⟨(o3 c hc).2, .inr (o3 c hc).1⟩
end

/-! ### the promise of an __init__ -/
def PrmI (K : Fg) {A P : Type} [PyA A] (C : Str) (r : Fs P) (m : A → R P) : Sp := fun vs H Q E => ∃ (x : Addr) (ws : List V) (Hc F : Hp) (dx : Addr) (a : A), vs = .ref x :: ws ∧ Hc x = none ∧ Same Hc H ∧ H x = some (.ins (He.ga K C) dx []) ∧ Same F Hc ∧ PyA.reps K F ws a ∧ m a ≠ .no ∧
  (∀ X, m a = .ok X → ∀ F' H', Ext F Hc F' H' → rd K (Ow.ob C r) X Hc F' H' (.ref x) → Q .non H') ∧ (∀ e, m a = .ex e → ∀ cls d F' H', Ext F Hc F' H' → ExOk K e cls d H' → E cls d H')
section
variable {P : Program} {w : World} {K : Fg} {mg : Str → Option Value} {base : Heap} {E : Sg → XK} {tA : TA} {G : List Slot} {A B α : Type}
theorem gv_mkx [PyA A] {C : Str} {r : Fs B} {m : A → R B} {ma : R A} (ha : Ga K E tA G ma) : Gv K E (tMkS (He.ga K C) (PrmI K C r m) E tA) G (rd K (Ow.ob C r)) (R.bind ma m) := fun F0 H0 F H σ S hn hx Q q =>
  ha.step S hn hx fun a z hn1 hx1 vs F1 H1 e1 r1 => by
    subst z
    intro x dx hx0 hd hne
    refine ⟨x, vs, H1, F1, dx, a, rfl, hx0, fun b u z => ?_, upd_same, e1.sub, r1, hn1, fun X z F' H' e rr => ⟨rfl, q X z _ F' H' (e1.trans e) (Rst.back e1.hh rr)⟩, fun e z cls d F' H' e2 o => hx1 F1 H1 e1 e z cls d F' H' e2 o⟩
    rw [upd_ne (ne_of_none z hx0), upd_ne (ne_of_none z hd)]; exact z
/-- an object whose fields are told at once -/
class FzC {A α : Type} (i : Ow A) (j : Py α) (f : A → α) : Prop where
  fz : ∀ {K : Fg} {F F2 H : Hp} {v : V} {x : A} {cs : List Addr}, i.ow K F H v x cs → Same F F2 → (∀ c ∈ cs, ∀ u, H c = some u → F2 c = some u) → j.rep K F2 v (f x)
theorem Gv.fzc {te : TE} {i : Ow A} [j : Py α] {f : A → α} (c : FzC i j f) {m : R A} (h : Gv K E te G (rd K i) m) : Gv K E te G (rv K) (R.bind m fun X => .ok (f X)) := fun F0 H0 F H σ S hn hx Q q =>
  h.step S hn hx fun x z hn1 hx1 v F' H' e ⟨cs, h1, h2, h3⟩ => by
    subst z
    obtain ⟨a1, a2, a3, a4⟩ := frz_facts e.sub fun c hc => (h3 c hc).2
    refine q (f x) rfl v (frz F' H' cs) H' ⟨e.ff.trans a1, e.hh, a2, fun b z1 z2 => ?_⟩ (FzC.fz h1 a1 a3)
    cases q : frz F' H' cs b with
    | none => rfl
    | some u =>
      have hb := a4 b (e.out b z1 z2) (by rw [q]; exact fun z => nomatch z)
      exact absurd (h3 b hb).1 z1
theorem fnr_init {x qual : Str} {params : Arguments} {body : List Stmt} {scope : Scope} {f : Addr} {fd : FuncData} {N ps : List Str} {k : Nat} [PyA A] {C : Str} {r : Fs B} {m : A → R B}
    (F : FunD K x qual params body scope [] [] f fd) (S : FnScope N ps scope) (hn : ps.length ≤ N.length) (hl : PyA.len A + 1 = ps.length)
    (hb : ∀ (kV doc pm : Value) (an : Option Addr) (cdv ct : Value) (us : List Value), us.length = ps.length → bindArgs (PySem.W.fnOf x qual params body scope .none kV doc pm an cdv ct) ⟨us, []⟩ = pure (ps.zip us))
    (hbody : ∀ (cdv : Value) (A' : Around) (outer : List Env) (s : Shared) (H : Hp) (E : XK), Room k (A'.deeper (envOfC qual scope s.heap.objs.size f cdv)) →
      ∃ t, PSs (cxOf (L2.CX P w) P w K mg base N qual scope f cdv A' outer s H E) body t ∧ ∀ (x : Addr) (a : A), GS K (WE (WF E)) t (.own (Ow.pin (.ref x) (Ow.ob C Fs.nil)) () :: (PyA.slots a ++ List.replicate (N.length - ps.length) .any)) (rF (α := B)) { N := fun G' t' => ∃ X, G'[0]? = some (.own (Ow.pin (.ref x) (Ow.ob C r)) X) ∧ t' = .ok X } (m a)) :
    FnR P w K mg base (L2.CX P w) (k + 1) f (PrmI K C r m) := by
  have G := FunD.ok (P := P) (w := w) (K := K) (mg := mg) (base := base) (CX := L2.CX P w) (k := k) (sp := PrmI K C r m) F S (fun vs H Q E ⟨x, ws, Hc, F, dx, a, h1, _, _, _, _, h2, _⟩ => by rw [h1, List.length_cons, PyA.hlen h2, hl]) fun cdv A' outer s H vs Q E hr h => by
    obtain ⟨t, ht, hg⟩ := hbody cdv A' outer s H E hr
    refine ⟨t, ht, ?_⟩
    obtain ⟨x, ws, Hc, F, dx, a, h1, h2, h3, h4, h5, h6, h7, h8, h9⟩ := h
    subst h1
    have o1 := PyA.hok (H := H) h6
    have hlen := PyA.hlen h6
    have any : ∀ n : Nat, SOk K F H (List.replicate n .any) (List.replicate n none) [] := fun n => by
      induction n with
      | zero => exact .nil
      | succ n ih => exact .cons (c := []) (cs := []) rfl ih
    have app : ∀ {G1 : List Slot} {σ1 : Sg} {cs : List Addr} (n : Nat), SOk K F H G1 σ1 cs → SOk K F H (G1 ++ List.replicate n .any) (σ1 ++ List.replicate n none) cs := fun {G1 σ1 cs} n q => by
      induction q with
      | nil => exact any n
      | @cons s0 o c G1 σ1 cs h t ih => exact .cons h ih
    have q1 := app (N.length - ps.length) o1
    have e : L2.start N (.ref x :: ws) = some (.ref x) :: (ws.map some ++ List.replicate (N.length - ps.length) none) := by
      unfold L2.start
      have : (V.ref x :: ws).length = ps.length := by rw [List.length_cons, hlen, hl]
      rw [this]; rfl
    rw [e]
    have fx : F x = none := h5.free h2
    refine hg x a F Hc F H _ _ ⟨⟨Same.refl F, h3, h5.trans h3, fun _ _ z => z⟩, [x] ++ [], .cons (c := [x]) ⟨.ref x, rfl, rfl, x, dx, [], [], rfl, h4, ⟨rfl, rfl⟩, rfl⟩ q1, by simp, fun c hc => by
        have : c = x := by simpa using hc
        rw [this]; exact ⟨fx, h2⟩⟩ h7 (fun e G' t' z1 z2 cls d F' H' σ' s' o => h9 e (by rw [← z1, z2]) cls d F' H' s'.ext o) (fun r z v F' H' e q => False.elim q)
      (fun G' t' z1 ⟨X, z2, z3⟩ F' H' σ' s' _ => ?_) (fun _ _ _ q => False.elim q) fun _ _ _ q => False.elim q
    obtain ⟨v, cs, g1, ⟨g2, g3⟩, g4, g5, _⟩ := s'.own z2
    subst g2
    exact h8 X (by rw [← z1, z3]) F' H' s'.ext ⟨cs, g3, g4, fun c hc => ⟨(g5 c hc).2, (g5 c hc).1⟩⟩
  have R := FnOk.raw G (FunD.bindsN F hb) .nil
  exact R.imp fun vs H Q E h => by
    show PrmI K C r m (vs ++ []) H Q E
    rw [List.append_nil]; exact h
end
/-! ### a game that was made -/
abbrev GameFs : Fs (((((Unit × Int) × Int) × List Int) × List (List Int)) × List Int) := Fs.own "_steps" (Ow.list inferInstance) (Fs.val "_pays" inferInstance (Fs.val "_choices" inferInstance (Fs.val "people" inferInstance (Fs.val "outcomes" inferInstance Fs.nil))))
def mkGame (X : ((((Unit × Int) × Int) × List Int) × List (List Int)) × List Int) : GameO := ⟨X.1.1.1.1.2, X.1.1.1.2, X.1.1.2, X.1.2, X.2⟩
theorem fzGame : FzC (Ow.ob "Game" GameFs) (inferInstance : Py GameO) mkGame := ⟨fun {K F F2 H v x cs} ⟨a, dx, l, c1, h1, h2, ⟨l1, v5, c0, c2, e1, ⟨l2, v4, e2, ⟨l3, v3, e3, ⟨l4, v2, e4, ⟨l5, v1, e5, ⟨e6, e7⟩, r1⟩, r2⟩, r3⟩, r4⟩, o5, e8⟩, h4⟩ s k => by
  subst e1 e2 e3 e4 e5 e6 e7 e8 h4
  obtain ⟨p, vs, q1, q2, q3, q4⟩ := o5
  subst q1 q4
  exact ⟨a, dx, v1, v2, v3, v4, .ref p, h1, k a List.mem_cons_self _ h2, Py.mono s r1, Py.mono s r2, Py.mono s r3, Py.mono s r4, ⟨p, vs, rfl, k p (by simp) _ q2, q3.mono s⟩⟩⟩
/-! ### if x is None: .. -/
def optC {α : Type u} {ρ : Type v} (x : Option α) (a : R ρ) (b : α → R ρ) : R ρ := match x with
  | none => a
  | some y => b y
section
variable {K : Fg} {E : Sg → XK} {ta : TS} {G : List Slot} {n : Nat} {α ρ : Type} {rr : Rr ρ} {k : Ks ρ}
theorem gs_optC [i : Py α] {x : Option α} {tA : R ρ} {tB : α → R ρ} (hG : G[n]? = some (sv x)) (ha : GS K E ta G rr k tA) (hb : ∀ y, k.N (G.set n (sv y)) (tB y)) :
    GS K E (tIfS (tTest (tOp (fun x y H Q => y = .non ∧ Q (.bl (decide (x = .non))) H) (tVar n) (tC .non))) ta tNext) G rr k (optC x tA tB) := fun F0 H0 F H σ D s hn hX hR hN hB hC => by
  obtain ⟨o, h1, v, h2, h3⟩ := s.getV hG
  subst h2
  cases x with
  | none =>
    have h3' : v = .non := h3
    subst h3'
    refine ⟨.non, h1, rfl, decide (V.non = V.non), rfl, ?_⟩
    have e : decide (V.non = V.non) = true := decide_eq_true rfl
    rw [e]
    show if true = true then ta D σ H else _
    rw [if_pos rfl]
    exact ha F0 H0 F H σ D s hn hX hR hN hB hC
  | some y =>
    obtain ⟨q1, q2⟩ := h3
    refine ⟨v, h1, rfl, decide (v = V.non), rfl, ?_⟩
    rw [decide_eq_false q2]
    show if false = true then ta D σ H else tNext D σ H
    rw [if_neg Bool.false_ne_true]
    have := s.setV n q1
    rw [set_same h1] at this
    exact hN _ (tB y) rfl (hb y) F H σ this (Same.refl F)
end
/-! ### isinstance of a caught error: what the class must say -/
def excCB (K : Fg) (D : Addr) : Bool := He.eqO (PySem.W.findIn K (.ref D) "__getattribute__") (some (some (.builtin "BaseException.__getattribute__"))) && (He.eqO (PySem.W.findIn K (.ref D) "__getattr__") (some none) && (decide (PySem.W.subIn K (.ref D) (.type "BaseException") = some true) && (PySem.W.hasDictIn K D &&
  (He.eqO (PySem.W.findIn K (.ref D) "__class__") (some (some (.builtin "object.__class__"))) && (He.eqO (PySem.W.specialIn K (.builtin "object.__class__") "__get__") (some (some (.builtin "getset_descriptor.__get__"))) && (decide (PySem.W.takesIn K (.builtin "object.__class__") = some true) && decide (PySem.W.mroIn K D (.type "object") = some true)))))))
theorem excCB_ok {K : Fg} {D : Addr} (h : excCB K D = true) : ExcC K D := by
  obtain ⟨h1, h⟩ := He.ba h
  obtain ⟨h2, h⟩ := He.ba h
  obtain ⟨h3, h⟩ := He.ba h
  obtain ⟨h4, h⟩ := He.ba h
  obtain ⟨h5, h⟩ := He.ba h
  obtain ⟨h6, h⟩ := He.ba h
  obtain ⟨h7, h8⟩ := He.ba h
  exact ⟨He.eqO_ok h1, He.eqO_ok h2, of_decide_eq_true h3, h4, He.eqO_ok h5, He.eqO_ok h6, of_decide_eq_true h7, of_decide_eq_true h8⟩
/-! ### the law's def itself -/
section
variable {P : Program} {w : World} {K : Fg} {mg : Str → Option Value} {base : Heap}
theorem fnok_of {x qual : Str} {params : Arguments} {body : List Stmt} {scope : Scope} {f : Addr} {fd : FuncData} {N ps : List Str} {k : Nat} {A ρ : Type} [PyA A] {rr : Rr ρ} [Rst rr] {m : A → R ρ}
    (F : FunD K x qual params body scope [] [] f fd) (S : FnScope N ps scope) (hn : ps.length ≤ N.length) (hl : PyA.len A = ps.length)
    (hbody : ∀ (cdv : Value) (A' : Around) (outer : List Env) (s : Shared) (H : Hp) (E : XK), Room k (A'.deeper (envOfC qual scope s.heap.objs.size f cdv)) →
      ∃ t, PSs (cxOf (L2.CX P w) P w K mg base N qual scope f cdv A' outer s H E) body t ∧ ∀ a : A, GS K (WE (WF E)) t (PyA.slots a ++ List.replicate (N.length - ps.length) .any) rr { N := fun _ t' => ∃ r, t' = .ok r ∧ ∀ Ha F H, rr r Ha F H .non } (m a)) :
    FnOk P w K mg base (L2.CX P w) (k + 1) f fd ps (Prm K rr m) :=
  FunD.ok (P := P) (w := w) (K := K) (mg := mg) (base := base) (CX := L2.CX P w) (k := k) (sp := Prm K rr m) F S (Prm.len hl) fun cdv A' outer s H vs Q E hr h => by
    obtain ⟨t, ht, hg⟩ := hbody cdv A' outer s H E hr
    exact ⟨t, ht, Prm.body h (by rw [hl]; exact hn) (by rw [hl]; exact hg)⟩
end
theorem gs_chk {K : Fg} {E : Sg → XK} {ts : TS} {G : List Slot} {ρ : Type} {rr : Rr ρ} {k : Ks ρ} {c : Prop} [Decidable c] {t : R ρ} (h : GS K E ts G rr k t) : GS K E ts G rr k (R.chk c t) := by
  by_cases q : c
  · rw [R.chk_pos q]; exact h
  · have e : R.chk c t = .no := if_neg q
    rw [e]
    exact gs_no
theorem chk_of {c : Prop} [Decidable c] {α : Type} {m : R α} (h : R.chk c m ≠ .no) : c := by
  by_cases q : c
  · exact q
  · exact absurd (if_neg q) h
end Wk
end
section
set_option Elab.async false
set_option linter.all false
set_option maxRecDepth 100000
namespace Wk
open PySem L2
/-! ### what a mirror hands back -/
def Rt {α : Type u} (m : R α) (P : α → Prop) : Prop := ∃ a, m = .ok a ∧ P a
section
variable {α : Type u} {β : Type v} {m : R α} {f : α → R β} {P P' : α → Prop} {Q : β → Prop} {a : α}
theorem Rt.ok (h : P a) : Rt (.ok a) P := ⟨a, rfl, h⟩
theorem Rt.bind (h : Rt m P) (k : ∀ a, P a → Rt (f a) Q) : Rt (R.bind m f) Q := by
  obtain ⟨a, rfl, h2⟩ := h
  exact k a h2
theorem Rt.imp (h : Rt m P) (k : ∀ a, P a → P' a) : Rt m P' := by
  obtain ⟨a, e, h2⟩ := h
  exact ⟨a, e, k a h2⟩
theorem Rt.of_eq (h : m = .ok a) (p : P a) : Rt m P := ⟨a, h, p⟩
theorem Rt.eq (h : Rt m (fun x => x = a)) : m = .ok a := by
  obtain ⟨b, e, h2⟩ := h
  rw [e, h2]
theorem bind_eq {b : R β} (h : m = .ok a) (k : f a = b) : R.bind m f = b := by rw [h]; exact k
end
theorem bok {α : Type u} {β : Type v} {a : α} {k : α → R β} : R.bind (.ok a) k = k a := Eq.trans (Eq.refl _) (Eq.refl _)
theorem forC_ok {α S ρ : Type} {xs : List α} {body : S → α → (S → R ρ) → (S → R ρ) → R ρ} {k : S → R ρ} (I : Nat → S → Prop) {s0 : S} (h0 : I 0 s0)
    (hb : ∀ i (hi : i < xs.length) s, I i s → ∃ s', I (i + 1) s' ∧ ∀ kn kb, body s xs[i] kn kb = kn s') : ∃ s', I xs.length s' ∧ forC xs body k s0 = k s' := by
  suffices h : ∀ n i s, i + n = xs.length → I i s → ∃ s', I xs.length s' ∧ forC (xs.drop i) body k s = k s' by
    have := h xs.length 0 s0 (by omega) h0
    rwa [List.drop_zero] at this
  intro n
  induction n with
  | zero =>
    intro i s hi hs
    have e : i = xs.length := by omega
    subst e
    rw [List.drop_length]
    exact ⟨s, hs, rfl⟩
  | succ n ih =>
    intro i s hi hs
    have hlt : i < xs.length := by omega
    obtain ⟨s', h1, h2⟩ := hb i hlt s hs
    obtain ⟨s'', h3, h4⟩ := ih (i + 1) s' (by omega) h1
    refine ⟨s'', h3, ?_⟩
    rw [List.drop_eq_getElem_cons hlt, forC, h2]
    exact h4
theorem Rt.forC {α S ρ : Type} {xs : List α} {body : S → α → (S → R ρ) → (S → R ρ) → R ρ} {k : S → R ρ} {Q : ρ → Prop} (I : Nat → S → Prop) {s0 : S} (h0 : I 0 s0)
    (hb : ∀ i (hi : i < xs.length) s, I i s → ∀ kn, (∀ s', I (i + 1) s' → Rt (kn s') Q) → Rt (body s xs[i] kn k) Q) (hk : ∀ s, I xs.length s → Rt (k s) Q) : Rt (forC xs body k s0) Q := by
  suffices h : ∀ n i s, i + n = xs.length → I i s → Rt (Wk.forC (xs.drop i) body k s) Q by
    have := h xs.length 0 s0 (by omega) h0
    rwa [List.drop_zero] at this
  intro n
  induction n with
  | zero =>
    intro i s hi hs
    have e : i = xs.length := by omega
    subst e
    rw [List.drop_length]
    exact hk s hs
  | succ n ih =>
    intro i s hi hs
    have hlt : i < xs.length := by omega
    rw [List.drop_eq_getElem_cons hlt, Wk.forC]
    exact hb i hlt s hs _ fun s' h' => ih (i + 1) s' (by omega) h'
/-- a loop whose body does one step -/
theorem forC_fold {α S ρ : Type} {body : S → α → (S → R ρ) → (S → R ρ) → R ρ} {k : S → R ρ} {g : S → α → S} : ∀ {xs : List α} {s : S}, (∀ s x, x ∈ xs → ∀ kn kb, body s x kn kb = kn (g s x)) → forC xs body k s = k (xs.foldl g s)
  | [], s, _ => rfl
  | x :: r, s, h => by
    rw [forC, h s x List.mem_cons_self, List.foldl_cons]
    exact forC_fold fun s x hx => h s x (List.mem_cons_of_mem _ hx)

/-! ### sizes -/
def Sz (n : Nat) (x : Int) : Prop := x.natAbs < 2 ^ n
instance {n : Nat} {x : Int} : Decidable (Sz n x) := inferInstanceAs (Decidable (_ < _))
theorem Sz.mono {n m : Nat} {x : Int} (h : Sz n x) (hm : n ≤ m) : Sz m x := Nat.lt_of_lt_of_le h (Nat.pow_le_pow_right (by decide) hm)
theorem Sz.mul {n m : Nat} {x y : Int} (h : Sz n x) (h2 : Sz m y) : Sz (n + m) (x * y) := by
  unfold Sz at *
  rw [Int.natAbs_mul, Nat.pow_add]
  exact Nat.mul_lt_mul'' h h2
theorem Sz.add {n : Nat} {x y : Int} (h : Sz n x) (h2 : Sz n y) : Sz (n + 1) (x + y) := by
  unfold Sz at *
  have := Int.natAbs_add_le x y
  rw [Nat.pow_succ]
  omega
theorem Sz.sub {n : Nat} {x y : Int} (h : Sz n x) (h2 : Sz n y) : Sz (n + 1) (x - y) := by
  unfold Sz at *
  have := Int.natAbs_sub_le x y
  rw [Nat.pow_succ]
  omega
theorem Sz.neg {n : Nat} {x : Int} (h : Sz n x) : Sz n (-x) := by unfold Sz at *; rw [Int.natAbs_neg]; exact h
theorem Sz.of_le {n : Nat} {x y : Int} (h : Sz n y) (h0 : 0 ≤ x) (h1 : x ≤ y) : Sz n x := by unfold Sz at *; omega
theorem Sz.of_nat {n : Nat} {x : Int} (k : Nat) (h : x.natAbs ≤ k) (hk : k < 2 ^ n := by decide) : Sz n x := Nat.lt_of_le_of_lt h hk
theorem Sz.log {n : Nat} {x : Int} (h : Sz (n + 1) x) : x.natAbs.log2 ≤ n := by
  by_cases hx : x.natAbs = 0
  · rw [hx]; simp
  · have := (Nat.log2_lt hx).mpr h
    omega
theorem Sz.log' {n : Nat} {x : Int} (h : Sz n x) : x.natAbs.log2 ≤ n := (h.mono (Nat.le_succ n)).log
/-! ### operations -/
theorem mulQ_ok {n m : Nat} {x y : Int} (h : Sz n x) (h2 : Sz m y) (hs : n + m < 1000000 := by decide) : mulQ x y = .ok (x * y) := by
  unfold mulQ mulR
  refine R.chk_pos ?_
  unfold CMulW
  have := h.log'
  have := h2.log'
  omega
theorem divQ_ok {n : Nat} {x y : Int} (h0 : 0 < y) (h : Sz n y) (hs : n < 9000 := by decide) : divQ x y = .ok (x / y) := by
  unfold divQ divR
  refine R.chk_pos ?_
  unfold CDivW
  have := h.log'
  exact ⟨h0, by omega⟩
theorem modQ_ok {x y : Int} (h0 : 0 < y) : modQ x y = .ok (x % y) := by
  unfold modQ modR
  exact R.chk_pos h0
theorem ixN_nat {n i : Nat} (h : i < n) : ixN n (i : Int) = some i := by
  unfold ixN
  rw [if_pos (by omega), if_pos (by omega)]
  simp
theorem ixQ_ok {α : Type} {xs : List α} {i : Nat} (h : i < xs.length) : ixQ xs (i : Int) = .ok xs[i] := by
  unfold ixQ ixR atI
  rw [ixN_nat h, Option.bind_some, List.getElem?_eq_getElem h]
theorem ixQ_at {α : Type} {xs : List α} {i : Int} (h0 : 0 ≤ i) (h : i.toNat < xs.length) : ixQ xs i = .ok xs[i.toNat] := by
  have e : i = (i.toNat : Int) := by omega
  rw [show ixQ xs i = ixQ xs (i.toNat : Int) by rw [← e]]
  exact ixQ_ok h
theorem setQ_ok {α : Type} {xs : List α} {i : Nat} {v : α} (h : i < xs.length) : setQ xs (i : Int) v = .ok (xs.set i v) := by
  unfold setQ setR
  rw [ixN_nat h]
theorem setR_ok {α : Type} {xs : List α} {i : Nat} {v : α} (h : i < xs.length) : setR xs (i : Int) v = .ok (xs.set i v) := by
  unfold setR
  rw [ixN_nat h]
def iota (n : Nat) : List Int := (List.range n).map fun (i : Nat) => (i : Int)
@[simp] theorem iota_length {n : Nat} : (iota n).length = n := by simp [iota]
@[simp] theorem iota_get {n i : Nat} (h : i < (iota n).length) : (iota n)[i] = (i : Int) := by simp [iota]
theorem rangeQ_ok {n : Nat} (h : n ≤ 1000000) : rangeQ 0 (n : Int) = .ok (iota n) := by
  unfold rangeQ rangeR
  rw [R.chk_pos (by omega)]
  unfold rangeL iota
  simp
theorem rangeQ2_ok {a b : Nat} (h : a ≤ 1000000) (h2 : b ≤ 1000000) : rangeQ (a : Int) (b : Int) = .ok ((List.range (b - a)).map fun (i : Nat) => ((a + i : Nat) : Int)) := by
  unfold rangeQ rangeR
  rw [R.chk_pos (by omega)]
  unfold rangeL
  congr 1
  rw [show ((b : Int) - a).toNat = b - a by omega]
  apply List.map_congr_left
  intro i _
  omega
theorem catQ_ok {α : Type} {xs ys : List α} (h : xs.length + ys.length ≤ 100000) : catQ xs ys = .ok (xs ++ ys) := by
  unfold catQ catR
  exact R.chk_pos h
theorem lcR_map {α β : Type} {f : α → R β} {g : α → β} : ∀ {xs : List α}, (∀ x ∈ xs, f x = .ok (g x)) → lcR (fun _ => .ok true) f xs = .ok (xs.map g)
  | [], _ => rfl
  | x :: r, h => by
    rw [lcR, h x List.mem_cons_self, lcR_map fun y hy => h y (List.mem_cons_of_mem _ hy)]
    rfl
theorem comp_ok {α β : Type} {f : α → R β} (g : α → β) {xs : List α} (hl : xs.length ≤ 100000) (h : ∀ x ∈ xs, f x = .ok (g x)) : comp xs f = .ok (xs.map g) := by
  unfold comp compIf
  rw [R.chk_pos hl, lcR_map h]
theorem lcR_filter {α β : Type} {c : α → R Bool} {f : α → R β} {p : α → Bool} {g : α → β} : ∀ {xs : List α}, (∀ x ∈ xs, c x = .ok (p x)) → (∀ x ∈ xs, p x = true → f x = .ok (g x)) → lcR c f xs = .ok ((xs.filter p).map g)
  | [], _, _ => rfl
  | x :: r, h, h2 => by
    rw [lcR, h x List.mem_cons_self, lcR_filter (fun y hy => h y (List.mem_cons_of_mem _ hy)) fun y hy => h2 y (List.mem_cons_of_mem _ hy)]
    cases q : p x with
    | false => simp [q]
    | true => simp [q, h2 x List.mem_cons_self q]
theorem compIf_ok {α β : Type} {c : α → R Bool} {f : α → R β} (p : α → Bool) (g : α → β) {xs : List α} (hl : xs.length ≤ 100000) (h : ∀ x ∈ xs, c x = .ok (p x)) (h2 : ∀ x ∈ xs, p x = true → f x = .ok (g x)) : compIf xs c f = .ok ((xs.filter p).map g) := by
  unfold compIf
  rw [R.chk_pos hl, lcR_filter h h2]
/-- a comprehension of which each item keeps P -/
theorem lcR_rt {α β : Type} {f : α → R β} {P : α → β → Prop} : ∀ {xs : List α}, (∀ x ∈ xs, Rt (f x) (P x)) → Rt (lcR (fun _ => .ok true) f xs) (fun ys => PySem.Paired P xs ys)
  | [], _ => Rt.ok .nil
  | x :: r, h => by
    obtain ⟨y, e, hy⟩ := h x List.mem_cons_self
    obtain ⟨ys, e2, hys⟩ := lcR_rt fun z hz => h z (List.mem_cons_of_mem _ hz)
    rw [lcR, e, e2]
    exact Rt.ok (.cons hy hys)
theorem comp_rt {α β : Type} {f : α → R β} {P : α → β → Prop} {xs : List α} (hl : xs.length ≤ 100000) (h : ∀ x ∈ xs, Rt (f x) (P x)) : Rt (comp xs f) (fun ys => PySem.Paired P xs ys) := by
  unfold comp compIf
  rw [R.chk_pos hl]
  exact lcR_rt h
theorem sum_range_succ (n : Nat) (f : Nat → Int) : ((List.range (n + 1)).map f).sum = ((List.range n).map f).sum + f n := by
  rw [List.range_succ, List.map_append, List.sum_append]; simp
end Wk
end
section
set_option Elab.async false
set_option linter.all false
set_option maxRecDepth 100000
set_option maxHeartbeats 4000000
namespace Wk
open PySem PySem.Spec PyProof.Rows L2
def top (i : Nat) : Stmt := PySem.Challenge.pw_fairstart_k81_weights_that_rest.main.body.getD i (.Pass ⟨0, 0, 0, 0⟩)
structure Tx (K : Fg) (mg : Str → Option Value) : Prop where
  g_BadGame : mg "BadGame" = some (.ref (He.ga K "BadGame"))
  g_BadRow : mg "BadRow" = some (.ref (He.ga K "BadRow"))
  x_BadRow : PySem.W.excIn K (He.ga K "BadRow") He.veBase "ValueError.__new__" = true
  k_BadRow : PySem.W.keepIn K (.ref (He.ga K "BadRow")) = true
  b_BadRow : PySem.W.subIn K (.ref (He.ga K "BadRow")) (.type "BaseException") = some true
  t_BadRow : PySem.W.typeIn K (.ref (He.ga K "BadRow")) = some (.type "type")
  g_Fault : mg "Fault" = some (.ref (He.ga K "Fault"))
  g_MOST_CHOICES : ∃ t, mg "MOST_CHOICES" = some (.int (4 : Int) t)
  g_MOST_OUTCOMES : ∃ t, mg "MOST_OUTCOMES" = some (.int (12 : Int) t)
  g_MOST_PAY : ∃ t, mg "MOST_PAY" = some (.int (99 : Int) t)
  g_MOST_PLAYERS : ∃ t, mg "MOST_PLAYERS" = some (.int (3 : Int) t)
  g_ONE : mg "ONE" = some (.ref (He.ga K "ONE"))
  r_ONE : ∀ F, Py.rep K F (.ref (He.ga K "ONE")) ((1, 1) : Int × Int)
  g_ValueError : mg "ValueError" = none
  g__law_are_numbers : mg "_law_are_numbers" = some (.ref (He.ga K "_law_are_numbers"))
  g__law_bad_asked : mg "_law_bad_asked" = some (.ref (He.ga K "_law_bad_asked"))
  g__law_cell : mg "_law_cell" = some (.ref (He.ga K "_law_cell"))
  g__law_change : mg "_law_change" = some (.ref (He.ga K "_law_change"))
  g__law_chosen : mg "_law_chosen" = some (.ref (He.ga K "_law_chosen"))
  g__law_common : mg "_law_common" = some (.ref (He.ga K "_law_common"))
  g__law_copy : mg "_law_copy" = some (.ref (He.ga K "_law_copy"))
  g__law_draws : mg "_law_draws" = some (.ref (He.ga K "_law_draws"))
  g__law_every : mg "_law_every" = some (.ref (He.ga K "_law_every"))
  g__law_gains : mg "_law_gains" = some (.ref (He.ga K "_law_gains"))
  g__law_gains_asked : mg "_law_gains_asked" = some (.ref (He.ga K "_law_gains_asked"))
  g__law_game : mg "_law_game" = some (.ref (He.ga K "_law_game"))
  g__law_gcd : mg "_law_gcd" = some (.ref (He.ga K "_law_gcd"))
  g__law_is_number : mg "_law_is_number" = some (.ref (He.ga K "_law_is_number"))
  g__law_judged : mg "_law_judged" = some (.ref (He.ga K "_law_judged"))
  g__law_lowest_terms : mg "_law_lowest_terms" = some (.ref (He.ga K "_law_lowest_terms"))
  g__law_rates : mg "_law_rates" = some (.ref (He.ga K "_law_rates"))
  g__law_refused : mg "_law_refused" = some (.ref (He.ga K "_law_refused"))
  g__law_resting : mg "_law_resting" = some (.ref (He.ga K "_law_resting"))
  g__law_rests : mg "_law_rests" = some (.ref (He.ga K "_law_rests"))
  g__law_same : mg "_law_same" = some (.ref (He.ga K "_law_same"))
  g__law_scaled : mg "_law_scaled" = some (.ref (He.ga K "_law_scaled"))
  g__law_step : mg "_law_step" = some (.ref (He.ga K "_law_step"))
  g__law_weights : mg "_law_weights" = some (.ref (He.ga K "_law_weights"))
  g_abs : mg "abs" = none
  g_bool : mg "bool" = none
  g_check_choice : mg "check_choice" = some (.ref (He.ga K "check_choice"))
  g_check_outcome : mg "check_outcome" = some (.ref (He.ga K "check_outcome"))
  g_check_pays : mg "check_pays" = some (.ref (He.ga K "check_pays"))
  g_check_player : mg "check_player" = some (.ref (He.ga K "check_player"))
  g_check_weights : mg "check_weights" = some (.ref (He.ga K "check_weights"))
  g_counted : mg "counted" = some (.ref (He.ga K "counted"))
  g_enumerate : mg "enumerate" = none
  g_gains : mg "gains" = some (.ref (He.ga K "gains"))
  g_gcd : mg "gcd" = some (.builtin "math.gcd")
  g_int : mg "int" = none
  g_is_resting : mg "is_resting" = some (.ref (He.ga K "is_resting"))
  g_is_shares : mg "is_shares" = some (.ref (He.ga K "is_shares"))
  g_isinstance : mg "isinstance" = none
  g_law : mg "law" = some (.ref (He.ga K "law"))
  g_lcm : mg "lcm" = some (.builtin "math.lcm")
  g_left_out : mg "left_out" = some (.ref (He.ga K "left_out"))
  g_len : mg "len" = none
  g_list : mg "list" = none
  g_min : mg "min" = none
  g_plus : mg "plus" = some (.ref (He.ga K "plus"))
  g_range : mg "range" = none
  g_ratio : mg "ratio" = some (.ref (He.ga K "ratio"))
  g_refuted : mg "refuted" = some (.ref (He.ga K "refuted"))
  g_resting : mg "resting" = some (.ref (He.ga K "resting"))
  g_sum : mg "sum" = none
  g_times : mg "times" = some (.ref (He.ga K "times"))
  g_tuple : mg "tuple" = none
  g_whole : mg "whole" = some (.ref (He.ga K "whole"))
  g_zip : mg "zip" = none
  c_Game : Cls K (He.ga K "Game")
  n_Game_outcomes : NoAttr K (He.ga K "Game") "outcomes"
  n_Game_people : NoAttr K (He.ga K "Game") "people"
  n_Game__choices : NoAttr K (He.ga K "Game") "_choices"
  n_Game__pays : NoAttr K (He.ga K "Game") "_pays"
  n_Game__steps : NoAttr K (He.ga K "Game") "_steps"
  mt_Game_choices : Meth K (He.ga K "Game") "choices" (He.ma K (He.ga K "Game") "choices")
  mt_Game_chosen : Meth K (He.ga K "Game") "chosen" (He.ma K (He.ga K "Game") "chosen")
  mt_Game_pay : Meth K (He.ga K "Game") "pay" (He.ma K (He.ga K "Game") "pay")
  mt_Game_switched : Meth K (He.ga K "Game") "switched" (He.ma K (He.ga K "Game") "switched")
  caught : PySem.W.exmOne K (.ref (He.ga K "BadRow")) (.ref (He.ga K "Fault")) = some true
  ie_BadRow : ExcC K (He.ga K "BadRow")
  ki_BadRow_BadRow : PySem.W.kitOne K (.ref (He.ga K "BadRow")) (.ref (He.ga K "BadRow")) = some true
  ki_BadRow_BadGame : PySem.W.kitOne K (.ref (He.ga K "BadRow")) (.ref (He.ga K "BadGame")) = some false
  ki_BadRow_ValueError : PySem.W.kitOne K (.ref (He.ga K "BadRow")) (.type "ValueError") = some true
  g_Game : mg "Game" = some (.ref (He.ga K "Game"))
  mk_Game : Mk K (He.ga K "Game") (He.ma K (He.ga K "Game") "__init__")

section
variable {P : Program} {w : World} {K : Fg} {mg : Str → Option Value} {base : Heap}
@[irreducible] def m_ratio (a0 : Int) (a1 : Int) : R (Int × Int) := (R.bind (.ok (decide (a1 = (0 : Int)))) fun b11 => if b11 = true then .no else (joinR (fun (s3 : Int × Int) => (R.bind (.ok ((Int.gcd s3.1 s3.2 : Nat) : Int)) fun v_common_4 => (R.bind (divQ s3.1 v_common_4) fun r5 => (R.bind (divQ s3.2 v_common_4) fun r6 => (.ok (r5, r6)))))) fun kj7 => R.bind (.ok (decide (a1 < (0 : Int)))) fun b10 => if b10 = true then (R.bind (.ok (-a0)) fun v_n_8 => (R.bind (.ok (-a1)) fun v_d_9 => (kj7 (v_n_8, v_d_9)))) else (kj7 (a0, a1))))
abbrev s_m_ratio : Stmt := top 12
theorem sc_m_ratio : FnScope ["n", "d", "common"] ["n", "d"] (defScope s_m_ratio) := ⟨rfl, rfl, rfl, by decide +kernel, rfl, by decide +kernel, by decide +kernel⟩
theorem ok_m_ratio {fd : FuncData} (T : Tx K mg) (D : FunD K "ratio" "ratio" (defArgs s_m_ratio) (defBody s_m_ratio) (defScope s_m_ratio) [] [] (He.ga K "ratio") fd) : FnX P w K mg base 1 "ratio" (Prm K (rv K) fun (a : Int × Int × Unit) => m_ratio a.1 a.2.1) := by
  refine ⟨fnr_of (k := 0) D sc_m_ratio (by decide) rfl (fun _ _ _ _ _ _ us hl => match us, hl with | [_, _], _ => rfl) (fun cdv A' outer s H E hr => ⟨_, (pss_cons (ps_if (pt_cmpR op_eq (pv 1) pe_int (nomark _)) pss_never pss_nil) (pss_cons (ps_if (pt_cmpR op_lt (pv 1) pe_int (nomark _)) (pss_cons (ps_set (i := 0) sc_m_ratio.nd rfl (Or.inl rfl) (pe_un un_neg (pv 0))) (pss_one (ps_set (i := 1) sc_m_ratio.nd rfl (Or.inl rfl) (pe_un un_neg (pv 1))))) pss_nil) (pss_cons (ps_set (i := 2) sc_m_ratio.nd rfl (Or.inl rfl) (pe_callBfun cr_gcd (by rfl) T.g_gcd (pa_cons (pv 0) (pa_cons (pv 1) pa_nil)))) (pss_one (ps_ret (pe_tup (pa_cons (pe_op op_fdivW (pv 0) (pv 2)) (pa_cons (pe_op op_fdivW (pv 1) (pv 2)) pa_nil)))))))), ?_⟩), D.kp, T.g_ratio⟩
  intro a
  rw [m_ratio]
  exact (gs_seq (gs_if (gt_test (gv_op o2_eq (gv_var 1) gv_int)) gs_never (gs_next (gs_seq (gs_joinR (S := Int × Int) (fun s3 => [sv s3.1, sv s3.2, .any]) (fun s3 => (gs_seq (gs_asg (gv_cb2 o2_gcd (gv_var 0) (gv_var 1)) (fun v_common_4 => (gs_ret (gv_pair (gv_op q2_div (gv_var 0) (gv_var 2)) (gv_op q2_div (gv_var 1) (gv_var 2)))))))) (gs_if (gt_test (gv_op o2_lt (gv_var 1) gv_int)) (gs_seq (gs_asg (gv_un o1_neg (gv_var 0)) (fun v_n_8 => (gs_asg (gv_un o1_neg (gv_var 1)) (fun v_d_9 => ⟨(v_n_8, v_d_9), (.r (.r (.r .nil))), rfl⟩))))) (gs_next ⟨(a.1, a.2.1), (.r (.r (.r .nil))), rfl⟩)))))))
@[irreducible] def m_plus (a0 : List (Int × Int)) : R (Int × Int) := R.chk (a0.length ≤ 100000) (R.bind (.ok (0 : Int)) fun v_top_1 => (R.bind (.ok (1 : Int)) fun v_bottom_2 => (R.bind (.ok a0) fun xs16 => forC xs16 (fun (s3 : Int × Int) (x4 : (Int × Int)) kn5 kb6 => (R.bind (.ok ((Int.gcd s3.2 x4.2 : Nat) : Int)) fun v_common_7 => (R.bind (R.bind (R.bind (divQ x4.2 v_common_7) fun r8 => (mulQ s3.1 r8)) fun r10 => (R.bind (R.bind (divQ s3.2 v_common_7) fun r9 => (mulQ x4.1 r9)) fun r11 => (.ok (r10 + r11)))) fun v_top_12 => (R.bind (R.bind (divQ s3.2 v_common_7) fun r13 => (mulQ r13 x4.2)) fun v_bottom_14 => (kn5 (v_top_12, v_bottom_14)))))) (fun (s15 : Int × Int) => (m_ratio s15.1 s15.2)) (v_top_1, v_bottom_2))))
abbrev s_m_plus : Stmt := top 13
theorem sc_m_plus : FnScope ["numbers", "top", "bottom", "n", "d", "common"] ["numbers"] (defScope s_m_plus) := ⟨rfl, rfl, rfl, by decide +kernel, rfl, by decide +kernel, by decide +kernel⟩
theorem ok_m_plus {fd : FuncData} (T : Tx K mg) (D : FunD K "plus" "plus" (defArgs s_m_plus) (defBody s_m_plus) (defScope s_m_plus) [] [] (He.ga K "plus") fd) (F_m_ratio : FnX P w K mg base 1 "ratio" (Prm K (rv K) fun (a : Int × Int × Unit) => m_ratio a.1 a.2.1))  : FnX P w K mg base 2 "plus" (PrmS K (rv K) m_plus) := by
  refine ⟨fnr_star D sc_m_plus (by decide) (fun xs h => by rw [m_plus] at h; exact chk_of h) (fun _ _ _ _ _ _ => rfl) (fun _ _ _ _ _ _ _ _ => rfl) (fun cdv A' outer s H E hr => ⟨_, (pss_cons (ps_set (i := 1) sc_m_plus.nd rfl (Or.inl rfl) pe_int) (pss_cons (ps_set (i := 2) sc_m_plus.nd rfl (Or.inl rfl) pe_int) (pss_cons (ps_for (passes_of rfl) rfl (piTup K (pv 0)) (pgTup K rfl (pgs_cons (pg_name (i := 3) sc_m_plus.nd rfl (Or.inl rfl)) (pgs_cons (pg_name (i := 4) sc_m_plus.nd rfl (Or.inl rfl)) pgs_nil))) (pss_cons (ps_set (i := 5) sc_m_plus.nd rfl (Or.inl rfl) (pe_callBfun cr_gcd (by rfl) T.g_gcd (pa_cons (pv 2) (pa_cons (pv 4) pa_nil)))) (pss_cons (ps_set (i := 1) sc_m_plus.nd rfl (Or.inl rfl) (pe_op op_add (pe_op op_mulW (pv 1) (pe_op op_fdivW (pv 4) (pv 5))) (pe_op op_mulW (pv 3) (pe_op op_fdivW (pv 2) (pv 5))))) (pss_one (ps_set (i := 2) sc_m_plus.nd rfl (Or.inl rfl) (pe_op op_mulW (pe_op op_fdivW (pv 2) (pv 5)) (pv 4))))))) (pss_one (ps_ret (pe_fn F_m_ratio (hr.mono (by decide)) (by rfl) (fun σ => passAt (takes_of rfl rfl rfl rfl) σ) (pa_cons (pv 1) (pa_cons (pv 2) pa_nil)))))))), ?_⟩), D.kp, T.g_plus⟩
  intro a
  rw [m_plus]
  exact gs_chk (gs_seq (gs_asg gv_int (fun v_top_1 => (gs_seq (gs_asg gv_int (fun v_bottom_2 => (gs_seq (gs_for (S := Int × Int) (fun s3 => [sv a.1, sv s3.1, sv s3.2, .any, .any, .any]) (v_top_1, v_bottom_2) (gi_tup (gv_var 0)) (gg_pair (gg_name 3) (gg_name 4)) (.r (.r (.r (.r (.r (.r .nil)))))) (fun s3 x4 kn5 kb6 => (gs_seq (gs_asg (gv_cb2 o2_gcd (gv_var 2) (gv_var 4)) (fun v_common_7 => (gs_seq (gs_asg (gv_op o2_add (gv_op q2_mul (gv_var 1) (gv_op q2_div (gv_var 4) (gv_var 5))) (gv_op q2_mul (gv_var 3) (gv_op q2_div (gv_var 2) (gv_var 5)))) (fun v_top_12 => (gs_asg (gv_op q2_mul (gv_op q2_div (gv_var 2) (gv_var 5)) (gv_var 4)) (fun v_bottom_14 => ⟨(v_top_12, v_bottom_14), (.r (.r (.r (.a (.a (.a .nil)))))), rfl⟩))))))))) (fun s15 => (gs_ret (gv_callS (ga_cons (gv_var 1) (ga_cons (gv_var 2) ga_nil)))))))))))))
@[irreducible] def m_times (a0 : List (Int × Int)) : R (Int × Int) := R.chk (a0.length ≤ 100000) (R.bind (.ok (1 : Int)) fun v_top_1 => (R.bind (.ok (1 : Int)) fun v_bottom_2 => (R.bind (.ok a0) fun xs10 => forC xs10 (fun (s3 : Int × Int) (x4 : (Int × Int)) kn5 kb6 => (R.bind (mulQ s3.1 x4.1) fun v_top_7 => (R.bind (mulQ s3.2 x4.2) fun v_bottom_8 => (kn5 (v_top_7, v_bottom_8))))) (fun (s9 : Int × Int) => (m_ratio s9.1 s9.2)) (v_top_1, v_bottom_2))))
abbrev s_m_times : Stmt := top 14
theorem sc_m_times : FnScope ["numbers", "top", "bottom", "n", "d"] ["numbers"] (defScope s_m_times) := ⟨rfl, rfl, rfl, by decide +kernel, rfl, by decide +kernel, by decide +kernel⟩
theorem ok_m_times {fd : FuncData} (T : Tx K mg) (D : FunD K "times" "times" (defArgs s_m_times) (defBody s_m_times) (defScope s_m_times) [] [] (He.ga K "times") fd) (F_m_ratio : FnX P w K mg base 1 "ratio" (Prm K (rv K) fun (a : Int × Int × Unit) => m_ratio a.1 a.2.1))  : FnX P w K mg base 2 "times" (PrmS K (rv K) m_times) := by
  refine ⟨fnr_star D sc_m_times (by decide) (fun xs h => by rw [m_times] at h; exact chk_of h) (fun _ _ _ _ _ _ => rfl) (fun _ _ _ _ _ _ _ _ => rfl) (fun cdv A' outer s H E hr => ⟨_, (pss_cons (ps_set (i := 1) sc_m_times.nd rfl (Or.inl rfl) pe_int) (pss_cons (ps_set (i := 2) sc_m_times.nd rfl (Or.inl rfl) pe_int) (pss_cons (ps_for (passes_of rfl) rfl (piTup K (pv 0)) (pgTup K rfl (pgs_cons (pg_name (i := 3) sc_m_times.nd rfl (Or.inl rfl)) (pgs_cons (pg_name (i := 4) sc_m_times.nd rfl (Or.inl rfl)) pgs_nil))) (pss_cons (ps_set (i := 1) sc_m_times.nd rfl (Or.inl rfl) (pe_op op_mulW (pv 1) (pv 3))) (pss_one (ps_set (i := 2) sc_m_times.nd rfl (Or.inl rfl) (pe_op op_mulW (pv 2) (pv 4)))))) (pss_one (ps_ret (pe_fn F_m_ratio (hr.mono (by decide)) (by rfl) (fun σ => passAt (takes_of rfl rfl rfl rfl) σ) (pa_cons (pv 1) (pa_cons (pv 2) pa_nil)))))))), ?_⟩), D.kp, T.g_times⟩
  intro a
  rw [m_times]
  exact gs_chk (gs_seq (gs_asg gv_int (fun v_top_1 => (gs_seq (gs_asg gv_int (fun v_bottom_2 => (gs_seq (gs_for (S := Int × Int) (fun s3 => [sv a.1, sv s3.1, sv s3.2, .any, .any]) (v_top_1, v_bottom_2) (gi_tup (gv_var 0)) (gg_pair (gg_name 3) (gg_name 4)) (.r (.r (.r (.r (.r .nil))))) (fun s3 x4 kn5 kb6 => (gs_seq (gs_asg (gv_op q2_mul (gv_var 1) (gv_var 3)) (fun v_top_7 => (gs_asg (gv_op q2_mul (gv_var 2) (gv_var 4)) (fun v_bottom_8 => ⟨(v_top_7, v_bottom_8), (.r (.r (.r (.a (.a .nil))))), rfl⟩)))))) (fun s9 => (gs_ret (gv_callS (ga_cons (gv_var 1) (ga_cons (gv_var 2) ga_nil)))))))))))))
@[irreducible] def m_whole (a0 : (List (Int × Int))) : R ((List Int) × Int) := (R.bind (.ok (1 : Int)) fun v_factor_1 => (R.bind (.ok a0) fun xs11 => forC xs11 (fun (s2 : Int) (x3 : (Int × Int)) kn4 kb5 => (R.bind (lcmQ s2 x3.2) fun v_factor_6 => (kn4 (v_factor_6)))) (fun (s7 : Int) => (R.bind (comp a0 (fun (x8 : (Int × Int)) => (R.bind (divQ s7 x8.2) fun r9 => (mulQ x8.1 r9)))) fun r10 => (.ok (r10, s7)))) (v_factor_1)))
abbrev s_m_whole : Stmt := top 15
theorem sc_m_whole : FnScope ["numbers", "factor", "_", "d", "n"] ["numbers"] (defScope s_m_whole) := ⟨rfl, rfl, rfl, by decide +kernel, rfl, by decide +kernel, by decide +kernel⟩
theorem ok_m_whole {fd : FuncData} (T : Tx K mg) (D : FunD K "whole" "whole" (defArgs s_m_whole) (defBody s_m_whole) (defScope s_m_whole) [] [] (He.ga K "whole") fd) : FnX P w K mg base 1 "whole" (Prm K (rv K) fun (a : (List (Int × Int)) × Unit) => m_whole a.1) := by
  refine ⟨fnr_of (k := 0) D sc_m_whole (by decide) rfl (fun _ _ _ _ _ _ us hl => match us, hl with | [_], _ => rfl) (fun cdv A' outer s H E hr => ⟨_, (pss_cons (ps_set (i := 1) sc_m_whole.nd rfl (Or.inr rfl) pe_int) (pss_cons (ps_for (passes_of rfl) rfl (piList K (pv 0)) (pgTup K rfl (pgs_cons (pg_name (i := 2) sc_m_whole.nd rfl (Or.inl rfl)) (pgs_cons (pg_name (i := 3) sc_m_whole.nd rfl (Or.inl rfl)) pgs_nil))) (pss_one (ps_set (i := 1) sc_m_whole.nd rfl (Or.inr rfl) (pe_callBfun cr_lcm (by rfl) T.g_lcm (pa_cons (pv 1) (pa_cons (pv 3) pa_nil)))))) (pss_one (ps_ret (pe_tup (pa_cons (pe_lc (own := [("n", 4), ("d", 3)]) (g := gTup K 2 (gCons (gName 4) (gCons (gName 3) gNil))) rfl sc_m_whole.nd (piList K (pv 0)) (blkOk_by (N := ["numbers", "factor", "_", "d", "n"]) (sc := (defScope s_m_whole)) (by decide +kernel)) (fun _ _ _ _ _ => (pgTup K rfl (pgs_cons (pg_name (i := 4) sc_m_whole.nd rfl (Or.inl rfl)) (pgs_cons (pg_name (i := 3) sc_m_whole.nd rfl (Or.inl rfl)) pgs_nil)))) (fun _ _ _ _ _ => pts_nil) (fun _ _ _ _ _ => (pe_op op_mulW (pv 4) (pe_op op_fdivW (pv 1) (pv 3))))) (pa_cons (pv 1) pa_nil))))))), ?_⟩), D.kp, T.g_whole⟩
  intro a
  rw [m_whole]
  exact (gs_seq (gs_asg gv_int (fun v_factor_1 => (gs_seq (gs_for (S := Int) (fun s2 => [sv a.1, sv s2, .any, .any, .any]) (v_factor_1) (gi_list (gv_var 0)) (gg_pair (gg_name 2) (gg_name 3)) (.r (.r (.r (.r (.r .nil))))) (fun s2 x3 kn4 kb5 => (gs_asg (gv_cb2 q2_lcm (gv_var 1) (gv_var 3)) (fun v_factor_6 => ⟨(v_factor_6), (.r (.r (.a (.a (.r .nil))))), rfl⟩))) (fun s7 => (gs_ret (gv_pair (Gv.fr (gv_lc (gi_list (gv_var 0)) (gg_pair (gg_name 4) (gg_name 3)) (by decide) (any2 rfl rfl) (fun _ => Gv.nx (gv_op q2_mul (gv_var 4) (gv_op q2_div (gv_var 1) (gv_var 3)))))) (gv_var 1)))))))))
@[irreducible] def m_is_shares (a0 : (List (Int × Int))) : R Bool := (R.bind (.ok a0) fun xs8 => forC xs8 (fun (s1 : Unit) (x2 : (Int × Int)) kn3 kb4 => (R.bind (.ok (decide (x2.1 < (0 : Int)))) fun b5 => if b5 = true then (.ok false) else (kn3 ()))) (fun (s6 : Unit) => (R.bind (m_plus a0) fun r7 => (.ok (PyData.eqv (ToPd.pd r7) (ToPd.pd ((1, 1) : Int × Int)))))) ())
abbrev s_m_is_shares : Stmt := top 17
theorem sc_m_is_shares : FnScope ["row", "n", "_"] ["row"] (defScope s_m_is_shares) := ⟨rfl, rfl, rfl, by decide +kernel, rfl, by decide +kernel, by decide +kernel⟩
theorem ok_m_is_shares {fd : FuncData} (T : Tx K mg) (D : FunD K "is_shares" "is_shares" (defArgs s_m_is_shares) (defBody s_m_is_shares) (defScope s_m_is_shares) [] [] (He.ga K "is_shares") fd) (F_m_plus : FnX P w K mg base 2 "plus" (PrmS K (rv K) m_plus)) : FnX P w K mg base 3 "is_shares" (Prm K (rv K) fun (a : (List (Int × Int)) × Unit) => m_is_shares a.1) := by
  refine ⟨fnr_of (k := 2) D sc_m_is_shares (by decide) rfl (fun _ _ _ _ _ _ us hl => match us, hl with | [_], _ => rfl) (fun cdv A' outer s H E hr => ⟨_, (pss_cons (ps_for (passes_of rfl) rfl (piList K (pv 0)) (pgTup K rfl (pgs_cons (pg_name (i := 1) sc_m_is_shares.nd rfl (Or.inl rfl)) (pgs_cons (pg_name (i := 2) sc_m_is_shares.nd rfl (Or.inl rfl)) pgs_nil))) (pss_one (ps_if (pt_cmpR op_lt (pv 1) pe_int (nomark _)) (pss_one (ps_ret pe_bl)) pss_nil))) (pss_one (ps_ret (pe_cmpR (opEqD K (hu := hr.units)) (peFnS K F_m_plus (hr.mono (by decide)) (by rfl) (fun σ => passAt (takes_of rfl rfl rfl rfl) σ) (pv 0)) (pe_gref (by rfl) T.g_ONE) (nomark _))))), ?_⟩), D.kp, T.g_is_shares⟩
  intro a
  rw [m_is_shares]
  exact (gs_seq (gs_for (S := Unit) (fun s1 => [sv a.1, .any, .any]) () (gi_list (gv_var 0)) (gg_pair (gg_name 1) (gg_name 2)) (.r (.r (.r .nil))) (fun s1 x2 kn3 kb4 => (gs_if (gt_test (gv_op o2_lt (gv_var 1) gv_int)) (gs_ret gv_bl) (gs_next ⟨(), (.r (.a (.a .nil))), rfl⟩))) (fun s6 => (gs_ret (gv_op (o2_eqD (α := (Int × Int)) (β := (Int × Int))) (gv_starS (Gv.lv (gv_var 0))) (gv_con T.r_ONE))))))
@[irreducible] def m_check_player (a0 : GameO) (a1 : Int) : R Unit := (R.bind (R.bind (.ok (decide (a1 < (0 : Int)))) fun b1 => if b1 = true then .ok true else (.ok (decide (a0.people ≤ a1)))) fun b2 => if b2 = true then .no else (.ok ()))
abbrev s_m_check_player : Stmt := top 23
theorem sc_m_check_player : FnScope ["game", "person"] ["game", "person"] (defScope s_m_check_player) := ⟨rfl, rfl, rfl, by decide +kernel, rfl, by decide +kernel, by decide +kernel⟩
theorem ok_m_check_player {fd : FuncData} (T : Tx K mg) (D : FunD K "check_player" "check_player" (defArgs s_m_check_player) (defBody s_m_check_player) (defScope s_m_check_player) [] [] (He.ga K "check_player") fd) : FnX P w K mg base 1 "check_player" (Prm K (rv K) fun (a : GameO × Int × Unit) => m_check_player a.1 a.2.1) := by
  refine ⟨fnr_of (k := 0) D sc_m_check_player (by decide) rfl (fun _ _ _ _ _ _ us hl => match us, hl with | [_, _], _ => rfl) (fun cdv A' outer s H E hr => ⟨_, (pss_one (ps_if (PW.pt (pw_or (pt_cmpR op_lt (pv 1) pe_int (nomark _)) (pw_or1 (pt_cmpR op_ge (pv 1) (peFld K (pv 0)) (nomark _))))) pss_never pss_nil)), ?_⟩), D.kp, T.g_check_player⟩
  intro a
  rw [m_check_player]
  exact (gs_if (gt_or (gt_test (gv_op o2_lt (gv_var 1) gv_int)) (gt_test (gv_op o2_ge (gv_var 1) (gv_fld GameO.f_people T.c_Game T.n_Game_people (gv_var 0))))) gs_never (gs_next ⟨(), rfl, fun _ _ _ => rfl⟩))
@[irreducible] def m_check_outcome (a0 : GameO) (a1 : Int) : R Unit := (R.bind (R.bind (.ok (decide (a1 < (0 : Int)))) fun b1 => if b1 = true then .ok true else (.ok (decide (a0.outcomes ≤ a1)))) fun b2 => if b2 = true then .no else (.ok ()))
abbrev s_m_check_outcome : Stmt := top 24
theorem sc_m_check_outcome : FnScope ["game", "outcome"] ["game", "outcome"] (defScope s_m_check_outcome) := ⟨rfl, rfl, rfl, by decide +kernel, rfl, by decide +kernel, by decide +kernel⟩
theorem ok_m_check_outcome {fd : FuncData} (T : Tx K mg) (D : FunD K "check_outcome" "check_outcome" (defArgs s_m_check_outcome) (defBody s_m_check_outcome) (defScope s_m_check_outcome) [] [] (He.ga K "check_outcome") fd) : FnX P w K mg base 1 "check_outcome" (Prm K (rv K) fun (a : GameO × Int × Unit) => m_check_outcome a.1 a.2.1) := by
  refine ⟨fnr_of (k := 0) D sc_m_check_outcome (by decide) rfl (fun _ _ _ _ _ _ us hl => match us, hl with | [_, _], _ => rfl) (fun cdv A' outer s H E hr => ⟨_, (pss_one (ps_if (PW.pt (pw_or (pt_cmpR op_lt (pv 1) pe_int (nomark _)) (pw_or1 (pt_cmpR op_ge (pv 1) (peFld K (pv 0)) (nomark _))))) pss_never pss_nil)), ?_⟩), D.kp, T.g_check_outcome⟩
  intro a
  rw [m_check_outcome]
  exact (gs_if (gt_or (gt_test (gv_op o2_lt (gv_var 1) gv_int)) (gt_test (gv_op o2_ge (gv_var 1) (gv_fld GameO.f_outcomes T.c_Game T.n_Game_outcomes (gv_var 0))))) gs_never (gs_next ⟨(), rfl, fun _ _ _ => rfl⟩))
@[irreducible] def m_Game_choices (a0 : GameO) : R (List Int) := (.ok a0.choices)
abbrev s_m_Game_choices : Stmt := inClass (top 28) 1
theorem sc_m_Game_choices : FnScope ["self"] ["self"] (defScope s_m_Game_choices) := ⟨rfl, rfl, rfl, by decide +kernel, rfl, by decide +kernel, by decide +kernel⟩
theorem ok_m_Game_choices {fd : FuncData} (T : Tx K mg) (D : FunD K "choices" "Game.choices" (defArgs s_m_Game_choices) (defBody s_m_Game_choices) (defScope s_m_Game_choices) [] [] (He.ma K (He.ga K "Game") "choices") fd) : FnR P w K mg base (L2.CX P w) 1 (He.ma K (He.ga K "Game") "choices") (Prm K (ro K) fun (a : GameO × Unit) => m_Game_choices a.1) := by
  refine fnr_of (k := 0) D sc_m_Game_choices (by decide) rfl (fun _ _ _ _ _ _ us hl => match us, hl with | [_], _ => rfl) (fun cdv A' outer s H E hr => ⟨_, (pss_one (ps_ret (pe_callTy (crList K) (by rfl) T.g_list (by decide +kernel) (pa_cons (peFld K (pv 0)) pa_nil)))), ?_⟩)
  intro a
  rw [m_Game_choices]
  exact (gs_ret (gv_cb1 o1_list (Gv.lv (gv_fld GameO.f__choices T.c_Game T.n_Game__choices (gv_var 0)))))
@[irreducible] def m_check_choice (a0 : GameO) (a1 : Int) (a2 : Int) : R Unit := (R.bind (R.bind (.ok (decide (a2 < (0 : Int)))) fun b3 => if b3 = true then .ok true else (R.bind (R.bind (m_Game_choices a0) fun r1 => (ixQ r1 a1)) fun r2 => (.ok (decide (r2 ≤ a2))))) fun b4 => if b4 = true then .no else (.ok ()))
abbrev s_m_check_choice : Stmt := top 25
theorem sc_m_check_choice : FnScope ["game", "person", "choice"] ["game", "person", "choice"] (defScope s_m_check_choice) := ⟨rfl, rfl, rfl, by decide +kernel, rfl, by decide +kernel, by decide +kernel⟩
theorem ok_m_check_choice {fd : FuncData} (T : Tx K mg) (D : FunD K "check_choice" "check_choice" (defArgs s_m_check_choice) (defBody s_m_check_choice) (defScope s_m_check_choice) [] [] (He.ga K "check_choice") fd) (F_m_Game_choices : MtX P w K mg base 1 "Game" "choices" (Prm K (ro K) fun (a : GameO × Unit) => m_Game_choices a.1)) : FnX P w K mg base 2 "check_choice" (Prm K (rv K) fun (a : GameO × Int × Int × Unit) => m_check_choice a.1 a.2.1 a.2.2.1) := by
  refine ⟨fnr_of (k := 1) D sc_m_check_choice (by decide) rfl (fun _ _ _ _ _ _ us hl => match us, hl with | [_, _, _], _ => rfl) (fun cdv A' outer s H E hr => ⟨_, (pss_one (ps_if (PW.pt (pw_or (pt_cmpR op_lt (pv 2) pe_int (nomark _)) (pw_or1 (pt_cmpR op_ge (pv 2) (pe_ix (ixL K) (peMth0 K (pv 0) F_m_Game_choices (hr.mono (by decide)) (fun σ => passAt (takes_of rfl rfl rfl rfl) σ)) (pv 1) (fun _ _ => rfl)) (nomark _))))) pss_never pss_nil)), ?_⟩), D.kp, T.g_check_choice⟩
  intro a
  rw [m_check_choice]
  exact (gs_if (gt_or (gt_test (gv_op o2_lt (gv_var 2) gv_int)) (gt_test (gv_op o2_ge (gv_var 2) (gv_op q2_ix (Gv.lo (gv_mth GameO.obj (by decide +kernel) (gv_var 0) ga_nil)) (gv_var 1))))) gs_never (gs_next ⟨(), rfl, fun _ _ _ => rfl⟩))
@[irreducible] def m_Game_chosen (a0 : GameO) (a1 : Int) (a2 : Int) : R Int := (R.bind (m_check_player a0 a1) fun x1 => (R.bind (m_check_outcome a0 a2) fun x2 => (R.bind (R.bind (ixQ a0.steps a1) fun r3 => (divQ a2 r3)) fun r4 => (R.bind (ixQ a0.choices a1) fun r5 => (modQ r4 r5)))))
abbrev s_m_Game_chosen : Stmt := inClass (top 28) 2
theorem sc_m_Game_chosen : FnScope ["self", "person", "outcome"] ["self", "person", "outcome"] (defScope s_m_Game_chosen) := ⟨rfl, rfl, rfl, by decide +kernel, rfl, by decide +kernel, by decide +kernel⟩
theorem ok_m_Game_chosen {fd : FuncData} (T : Tx K mg) (D : FunD K "chosen" "Game.chosen" (defArgs s_m_Game_chosen) (defBody s_m_Game_chosen) (defScope s_m_Game_chosen) [] [] (He.ma K (He.ga K "Game") "chosen") fd) (F_m_check_player : FnX P w K mg base 1 "check_player" (Prm K (rv K) fun (a : GameO × Int × Unit) => m_check_player a.1 a.2.1)) (F_m_check_outcome : FnX P w K mg base 1 "check_outcome" (Prm K (rv K) fun (a : GameO × Int × Unit) => m_check_outcome a.1 a.2.1)) : FnR P w K mg base (L2.CX P w) 2 (He.ma K (He.ga K "Game") "chosen") (Prm K (rv K) fun (a : GameO × Int × Int × Unit) => m_Game_chosen a.1 a.2.1 a.2.2.1) := by
  refine fnr_of (k := 1) D sc_m_Game_chosen (by decide) rfl (fun _ _ _ _ _ _ us hl => match us, hl with | [_, _, _], _ => rfl) (fun cdv A' outer s H E hr => ⟨_, (pss_cons (ps_expr (pe_fn F_m_check_player (hr.mono (by decide)) (by rfl) (fun σ => passAt (takes_of rfl rfl rfl rfl) σ) (pa_cons (pv 0) (pa_cons (pv 1) pa_nil)))) (pss_cons (ps_expr (pe_fn F_m_check_outcome (hr.mono (by decide)) (by rfl) (fun σ => passAt (takes_of rfl rfl rfl rfl) σ) (pa_cons (pv 0) (pa_cons (pv 2) pa_nil)))) (pss_one (ps_ret (pe_op op_mod (pe_op op_fdivW (pv 2) (pe_ix (ixL K) (peFld K (pv 0)) (pv 1) (fun _ _ => rfl))) (pe_ix (ixL K) (peFld K (pv 0)) (pv 1) (fun _ _ => rfl))))))), ?_⟩)
  intro a
  rw [m_Game_chosen]
  exact (gs_seq (gs_expr (gv_callS (ga_cons (gv_var 0) (ga_cons (gv_var 1) ga_nil))) (fun x1 => (gs_seq (gs_expr (gv_callS (ga_cons (gv_var 0) (ga_cons (gv_var 2) ga_nil))) (fun x2 => (gs_ret (gv_op q2_mod (gv_op q2_div (gv_var 2) (gv_op q2_ix (Gv.lv (gv_fld GameO.f__steps T.c_Game T.n_Game__steps (gv_var 0))) (gv_var 1))) (gv_op q2_ix (Gv.lv (gv_fld GameO.f__choices T.c_Game T.n_Game__choices (gv_var 0))) (gv_var 1))))))))))
@[irreducible] def m_Game_pay (a0 : GameO) (a1 : Int) (a2 : Int) : R Int := (R.bind (m_check_player a0 a1) fun x1 => (R.bind (m_check_outcome a0 a2) fun x2 => (R.bind (ixQ a0.pays a1) fun r3 => (ixQ r3 a2))))
abbrev s_m_Game_pay : Stmt := inClass (top 28) 3
theorem sc_m_Game_pay : FnScope ["self", "person", "outcome"] ["self", "person", "outcome"] (defScope s_m_Game_pay) := ⟨rfl, rfl, rfl, by decide +kernel, rfl, by decide +kernel, by decide +kernel⟩
theorem ok_m_Game_pay {fd : FuncData} (T : Tx K mg) (D : FunD K "pay" "Game.pay" (defArgs s_m_Game_pay) (defBody s_m_Game_pay) (defScope s_m_Game_pay) [] [] (He.ma K (He.ga K "Game") "pay") fd) (F_m_check_player : FnX P w K mg base 1 "check_player" (Prm K (rv K) fun (a : GameO × Int × Unit) => m_check_player a.1 a.2.1)) (F_m_check_outcome : FnX P w K mg base 1 "check_outcome" (Prm K (rv K) fun (a : GameO × Int × Unit) => m_check_outcome a.1 a.2.1)) : FnR P w K mg base (L2.CX P w) 2 (He.ma K (He.ga K "Game") "pay") (Prm K (rv K) fun (a : GameO × Int × Int × Unit) => m_Game_pay a.1 a.2.1 a.2.2.1) := by
  refine fnr_of (k := 1) D sc_m_Game_pay (by decide) rfl (fun _ _ _ _ _ _ us hl => match us, hl with | [_, _, _], _ => rfl) (fun cdv A' outer s H E hr => ⟨_, (pss_cons (ps_expr (pe_fn F_m_check_player (hr.mono (by decide)) (by rfl) (fun σ => passAt (takes_of rfl rfl rfl rfl) σ) (pa_cons (pv 0) (pa_cons (pv 1) pa_nil)))) (pss_cons (ps_expr (pe_fn F_m_check_outcome (hr.mono (by decide)) (by rfl) (fun σ => passAt (takes_of rfl rfl rfl rfl) σ) (pa_cons (pv 0) (pa_cons (pv 2) pa_nil)))) (pss_one (ps_ret (pe_ix (ixL K) (pe_ix (ixL K) (peFld K (pv 0)) (pv 1) (fun _ _ => rfl)) (pv 2) (fun _ _ => rfl)))))), ?_⟩)
  intro a
  rw [m_Game_pay]
  exact (gs_seq (gs_expr (gv_callS (ga_cons (gv_var 0) (ga_cons (gv_var 1) ga_nil))) (fun x1 => (gs_seq (gs_expr (gv_callS (ga_cons (gv_var 0) (ga_cons (gv_var 2) ga_nil))) (fun x2 => (gs_ret (gv_op q2_ix (Gv.lv (gv_op q2_ix (Gv.lv (gv_fld GameO.f__pays T.c_Game T.n_Game__pays (gv_var 0))) (gv_var 1))) (gv_var 2)))))))))
@[irreducible] def m_Game_switched (a0 : GameO) (a1 : Int) (a2 : Int) (a3 : Int) : R Int := (R.bind (m_Game_chosen a0 a1 a2) fun v_before_1 => (R.bind (m_check_choice a0 a1 a3) fun x2 => (R.bind (R.bind (ixQ a0.steps a1) fun r3 => (mulQ (a3 - v_before_1) r3)) fun r4 => (.ok (a2 + r4)))))
abbrev s_m_Game_switched : Stmt := inClass (top 28) 4
theorem sc_m_Game_switched : FnScope ["self", "person", "outcome", "choice", "before"] ["self", "person", "outcome", "choice"] (defScope s_m_Game_switched) := ⟨rfl, rfl, rfl, by decide +kernel, rfl, by decide +kernel, by decide +kernel⟩
theorem ok_m_Game_switched {fd : FuncData} (T : Tx K mg) (D : FunD K "switched" "Game.switched" (defArgs s_m_Game_switched) (defBody s_m_Game_switched) (defScope s_m_Game_switched) [] [] (He.ma K (He.ga K "Game") "switched") fd) (F_m_Game_chosen : MtX P w K mg base 2 "Game" "chosen" (Prm K (rv K) fun (a : GameO × Int × Int × Unit) => m_Game_chosen a.1 a.2.1 a.2.2.1)) (F_m_check_choice : FnX P w K mg base 2 "check_choice" (Prm K (rv K) fun (a : GameO × Int × Int × Unit) => m_check_choice a.1 a.2.1 a.2.2.1)) : FnR P w K mg base (L2.CX P w) 3 (He.ma K (He.ga K "Game") "switched") (Prm K (rv K) fun (a : GameO × Int × Int × Int × Unit) => m_Game_switched a.1 a.2.1 a.2.2.1 a.2.2.2.1) := by
  refine fnr_of (k := 2) D sc_m_Game_switched (by decide) rfl (fun _ _ _ _ _ _ us hl => match us, hl with | [_, _, _, _], _ => rfl) (fun cdv A' outer s H E hr => ⟨_, (pss_cons (ps_set (i := 4) sc_m_Game_switched.nd rfl (Or.inl rfl) (peMth K (pv 0) F_m_Game_chosen (hr.mono (by decide)) (fun σ => passAt (takes_of rfl rfl rfl rfl) σ) (pa_cons (pv 1) (pa_cons (pv 2) pa_nil)))) (pss_cons (ps_expr (pe_fn F_m_check_choice (hr.mono (by decide)) (by rfl) (fun σ => passAt (takes_of rfl rfl rfl rfl) σ) (pa_cons (pv 0) (pa_cons (pv 1) (pa_cons (pv 3) pa_nil))))) (pss_one (ps_ret (pe_op op_add (pv 2) (pe_op op_mulW (pe_op op_sub (pv 3) (pv 4)) (pe_ix (ixL K) (peFld K (pv 0)) (pv 1) (fun _ _ => rfl)))))))), ?_⟩)
  intro a
  rw [m_Game_switched]
  exact (gs_seq (gs_asg (gv_mth GameO.obj (by decide +kernel) (gv_var 0) (ga_cons (gv_var 1) (ga_cons (gv_var 2) ga_nil))) (fun v_before_1 => (gs_seq (gs_expr (gv_callS (ga_cons (gv_var 0) (ga_cons (gv_var 1) (ga_cons (gv_var 3) ga_nil)))) (fun x2 => (gs_ret (gv_op o2_add (gv_var 2) (gv_op q2_mul (gv_op o2_sub (gv_var 3) (gv_var 4)) (gv_op q2_ix (Gv.lv (gv_fld GameO.f__steps T.c_Game T.n_Game__steps (gv_var 0))) (gv_var 1)))))))))))
@[irreducible] def m_check_weights (a0 : GameO) (a1 : (List (List (List (Int × Int))))) : R Unit := (R.bind (.ok (!decide ((a1.length : Int) = a0.people))) fun b23 => if b23 = true then (.ex ⟨"BadRow", []⟩) else (R.bind (R.bind (m_Game_choices a0) fun r1 => (.ok (List.zip a1 r1))) fun xs22 => forC xs22 (fun (s2 : Unit) (x3 : ((List (List (Int × Int))) × Int)) kn4 kb5 => (R.bind (.ok (!decide ((x3.1.length : Int) = x3.2))) fun b20 => if b20 = true then (.ex ⟨"BadRow", []⟩) else (R.bind (.ok x3.1) fun xs19 => forC xs19 (fun (s6 : Unit) (x7 : (List (Int × Int))) kn8 kb9 => (R.bind (.ok (!decide ((x7.length : Int) = x3.2))) fun b17 => if b17 = true then (.ex ⟨"BadRow", []⟩) else (R.bind (.ok x7) fun xs16 => forC xs16 (fun (s10 : Unit) (x11 : (Int × Int)) kn12 kb13 => (R.bind (.ok (decide (x11.1 < (0 : Int)))) fun b14 => if b14 = true then (.ex ⟨"BadRow", []⟩) else (kn12 ()))) (fun (s15 : Unit) => (kn8 ())) ()))) (fun (s18 : Unit) => (kn4 ())) ()))) (fun (s21 : Unit) => (.ok ())) ()))
abbrev s_m_check_weights : Stmt := top 30
theorem sc_m_check_weights : FnScope ["game", "weights", "table", "many", "row", "n", "_"] ["game", "weights"] (defScope s_m_check_weights) := ⟨rfl, rfl, rfl, by decide +kernel, rfl, by decide +kernel, by decide +kernel⟩
theorem ok_m_check_weights {fd : FuncData} (T : Tx K mg) (D : FunD K "check_weights" "check_weights" (defArgs s_m_check_weights) (defBody s_m_check_weights) (defScope s_m_check_weights) [] [] (He.ga K "check_weights") fd) (F_m_Game_choices : MtX P w K mg base 1 "Game" "choices" (Prm K (ro K) fun (a : GameO × Unit) => m_Game_choices a.1)) : FnX P w K mg base 2 "check_weights" (Prm K (rv K) fun (a : GameO × (List (List (List (Int × Int)))) × Unit) => m_check_weights a.1 a.2.1) := by
  refine ⟨fnr_of (k := 1) D sc_m_check_weights (by decide) rfl (fun _ _ _ _ _ _ us hl => match us, hl with | [_, _], _ => rfl) (fun cdv A' outer s H E hr => ⟨_, (pss_cons (ps_if (pt_cmpR op_ne (pe_callB (crLen K) (by rfl) T.g_len PySem.boot_len (pa_cons (pv 1) pa_nil)) (peFld K (pv 0)) (nomark _)) (pss_one (ps_raise rfl (takes_of rfl rfl rfl rfl) (pmk_own PySem.F.excBase_ValueError T.x_BadRow T.g_BadRow T.k_BadRow (raises_own T.b_BadRow T.t_BadRow) (by rfl)))) pss_nil) (pss_one (ps_for (passes_of rfl) rfl (piZip K (by rfl) T.g_zip (pa_cons (pv 1) (pa_cons (peMth0 K (pv 0) F_m_Game_choices (hr.mono (by decide)) (fun σ => passAt (takes_of rfl rfl rfl rfl) σ)) pa_nil))) (pgTup K rfl (pgs_cons (pg_name (i := 2) sc_m_check_weights.nd rfl (Or.inl rfl)) (pgs_cons (pg_name (i := 3) sc_m_check_weights.nd rfl (Or.inl rfl)) pgs_nil))) (pss_cons (ps_if (pt_cmpR op_ne (pe_callB (crLen K) (by rfl) T.g_len PySem.boot_len (pa_cons (pv 2) pa_nil)) (pv 3) (nomark _)) (pss_one (ps_raise rfl (takes_of rfl rfl rfl rfl) (pmk_own PySem.F.excBase_ValueError T.x_BadRow T.g_BadRow T.k_BadRow (raises_own T.b_BadRow T.t_BadRow) (by rfl)))) pss_nil) (pss_one (ps_for (passes_of rfl) rfl (piList K (pv 2)) (pg_name (i := 4) sc_m_check_weights.nd rfl (Or.inl rfl)) (pss_cons (ps_if (pt_cmpR op_ne (pe_callB (crLen K) (by rfl) T.g_len PySem.boot_len (pa_cons (pv 4) pa_nil)) (pv 3) (nomark _)) (pss_one (ps_raise rfl (takes_of rfl rfl rfl rfl) (pmk_own PySem.F.excBase_ValueError T.x_BadRow T.g_BadRow T.k_BadRow (raises_own T.b_BadRow T.t_BadRow) (by rfl)))) pss_nil) (pss_one (ps_for (passes_of rfl) rfl (piList K (pv 4)) (pgTup K rfl (pgs_cons (pg_name (i := 5) sc_m_check_weights.nd rfl (Or.inl rfl)) (pgs_cons (pg_name (i := 6) sc_m_check_weights.nd rfl (Or.inl rfl)) pgs_nil))) (pss_one (ps_if (pt_cmpR op_lt (pv 5) pe_int (nomark _)) (pss_one (ps_raise rfl (takes_of rfl rfl rfl rfl) (pmk_own PySem.F.excBase_ValueError T.x_BadRow T.g_BadRow T.k_BadRow (raises_own T.b_BadRow T.t_BadRow) (by rfl)))) pss_nil))))))))))), ?_⟩), D.kp, T.g_check_weights⟩
  intro a
  rw [m_check_weights]
  exact (gs_seq (gs_if (gt_test (gv_op o2_ne (gv_cb1 o1_len (Gv.lv (gv_var 1))) (gv_fld GameO.f_people T.c_Game T.n_Game_people (gv_var 0)))) (gs_raise (W := WF E) (fun _ _ _ _ => rfl) rfl) (gs_next (gs_for (S := Unit) (fun s2 => [sv a.1, sv a.2.1, .any, .any, .any, .any, .any]) () (gi_zip (gv_var 1) (Gv.fr (gv_mth GameO.obj (by decide +kernel) (gv_var 0) ga_nil))) (gg_pair (gg_name 2) (gg_name 3)) (.r (.r (.r (.r (.r (.r (.r .nil))))))) (fun s2 x3 kn4 kb5 => (gs_seq (gs_if (gt_test (gv_op o2_ne (gv_cb1 o1_len (Gv.lv (gv_var 2))) (gv_var 3))) (gs_raise (W := WF E) (fun _ _ _ _ => rfl) rfl) (gs_next (gs_for (S := Unit) (fun s6 => [sv a.1, sv a.2.1, sv x3.1, sv x3.2, .any, .any, .any]) () (gi_list (gv_var 2)) (gg_name 4) (.r (.r (.r (.r (.r (.r (.r .nil))))))) (fun s6 x7 kn8 kb9 => (gs_seq (gs_if (gt_test (gv_op o2_ne (gv_cb1 o1_len (Gv.lv (gv_var 4))) (gv_var 3))) (gs_raise (W := WF E) (fun _ _ _ _ => rfl) rfl) (gs_next (gs_for (S := Unit) (fun s10 => [sv a.1, sv a.2.1, sv x3.1, sv x3.2, sv x7, .any, .any]) () (gi_list (gv_var 4)) (gg_pair (gg_name 5) (gg_name 6)) (.r (.r (.r (.r (.r (.r (.r .nil))))))) (fun s10 x11 kn12 kb13 => (gs_if (gt_test (gv_op o2_lt (gv_var 5) gv_int)) (gs_raise (W := WF E) (fun _ _ _ _ => rfl) rfl) (gs_next ⟨(), (.r (.r (.r (.r (.r (.a (.a .nil))))))), rfl⟩))) (fun s15 => ⟨(), (.r (.r (.r (.r (.a (.r (.r .nil))))))), rfl⟩)))))) (fun s18 => ⟨(), (.r (.r (.a (.a (.r (.r (.r .nil))))))), rfl⟩)))))) (fun s21 => ⟨(), rfl, fun _ _ _ => rfl⟩)))))
@[irreducible] def m_gains (a0 : GameO) (a1 : (List (List (List (Int × Int))))) : R (List (Int × Int)) := (R.bind (m_check_weights a0 a1) fun x1 => (R.bind (.ok ([] : List (Int × Int))) fun v_told_2 => (R.bind (rangeQ 0 a0.outcomes) fun xs29 => forC xs29 (fun (s3 : (List (Int × Int))) (x4 : Int) kn5 kb6 => (R.bind (.ok ([] : List (Int × Int))) fun v_parts_7 => (R.bind (rangeQ 0 a0.people) fun xs27 => forC xs27 (fun (s8 : (List (Int × Int))) (x9 : Int) kn10 kb11 => (R.bind (m_Game_pay a0 x9 x4) fun v_before_12 => (R.bind (R.bind (R.bind (ixQ a1 x9) fun r13 => (R.bind (m_Game_chosen a0 x9 x4) fun r14 => (ixQ r13 r14))) fun r15 => (.ok (enumL r15))) fun xs24 => forC xs24 (fun (s16 : (List (Int × Int))) (x17 : (Int × (Int × Int))) kn18 kb19 => (R.bind (R.bind (m_Game_switched a0 x9 x4 x17.1) fun r20 => (m_Game_pay a0 x9 r20)) fun v_after_21 => (R.bind (m_times [x17.2, ((v_after_21 - v_before_12), (1 : Int))]) fun x22 => R.chk (s16.length < 100000) (kn18 ((s16 ++ [x22])))))) (fun (s23 : (List (Int × Int))) => (kn10 (s23))) (s8)))) (fun (s25 : (List (Int × Int))) => (R.bind (m_plus s25) fun x26 => R.chk (s3.length < 100000) (kn5 ((s3 ++ [x26]))))) (v_parts_7)))) (fun (s28 : (List (Int × Int))) => (.ok s28)) (v_told_2))))
abbrev s_m_gains : Stmt := top 31
theorem sc_m_gains : FnScope ["game", "weights", "told", "outcome", "parts", "person", "before", "choice", "weight", "after"] ["game", "weights"] (defScope s_m_gains) := ⟨rfl, rfl, rfl, by decide +kernel, rfl, by decide +kernel, by decide +kernel⟩
theorem ok_m_gains {fd : FuncData} (T : Tx K mg) (D : FunD K "gains" "gains" (defArgs s_m_gains) (defBody s_m_gains) (defScope s_m_gains) [] [] (He.ga K "gains") fd) (F_m_check_weights : FnX P w K mg base 2 "check_weights" (Prm K (rv K) fun (a : GameO × (List (List (List (Int × Int)))) × Unit) => m_check_weights a.1 a.2.1)) (F_m_Game_pay : MtX P w K mg base 2 "Game" "pay" (Prm K (rv K) fun (a : GameO × Int × Int × Unit) => m_Game_pay a.1 a.2.1 a.2.2.1)) (F_m_Game_chosen : MtX P w K mg base 2 "Game" "chosen" (Prm K (rv K) fun (a : GameO × Int × Int × Unit) => m_Game_chosen a.1 a.2.1 a.2.2.1)) (F_m_Game_switched : MtX P w K mg base 3 "Game" "switched" (Prm K (rv K) fun (a : GameO × Int × Int × Int × Unit) => m_Game_switched a.1 a.2.1 a.2.2.1 a.2.2.2.1)) (F_m_times : FnX P w K mg base 2 "times" (PrmS K (rv K) m_times)) (F_m_plus : FnX P w K mg base 2 "plus" (PrmS K (rv K) m_plus)) : FnX P w K mg base 4 "gains" (Prm K (ro K) fun (a : GameO × (List (List (List (Int × Int)))) × Unit) => m_gains a.1 a.2.1) := by
  refine ⟨fnr_of (k := 3) D sc_m_gains (by decide) rfl (fun _ _ _ _ _ _ us hl => match us, hl with | [_, _], _ => rfl) (fun cdv A' outer s H E hr => ⟨_, (pss_cons (ps_expr (pe_fn F_m_check_weights (hr.mono (by decide)) (by rfl) (fun σ => passAt (takes_of rfl rfl rfl rfl) σ) (pa_cons (pv 0) (pa_cons (pv 1) pa_nil)))) (pss_cons (ps_set (i := 2) sc_m_gains.nd rfl (Or.inl rfl) (pe_lst pa_nil)) (pss_cons (ps_for (passes_of rfl) rfl (pi_range1 (by rfl) T.g_range (pa_cons (peFld K (pv 0)) pa_nil)) (pg_name (i := 3) sc_m_gains.nd rfl (Or.inl rfl)) (pss_cons (ps_set (i := 4) sc_m_gains.nd rfl (Or.inl rfl) (pe_lst pa_nil)) (pss_cons (ps_for (passes_of rfl) rfl (pi_range1 (by rfl) T.g_range (pa_cons (peFld K (pv 0)) pa_nil)) (pg_name (i := 5) sc_m_gains.nd rfl (Or.inl rfl)) (pss_cons (ps_set (i := 6) sc_m_gains.nd rfl (Or.inl rfl) (peMth K (pv 0) F_m_Game_pay (hr.mono (by decide)) (fun σ => passAt (takes_of rfl rfl rfl rfl) σ) (pa_cons (pv 5) (pa_cons (pv 3) pa_nil)))) (pss_one (ps_for (passes_of rfl) rfl (piEnum K (by rfl) T.g_enumerate (pa_cons (pe_ix (ixL K) (pe_ix (ixL K) (pv 1) (pv 5) (fun _ _ => rfl)) (peMth K (pv 0) F_m_Game_chosen (hr.mono (by decide)) (fun σ => passAt (takes_of rfl rfl rfl rfl) σ) (pa_cons (pv 5) (pa_cons (pv 3) pa_nil))) (fun _ _ => rfl)) pa_nil)) (pgTup K rfl (pgs_cons (pg_name (i := 7) sc_m_gains.nd rfl (Or.inl rfl)) (pgs_cons (pg_name (i := 8) sc_m_gains.nd rfl (Or.inl rfl)) pgs_nil))) (pss_cons (ps_set (i := 9) sc_m_gains.nd rfl (Or.inl rfl) (peMth K (pv 0) F_m_Game_pay (hr.mono (by decide)) (fun σ => passAt (takes_of rfl rfl rfl rfl) σ) (pa_cons (pv 5) (pa_cons (peMth K (pv 0) F_m_Game_switched (hr.mono (by decide)) (fun σ => passAt (takes_of rfl rfl rfl rfl) σ) (pa_cons (pv 5) (pa_cons (pv 3) (pa_cons (pv 7) pa_nil)))) pa_nil)))) (pss_one (ps_expr (pe_bm PySem.F.plainAttrs_list PySem.F.slot_list_append PySem.F.type_list_append mt_append (pv 4) (pa_cons (pe_fn F_m_times (hr.mono (by decide)) (by rfl) (fun σ => passAt (takes_of rfl rfl rfl rfl) σ) (pa_cons (pv 8) (pa_cons (pe_tup (pa_cons (pe_op op_sub (pv 9) (pv 6)) (pa_cons pe_int pa_nil))) pa_nil))) pa_nil))))))))) (pss_one (ps_expr (pe_bm PySem.F.plainAttrs_list PySem.F.slot_list_append PySem.F.type_list_append mt_append (pv 2) (pa_cons (peFnS K F_m_plus (hr.mono (by decide)) (by rfl) (fun σ => passAt (takes_of rfl rfl rfl rfl) σ) (pv 4)) pa_nil))))))) (pss_one (ps_ret (pv 2)))))), ?_⟩), D.kp, T.g_gains⟩
  intro a
  rw [m_gains]
  exact (gs_seq (gs_expr (gv_callS (ga_cons (gv_var 0) (ga_cons (gv_var 1) ga_nil))) (fun x1 => (gs_seq (gs_asgO (gv_lst gs_nil) (fun v_told_2 => (gs_seq (gs_for (S := (List (Int × Int))) (fun s3 => [sv a.1, sv a.2.1, so s3, .any, .any, .any, .any, .any, .any, .any]) (v_told_2) (qi_range1 (live := false) (gv_fld GameO.f_outcomes T.c_Game T.n_Game_outcomes (gv_var 0))) (gg_name 3) (.r (.r (.r (.r (.r (.r (.r (.r (.r (.r .nil)))))))))) (fun s3 x4 kn5 kb6 => (gs_seq (gs_asgO (gv_lst gs_nil) (fun v_parts_7 => (gs_seq (gs_for (S := (List (Int × Int))) (fun s8 => [sv a.1, sv a.2.1, so s3, sv x4, so s8, .any, .any, .any, .any, .any]) (v_parts_7) (qi_range1 (live := false) (gv_fld GameO.f_people T.c_Game T.n_Game_people (gv_var 0))) (gg_name 5) (.r (.r (.r (.r (.r (.r (.r (.r (.r (.r .nil)))))))))) (fun s8 x9 kn10 kb11 => (gs_seq (gs_asg (gv_mth GameO.obj (by decide +kernel) (gv_var 0) (ga_cons (gv_var 5) (ga_cons (gv_var 3) ga_nil))) (fun v_before_12 => (gs_for (S := (List (Int × Int))) (fun s16 => [sv a.1, sv a.2.1, so s3, sv x4, so s16, sv x9, sv v_before_12, .any, .any, .any]) (s8) (gi_enum (gv_op q2_ix (Gv.lv (gv_op q2_ix (Gv.lv (gv_var 1)) (gv_var 5))) (gv_mth GameO.obj (by decide +kernel) (gv_var 0) (ga_cons (gv_var 5) (ga_cons (gv_var 3) ga_nil))))) (gg_pair (gg_name 7) (gg_name 8)) (.r (.r (.r (.r (.r (.r (.r (.r (.r (.r .nil)))))))))) (fun s16 x17 kn18 kb19 => (gs_seq (gs_asg (gv_mth GameO.obj (by decide +kernel) (gv_var 0) (ga_cons (gv_var 5) (ga_cons (gv_mth GameO.obj (by decide +kernel) (gv_var 0) (ga_cons (gv_var 5) (ga_cons (gv_var 3) (ga_cons (gv_var 7) ga_nil)))) ga_nil))) (fun v_after_21 => (gs_append (n := 4) rfl (gv_callSV (gs_cons (gv_var 8) (gs_cons (gv_pair (gv_op o2_sub (gv_var 9) (gv_var 6)) gv_int) gs_nil))) (fun x22 => ⟨((s16 ++ [x22])), (.r (.r (.r (.r (.r (.r (.r (.a (.a (.a .nil)))))))))), rfl⟩)))))) (fun s23 => ⟨(s23), (.r (.r (.r (.r (.r (.a (.a (.r (.r (.r .nil)))))))))), rfl⟩)))))) (fun s25 => (gs_append (n := 2) rfl (gv_starS (gv_own 4)) (fun x26 => ⟨((s3 ++ [x26])), (.r (.r (.r (.a (.a (.r (.r (.r (.r (.r .nil)))))))))), rfl⟩))))))))) (fun s28 => (gs_retOwn 2))))))))))
@[irreducible] def m_refuted (a0 : GameO) (a1 : (List (List (List (Int × Int))))) : R Int := (R.bind (R.bind (m_gains a0 a1) fun r2 => (comp r2 (fun (x1 : (Int × Int)) => (.ok (decide (x1.1 ≤ (0 : Int))))))) fun r3 => (indexQ r3 true))
abbrev s_m_refuted : Stmt := top 32
theorem sc_m_refuted : FnScope ["game", "weights", "n", "_"] ["game", "weights"] (defScope s_m_refuted) := ⟨rfl, rfl, rfl, by decide +kernel, rfl, by decide +kernel, by decide +kernel⟩
theorem ok_m_refuted {fd : FuncData} (T : Tx K mg) (D : FunD K "refuted" "refuted" (defArgs s_m_refuted) (defBody s_m_refuted) (defScope s_m_refuted) [] [] (He.ga K "refuted") fd) (F_m_gains : FnX P w K mg base 4 "gains" (Prm K (ro K) fun (a : GameO × (List (List (List (Int × Int)))) × Unit) => m_gains a.1 a.2.1)) : FnX P w K mg base 5 "refuted" (Prm K (rv K) fun (a : GameO × (List (List (List (Int × Int)))) × Unit) => m_refuted a.1 a.2.1) := by
  refine ⟨fnr_of (k := 4) D sc_m_refuted (by decide) rfl (fun _ _ _ _ _ _ us hl => match us, hl with | [_, _], _ => rfl) (fun cdv A' outer s H E hr => ⟨_, (pss_one (ps_ret (pe_bm PySem.F.plainAttrs_list PySem.F.slot_list_index PySem.F.type_list_index (mtIndex K) (pe_lc (own := [("n", 2), ("_", 3)]) (g := gTup K 2 (gCons (gName 2) (gCons (gName 3) gNil))) rfl sc_m_refuted.nd (piList K (pe_fn F_m_gains (hr.mono (by decide)) (by rfl) (fun σ => passAt (takes_of rfl rfl rfl rfl) σ) (pa_cons (pv 0) (pa_cons (pv 1) pa_nil)))) (blkOk_by (N := ["game", "weights", "n", "_"]) (sc := (defScope s_m_refuted)) (by decide +kernel)) (fun _ _ _ _ _ => (pgTup K rfl (pgs_cons (pg_name (i := 2) sc_m_refuted.nd rfl (Or.inl rfl)) (pgs_cons (pg_name (i := 3) sc_m_refuted.nd rfl (Or.inl rfl)) pgs_nil)))) (fun _ _ _ _ _ => pts_nil) (fun _ _ _ _ _ => (pe_cmpR op_le (pv 2) pe_int (nomark _)))) (pa_cons pe_bl pa_nil)))), ?_⟩), D.kp, T.g_refuted⟩
  intro a
  rw [m_refuted]
  exact (gs_ret (qv_index (Gv.lo (gv_lc (gi_list (Gv.fr (gv_callS (ga_cons (gv_var 0) (ga_cons (gv_var 1) ga_nil))))) (gg_pair (gg_name 2) (gg_name 3)) (by decide) (any2 rfl rfl) (fun _ => Gv.nx (gv_op o2_le (gv_var 2) gv_int)))) gv_bl))
@[irreducible] def m_left_out (a0 : (List (List Int))) : R (T3 (List (List Int)) Int Int) := (R.bind (comp a0 (fun (x1 : (List Int)) => (.ok x1))) fun v_rows_2 => (R.bind (.ok ((v_rows_2.length : Int) - (1 : Int))) fun v_last_3 => (R.bind (.ok (1 : Int)) fun v_scale_4 => (whileW (a0.length + 1) (fun (s5 : (List (List Int)) × Int × Int) kn6 kb7 => (R.bind (.ok (decide ((0 : Int) < s5.2.2))) fun b33 => if b33 = true then (R.bind (R.bind (R.bind (ixQ s5.1 s5.2.2) fun r8 => (.ok (cutL r8 none (some s5.2.2)))) fun r9 => (.ok r9.sum)) fun v_out_10 => R.bind (R.bind (.ok (0 : Int)) fun y => .ok (decide (y < v_out_10))) fun b34 => if b34 = true then (R.bind (R.bind (ixQ s5.1 s5.2.2) fun r11 => (.ok (cutL r11 none (some s5.2.2)))) fun v_back_12 => (R.bind (rangeQ 0 s5.2.2) fun xs31 => forC xs31 (fun (s13 : (List (List Int))) (x14 : Int) kn15 kb16 => (R.bind (ixQ s13 x14) fun v_row_17 => (R.bind (ixQ v_row_17 s5.2.2) fun v_toward_18 => (R.bind (R.bind (comp (List.zip v_row_17 v_back_12) (fun (x19 : (Int × Int)) => (R.bind (R.bind (mulQ x19.1 v_out_10) fun r20 => (R.bind (mulQ v_toward_18 x19.2) fun r21 => (.ok (r20 + r21)))) fun r22 => (divQ r22 s5.2.1)))) fun r23 => (catQ r23 (cutL v_row_17 (some s5.2.2) none))) fun x24 => R.bind (.ok x14) fun i25 => R.bind (setQ s13 i25 x24) fun v_rows_26 => (kn15 (v_rows_26)))))) (fun (s27 : (List (List Int))) => (R.bind (.ok v_out_10) fun v_scale_28 => (R.bind (.ok (1 : Int)) fun y29 => (fun v_last_30 => (kn6 (s27, v_scale_28, v_last_30))) (s5.2.2 - y29)))) (s5.1))) else (kb7 (s5.1, s5.2.1, s5.2.2))) else (kb7 (s5.1, s5.2.1, s5.2.2)))) (fun (s32 : (List (List Int)) × Int × Int) => (.ok (T3.mk s32.1 s32.2.2 s32.2.1))) (v_rows_2, v_scale_4, v_last_3)))))
abbrev s_m_left_out : Stmt := top 34
theorem sc_m_left_out : FnScope ["rates", "rows", "last", "scale", "back", "state", "row", "toward", "out", "n", "m"] ["rates"] (defScope s_m_left_out) := ⟨rfl, rfl, rfl, by decide +kernel, rfl, by decide +kernel, by decide +kernel⟩
theorem ok_m_left_out {fd : FuncData} (T : Tx K mg) (D : FunD K "left_out" "left_out" (defArgs s_m_left_out) (defBody s_m_left_out) (defScope s_m_left_out) [] [] (He.ga K "left_out") fd) : FnX P w K mg base 1 "left_out" (Prm K (rv K) fun (a : (List (List Int)) × Unit) => m_left_out a.1) := by
  refine ⟨fnr_of (k := 0) D sc_m_left_out (by decide) rfl (fun _ _ _ _ _ _ us hl => match us, hl with | [_], _ => rfl) (fun cdv A' outer s H E hr => ⟨_, (pss_cons (ps_setLc (i := 1) (own := [("row", 6)]) (g := gName 6) rfl sc_m_left_out.nd rfl rfl (sw_true rfl rfl rfl (by decide +kernel)) (piList K (pv 0)) (blkOk_by (N := ["rates", "rows", "last", "scale", "back", "state", "row", "toward", "out", "n", "m"]) (sc := (defScope s_m_left_out)) (by decide +kernel)) (fun _ _ _ _ _ => (pg_name (i := 6) sc_m_left_out.nd rfl (Or.inl rfl))) (fun _ _ _ _ _ => pts_nil) (fun _ _ _ _ _ => (pe_callTy (crList K) (by rfl) T.g_list (by decide +kernel) (pa_cons (pv 6) pa_nil)))) (pss_cons (ps_set (i := 2) sc_m_left_out.nd rfl (Or.inl rfl) (pe_op op_sub (pe_callB (crLen K) (by rfl) T.g_len PySem.boot_len (pa_cons (pv 1) pa_nil)) pe_int)) (pss_cons (ps_set (i := 3) sc_m_left_out.nd rfl (Or.inr rfl) pe_int) (pss_cons (ps_whileW (passes_of rfl) (ptw_and (pt_cmpR op_gt (pv 2) pe_int (nomark _)) (ptw_cmp op_gt (pew_named (i := 8) sc_m_left_out.nd rfl (Or.inr rfl) (pew_of (pe_callB (crSum K) (by rfl) T.g_sum (by decide +kernel) (pa_cons (pe_slice (slL K) (pe_ix (ixL K) (pv 1) (pv 2) (fun _ _ => rfl)) po_none (po_some (pv 2))) pa_nil)))) pe_int (nomark _))) (pss_cons (ps_set (i := 4) sc_m_left_out.nd rfl (Or.inl rfl) (pe_slice (slL K) (pe_ix (ixL K) (pv 1) (pv 2) (fun _ _ => rfl)) po_none (po_some (pv 2)))) (pss_cons (ps_for (passes_of rfl) rfl (pi_range1 (by rfl) T.g_range (pa_cons (pv 2) pa_nil)) (pg_name (i := 5) sc_m_left_out.nd rfl (Or.inl rfl)) (pss_cons (ps_set (i := 6) sc_m_left_out.nd rfl (Or.inl rfl) (pe_ix (ixL K) (pv 1) (pv 5) (fun _ _ => rfl))) (pss_cons (ps_set (i := 7) sc_m_left_out.nd rfl (Or.inr rfl) (pe_ix (ixL K) (pv 6) (pv 2) (fun _ _ => rfl))) (pss_one (ps_asg (pe_op op_cat (pe_lc (own := [("n", 9), ("m", 10)]) (g := gTup K 2 (gCons (gName 9) (gCons (gName 10) gNil))) rfl sc_m_left_out.nd (piZip K (by rfl) T.g_zip (pa_cons (pv 6) (pa_cons (pv 4) pa_nil))) (blkOk_by (N := ["rates", "rows", "last", "scale", "back", "state", "row", "toward", "out", "n", "m"]) (sc := (defScope s_m_left_out)) (by decide +kernel)) (fun _ _ _ _ _ => (pgTup K rfl (pgs_cons (pg_name (i := 9) sc_m_left_out.nd rfl (Or.inl rfl)) (pgs_cons (pg_name (i := 10) sc_m_left_out.nd rfl (Or.inl rfl)) pgs_nil)))) (fun _ _ _ _ _ => pts_nil) (fun _ _ _ _ _ => (pe_op op_fdivW (pe_op op_add (pe_op op_mulW (pv 9) (pv 8)) (pe_op op_mulW (pv 7) (pv 10))) (pv 3)))) (pe_slice (slL K) (pv 6) (po_some (pv 2)) po_none)) (pg_sub (pv 1) (pv 5) set_list)))))) (pss_cons (ps_set (i := 3) sc_m_left_out.nd rfl (Or.inr rfl) (pv 8)) (pss_one (ps_aug (i := 2) sc_m_left_out.nd rfl (Or.inl rfl) pe_int ip_sub))))) pss_nil) (pss_one (ps_ret (pe_tup (pa_cons (pv 1) (pa_cons (pv 2) (pa_cons (pv 3) pa_nil)))))))))), ?_⟩), D.kp, T.g_left_out⟩
  intro a
  rw [m_left_out]
  exact (gs_seq (gs_asgO (gv_lc (gi_list (gv_var 0)) (gg_name 6) (by decide) (any1 rfl) (fun _ => Gv.nx (Gv.fr (gv_cb1 o1_list (Gv.lv (gv_var 6)))))) (fun v_rows_2 => (gs_seq (gs_asg (gv_op o2_sub (gv_cb1 o1_len (gv_own 1)) gv_int) (fun v_last_3 => (gs_seq (gs_asg gv_int (fun v_scale_4 => (gs_seq (gs_whileW (S := (List (List Int)) × Int × Int) (a.1.length + 1) (fun s5 => [sv a.1, so s5.1, sv s5.2.2, sv s5.2.1, .any, .any, .any, .any, .any, .any, .any]) (v_rows_2, v_scale_4, v_last_3) (.r (.r (.r (.r (.r (.r (.r (.r (.r (.r (.r .nil))))))))))) (fun s5 kn6 kb7 => gw_and (gt_test (gv_op o2_gt (gv_var 2) gv_int)) (gw_cmp o2_gt (gv_cb1 o1_sum (Gv.lo (gv_slice (Gv.lv (gv_op q2_ix (gv_own 1) (gv_var 2))) go_none (go_some (gv_var 2))))) (fun _ => gv_int) (fun v_out_10 => (gs_seq (gs_asg (Gv.fr (gv_slice (Gv.lv (gv_op q2_ix (gv_own 1) (gv_var 2))) go_none (go_some (gv_var 2)))) (fun v_back_12 => (gs_seq (gs_for (S := (List (List Int))) (fun s13 => [sv a.1, so s13, sv s5.2.2, sv s5.2.1, sv v_back_12, .any, .any, .any, sv v_out_10, .any, .any]) (s5.1) (qi_range1 (live := false) (gv_var 2)) (gg_name 5) (.r (.r (.r (.r (.r (.r (.r (.r (.r (.r (.r .nil))))))))))) (fun s13 x14 kn15 kb16 => (gs_seq (gs_asg (gv_op q2_ix (gv_own 1) (gv_var 5)) (fun v_row_17 => (gs_seq (gs_asg (gv_op q2_ix (Gv.lv (gv_var 6)) (gv_var 2)) (fun v_toward_18 => (qs_setitem (n := 1) rfl (Gv.fr (gv_op q2_cat (Gv.lo (gv_lc (gi_zip (gv_var 6) (gv_var 4)) (gg_pair (gg_name 9) (gg_name 10)) (by decide) (any2 rfl rfl) (fun _ => Gv.nx (gv_op q2_div (gv_op o2_add (gv_op q2_mul (gv_var 9) (gv_var 8)) (gv_op q2_mul (gv_var 7) (gv_var 10))) (gv_var 3))))) (Gv.lo (gv_slice (Gv.lv (gv_var 6)) (go_some (gv_var 2)) go_none)))) (gv_var 5) (fun v_rows_26 => ⟨(v_rows_26), (.r (.r (.r (.r (.r (.a (.a (.a (.r (.r (.r .nil))))))))))), rfl⟩))))))))) (fun s27 => (gs_seq (gs_asg (gv_var 8) (fun v_scale_28 => (gs_aug (n := 2) rfl gv_int (κ := fun v_last_30 => (kn6 (s27, v_scale_28, v_last_30))) (fun v_last_30 => ⟨(s27, v_scale_28, v_last_30), (.r (.r (.r (.r (.a (.r (.r (.r (.a (.r (.r .nil))))))))))), rfl⟩)))))))))))) (fun v_out_10 => ⟨(s5.1, s5.2.1, s5.2.2), (.r (.r (.r (.r (.r (.r (.r (.r (.a (.r (.r .nil))))))))))), rfl⟩)) ⟨(s5.1, s5.2.1, s5.2.2), (.r (.r (.r (.r (.r (.r (.r (.r (.r (.r (.r .nil))))))))))), rfl⟩) (fun s32 => (gs_freeze (i := (Ow.list (inferInstance : Py (List Int)))) (xs := s32.1) 1 (gs_ret (gv_tup3 (gv_var 1) (gv_var 2) (gv_var 3))))))))))))))))
@[irreducible] def m_resting (a0 : (List (List Int))) : R (List (Int × Int)) := (R.bind (m_left_out a0) fun x1 => (R.bind (R.bind (repQ ([(0 : Int)] : List Int) x1.b) fun r2 => (catQ r2 ([x1.c] : List Int))) fun v_amounts_3 => (R.bind (rangeQ (x1.b + (1 : Int)) (x1.a.length : Int)) fun xs22 => forC xs22 (fun (s4 : (List Int)) (x5 : Int) kn6 kb7 => (R.bind (R.bind (comp (enumL s4) (fun (x8 : (Int × Int)) => (R.bind (R.bind (ixQ x1.a x8.1) fun r9 => (ixQ r9 x5)) fun r10 => (mulQ x8.2 r10)))) fun r11 => (.ok r11.sum)) fun v_coming_12 => (R.bind (R.bind (R.bind (R.bind (R.bind (R.bind (ixQ x1.a x5) fun r13 => (.ok (cutL r13 none (some x5)))) fun r14 => (.ok r14.sum)) fun r15 => (divQ v_coming_12 r15)) fun r16 => (.ok ([r16] : List Int))) fun r17 => (catQ s4 r17)) fun v_amounts_18 => (kn6 (v_amounts_18))))) (fun (s19 : (List Int)) => (R.bind (.ok s19.sum) fun v_total_20 => (comp s19 (fun (x21 : Int) => (m_ratio x21 v_total_20))))) (v_amounts_3))))
abbrev s_m_resting : Stmt := top 35
theorem sc_m_resting : FnScope ["rates", "rows", "last", "scale", "amounts", "state", "coming", "total", "place", "amount"] ["rates"] (defScope s_m_resting) := ⟨rfl, rfl, rfl, by decide +kernel, rfl, by decide +kernel, by decide +kernel⟩
theorem ok_m_resting {fd : FuncData} (T : Tx K mg) (D : FunD K "resting" "resting" (defArgs s_m_resting) (defBody s_m_resting) (defScope s_m_resting) [] [] (He.ga K "resting") fd) (F_m_left_out : FnX P w K mg base 1 "left_out" (Prm K (rv K) fun (a : (List (List Int)) × Unit) => m_left_out a.1)) (F_m_ratio : FnX P w K mg base 1 "ratio" (Prm K (rv K) fun (a : Int × Int × Unit) => m_ratio a.1 a.2.1)) : FnX P w K mg base 2 "resting" (Prm K (ro K) fun (a : (List (List Int)) × Unit) => m_resting a.1) := by
  refine ⟨fnr_of (k := 1) D sc_m_resting (by decide) rfl (fun _ _ _ _ _ _ us hl => match us, hl with | [_], _ => rfl) (fun cdv A' outer s H E hr => ⟨_, (pss_cons (ps_asg (pe_fn F_m_left_out (hr.mono (by decide)) (by rfl) (fun σ => passAt (takes_of rfl rfl rfl rfl) σ) (pa_cons (pv 0) pa_nil)) (pgTup K rfl (pgs_cons (pg_name (i := 1) sc_m_resting.nd rfl (Or.inr rfl)) (pgs_cons (pg_name (i := 2) sc_m_resting.nd rfl (Or.inl rfl)) (pgs_cons (pg_name (i := 3) sc_m_resting.nd rfl (Or.inl rfl)) pgs_nil))))) (pss_cons (ps_set (i := 4) sc_m_resting.nd rfl (Or.inl rfl) (pe_op op_cat (pe_op op_rep (pe_lst (pa_cons pe_int pa_nil)) (pv 2)) (pe_lst (pa_cons (pv 3) pa_nil)))) (pss_cons (ps_for (passes_of rfl) rfl (pi_range2 (by rfl) T.g_range (pa_cons (pe_op op_add (pv 2) pe_int) (pa_cons (pe_callB (crLen K) (by rfl) T.g_len PySem.boot_len (pa_cons (pv 1) pa_nil)) pa_nil))) (pg_name (i := 5) sc_m_resting.nd rfl (Or.inr rfl)) (pss_cons (ps_set (i := 6) sc_m_resting.nd rfl (Or.inl rfl) (pe_callB (crSum K) (by rfl) T.g_sum (by decide +kernel) (pa_cons (pe_lc (own := [("place", 8), ("amount", 9)]) (g := gTup K 2 (gCons (gName 8) (gCons (gName 9) gNil))) rfl sc_m_resting.nd (piEnum K (by rfl) T.g_enumerate (pa_cons (pv 4) pa_nil)) (blkOk_by (N := ["rates", "rows", "last", "scale", "amounts", "state", "coming", "total", "place", "amount"]) (sc := (defScope s_m_resting)) (by decide +kernel)) (fun _ _ _ _ _ => (pgTup K rfl (pgs_cons (pg_name (i := 8) sc_m_resting.nd rfl (Or.inl rfl)) (pgs_cons (pg_name (i := 9) sc_m_resting.nd rfl (Or.inl rfl)) pgs_nil)))) (fun _ _ _ _ _ => pts_nil) (fun _ _ _ _ _ => (pe_op op_mulW (pv 9) (pe_ix (ixL K) (pe_ix (ixL K) (pv 1) (pv 8) (fun _ _ => rfl)) (pv 5) (fun _ _ => rfl))))) pa_nil))) (pss_one (ps_set (i := 4) sc_m_resting.nd rfl (Or.inl rfl) (pe_op op_cat (pv 4) (pe_lst (pa_cons (pe_op op_fdivW (pv 6) (pe_callB (crSum K) (by rfl) T.g_sum (by decide +kernel) (pa_cons (pe_slice (slL K) (pe_ix (ixL K) (pv 1) (pv 5) (fun _ _ => rfl)) po_none (po_some (pv 5))) pa_nil))) pa_nil))))))) (pss_cons (ps_set (i := 7) sc_m_resting.nd rfl (Or.inr rfl) (pe_callB (crSum K) (by rfl) T.g_sum (by decide +kernel) (pa_cons (pv 4) pa_nil))) (pss_one (ps_ret (pe_lc (own := [("amount", 9)]) (g := gName 9) rfl sc_m_resting.nd (piList K (pv 4)) (blkOk_by (N := ["rates", "rows", "last", "scale", "amounts", "state", "coming", "total", "place", "amount"]) (sc := (defScope s_m_resting)) (by decide +kernel)) (fun _ _ _ _ _ => (pg_name (i := 9) sc_m_resting.nd rfl (Or.inl rfl))) (fun _ _ _ _ _ => pts_nil) (fun _ _ _ _ _ => (pe_fn F_m_ratio (hr.mono (by decide)) (by rfl) (fun σ => passAt takes0 σ) (pa_cons (pv 9) (pa_cons (pv 7) pa_nil))))))))))), ?_⟩), D.kp, T.g_resting⟩
  intro a
  rw [m_resting]
  exact (gs_seq (gs_asgT (gg_tup3 (gg_name 1) (gg_name 2) (gg_name 3)) (gv_callS (ga_cons (gv_var 0) ga_nil)) (fun x1 => (gs_seq (gs_asg (Gv.fr (gv_op q2_cat (Gv.lo (gv_op q2_rep (Gv.lo (gv_lst (gs_cons gv_int gs_nil))) (gv_var 2))) (Gv.lo (gv_lst (gs_cons (gv_var 3) gs_nil))))) (fun v_amounts_3 => (gs_seq (gs_for (S := (List Int)) (fun s4 => [sv a.1, sv x1.a, sv x1.b, sv x1.c, sv s4, .any, .any, .any, .any, .any]) (v_amounts_3) (qi_range2 (live := false) (gv_op o2_add (gv_var 2) gv_int) (gv_cb1 o1_len (Gv.lv (gv_var 1)))) (gg_name 5) (.r (.r (.r (.r (.r (.r (.r (.r (.r (.r .nil)))))))))) (fun s4 x5 kn6 kb7 => (gs_seq (gs_asg (gv_cb1 o1_sum (Gv.lo (gv_lc (gi_enum (gv_var 4)) (gg_pair (gg_name 8) (gg_name 9)) (by decide) (any2 rfl rfl) (fun _ => Gv.nx (gv_op q2_mul (gv_var 9) (gv_op q2_ix (Gv.lv (gv_op q2_ix (Gv.lv (gv_var 1)) (gv_var 8))) (gv_var 5))))))) (fun v_coming_12 => (gs_asg (Gv.fr (gv_op q2_cat (Gv.lv (gv_var 4)) (Gv.lo (gv_lst (gs_cons (gv_op q2_div (gv_var 6) (gv_cb1 o1_sum (Gv.lo (gv_slice (Gv.lv (gv_op q2_ix (Gv.lv (gv_var 1)) (gv_var 5))) go_none (go_some (gv_var 5)))))) gs_nil))))) (fun v_amounts_18 => ⟨(v_amounts_18), (.r (.r (.r (.r (.r (.a (.a (.r (.r (.r .nil)))))))))), rfl⟩)))))) (fun s19 => (gs_seq (gs_asg (gv_cb1 o1_sum (Gv.lv (gv_var 4))) (fun v_total_20 => (gs_ret (gv_lc (gi_list (gv_var 4)) (gg_name 9) (by decide) (any1 rfl) (fun _ => Gv.nx (gv_callS (ga_cons (gv_var 9) (ga_cons (gv_var 7) ga_nil))))))))))))))))))
@[irreducible] def m_is_resting (a0 : (List (List Int))) (a1 : (List (Int × Int))) : R Bool := (R.bind (R.bind (.ok (!decide ((a1.length : Int) = (a0.length : Int)))) fun b2 => if b2 = true then .ok true else (R.bind (m_is_shares a1) fun b1 => .ok (!b1))) fun b27 => if b27 = true then (.ok false) else (R.bind (R.bind (m_whole a1) fun r3 => (.ok r3.1)) fun v_amounts_4 => (R.bind (rangeQ 0 (a0.length : Int)) fun xs26 => forC xs26 (fun (s5 : Unit) (x6 : Int) kn7 kb8 => (R.bind (R.bind (rangeQ 0 (a0.length : Int)) fun r10 => (compIf r10 (fun (x9 : Int) => (.ok (!decide (x9 = x6)))) (fun (x9 : Int) => (.ok x9)))) fun v_others_11 => (R.bind (R.bind (ixQ v_amounts_4 x6) fun r15 => (R.bind (R.bind (comp v_others_11 (fun (x12 : Int) => (R.bind (ixQ a0 x6) fun r13 => (ixQ r13 x12)))) fun r14 => (.ok r14.sum)) fun r16 => (mulQ r15 r16))) fun v_leaving_17 => (R.bind (R.bind (R.bind (comp v_others_11 (fun (x18 : Int) => (R.bind (ixQ v_amounts_4 x18) fun r20 => (R.bind (R.bind (ixQ a0 x18) fun r19 => (ixQ r19 x6)) fun r21 => (mulQ r20 r21))))) fun r22 => (.ok r22.sum)) fun r23 => (.ok (!decide (v_leaving_17 = r23)))) fun b24 => if b24 = true then (.ok false) else (kn7 ()))))) (fun (s25 : Unit) => (.ok true)) ())))
abbrev s_m_is_resting : Stmt := top 36
theorem sc_m_is_resting : FnScope ["rates", "shares", "amounts", "state", "others", "leaving", "place"] ["rates", "shares"] (defScope s_m_is_resting) := ⟨rfl, rfl, rfl, by decide +kernel, rfl, by decide +kernel, by decide +kernel⟩
theorem ok_m_is_resting {fd : FuncData} (T : Tx K mg) (D : FunD K "is_resting" "is_resting" (defArgs s_m_is_resting) (defBody s_m_is_resting) (defScope s_m_is_resting) [] [] (He.ga K "is_resting") fd) (F_m_is_shares : FnX P w K mg base 3 "is_shares" (Prm K (rv K) fun (a : (List (Int × Int)) × Unit) => m_is_shares a.1)) (F_m_whole : FnX P w K mg base 1 "whole" (Prm K (rv K) fun (a : (List (Int × Int)) × Unit) => m_whole a.1)) : FnX P w K mg base 4 "is_resting" (Prm K (rv K) fun (a : (List (List Int)) × (List (Int × Int)) × Unit) => m_is_resting a.1 a.2.1) := by
  refine ⟨fnr_of (k := 3) D sc_m_is_resting (by decide) rfl (fun _ _ _ _ _ _ us hl => match us, hl with | [_, _], _ => rfl) (fun cdv A' outer s H E hr => ⟨_, (pss_cons (ps_if (PW.pt (pw_or (pt_cmpR op_ne (pe_callB (crLen K) (by rfl) T.g_len PySem.boot_len (pa_cons (pv 1) pa_nil)) (pe_callB (crLen K) (by rfl) T.g_len PySem.boot_len (pa_cons (pv 0) pa_nil)) (nomark _)) (pw_or1 (pt_not (pt_val (pe_fn F_m_is_shares (hr.mono (by decide)) (by rfl) (fun σ => passAt (takes_of rfl rfl rfl rfl) σ) (pa_cons (pv 1) pa_nil))))))) (pss_one (ps_ret pe_bl)) pss_nil) (pss_cons (ps_set (i := 2) sc_m_is_resting.nd rfl (Or.inr rfl) (pe_ix (ixT K) (pe_fn F_m_whole (hr.mono (by decide)) (by rfl) (fun σ => passAt (takes_of rfl rfl rfl rfl) σ) (pa_cons (pv 1) pa_nil)) pe_int (fun _ _ => rfl))) (pss_cons (ps_for (passes_of rfl) rfl (pi_range1 (by rfl) T.g_range (pa_cons (pe_callB (crLen K) (by rfl) T.g_len PySem.boot_len (pa_cons (pv 0) pa_nil)) pa_nil)) (pg_name (i := 3) sc_m_is_resting.nd rfl (Or.inr rfl)) (pss_cons (ps_setLc (i := 4) (own := [("place", 6)]) (g := gName 6) rfl sc_m_is_resting.nd rfl rfl (sw_true rfl rfl rfl (by decide +kernel)) (pi_range1 (by rfl) T.g_range (pa_cons (pe_callB (crLen K) (by rfl) T.g_len PySem.boot_len (pa_cons (pv 0) pa_nil)) pa_nil)) (blkOk_by (N := ["rates", "shares", "amounts", "state", "others", "leaving", "place"]) (sc := (defScope s_m_is_resting)) (by decide +kernel)) (fun _ _ _ _ _ => (pg_name (i := 6) sc_m_is_resting.nd rfl (Or.inl rfl))) (fun _ _ _ _ _ => (pts_one (pt_cmpR op_ne (pv 6) (pv 3) (nomark _)))) (fun _ _ _ _ _ => (pv 6))) (pss_cons (ps_set (i := 5) sc_m_is_resting.nd rfl (Or.inl rfl) (pe_op op_mulW (pe_ix (ixL K) (pv 2) (pv 3) (fun _ _ => rfl)) (pe_callB (crSum K) (by rfl) T.g_sum (by decide +kernel) (pa_cons (pe_lc (own := [("place", 6)]) (g := gName 6) rfl sc_m_is_resting.nd (piList K (pv 4)) (blkOk_by (N := ["rates", "shares", "amounts", "state", "others", "leaving", "place"]) (sc := (defScope s_m_is_resting)) (by decide +kernel)) (fun _ _ _ _ _ => (pg_name (i := 6) sc_m_is_resting.nd rfl (Or.inl rfl))) (fun _ _ _ _ _ => pts_nil) (fun _ _ _ _ _ => (pe_ix (ixL K) (pe_ix (ixL K) (pv 0) (pv 3) (fun _ _ => rfl)) (pv 6) (fun _ _ => rfl)))) pa_nil)))) (pss_one (ps_if (pt_cmpR op_ne (pv 5) (pe_callB (crSum K) (by rfl) T.g_sum (by decide +kernel) (pa_cons (pe_lc (own := [("place", 6)]) (g := gName 6) rfl sc_m_is_resting.nd (piList K (pv 4)) (blkOk_by (N := ["rates", "shares", "amounts", "state", "others", "leaving", "place"]) (sc := (defScope s_m_is_resting)) (by decide +kernel)) (fun _ _ _ _ _ => (pg_name (i := 6) sc_m_is_resting.nd rfl (Or.inl rfl))) (fun _ _ _ _ _ => pts_nil) (fun _ _ _ _ _ => (pe_op op_mulW (pe_ix (ixL K) (pv 2) (pv 6) (fun _ _ => rfl)) (pe_ix (ixL K) (pe_ix (ixL K) (pv 0) (pv 6) (fun _ _ => rfl)) (pv 3) (fun _ _ => rfl))))) pa_nil)) (nomark _)) (pss_one (ps_ret pe_bl)) pss_nil))))) (pss_one (ps_ret pe_bl))))), ?_⟩), D.kp, T.g_is_resting⟩
  intro a
  rw [m_is_resting]
  exact (gs_seq (gs_if (gt_or (gt_test (gv_op o2_ne (gv_cb1 o1_len (Gv.lv (gv_var 1))) (gv_cb1 o1_len (Gv.lv (gv_var 0))))) (gt_not (gt_B (gv_callS (ga_cons (gv_var 1) ga_nil))))) (gs_ret gv_bl) (gs_next (gs_seq (gs_asg (gv_fst (gv_callS (ga_cons (gv_var 1) ga_nil))) (fun v_amounts_4 => (gs_seq (gs_for (S := Unit) (fun s5 => [sv a.1, sv a.2.1, sv v_amounts_4, .any, .any, .any, .any]) () (qi_range1 (live := false) (gv_cb1 o1_len (Gv.lv (gv_var 0)))) (gg_name 3) (.r (.r (.r (.r (.r (.r (.r .nil))))))) (fun s5 x6 kn7 kb8 => (gs_seq (gs_asg (Gv.fr (gv_lcI (qi_range1 (live := true) (gv_cb1 o1_len (Gv.lv (gv_var 0)))) (gg_name 6) (by decide) (any1 rfl) (fun _ => Gt.nx (gt_test (gv_op o2_ne (gv_var 6) (gv_var 3)))) (fun _ => Gv.nx (gv_var 6)))) (fun v_others_11 => (gs_seq (gs_asg (gv_op q2_mul (gv_op q2_ix (Gv.lv (gv_var 2)) (gv_var 3)) (gv_cb1 o1_sum (Gv.lo (gv_lc (gi_list (gv_var 4)) (gg_name 6) (by decide) (any1 rfl) (fun _ => Gv.nx (gv_op q2_ix (Gv.lv (gv_op q2_ix (Gv.lv (gv_var 0)) (gv_var 3))) (gv_var 6))))))) (fun v_leaving_17 => (gs_if (gt_test (gv_op o2_ne (gv_var 5) (gv_cb1 o1_sum (Gv.lo (gv_lc (gi_list (gv_var 4)) (gg_name 6) (by decide) (any1 rfl) (fun _ => Gv.nx (gv_op q2_mul (gv_op q2_ix (Gv.lv (gv_var 2)) (gv_var 6)) (gv_op q2_ix (Gv.lv (gv_op q2_ix (Gv.lv (gv_var 0)) (gv_var 6))) (gv_var 3))))))))) (gs_ret gv_bl) (gs_next ⟨(), (.r (.r (.r (.a (.a (.a (.r .nil))))))), rfl⟩))))))))) (fun s25 => (gs_ret gv_bl))))))))))
@[irreducible] def m_law_cell (a0 : Scr) (a1 : Int) : R Int := (R.bind (.ok (decide (a1 < (a0.xs.length : Int)))) fun b2 => if b2 = true then (ixQ a0.xs a1) else (R.bind (mulQ (31 : Int) a1) fun r1 => (.ok (r1 + (5 : Int)))))
abbrev s_m_law_cell : Stmt := top 38
theorem sc_m_law_cell : FnScope ["script", "k"] ["script", "k"] (defScope s_m_law_cell) := ⟨rfl, rfl, rfl, by decide +kernel, rfl, by decide +kernel, by decide +kernel⟩
theorem ok_m_law_cell {fd : FuncData} (T : Tx K mg) (D : FunD K "_law_cell" "_law_cell" (defArgs s_m_law_cell) (defBody s_m_law_cell) (defScope s_m_law_cell) [] [] (He.ga K "_law_cell") fd) : FnX P w K mg base 1 "_law_cell" (Prm K (rv K) fun (a : Scr × Int × Unit) => m_law_cell a.1 a.2.1) := by
  refine ⟨fnr_of (k := 0) D sc_m_law_cell (by decide) rfl (fun _ _ _ _ _ _ us hl => match us, hl with | [_, _], _ => rfl) (fun cdv A' outer s H E hr => ⟨_, (pss_cons (ps_if (pt_cmpR op_lt (pv 1) (pe_callB (crLen K) (by rfl) T.g_len PySem.boot_len (pa_cons (pv 0) pa_nil)) (nomark _)) (pss_one (ps_ret (pe_ix (ixL K) (pv 0) (pv 1) (fun _ _ => rfl)))) pss_nil) (pss_one (ps_ret (pe_op op_add (pe_op op_mulW pe_int (pv 1)) pe_int)))), ?_⟩), D.kp, T.g__law_cell⟩
  intro a
  rw [m_law_cell]
  exact (gs_seq (gs_if (gt_test (gv_op o2_lt (gv_var 1) (gv_cb1 o1_lenScr (gv_var 0)))) (gs_ret (gv_op q2_ixScr (gv_var 0) (gv_var 1))) (gs_next (gs_ret (gv_op o2_add (gv_op q2_mul gv_int (gv_var 1)) gv_int)))))
@[irreducible] def m_law_draws (a0 : Int) (a1 : (List Int)) : R (List Int) := (R.bind (.ok ([] : List Int)) fun v_drawn_1 => (R.bind (.ok a0) fun v_rest_2 => (R.bind (R.bind (powQ (10 : Int) (18 : Int)) fun r3 => (.ok (decide (r3 ≤ v_rest_2)))) fun b37 => if b37 = true then (R.bind (R.bind (powQ (10 : Int) (18 : Int)) fun r4 => (.ok (v_rest_2 - r4))) fun v_rest_5 => (R.bind (.ok a1) fun xs13 => forC xs13 (fun (s6 : (List Int) × Int) (x7 : Int) kn8 kb9 => (R.bind (modQ s6.2 x7) fun x10 => R.chk (s6.1.length < 100000) (R.bind (divQ s6.2 x7) fun v_rest_11 => (kn8 ((s6.1 ++ [x10]), v_rest_11))))) (fun (s12 : (List Int) × Int) => (.ok s12.1)) (v_drawn_1, v_rest_5))) else (R.bind (modQ v_rest_2 (2147483647 : Int)) fun v_seed_14 => (R.bind (rangeQ 0 (a1.length : Int)) fun xs36 => forC xs36 (fun (s15 : Int × (List Int)) (x16 : Int) kn17 kb18 => (R.bind (R.bind (R.bind (R.bind (R.bind (mulQ s15.1 (48271 : Int)) fun r19 => (R.bind (mulQ (11 : Int) x16) fun r20 => (.ok (r19 + r20)))) fun r21 => (.ok (r21 + (7 : Int)))) fun r22 => (.ok r22)) fun r23 => (modQ r23 (2147483647 : Int))) fun v_seed_24 => (R.bind (R.bind (R.bind (R.bind (R.bind (mulQ v_seed_24 (69621 : Int)) fun r25 => (R.bind (mulQ (3 : Int) x16) fun r26 => (.ok (r25 + r26)))) fun r27 => (.ok (r27 + (1 : Int)))) fun r28 => (.ok r28)) fun r29 => (modQ r29 (2147483629 : Int))) fun v_mixed_30 => (R.bind (R.bind (R.bind (divQ v_mixed_30 (7 : Int)) fun r31 => (.ok r31)) fun r32 => (R.bind (ixQ a1 x16) fun r33 => (modQ r32 r33))) fun x34 => R.chk (s15.2.length < 100000) (kn17 (v_seed_24, (s15.2 ++ [x34]))))))) (fun (s35 : Int × (List Int)) => (.ok s35.2)) (v_seed_14, v_drawn_1))))))
abbrev s_m_law_draws : Stmt := top 39
theorem sc_m_law_draws : FnScope ["cell", "sizes", "drawn", "rest", "size", "seed", "k", "mixed"] ["cell", "sizes"] (defScope s_m_law_draws) := ⟨rfl, rfl, rfl, by decide +kernel, rfl, by decide +kernel, by decide +kernel⟩
theorem ok_m_law_draws {fd : FuncData} (T : Tx K mg) (D : FunD K "_law_draws" "_law_draws" (defArgs s_m_law_draws) (defBody s_m_law_draws) (defScope s_m_law_draws) [] [] (He.ga K "_law_draws") fd) : FnX P w K mg base 1 "_law_draws" (Prm K (ro K) fun (a : Int × (List Int) × Unit) => m_law_draws a.1 a.2.1) := by
  refine ⟨fnr_of (k := 0) D sc_m_law_draws (by decide) rfl (fun _ _ _ _ _ _ us hl => match us, hl with | [_, _], _ => rfl) (fun cdv A' outer s H E hr => ⟨_, (pss_cons (ps_set (i := 2) sc_m_law_draws.nd rfl (Or.inl rfl) (pe_lst pa_nil)) (pss_cons (ps_set (i := 3) sc_m_law_draws.nd rfl (Or.inl rfl) (pe_callTy call_int1 (by rfl) T.g_int (by decide +kernel) (pa_cons (pv 0) pa_nil))) (pss_cons (ps_if (pt_cmpR op_ge (pv 3) (pe_op op_pow pe_int pe_int) (nomark _)) (pss_cons (ps_set (i := 3) sc_m_law_draws.nd rfl (Or.inl rfl) (pe_op op_sub (pv 3) (pe_op op_pow pe_int pe_int))) (pss_cons (ps_for (passes_of rfl) rfl (piList K (pv 1)) (pg_name (i := 4) sc_m_law_draws.nd rfl (Or.inl rfl)) (pss_cons (ps_expr (pe_bm PySem.F.plainAttrs_list PySem.F.slot_list_append PySem.F.type_list_append mt_append (pv 2) (pa_cons (pe_op op_mod (pe_callTy call_int1 (by rfl) T.g_int (by decide +kernel) (pa_cons (pv 3) pa_nil)) (pv 4)) pa_nil))) (pss_one (ps_set (i := 3) sc_m_law_draws.nd rfl (Or.inl rfl) (pe_op op_fdivW (pv 3) (pv 4)))))) (pss_one (ps_ret (pv 2))))) pss_nil) (pss_cons (ps_set (i := 5) sc_m_law_draws.nd rfl (Or.inl rfl) (pe_op op_mod (pe_callTy call_int1 (by rfl) T.g_int (by decide +kernel) (pa_cons (pv 3) pa_nil)) pe_int)) (pss_cons (ps_for (passes_of rfl) rfl (pi_range1 (by rfl) T.g_range (pa_cons (pe_callB (crLen K) (by rfl) T.g_len PySem.boot_len (pa_cons (pv 1) pa_nil)) pa_nil)) (pg_name (i := 6) sc_m_law_draws.nd rfl (Or.inl rfl)) (pss_cons (ps_set (i := 5) sc_m_law_draws.nd rfl (Or.inl rfl) (pe_op op_mod (pe_callTy call_int1 (by rfl) T.g_int (by decide +kernel) (pa_cons (pe_op op_add (pe_op op_add (pe_op op_mulW (pv 5) pe_int) (pe_op op_mulW pe_int (pv 6))) pe_int) pa_nil)) pe_int)) (pss_cons (ps_set (i := 7) sc_m_law_draws.nd rfl (Or.inl rfl) (pe_op op_mod (pe_callTy call_int1 (by rfl) T.g_int (by decide +kernel) (pa_cons (pe_op op_add (pe_op op_add (pe_op op_mulW (pv 5) pe_int) (pe_op op_mulW pe_int (pv 6))) pe_int) pa_nil)) pe_int)) (pss_one (ps_expr (pe_bm PySem.F.plainAttrs_list PySem.F.slot_list_append PySem.F.type_list_append mt_append (pv 2) (pa_cons (pe_op op_mod (pe_callTy call_int1 (by rfl) T.g_int (by decide +kernel) (pa_cons (pe_op op_fdivW (pv 7) pe_int) pa_nil)) (pe_ix (ixL K) (pv 1) (pv 6) (fun _ _ => rfl))) pa_nil))))))) (pss_one (ps_ret (pv 2)))))))), ?_⟩), D.kp, T.g__law_draws⟩
  intro a
  rw [m_law_draws]
  exact (gs_seq (gs_asgO (gv_lst gs_nil) (fun v_drawn_1 => (gs_seq (gs_asg (gv_cb1 o1_int (gv_var 0)) (fun v_rest_2 => (gs_seq (gs_if (gt_test (gv_op o2_ge (gv_var 3) (gv_op q2_pow gv_int gv_int))) (gs_seq (gs_asg (gv_op o2_sub (gv_var 3) (gv_op q2_pow gv_int gv_int)) (fun v_rest_5 => (gs_seq (gs_for (S := (List Int) × Int) (fun s6 => [sv a.1, sv a.2.1, so s6.1, sv s6.2, .any, .any, .any, .any]) (v_drawn_1, v_rest_5) (gi_list (gv_var 1)) (gg_name 4) (.r (.r (.r (.r (.r (.r (.r (.r .nil)))))))) (fun s6 x7 kn8 kb9 => (gs_seq (gs_append (n := 2) rfl (gv_op q2_mod (gv_cb1 o1_int (gv_var 3)) (gv_var 4)) (fun x10 => (gs_asg (gv_op q2_div (gv_var 3) (gv_var 4)) (fun v_rest_11 => ⟨((s6.1 ++ [x10]), v_rest_11), (.r (.r (.r (.r (.a (.r (.r (.r .nil)))))))), rfl⟩)))))) (fun s12 => (gs_retOwn 2))))))) (gs_next (gs_seq (gs_asg (gv_op q2_mod (gv_cb1 o1_int (gv_var 3)) gv_int) (fun v_seed_14 => (gs_seq (gs_for (S := Int × (List Int)) (fun s15 => [sv a.1, sv a.2.1, so s15.2, sv v_rest_2, .any, sv s15.1, .any, .any]) (v_seed_14, v_drawn_1) (qi_range1 (live := false) (gv_cb1 o1_len (Gv.lv (gv_var 1)))) (gg_name 6) (.r (.r (.r (.r (.r (.r (.r (.r .nil)))))))) (fun s15 x16 kn17 kb18 => (gs_seq (gs_asg (gv_op q2_mod (gv_cb1 o1_int (gv_op o2_add (gv_op o2_add (gv_op q2_mul (gv_var 5) gv_int) (gv_op q2_mul gv_int (gv_var 6))) gv_int)) gv_int) (fun v_seed_24 => (gs_seq (gs_asg (gv_op q2_mod (gv_cb1 o1_int (gv_op o2_add (gv_op o2_add (gv_op q2_mul (gv_var 5) gv_int) (gv_op q2_mul gv_int (gv_var 6))) gv_int)) gv_int) (fun v_mixed_30 => (gs_append (n := 2) rfl (gv_op q2_mod (gv_cb1 o1_int (gv_op q2_div (gv_var 7) gv_int)) (gv_op q2_ix (Gv.lv (gv_var 1)) (gv_var 6))) (fun x34 => ⟨(v_seed_24, (s15.2 ++ [x34])), (.r (.r (.r (.r (.r (.r (.a (.a .nil)))))))), rfl⟩))))))))) (fun s35 => (gs_retOwn 2))))))))))))))))
@[irreducible] def m_law_gcd (a0 : Int) (a1 : Int) : R Int := (R.bind (rangeQ 0 (12000 : Int)) fun xs10 => forC xs10 (fun (s1 : Int × Int) (x2 : Int) kn3 kb4 => (R.bind (.ok (decide (s1.2 = (0 : Int)))) fun b8 => if b8 = true then (.ok s1.1) else (R.bind (modQ s1.1 s1.2) fun v_rest_5 => (R.bind (.ok s1.2) fun v_first_6 => (R.bind (.ok v_rest_5) fun v_second_7 => (kn3 (v_first_6, v_second_7))))))) (fun (s9 : Int × Int) => (.ok s9.1)) (a0, a1))
abbrev s_m_law_gcd : Stmt := top 40
theorem sc_m_law_gcd : FnScope ["first", "second", "k", "rest"] ["first", "second"] (defScope s_m_law_gcd) := ⟨rfl, rfl, rfl, by decide +kernel, rfl, by decide +kernel, by decide +kernel⟩
theorem ok_m_law_gcd {fd : FuncData} (T : Tx K mg) (D : FunD K "_law_gcd" "_law_gcd" (defArgs s_m_law_gcd) (defBody s_m_law_gcd) (defScope s_m_law_gcd) [] [] (He.ga K "_law_gcd") fd) : FnX P w K mg base 1 "_law_gcd" (Prm K (rv K) fun (a : Int × Int × Unit) => m_law_gcd a.1 a.2.1) := by
  refine ⟨fnr_of (k := 0) D sc_m_law_gcd (by decide) rfl (fun _ _ _ _ _ _ us hl => match us, hl with | [_, _], _ => rfl) (fun cdv A' outer s H E hr => ⟨_, (pss_cons (ps_for (passes_of rfl) rfl (pi_range1 (by rfl) T.g_range (pa_cons pe_int pa_nil)) (pg_name (i := 2) sc_m_law_gcd.nd rfl (Or.inl rfl)) (pss_cons (ps_if (pt_cmpR op_eq (pv 1) pe_int (nomark _)) (pss_one (ps_ret (pv 0))) pss_nil) (pss_cons (ps_set (i := 3) sc_m_law_gcd.nd rfl (Or.inl rfl) (pe_op op_mod (pe_callTy call_int1 (by rfl) T.g_int (by decide +kernel) (pa_cons (pv 0) pa_nil)) (pv 1))) (pss_cons (ps_set (i := 0) sc_m_law_gcd.nd rfl (Or.inl rfl) (pv 1)) (pss_one (ps_set (i := 1) sc_m_law_gcd.nd rfl (Or.inl rfl) (pv 3))))))) (pss_one (ps_ret (pv 0)))), ?_⟩), D.kp, T.g__law_gcd⟩
  intro a
  rw [m_law_gcd]
  exact (gs_seq (gs_for (S := Int × Int) (fun s1 => [sv s1.1, sv s1.2, .any, .any]) (a.1, a.2.1) (qi_range1 (live := false) gv_int) (gg_name 2) (.r (.r (.r (.r .nil)))) (fun s1 x2 kn3 kb4 => (gs_seq (gs_if (gt_test (gv_op o2_eq (gv_var 1) gv_int)) (gs_ret (gv_var 0)) (gs_next (gs_seq (gs_asg (gv_op q2_mod (gv_cb1 o1_int (gv_var 0)) (gv_var 1)) (fun v_rest_5 => (gs_seq (gs_asg (gv_var 1) (fun v_first_6 => (gs_asg (gv_var 3) (fun v_second_7 => ⟨(v_first_6, v_second_7), (.r (.r (.a (.a .nil)))), rfl⟩)))))))))))) (fun s9 => (gs_ret (gv_var 0)))))
@[irreducible] def fuel_m_law_same : Nat := 8
def m_law_same : Nat → PyData → PyData → R Bool
  | 0, _, _ => .no
  | n + 1, a0, a1 => (R.bind (.ok (pdNone a1)) fun b39 => if b39 = true then (.ok (pdNone a0)) else (R.bind (isQ (PyTy.ty a1) "int") fun b38 => if b38 = true then (R.bind (isQ (PyTy.ty a0) "int") fun b3 => if b3 = true then (R.bind (R.bind (isQ (PyTy.ty a0) "bool") fun r1 => (.ok (!r1))) fun b2 => if b2 = true then (pdEqQ a0 a1) else .ok false) else .ok false) else (joinR (fun (s14 : Unit) => (R.bind (R.bind (pdLenQ a1) fun r15 => (rangeQ 0 r15)) fun xs25 => forC xs25 (fun (s16 : Unit) (x17 : Int) kn18 kb19 => (R.bind (R.bind (R.bind (pdIxQ a0 x17) fun r20 => (R.bind (pdIxQ a1 x17) fun r21 => (m_law_same n r20 r21))) fun b22 => .ok (!b22)) fun b23 => if b23 = true then (.ok false) else (kn18 ()))) (fun (s24 : Unit) => (.ok true)) ())) fun kj26 => R.bind (isQ (PyTy.ty a1) "tuple") fun b37 => if b37 = true then (R.bind (R.bind (R.bind (isQ (PyTy.ty a0) "tuple") fun b27 => .ok (!b27)) fun b30 => if b30 = true then .ok true else (R.bind (pdLenQ a0) fun r28 => (R.bind (pdLenQ a1) fun r29 => (.ok (!decide (r28 = r29)))))) fun b31 => if b31 = true then (.ok false) else (kj26 ())) else (R.bind (R.bind (R.bind (isQ (PyTy.ty a0) "list") fun b32 => .ok (!b32)) fun b35 => if b35 = true then .ok true else (R.bind (pdLenQ a0) fun r33 => (R.bind (pdLenQ a1) fun r34 => (.ok (!decide (r33 = r34)))))) fun b36 => if b36 = true then (.ok false) else (kj26 ())))))
abbrev s_m_law_same : Stmt := top 41
theorem sc_m_law_same : FnScope ["actual", "due", "k"] ["actual", "due"] (defScope s_m_law_same) := ⟨rfl, rfl, rfl, by decide +kernel, rfl, by decide +kernel, by decide +kernel⟩
theorem ok_m_law_same {fd : FuncData} (T : Tx K mg) (D : FunD K "_law_same" "_law_same" (defArgs s_m_law_same) (defBody s_m_law_same) (defScope s_m_law_same) [] [] (He.ga K "_law_same") fd) : ∀ N : Nat, FnX P w K mg base (N + 1) "_law_same" (Prm K (rv K) fun (a : PyData × PyData × Unit) => m_law_same N a.1 a.2.1)
  | 0 => ⟨fun _ _ _ _ _ _ _ _ _ _ _ ⟨_, _, _, _, q, _⟩ => absurd (by show m_law_same 0 _ _ = .no; unfold m_law_same; rfl) q, D.kp, T.g__law_same⟩
  | n + 1 => by
    have F_m_law_same := ok_m_law_same T D  n
    refine ⟨fnr_of (k := n + 1) D sc_m_law_same (by decide) rfl (fun _ _ _ _ _ _ us hl => match us, hl with | [_, _], _ => rfl) (fun cdv A' outer s H E hr => ⟨_, (pss_cons (ps_if (pt_cmpR op_isN (pv 1) pe_non (nomark _)) (pss_one (ps_ret (pe_cmpR op_isN (pv 0) pe_non (nomark _)))) pss_nil) (pss_cons (ps_if (pt_val (pe_callB (crIsi K) (by rfl) T.g_isinstance (by decide +kernel) (pa_cons (pv 1) (pa_cons (pe_bltn (v := .ty "int") (u := .type "int") (by rfl) T.g_int (by decide +kernel) rfl) pa_nil)))) (pss_one (ps_ret (pe_and (pe_callB (crIsi K) (by rfl) T.g_isinstance (by decide +kernel) (pa_cons (pv 0) (pa_cons (pe_bltn (v := .ty "int") (u := .type "int") (by rfl) T.g_int (by decide +kernel) rfl) pa_nil))) (pe_and (pe_not (pe_callB (crIsi K) (by rfl) T.g_isinstance (by decide +kernel) (pa_cons (pv 0) (pa_cons (pe_bltn (v := .ty "bool") (u := .type "bool") (by rfl) T.g_bool (by decide +kernel) rfl) pa_nil)))) (pe_one (pe_cmpR op_eq (pv 0) (pv 1) (nomark _))))))) pss_nil) (pss_cons (ps_if (pt_val (pe_callB (crIsi K) (by rfl) T.g_isinstance (by decide +kernel) (pa_cons (pv 1) (pa_cons (pe_bltn (v := .ty "tuple") (u := .type "tuple") (by rfl) T.g_tuple (by decide +kernel) rfl) pa_nil)))) (pss_one (ps_if (PW.pt (pw_or (pt_not (pt_val (pe_callB (crIsi K) (by rfl) T.g_isinstance (by decide +kernel) (pa_cons (pv 0) (pa_cons (pe_bltn (v := .ty "tuple") (u := .type "tuple") (by rfl) T.g_tuple (by decide +kernel) rfl) pa_nil))))) (pw_or1 (pt_cmpR op_ne (pe_callB (crLen K) (by rfl) T.g_len PySem.boot_len (pa_cons (pv 0) pa_nil)) (pe_callB (crLen K) (by rfl) T.g_len PySem.boot_len (pa_cons (pv 1) pa_nil)) (nomark _))))) (pss_one (ps_ret pe_bl)) pss_nil)) (pss_one (ps_if (PW.pt (pw_or (pt_not (pt_val (pe_callB (crIsi K) (by rfl) T.g_isinstance (by decide +kernel) (pa_cons (pv 0) (pa_cons (pe_bltn (v := .ty "list") (u := .type "list") (by rfl) T.g_list (by decide +kernel) rfl) pa_nil))))) (pw_or1 (pt_cmpR op_ne (pe_callB (crLen K) (by rfl) T.g_len PySem.boot_len (pa_cons (pv 0) pa_nil)) (pe_callB (crLen K) (by rfl) T.g_len PySem.boot_len (pa_cons (pv 1) pa_nil)) (nomark _))))) (pss_one (ps_ret pe_bl)) pss_nil))) (pss_cons (ps_for (passes_of rfl) rfl (pi_range1 (by rfl) T.g_range (pa_cons (pe_callB (crLen K) (by rfl) T.g_len PySem.boot_len (pa_cons (pv 1) pa_nil)) pa_nil)) (pg_name (i := 2) sc_m_law_same.nd rfl (Or.inl rfl)) (pss_one (ps_if (pt_not (pt_val (pe_fn F_m_law_same hr (by rfl) (fun σ => passAt (takes_of rfl rfl rfl rfl) σ) (pa_cons (pe_ix (ixA K) (pv 0) (pv 2) (fun _ _ => rfl)) (pa_cons (pe_ix (ixA K) (pv 1) (pv 2) (fun _ _ => rfl)) pa_nil))))) (pss_one (ps_ret pe_bl)) pss_nil))) (pss_one (ps_ret pe_bl)))))), ?_⟩), D.kp, T.g__law_same⟩
    intro a
    rw [m_law_same]
    exact (gs_seq (gs_if (gt_test (gv_isNPd (gv_var 1))) (gs_ret (gv_isNPd (gv_var 0))) (gs_next (gs_seq (gs_if (gt_B (qv_isi (gv_var 1))) (gs_ret (gv_andV (qv_isi (gv_var 0)) (gv_andV (gv_notV (qv_isi (gv_var 0))) (gv_op q2_eqPd (gv_var 0) (gv_var 1))))) (gs_next (gs_seq (gs_joinR (S := Unit) (fun s14 => [sv a.1, sv a.2.1, .any]) (fun s14 => (gs_seq (gs_for (S := Unit) (fun s16 => [sv a.1, sv a.2.1, .any]) () (qi_range1 (live := false) (gv_cb1 q1_lenPd (gv_var 1))) (gg_name 2) (.r (.r (.r .nil))) (fun s16 x17 kn18 kb19 => (gs_if (gt_not (gt_B (gv_callS (ga_cons (gv_op q2_ixPd (gv_var 0) (gv_var 2)) (ga_cons (gv_op q2_ixPd (gv_var 1) (gv_var 2)) ga_nil))))) (gs_ret gv_bl) (gs_next ⟨(), (.r (.r (.a .nil))), rfl⟩))) (fun s24 => (gs_ret gv_bl))))) (gs_if (gt_B (qv_isi (gv_var 1))) (gs_if (gt_or (gt_not (gt_B (qv_isi (gv_var 0)))) (gt_test (gv_op o2_ne (gv_cb1 q1_lenPd (gv_var 0)) (gv_cb1 q1_lenPd (gv_var 1))))) (gs_ret gv_bl) (gs_next ⟨(), (.r (.r (.r .nil))), rfl⟩)) (gs_if (gt_or (gt_not (gt_B (qv_isi (gv_var 0)))) (gt_test (gv_op o2_ne (gv_cb1 q1_lenPd (gv_var 0)) (gv_cb1 q1_lenPd (gv_var 1))))) (gs_ret gv_bl) (gs_next ⟨(), (.r (.r (.r .nil))), rfl⟩)))))))))))
@[irreducible] def m_law_is_number (a0 : PyData) : R Bool := (R.bind (R.bind (R.bind (isQ (PyTy.ty a0) "tuple") fun b1 => .ok (!b1)) fun b3 => if b3 = true then .ok true else (R.bind (pdLenQ a0) fun r2 => (.ok (!decide (r2 = (2 : Int)))))) fun b22 => if b22 = true then (.ok false) else (R.bind (pdItemsT a0) fun xs21 => forC xs21 (fun (s4 : Unit) (x5 : PyData) kn6 kb7 => (R.bind (R.bind (R.bind (isQ (PyTy.ty x5) "int") fun b8 => .ok (!b8)) fun b9 => if b9 = true then .ok true else (isQ (PyTy.ty x5) "bool")) fun b10 => if b10 = true then (.ok false) else (kn6 ()))) (fun (s11 : Unit) => (R.bind (R.bind (R.bind (pdIxQ a0 (1 : Int)) fun r12 => (pdInt r12)) fun r13 => (.ok (decide ((0 : Int) < r13)))) fun b20 => if b20 = true then (R.bind (R.bind (R.bind (R.bind (pdIxQ a0 (0 : Int)) fun r14 => (pdInt r14)) fun r15 => (.ok (Int.natAbs r15 : Int))) fun r17 => (R.bind (R.bind (pdIxQ a0 (1 : Int)) fun r16 => (pdInt r16)) fun r18 => (m_law_gcd r17 r18))) fun r19 => (.ok (decide (r19 = (1 : Int))))) else .ok false)) ()))
abbrev s_m_law_is_number : Stmt := top 42
theorem sc_m_law_is_number : FnScope ["actual", "entry"] ["actual"] (defScope s_m_law_is_number) := ⟨rfl, rfl, rfl, by decide +kernel, rfl, by decide +kernel, by decide +kernel⟩
theorem ok_m_law_is_number {fd : FuncData} (T : Tx K mg) (D : FunD K "_law_is_number" "_law_is_number" (defArgs s_m_law_is_number) (defBody s_m_law_is_number) (defScope s_m_law_is_number) [] [] (He.ga K "_law_is_number") fd) (F_m_law_gcd : FnX P w K mg base 1 "_law_gcd" (Prm K (rv K) fun (a : Int × Int × Unit) => m_law_gcd a.1 a.2.1)) : FnX P w K mg base 2 "_law_is_number" (Prm K (rv K) fun (a : PyData × Unit) => m_law_is_number a.1) := by
  refine ⟨fnr_of (k := 1) D sc_m_law_is_number (by decide) rfl (fun _ _ _ _ _ _ us hl => match us, hl with | [_], _ => rfl) (fun cdv A' outer s H E hr => ⟨_, (pss_cons (ps_if (PW.pt (pw_or (pt_not (pt_val (pe_callB (crIsi K) (by rfl) T.g_isinstance (by decide +kernel) (pa_cons (pv 0) (pa_cons (pe_bltn (v := .ty "tuple") (u := .type "tuple") (by rfl) T.g_tuple (by decide +kernel) rfl) pa_nil))))) (pw_or1 (pt_cmpR op_ne (pe_callB (crLen K) (by rfl) T.g_len PySem.boot_len (pa_cons (pv 0) pa_nil)) pe_int (nomark _))))) (pss_one (ps_ret pe_bl)) pss_nil) (pss_cons (ps_for (passes_of rfl) rfl (piTup K (pv 0)) (pg_name (i := 1) sc_m_law_is_number.nd rfl (Or.inl rfl)) (pss_one (ps_if (PW.pt (pw_or (pt_not (pt_val (pe_callB (crIsi K) (by rfl) T.g_isinstance (by decide +kernel) (pa_cons (pv 1) (pa_cons (pe_bltn (v := .ty "int") (u := .type "int") (by rfl) T.g_int (by decide +kernel) rfl) pa_nil))))) (pw_or1 (pt_val (pe_callB (crIsi K) (by rfl) T.g_isinstance (by decide +kernel) (pa_cons (pv 1) (pa_cons (pe_bltn (v := .ty "bool") (u := .type "bool") (by rfl) T.g_bool (by decide +kernel) rfl) pa_nil))))))) (pss_one (ps_ret pe_bl)) pss_nil))) (pss_one (ps_ret (pe_and (pe_cmpR op_gt (pe_ix (ixA K) (pv 0) pe_int (fun _ _ => rfl)) pe_int (nomark _)) (pe_one (pe_cmpR op_eq (pe_fn F_m_law_gcd (hr.mono (by decide)) (by rfl) (fun σ => passAt (takes_of rfl rfl rfl rfl) σ) (pa_cons (pe_callB call_abs (by rfl) T.g_abs (by decide +kernel) (pa_cons (pe_ix (ixA K) (pv 0) pe_int (fun _ _ => rfl)) pa_nil)) (pa_cons (pe_ix (ixA K) (pv 0) pe_int (fun _ _ => rfl)) pa_nil))) pe_int (nomark _)))))))), ?_⟩), D.kp, T.g__law_is_number⟩
  intro a
  rw [m_law_is_number]
  exact (gs_seq (gs_if (gt_or (gt_not (gt_B (qv_isi (gv_var 0)))) (gt_test (gv_op o2_ne (gv_cb1 q1_lenPd (gv_var 0)) gv_int))) (gs_ret gv_bl) (gs_next (gs_seq (gs_for (S := Unit) (fun s4 => [sv a.1, .any]) () (gi_pdT (gv_var 0)) (gg_name 1) (.r (.r .nil)) (fun s4 x5 kn6 kb7 => (gs_if (gt_or (gt_not (gt_B (qv_isi (gv_var 1)))) (gt_B (qv_isi (gv_var 1)))) (gs_ret gv_bl) (gs_next ⟨(), (.r (.a .nil)), rfl⟩))) (fun s11 => (gs_ret (gv_andV (gv_op o2_gt (Gv.pdInt (gv_op q2_ixPd (gv_var 0) gv_int)) gv_int) (gv_op o2_eq (gv_callS (ga_cons (gv_cb1 o1_abs (Gv.pdInt (gv_op q2_ixPd (gv_var 0) gv_int))) (ga_cons (Gv.pdInt (gv_op q2_ixPd (gv_var 0) gv_int)) ga_nil))) gv_int)))))))))
@[irreducible] def m_law_are_numbers (a0 : PyData) (a1 : Int) : R Bool := (R.bind (R.bind (R.bind (isQ (PyTy.ty a0) "list") fun b1 => .ok (!b1)) fun b3 => if b3 = true then .ok true else (R.bind (pdLenQ a0) fun r2 => (.ok (!decide (r2 = a1))))) fun b12 => if b12 = true then (.ok false) else (R.bind (pdItemsL a0) fun xs11 => forC xs11 (fun (s4 : Unit) (x5 : PyData) kn6 kb7 => (R.bind (R.bind (m_law_is_number x5) fun b8 => .ok (!b8)) fun b9 => if b9 = true then (.ok false) else (kn6 ()))) (fun (s10 : Unit) => (.ok true)) ()))
abbrev s_m_law_are_numbers : Stmt := top 43
theorem sc_m_law_are_numbers : FnScope ["actual", "many", "number"] ["actual", "many"] (defScope s_m_law_are_numbers) := ⟨rfl, rfl, rfl, by decide +kernel, rfl, by decide +kernel, by decide +kernel⟩
theorem ok_m_law_are_numbers {fd : FuncData} (T : Tx K mg) (D : FunD K "_law_are_numbers" "_law_are_numbers" (defArgs s_m_law_are_numbers) (defBody s_m_law_are_numbers) (defScope s_m_law_are_numbers) [] [] (He.ga K "_law_are_numbers") fd) (F_m_law_is_number : FnX P w K mg base 2 "_law_is_number" (Prm K (rv K) fun (a : PyData × Unit) => m_law_is_number a.1)) : FnX P w K mg base 3 "_law_are_numbers" (Prm K (rv K) fun (a : PyData × Int × Unit) => m_law_are_numbers a.1 a.2.1) := by
  refine ⟨fnr_of (k := 2) D sc_m_law_are_numbers (by decide) rfl (fun _ _ _ _ _ _ us hl => match us, hl with | [_, _], _ => rfl) (fun cdv A' outer s H E hr => ⟨_, (pss_cons (ps_if (PW.pt (pw_or (pt_not (pt_val (pe_callB (crIsi K) (by rfl) T.g_isinstance (by decide +kernel) (pa_cons (pv 0) (pa_cons (pe_bltn (v := .ty "list") (u := .type "list") (by rfl) T.g_list (by decide +kernel) rfl) pa_nil))))) (pw_or1 (pt_cmpR op_ne (pe_callB (crLen K) (by rfl) T.g_len PySem.boot_len (pa_cons (pv 0) pa_nil)) (pv 1) (nomark _))))) (pss_one (ps_ret pe_bl)) pss_nil) (pss_cons (ps_for (passes_of rfl) rfl (piList K (pv 0)) (pg_name (i := 2) sc_m_law_are_numbers.nd rfl (Or.inl rfl)) (pss_one (ps_if (pt_not (pt_val (pe_fn F_m_law_is_number (hr.mono (by decide)) (by rfl) (fun σ => passAt (takes_of rfl rfl rfl rfl) σ) (pa_cons (pv 2) pa_nil)))) (pss_one (ps_ret pe_bl)) pss_nil))) (pss_one (ps_ret pe_bl)))), ?_⟩), D.kp, T.g__law_are_numbers⟩
  intro a
  rw [m_law_are_numbers]
  exact (gs_seq (gs_if (gt_or (gt_not (gt_B (qv_isi (gv_var 0)))) (gt_test (gv_op o2_ne (gv_cb1 q1_lenPd (gv_var 0)) (gv_var 1)))) (gs_ret gv_bl) (gs_next (gs_seq (gs_for (S := Unit) (fun s4 => [sv a.1, sv a.2.1, .any]) () (gi_pdL (gv_var 0)) (gg_name 2) (.r (.r (.r .nil))) (fun s4 x5 kn6 kb7 => (gs_if (gt_not (gt_B (gv_callS (ga_cons (gv_var 2) ga_nil)))) (gs_ret gv_bl) (gs_next ⟨(), (.r (.r (.a .nil))), rfl⟩))) (fun s10 => (gs_ret gv_bl)))))))
@[irreducible] def m_law_common (a0 : (List (Int × Int))) : R Int := (R.bind (.ok (1 : Int)) fun v_common_1 => (R.bind (.ok a0) fun xs10 => forC xs10 (fun (s2 : Int) (x3 : (Int × Int)) kn4 kb5 => (R.bind (R.bind (R.bind (m_law_gcd s2 x3.2) fun r6 => (divQ s2 r6)) fun r7 => (mulQ r7 x3.2)) fun v_common_8 => (kn4 (v_common_8)))) (fun (s9 : Int) => (.ok s9)) (v_common_1)))
abbrev s_m_law_common : Stmt := top 44
theorem sc_m_law_common : FnScope ["numbers", "common", "number"] ["numbers"] (defScope s_m_law_common) := ⟨rfl, rfl, rfl, by decide +kernel, rfl, by decide +kernel, by decide +kernel⟩
theorem ok_m_law_common {fd : FuncData} (T : Tx K mg) (D : FunD K "_law_common" "_law_common" (defArgs s_m_law_common) (defBody s_m_law_common) (defScope s_m_law_common) [] [] (He.ga K "_law_common") fd) (F_m_law_gcd : FnX P w K mg base 1 "_law_gcd" (Prm K (rv K) fun (a : Int × Int × Unit) => m_law_gcd a.1 a.2.1)) : FnX P w K mg base 2 "_law_common" (Prm K (rv K) fun (a : (List (Int × Int)) × Unit) => m_law_common a.1) := by
  refine ⟨fnr_of (k := 1) D sc_m_law_common (by decide) rfl (fun _ _ _ _ _ _ us hl => match us, hl with | [_], _ => rfl) (fun cdv A' outer s H E hr => ⟨_, (pss_cons (ps_set (i := 1) sc_m_law_common.nd rfl (Or.inl rfl) pe_int) (pss_cons (ps_for (passes_of rfl) rfl (piList K (pv 0)) (pg_name (i := 2) sc_m_law_common.nd rfl (Or.inl rfl)) (pss_one (ps_set (i := 1) sc_m_law_common.nd rfl (Or.inl rfl) (pe_op op_mulW (pe_op op_fdivW (pv 1) (pe_fn F_m_law_gcd (hr.mono (by decide)) (by rfl) (fun σ => passAt (takes_of rfl rfl rfl rfl) σ) (pa_cons (pv 1) (pa_cons (pe_ix (ixT K) (pv 2) pe_int (fun _ _ => rfl)) pa_nil)))) (pe_ix (ixT K) (pv 2) pe_int (fun _ _ => rfl)))))) (pss_one (ps_ret (pv 1))))), ?_⟩), D.kp, T.g__law_common⟩
  intro a
  rw [m_law_common]
  exact (gs_seq (gs_asg gv_int (fun v_common_1 => (gs_seq (gs_for (S := Int) (fun s2 => [sv a.1, sv s2, .any]) (v_common_1) (gi_list (gv_var 0)) (gg_name 2) (.r (.r (.r .nil))) (fun s2 x3 kn4 kb5 => (gs_asg (gv_op q2_mul (gv_op q2_div (gv_var 1) (gv_callS (ga_cons (gv_var 1) (ga_cons (gv_snd (gv_var 2)) ga_nil)))) (gv_snd (gv_var 2))) (fun v_common_8 => ⟨(v_common_8), (.r (.r (.a .nil))), rfl⟩))) (fun s9 => (gs_ret (gv_var 1))))))))
@[irreducible] def m_law_scaled (a0 : (List (Int × Int))) (a1 : Int) : R (List Int) := (comp a0 (fun (x1 : (Int × Int)) => (R.bind (divQ a1 x1.2) fun r2 => (mulQ x1.1 r2))))
abbrev s_m_law_scaled : Stmt := top 45
theorem sc_m_law_scaled : FnScope ["numbers", "common", "number"] ["numbers", "common"] (defScope s_m_law_scaled) := ⟨rfl, rfl, rfl, by decide +kernel, rfl, by decide +kernel, by decide +kernel⟩
theorem ok_m_law_scaled {fd : FuncData} (T : Tx K mg) (D : FunD K "_law_scaled" "_law_scaled" (defArgs s_m_law_scaled) (defBody s_m_law_scaled) (defScope s_m_law_scaled) [] [] (He.ga K "_law_scaled") fd) : FnX P w K mg base 1 "_law_scaled" (Prm K (ro K) fun (a : (List (Int × Int)) × Int × Unit) => m_law_scaled a.1 a.2.1) := by
  refine ⟨fnr_of (k := 0) D sc_m_law_scaled (by decide) rfl (fun _ _ _ _ _ _ us hl => match us, hl with | [_, _], _ => rfl) (fun cdv A' outer s H E hr => ⟨_, (pss_one (ps_ret (pe_lc (own := [("number", 2)]) (g := gName 2) rfl sc_m_law_scaled.nd (piList K (pv 0)) (blkOk_by (N := ["numbers", "common", "number"]) (sc := (defScope s_m_law_scaled)) (by decide +kernel)) (fun _ _ _ _ _ => (pg_name (i := 2) sc_m_law_scaled.nd rfl (Or.inl rfl))) (fun _ _ _ _ _ => pts_nil) (fun _ _ _ _ _ => (pe_op op_mulW (pe_ix (ixT K) (pv 2) pe_int (fun _ _ => rfl)) (pe_op op_fdivW (pv 1) (pe_ix (ixT K) (pv 2) pe_int (fun _ _ => rfl)))))))), ?_⟩), D.kp, T.g__law_scaled⟩
  intro a
  rw [m_law_scaled]
  exact (gs_ret (gv_lc (gi_list (gv_var 0)) (gg_name 2) (by decide) (any1 rfl) (fun _ => Gv.nx (gv_op q2_mul (gv_fst (gv_var 2)) (gv_op q2_div (gv_var 1) (gv_snd (gv_var 2)))))))
@[irreducible] def m_law_step (a0 : (List Int)) (a1 : Int) : R Int := (R.bind (.ok (1 : Int)) fun v_step_1 => (R.bind (rangeQ (a1 + (1 : Int)) (a0.length : Int)) fun xs9 => forC xs9 (fun (s2 : Int) (x3 : Int) kn4 kb5 => (R.bind (R.bind (ixQ a0 x3) fun r6 => (mulQ s2 r6)) fun v_step_7 => (kn4 (v_step_7)))) (fun (s8 : Int) => (.ok s8)) (v_step_1)))
abbrev s_m_law_step : Stmt := top 47
theorem sc_m_law_step : FnScope ["choices", "person", "step", "k"] ["choices", "person"] (defScope s_m_law_step) := ⟨rfl, rfl, rfl, by decide +kernel, rfl, by decide +kernel, by decide +kernel⟩
theorem ok_m_law_step {fd : FuncData} (T : Tx K mg) (D : FunD K "_law_step" "_law_step" (defArgs s_m_law_step) (defBody s_m_law_step) (defScope s_m_law_step) [] [] (He.ga K "_law_step") fd) : FnX P w K mg base 1 "_law_step" (Prm K (rv K) fun (a : (List Int) × Int × Unit) => m_law_step a.1 a.2.1) := by
  refine ⟨fnr_of (k := 0) D sc_m_law_step (by decide) rfl (fun _ _ _ _ _ _ us hl => match us, hl with | [_, _], _ => rfl) (fun cdv A' outer s H E hr => ⟨_, (pss_cons (ps_set (i := 2) sc_m_law_step.nd rfl (Or.inl rfl) pe_int) (pss_cons (ps_for (passes_of rfl) rfl (pi_range2 (by rfl) T.g_range (pa_cons (pe_op op_add (pv 1) pe_int) (pa_cons (pe_callB (crLen K) (by rfl) T.g_len PySem.boot_len (pa_cons (pv 0) pa_nil)) pa_nil))) (pg_name (i := 3) sc_m_law_step.nd rfl (Or.inl rfl)) (pss_one (ps_set (i := 2) sc_m_law_step.nd rfl (Or.inl rfl) (pe_op op_mulW (pv 2) (pe_ix (ixL K) (pv 0) (pv 3) (fun _ _ => rfl)))))) (pss_one (ps_ret (pv 2))))), ?_⟩), D.kp, T.g__law_step⟩
  intro a
  rw [m_law_step]
  exact (gs_seq (gs_asg gv_int (fun v_step_1 => (gs_seq (gs_for (S := Int) (fun s2 => [sv a.1, sv a.2.1, sv s2, .any]) (v_step_1) (qi_range2 (live := false) (gv_op o2_add (gv_var 1) gv_int) (gv_cb1 o1_len (Gv.lv (gv_var 0)))) (gg_name 3) (.r (.r (.r (.r .nil)))) (fun s2 x3 kn4 kb5 => (gs_asg (gv_op q2_mul (gv_var 2) (gv_op q2_ix (Gv.lv (gv_var 0)) (gv_var 3))) (fun v_step_7 => ⟨(v_step_7), (.r (.r (.r (.a .nil)))), rfl⟩))) (fun s8 => (gs_ret (gv_var 2))))))))
@[irreducible] def m_law_chosen (a0 : (List Int)) (a1 : Int) (a2 : Int) : R Int := (R.bind (R.bind (R.bind (m_law_step a0 a1) fun r1 => (divQ a2 r1)) fun r2 => (.ok r2)) fun r3 => (R.bind (ixQ a0 a1) fun r4 => (modQ r3 r4)))
abbrev s_m_law_chosen : Stmt := top 48
theorem sc_m_law_chosen : FnScope ["choices", "person", "outcome"] ["choices", "person", "outcome"] (defScope s_m_law_chosen) := ⟨rfl, rfl, rfl, by decide +kernel, rfl, by decide +kernel, by decide +kernel⟩
theorem ok_m_law_chosen {fd : FuncData} (T : Tx K mg) (D : FunD K "_law_chosen" "_law_chosen" (defArgs s_m_law_chosen) (defBody s_m_law_chosen) (defScope s_m_law_chosen) [] [] (He.ga K "_law_chosen") fd) (F_m_law_step : FnX P w K mg base 1 "_law_step" (Prm K (rv K) fun (a : (List Int) × Int × Unit) => m_law_step a.1 a.2.1)) : FnX P w K mg base 2 "_law_chosen" (Prm K (rv K) fun (a : (List Int) × Int × Int × Unit) => m_law_chosen a.1 a.2.1 a.2.2.1) := by
  refine ⟨fnr_of (k := 1) D sc_m_law_chosen (by decide) rfl (fun _ _ _ _ _ _ us hl => match us, hl with | [_, _, _], _ => rfl) (fun cdv A' outer s H E hr => ⟨_, (pss_one (ps_ret (pe_op op_mod (pe_callTy call_int1 (by rfl) T.g_int (by decide +kernel) (pa_cons (pe_op op_fdivW (pv 2) (pe_fn F_m_law_step (hr.mono (by decide)) (by rfl) (fun σ => passAt (takes_of rfl rfl rfl rfl) σ) (pa_cons (pv 0) (pa_cons (pv 1) pa_nil)))) pa_nil)) (pe_ix (ixL K) (pv 0) (pv 1) (fun _ _ => rfl))))), ?_⟩), D.kp, T.g__law_chosen⟩
  intro a
  rw [m_law_chosen]
  exact (gs_ret (gv_op q2_mod (gv_cb1 o1_int (gv_op q2_div (gv_var 2) (gv_callS (ga_cons (gv_var 0) (ga_cons (gv_var 1) ga_nil))))) (gv_op q2_ix (Gv.lv (gv_var 0)) (gv_var 1))))
@[irreducible] def m_law_change (a0 : (List Int)) (a1 : (List (List Int))) (a2 : Int) (a3 : Int) (a4 : Int) : R Int := (R.bind (R.bind (R.bind (R.bind (m_law_chosen a0 a2 a3) fun r1 => (.ok (a4 - r1))) fun r2 => (R.bind (m_law_step a0 a2) fun r3 => (mulQ r2 r3))) fun r4 => (.ok (a3 + r4))) fun v_other_5 => (R.bind (R.bind (ixQ a1 a2) fun r6 => (ixQ r6 v_other_5)) fun r8 => (R.bind (R.bind (ixQ a1 a2) fun r7 => (ixQ r7 a3)) fun r9 => (.ok (r8 - r9)))))
abbrev s_m_law_change : Stmt := top 49
theorem sc_m_law_change : FnScope ["choices", "pays", "person", "outcome", "choice", "other"] ["choices", "pays", "person", "outcome", "choice"] (defScope s_m_law_change) := ⟨rfl, rfl, rfl, by decide +kernel, rfl, by decide +kernel, by decide +kernel⟩
theorem ok_m_law_change {fd : FuncData} (T : Tx K mg) (D : FunD K "_law_change" "_law_change" (defArgs s_m_law_change) (defBody s_m_law_change) (defScope s_m_law_change) [] [] (He.ga K "_law_change") fd) (F_m_law_chosen : FnX P w K mg base 2 "_law_chosen" (Prm K (rv K) fun (a : (List Int) × Int × Int × Unit) => m_law_chosen a.1 a.2.1 a.2.2.1)) (F_m_law_step : FnX P w K mg base 1 "_law_step" (Prm K (rv K) fun (a : (List Int) × Int × Unit) => m_law_step a.1 a.2.1)) : FnX P w K mg base 3 "_law_change" (Prm K (rv K) fun (a : (List Int) × (List (List Int)) × Int × Int × Int × Unit) => m_law_change a.1 a.2.1 a.2.2.1 a.2.2.2.1 a.2.2.2.2.1) := by
  refine ⟨fnr_of (k := 2) D sc_m_law_change (by decide) rfl (fun _ _ _ _ _ _ us hl => match us, hl with | [_, _, _, _, _], _ => rfl) (fun cdv A' outer s H E hr => ⟨_, (pss_cons (ps_set (i := 5) sc_m_law_change.nd rfl (Or.inl rfl) (pe_op op_add (pv 3) (pe_op op_mulW (pe_op op_sub (pv 4) (pe_fn F_m_law_chosen (hr.mono (by decide)) (by rfl) (fun σ => passAt (takes_of rfl rfl rfl rfl) σ) (pa_cons (pv 0) (pa_cons (pv 2) (pa_cons (pv 3) pa_nil))))) (pe_fn F_m_law_step (hr.mono (by decide)) (by rfl) (fun σ => passAt (takes_of rfl rfl rfl rfl) σ) (pa_cons (pv 0) (pa_cons (pv 2) pa_nil)))))) (pss_one (ps_ret (pe_op op_sub (pe_ix (ixL K) (pe_ix (ixL K) (pv 1) (pv 2) (fun _ _ => rfl)) (pv 5) (fun _ _ => rfl)) (pe_ix (ixL K) (pe_ix (ixL K) (pv 1) (pv 2) (fun _ _ => rfl)) (pv 3) (fun _ _ => rfl)))))), ?_⟩), D.kp, T.g__law_change⟩
  intro a
  rw [m_law_change]
  exact (gs_seq (gs_asg (gv_op o2_add (gv_var 3) (gv_op q2_mul (gv_op o2_sub (gv_var 4) (gv_callS (ga_cons (gv_var 0) (ga_cons (gv_var 2) (ga_cons (gv_var 3) ga_nil))))) (gv_callS (ga_cons (gv_var 0) (ga_cons (gv_var 2) ga_nil))))) (fun v_other_5 => (gs_ret (gv_op o2_sub (gv_op q2_ix (Gv.lv (gv_op q2_ix (Gv.lv (gv_var 1)) (gv_var 2))) (gv_var 5)) (gv_op q2_ix (Gv.lv (gv_op q2_ix (Gv.lv (gv_var 1)) (gv_var 2))) (gv_var 3)))))))
@[irreducible] def m_law_every (a0 : (List (List (List (Int × Int))))) : R (List (Int × Int)) := (R.bind (.ok ([] : List (Int × Int))) fun v_numbers_1 => (R.bind (.ok a0) fun xs20 => forC xs20 (fun (s2 : (List (Int × Int))) (x3 : (List (List (Int × Int)))) kn4 kb5 => (R.bind (.ok x3) fun xs18 => forC xs18 (fun (s6 : (List (Int × Int))) (x7 : (List (Int × Int))) kn8 kb9 => (R.bind (.ok x7) fun xs16 => forC xs16 (fun (s10 : (List (Int × Int))) (x11 : (Int × Int)) kn12 kb13 => (R.bind (.ok x11) fun x14 => R.chk (s10.length < 100000) (kn12 ((s10 ++ [x14]))))) (fun (s15 : (List (Int × Int))) => (kn8 (s15))) (s6))) (fun (s17 : (List (Int × Int))) => (kn4 (s17))) (s2))) (fun (s19 : (List (Int × Int))) => (.ok s19)) (v_numbers_1)))
abbrev s_m_law_every : Stmt := top 50
theorem sc_m_law_every : FnScope ["weights", "numbers", "table", "row", "number"] ["weights"] (defScope s_m_law_every) := ⟨rfl, rfl, rfl, by decide +kernel, rfl, by decide +kernel, by decide +kernel⟩
theorem ok_m_law_every {fd : FuncData} (T : Tx K mg) (D : FunD K "_law_every" "_law_every" (defArgs s_m_law_every) (defBody s_m_law_every) (defScope s_m_law_every) [] [] (He.ga K "_law_every") fd) : FnX P w K mg base 1 "_law_every" (Prm K (ro K) fun (a : (List (List (List (Int × Int)))) × Unit) => m_law_every a.1) := by
  refine ⟨fnr_of (k := 0) D sc_m_law_every (by decide) rfl (fun _ _ _ _ _ _ us hl => match us, hl with | [_], _ => rfl) (fun cdv A' outer s H E hr => ⟨_, (pss_cons (ps_set (i := 1) sc_m_law_every.nd rfl (Or.inl rfl) (pe_lst pa_nil)) (pss_cons (ps_for (passes_of rfl) rfl (piList K (pv 0)) (pg_name (i := 2) sc_m_law_every.nd rfl (Or.inl rfl)) (pss_one (ps_for (passes_of rfl) rfl (piList K (pv 2)) (pg_name (i := 3) sc_m_law_every.nd rfl (Or.inl rfl)) (pss_one (ps_for (passes_of rfl) rfl (piList K (pv 3)) (pg_name (i := 4) sc_m_law_every.nd rfl (Or.inl rfl)) (pss_one (ps_expr (pe_bm PySem.F.plainAttrs_list PySem.F.slot_list_append PySem.F.type_list_append mt_append (pv 1) (pa_cons (pv 4) pa_nil))))))))) (pss_one (ps_ret (pv 1))))), ?_⟩), D.kp, T.g__law_every⟩
  intro a
  rw [m_law_every]
  exact (gs_seq (gs_asgO (gv_lst gs_nil) (fun v_numbers_1 => (gs_seq (gs_for (S := (List (Int × Int))) (fun s2 => [sv a.1, so s2, .any, .any, .any]) (v_numbers_1) (gi_list (gv_var 0)) (gg_name 2) (.r (.r (.r (.r (.r .nil))))) (fun s2 x3 kn4 kb5 => (gs_for (S := (List (Int × Int))) (fun s6 => [sv a.1, so s6, sv x3, .any, .any]) (s2) (gi_list (gv_var 2)) (gg_name 3) (.r (.r (.r (.r (.r .nil))))) (fun s6 x7 kn8 kb9 => (gs_for (S := (List (Int × Int))) (fun s10 => [sv a.1, so s10, sv x3, sv x7, .any]) (s6) (gi_list (gv_var 3)) (gg_name 4) (.r (.r (.r (.r (.r .nil))))) (fun s10 x11 kn12 kb13 => (gs_append (n := 1) rfl (gv_var 4) (fun x14 => ⟨((s10 ++ [x14])), (.r (.r (.r (.r (.a .nil))))), rfl⟩))) (fun s15 => ⟨(s15), (.r (.r (.r (.a (.r .nil))))), rfl⟩))) (fun s17 => ⟨(s17), (.r (.r (.a (.r (.r .nil))))), rfl⟩))) (fun s19 => (gs_retOwn 1)))))))
@[irreducible] def m_law_gains (a0 : (List Int)) (a1 : (List (List Int))) (a2 : (List (List (List (Int × Int))))) : R (List Int) := (R.bind (R.bind (m_law_every a2) fun r1 => (m_law_common r1)) fun v_common_2 => (R.bind (.ok ([] : List Int)) fun v_gained_3 => (R.bind (R.bind (R.bind (ixQ a1 (0 : Int)) fun r4 => (.ok (r4.length : Int))) fun r5 => (rangeQ 0 r5)) fun xs34 => forC xs34 (fun (s6 : (List Int)) (x7 : Int) kn8 kb9 => (R.bind (.ok (0 : Int)) fun v_total_10 => (R.bind (rangeQ 0 (a0.length : Int)) fun xs32 => forC xs32 (fun (s11 : Int) (x12 : Int) kn13 kb14 => (R.bind (R.bind (R.bind (ixQ a2 x12) fun r15 => (R.bind (m_law_chosen a0 x12 x7) fun r16 => (ixQ r15 r16))) fun r17 => (m_law_scaled r17 v_common_2)) fun v_row_18 => (R.bind (R.bind (ixQ a0 x12) fun r19 => (rangeQ 0 r19)) fun xs29 => forC xs29 (fun (s20 : Int) (x21 : Int) kn22 kb23 => (R.bind (R.bind (R.bind (ixQ v_row_18 x21) fun r24 => (R.bind (m_law_change a0 a1 x12 x7 x21) fun r25 => (mulQ r24 r25))) fun r26 => (.ok (s20 + r26))) fun v_total_27 => (kn22 (v_total_27)))) (fun (s28 : Int) => (kn13 (s28))) (s11)))) (fun (s30 : Int) => (R.bind (.ok s30) fun x31 => R.chk (s6.length < 100000) (kn8 ((s6 ++ [x31]))))) (v_total_10)))) (fun (s33 : (List Int)) => (.ok s33)) (v_gained_3))))
abbrev s_m_law_gains : Stmt := top 51
theorem sc_m_law_gains : FnScope ["choices", "pays", "weights", "common", "gained", "outcome", "total", "person", "row", "choice"] ["choices", "pays", "weights"] (defScope s_m_law_gains) := ⟨rfl, rfl, rfl, by decide +kernel, rfl, by decide +kernel, by decide +kernel⟩
theorem ok_m_law_gains {fd : FuncData} (T : Tx K mg) (D : FunD K "_law_gains" "_law_gains" (defArgs s_m_law_gains) (defBody s_m_law_gains) (defScope s_m_law_gains) [] [] (He.ga K "_law_gains") fd) (F_m_law_common : FnX P w K mg base 2 "_law_common" (Prm K (rv K) fun (a : (List (Int × Int)) × Unit) => m_law_common a.1)) (F_m_law_every : FnX P w K mg base 1 "_law_every" (Prm K (ro K) fun (a : (List (List (List (Int × Int)))) × Unit) => m_law_every a.1)) (F_m_law_scaled : FnX P w K mg base 1 "_law_scaled" (Prm K (ro K) fun (a : (List (Int × Int)) × Int × Unit) => m_law_scaled a.1 a.2.1)) (F_m_law_chosen : FnX P w K mg base 2 "_law_chosen" (Prm K (rv K) fun (a : (List Int) × Int × Int × Unit) => m_law_chosen a.1 a.2.1 a.2.2.1)) (F_m_law_change : FnX P w K mg base 3 "_law_change" (Prm K (rv K) fun (a : (List Int) × (List (List Int)) × Int × Int × Int × Unit) => m_law_change a.1 a.2.1 a.2.2.1 a.2.2.2.1 a.2.2.2.2.1)) : FnX P w K mg base 4 "_law_gains" (Prm K (ro K) fun (a : (List Int) × (List (List Int)) × (List (List (List (Int × Int)))) × Unit) => m_law_gains a.1 a.2.1 a.2.2.1) := by
  refine ⟨fnr_of (k := 3) D sc_m_law_gains (by decide) rfl (fun _ _ _ _ _ _ us hl => match us, hl with | [_, _, _], _ => rfl) (fun cdv A' outer s H E hr => ⟨_, (pss_cons (ps_set (i := 3) sc_m_law_gains.nd rfl (Or.inl rfl) (pe_fn F_m_law_common (hr.mono (by decide)) (by rfl) (fun σ => passAt (takes_of rfl rfl rfl rfl) σ) (pa_cons (pe_fn F_m_law_every (hr.mono (by decide)) (by rfl) (fun σ => passAt (takes_of rfl rfl rfl rfl) σ) (pa_cons (pv 2) pa_nil)) pa_nil))) (pss_cons (ps_set (i := 4) sc_m_law_gains.nd rfl (Or.inl rfl) (pe_lst pa_nil)) (pss_cons (ps_for (passes_of rfl) rfl (pi_range1 (by rfl) T.g_range (pa_cons (pe_callB (crLen K) (by rfl) T.g_len PySem.boot_len (pa_cons (pe_ix (ixL K) (pv 1) pe_int (fun _ _ => rfl)) pa_nil)) pa_nil)) (pg_name (i := 5) sc_m_law_gains.nd rfl (Or.inl rfl)) (pss_cons (ps_set (i := 6) sc_m_law_gains.nd rfl (Or.inl rfl) pe_int) (pss_cons (ps_for (passes_of rfl) rfl (pi_range1 (by rfl) T.g_range (pa_cons (pe_callB (crLen K) (by rfl) T.g_len PySem.boot_len (pa_cons (pv 0) pa_nil)) pa_nil)) (pg_name (i := 7) sc_m_law_gains.nd rfl (Or.inl rfl)) (pss_cons (ps_set (i := 8) sc_m_law_gains.nd rfl (Or.inl rfl) (pe_fn F_m_law_scaled (hr.mono (by decide)) (by rfl) (fun σ => passAt (takes_of rfl rfl rfl rfl) σ) (pa_cons (pe_ix (ixL K) (pe_ix (ixL K) (pv 2) (pv 7) (fun _ _ => rfl)) (pe_fn F_m_law_chosen (hr.mono (by decide)) (by rfl) (fun σ => passAt (takes_of rfl rfl rfl rfl) σ) (pa_cons (pv 0) (pa_cons (pv 7) (pa_cons (pv 5) pa_nil)))) (fun _ _ => rfl)) (pa_cons (pv 3) pa_nil)))) (pss_one (ps_for (passes_of rfl) rfl (pi_range1 (by rfl) T.g_range (pa_cons (pe_ix (ixL K) (pv 0) (pv 7) (fun _ _ => rfl)) pa_nil)) (pg_name (i := 9) sc_m_law_gains.nd rfl (Or.inl rfl)) (pss_one (ps_set (i := 6) sc_m_law_gains.nd rfl (Or.inl rfl) (pe_op op_add (pv 6) (pe_op op_mulW (pe_ix (ixL K) (pv 8) (pv 9) (fun _ _ => rfl)) (pe_fn F_m_law_change (hr.mono (by decide)) (by rfl) (fun σ => passAt (takes_of rfl rfl rfl rfl) σ) (pa_cons (pv 0) (pa_cons (pv 1) (pa_cons (pv 7) (pa_cons (pv 5) (pa_cons (pv 9) pa_nil)))))))))))))) (pss_one (ps_expr (pe_bm PySem.F.plainAttrs_list PySem.F.slot_list_append PySem.F.type_list_append mt_append (pv 4) (pa_cons (pv 6) pa_nil))))))) (pss_one (ps_ret (pv 4)))))), ?_⟩), D.kp, T.g__law_gains⟩
  intro a
  rw [m_law_gains]
  exact (gs_seq (gs_asg (gv_callS (ga_cons (Gv.fr (gv_callS (ga_cons (gv_var 2) ga_nil))) ga_nil)) (fun v_common_2 => (gs_seq (gs_asgO (gv_lst gs_nil) (fun v_gained_3 => (gs_seq (gs_for (S := (List Int)) (fun s6 => [sv a.1, sv a.2.1, sv a.2.2.1, sv v_common_2, so s6, .any, .any, .any, .any, .any]) (v_gained_3) (qi_range1 (live := false) (gv_cb1 o1_len (Gv.lv (gv_op q2_ix (Gv.lv (gv_var 1)) gv_int)))) (gg_name 5) (.r (.r (.r (.r (.r (.r (.r (.r (.r (.r .nil)))))))))) (fun s6 x7 kn8 kb9 => (gs_seq (gs_asg gv_int (fun v_total_10 => (gs_seq (gs_for (S := Int) (fun s11 => [sv a.1, sv a.2.1, sv a.2.2.1, sv v_common_2, so s6, sv x7, sv s11, .any, .any, .any]) (v_total_10) (qi_range1 (live := false) (gv_cb1 o1_len (Gv.lv (gv_var 0)))) (gg_name 7) (.r (.r (.r (.r (.r (.r (.r (.r (.r (.r .nil)))))))))) (fun s11 x12 kn13 kb14 => (gs_seq (gs_asg (Gv.fr (gv_callS (ga_cons (gv_op q2_ix (Gv.lv (gv_op q2_ix (Gv.lv (gv_var 2)) (gv_var 7))) (gv_callS (ga_cons (gv_var 0) (ga_cons (gv_var 7) (ga_cons (gv_var 5) ga_nil))))) (ga_cons (gv_var 3) ga_nil)))) (fun v_row_18 => (gs_for (S := Int) (fun s20 => [sv a.1, sv a.2.1, sv a.2.2.1, sv v_common_2, so s6, sv x7, sv s20, sv x12, sv v_row_18, .any]) (s11) (qi_range1 (live := false) (gv_op q2_ix (Gv.lv (gv_var 0)) (gv_var 7))) (gg_name 9) (.r (.r (.r (.r (.r (.r (.r (.r (.r (.r .nil)))))))))) (fun s20 x21 kn22 kb23 => (gs_asg (gv_op o2_add (gv_var 6) (gv_op q2_mul (gv_op q2_ix (Gv.lv (gv_var 8)) (gv_var 9)) (gv_callS (ga_cons (gv_var 0) (ga_cons (gv_var 1) (ga_cons (gv_var 7) (ga_cons (gv_var 5) (ga_cons (gv_var 9) ga_nil)))))))) (fun v_total_27 => ⟨(v_total_27), (.r (.r (.r (.r (.r (.r (.r (.r (.r (.a .nil)))))))))), rfl⟩))) (fun s28 => ⟨(s28), (.r (.r (.r (.r (.r (.r (.r (.a (.a (.r .nil)))))))))), rfl⟩)))))) (fun s30 => (gs_append (n := 4) rfl (gv_var 6) (fun x31 => ⟨((s6 ++ [x31])), (.r (.r (.r (.r (.r (.a (.a (.r (.r (.r .nil)))))))))), rfl⟩))))))))) (fun s33 => (gs_retOwn 4))))))))))
@[irreducible] def m_law_lowest_terms (a0 : Int) (a1 : Int) : R (Int × Int) := (R.bind (m_law_gcd (Int.natAbs a0 : Int) a1) fun v_divisor_1 => (R.bind (divQ a0 v_divisor_1) fun r2 => (R.bind (divQ a1 v_divisor_1) fun r3 => (.ok (r2, r3)))))
abbrev s_m_law_lowest_terms : Stmt := top 52
theorem sc_m_law_lowest_terms : FnScope ["top", "bottom", "divisor"] ["top", "bottom"] (defScope s_m_law_lowest_terms) := ⟨rfl, rfl, rfl, by decide +kernel, rfl, by decide +kernel, by decide +kernel⟩
theorem ok_m_law_lowest_terms {fd : FuncData} (T : Tx K mg) (D : FunD K "_law_lowest_terms" "_law_lowest_terms" (defArgs s_m_law_lowest_terms) (defBody s_m_law_lowest_terms) (defScope s_m_law_lowest_terms) [] [] (He.ga K "_law_lowest_terms") fd) (F_m_law_gcd : FnX P w K mg base 1 "_law_gcd" (Prm K (rv K) fun (a : Int × Int × Unit) => m_law_gcd a.1 a.2.1)) : FnX P w K mg base 2 "_law_lowest_terms" (Prm K (rv K) fun (a : Int × Int × Unit) => m_law_lowest_terms a.1 a.2.1) := by
  refine ⟨fnr_of (k := 1) D sc_m_law_lowest_terms (by decide) rfl (fun _ _ _ _ _ _ us hl => match us, hl with | [_, _], _ => rfl) (fun cdv A' outer s H E hr => ⟨_, (pss_cons (ps_set (i := 2) sc_m_law_lowest_terms.nd rfl (Or.inl rfl) (pe_fn F_m_law_gcd (hr.mono (by decide)) (by rfl) (fun σ => passAt (takes_of rfl rfl rfl rfl) σ) (pa_cons (pe_callB call_abs (by rfl) T.g_abs (by decide +kernel) (pa_cons (pv 0) pa_nil)) (pa_cons (pv 1) pa_nil)))) (pss_one (ps_ret (pe_tup (pa_cons (pe_op op_fdivW (pv 0) (pv 2)) (pa_cons (pe_op op_fdivW (pv 1) (pv 2)) pa_nil)))))), ?_⟩), D.kp, T.g__law_lowest_terms⟩
  intro a
  rw [m_law_lowest_terms]
  exact (gs_seq (gs_asg (gv_callS (ga_cons (gv_cb1 o1_abs (gv_var 0)) (ga_cons (gv_var 1) ga_nil))) (fun v_divisor_1 => (gs_ret (gv_pair (gv_op q2_div (gv_var 0) (gv_var 2)) (gv_op q2_div (gv_var 1) (gv_var 2)))))))
@[irreducible] def m_law_weights (a0 : Scr) (a1 : (List Int)) : R (List (List (List (Int × Int)))) := (R.bind (R.bind (m_law_cell a0 (5 : Int)) fun r1 => (m_law_draws r1 ([(2 : Int), (3 : Int), (8 : Int), (5 : Int)] : List Int))) fun v_shape_2 => (R.bind (.ok ([] : List (List (List (Int × Int))))) fun v_weights_3 => (R.bind (rangeQ 0 (a1.length : Int)) fun xs87 => forC xs87 (fun (s4 : (List (List (List (Int × Int))))) (x5 : Int) kn6 kb7 => (R.bind (ixQ a1 x5) fun v_many_8 => (R.bind (.ok ([] : List (List (Int × Int)))) fun v_table_9 => (R.bind (rangeQ 0 v_many_8) fun xs85 => forC xs85 (fun (s10 : (List (List (Int × Int)))) (x11 : Int) kn12 kb13 => (R.bind (R.bind (R.bind (R.bind (rangeQ 0 v_many_8) fun r15 => (comp r15 (fun (x14 : Int) => (.ok (10 : Int))))) fun r18 => (R.bind (R.bind (rangeQ 0 v_many_8) fun r17 => (comp r17 (fun (x16 : Int) => (.ok (4 : Int))))) fun r19 => (catQ r18 r19))) fun r22 => (R.bind (R.bind (rangeQ 0 v_many_8) fun r21 => (comp r21 (fun (x20 : Int) => (.ok (2 : Int))))) fun r23 => (catQ r22 r23))) fun v_sizes_24 => (R.bind (R.bind (R.bind (R.bind (R.bind (mulQ (4 : Int) x5) fun r25 => (.ok ((8 : Int) + r25))) fun r26 => (.ok (r26 + x11))) fun r27 => (m_law_cell a0 r27)) fun r28 => (m_law_draws r28 v_sizes_24)) fun v_drawn_29 => (R.bind (.ok ([] : List (Int × Int))) fun v_row_30 => (R.bind (rangeQ 0 v_many_8) fun xs82 => forC xs82 (fun (s31 : (List (Int × Int))) (x32 : Int) kn33 kb34 => (R.bind (ixQ v_drawn_29 x32) fun v_n_35 => (R.bind (.ok (1 : Int)) fun v_d_36 => (joinR (fun (s42 : Int) => (joinR (fun (s46 : Int) => (joinR (fun (s52 : Int) => (joinR (fun (s59 : Int) => (R.bind (m_law_lowest_terms s59 s46) fun x60 => R.chk (s31.length < 100000) (kn33 ((s31 ++ [x60]))))) fun kj61 => R.bind (R.bind (R.bind (R.bind (ixQ v_shape_2 (3 : Int)) fun r53 => (.ok (decide (r53 = (0 : Int))))) fun b54 => if b54 = true then (.ok (decide (x32 < x11))) else .ok false) fun b57 => if b57 = true then .ok true else (R.bind (R.bind (ixQ v_shape_2 (3 : Int)) fun r55 => (.ok (decide (r55 = (1 : Int))))) fun b56 => if b56 = true then (.ok (decide (x11 < x32))) else .ok false)) fun b63 => if b63 = true then (R.bind (.ok (0 : Int)) fun v_n_62 => (kj61 (v_n_62))) else (kj61 (s52)))) fun kj64 => R.bind (R.bind (ixQ v_shape_2 (2 : Int)) fun r47 => (.ok (decide (r47 = (0 : Int))))) fun b69 => if b69 = true then (R.bind (R.bind (R.bind (powQ (10 : Int) (57 : Int)) fun r65 => (mulQ s42 r65)) fun r66 => (R.bind (mulQ s42 s42) fun r67 => (.ok (r66 + r67)))) fun v_n_68 => (kj64 (v_n_68))) else (kj64 (s42)))) fun kj70 => R.bind (R.bind (ixQ v_shape_2 (1 : Int)) fun r43 => (.ok (decide (r43 = (0 : Int))))) fun b73 => if b73 = true then (R.bind (R.bind (ixQ v_drawn_29 (v_many_8 + x32)) fun r71 => (.ok (r71 + (1 : Int)))) fun v_d_72 => (kj70 (v_d_72))) else (kj70 (v_d_36)))) fun kj74 => R.bind (R.bind (ixQ v_shape_2 (0 : Int)) fun r37 => (.ok (decide (r37 = (0 : Int))))) fun b79 => if b79 = true then (R.bind (R.bind (R.bind (R.bind (mulQ (2 : Int) v_many_8) fun r75 => (.ok (r75 + x32))) fun r76 => (ixQ v_drawn_29 r76)) fun r77 => (mulQ v_n_35 r77)) fun v_n_78 => (kj74 (v_n_78))) else (kj74 (v_n_35)))))) (fun (s80 : (List (Int × Int))) => (R.bind (.ok s80) fun x81 => R.chk (s10.length < 100000) (kn12 ((s10 ++ [x81]))))) (v_row_30)))))) (fun (s83 : (List (List (Int × Int)))) => (R.bind (.ok s83) fun x84 => R.chk (s4.length < 100000) (kn6 ((s4 ++ [x84]))))) (v_table_9))))) (fun (s86 : (List (List (List (Int × Int))))) => (.ok s86)) (v_weights_3))))
abbrev s_m_law_weights : Stmt := top 53
theorem sc_m_law_weights : FnScope ["script", "choices", "shape", "weights", "person", "many", "table", "first", "sizes", "drawn", "row", "second", "n", "d", "k"] ["script", "choices"] (defScope s_m_law_weights) := ⟨rfl, rfl, rfl, by decide +kernel, rfl, by decide +kernel, by decide +kernel⟩
theorem ok_m_law_weights {fd : FuncData} (T : Tx K mg) (D : FunD K "_law_weights" "_law_weights" (defArgs s_m_law_weights) (defBody s_m_law_weights) (defScope s_m_law_weights) [] [] (He.ga K "_law_weights") fd) (F_m_law_draws : FnX P w K mg base 1 "_law_draws" (Prm K (ro K) fun (a : Int × (List Int) × Unit) => m_law_draws a.1 a.2.1)) (F_m_law_cell : FnX P w K mg base 1 "_law_cell" (Prm K (rv K) fun (a : Scr × Int × Unit) => m_law_cell a.1 a.2.1)) (F_m_law_lowest_terms : FnX P w K mg base 2 "_law_lowest_terms" (Prm K (rv K) fun (a : Int × Int × Unit) => m_law_lowest_terms a.1 a.2.1)) : FnX P w K mg base 3 "_law_weights" (Prm K (ro K) fun (a : Scr × (List Int) × Unit) => m_law_weights a.1 a.2.1) := by
  refine ⟨fnr_of (k := 2) D sc_m_law_weights (by decide) rfl (fun _ _ _ _ _ _ us hl => match us, hl with | [_, _], _ => rfl) (fun cdv A' outer s H E hr => ⟨_, (pss_cons (ps_set (i := 2) sc_m_law_weights.nd rfl (Or.inl rfl) (pe_fn F_m_law_draws (hr.mono (by decide)) (by rfl) (fun σ => passAt (takes_of rfl rfl rfl rfl) σ) (pa_cons (pe_fn F_m_law_cell (hr.mono (by decide)) (by rfl) (fun σ => passAt (takes_of rfl rfl rfl rfl) σ) (pa_cons (pv 0) (pa_cons pe_int pa_nil))) (pa_cons (pe_lst (pa_cons pe_int (pa_cons pe_int (pa_cons pe_int (pa_cons pe_int pa_nil))))) pa_nil)))) (pss_cons (ps_set (i := 3) sc_m_law_weights.nd rfl (Or.inl rfl) (pe_lst pa_nil)) (pss_cons (ps_for (passes_of rfl) rfl (pi_range1 (by rfl) T.g_range (pa_cons (pe_callB (crLen K) (by rfl) T.g_len PySem.boot_len (pa_cons (pv 1) pa_nil)) pa_nil)) (pg_name (i := 4) sc_m_law_weights.nd rfl (Or.inl rfl)) (pss_cons (ps_set (i := 5) sc_m_law_weights.nd rfl (Or.inl rfl) (pe_ix (ixL K) (pv 1) (pv 4) (fun _ _ => rfl))) (pss_cons (ps_set (i := 6) sc_m_law_weights.nd rfl (Or.inl rfl) (pe_lst pa_nil)) (pss_cons (ps_for (passes_of rfl) rfl (pi_range1 (by rfl) T.g_range (pa_cons (pv 5) pa_nil)) (pg_name (i := 7) sc_m_law_weights.nd rfl (Or.inl rfl)) (pss_cons (ps_set (i := 8) sc_m_law_weights.nd rfl (Or.inl rfl) (pe_op op_cat (pe_op op_cat (pe_lc (own := [("k", 14)]) (g := gName 14) rfl sc_m_law_weights.nd (pi_range1 (by rfl) T.g_range (pa_cons (pv 5) pa_nil)) (blkOk_by (N := ["script", "choices", "shape", "weights", "person", "many", "table", "first", "sizes", "drawn", "row", "second", "n", "d", "k"]) (sc := (defScope s_m_law_weights)) (by decide +kernel)) (fun _ _ _ _ _ => (pg_name (i := 14) sc_m_law_weights.nd rfl (Or.inl rfl))) (fun _ _ _ _ _ => pts_nil) (fun _ _ _ _ _ => pe_int)) (pe_lc (own := [("k", 14)]) (g := gName 14) rfl sc_m_law_weights.nd (pi_range1 (by rfl) T.g_range (pa_cons (pv 5) pa_nil)) (blkOk_by (N := ["script", "choices", "shape", "weights", "person", "many", "table", "first", "sizes", "drawn", "row", "second", "n", "d", "k"]) (sc := (defScope s_m_law_weights)) (by decide +kernel)) (fun _ _ _ _ _ => (pg_name (i := 14) sc_m_law_weights.nd rfl (Or.inl rfl))) (fun _ _ _ _ _ => pts_nil) (fun _ _ _ _ _ => pe_int))) (pe_lc (own := [("k", 14)]) (g := gName 14) rfl sc_m_law_weights.nd (pi_range1 (by rfl) T.g_range (pa_cons (pv 5) pa_nil)) (blkOk_by (N := ["script", "choices", "shape", "weights", "person", "many", "table", "first", "sizes", "drawn", "row", "second", "n", "d", "k"]) (sc := (defScope s_m_law_weights)) (by decide +kernel)) (fun _ _ _ _ _ => (pg_name (i := 14) sc_m_law_weights.nd rfl (Or.inl rfl))) (fun _ _ _ _ _ => pts_nil) (fun _ _ _ _ _ => pe_int)))) (pss_cons (ps_set (i := 9) sc_m_law_weights.nd rfl (Or.inl rfl) (pe_fn F_m_law_draws (hr.mono (by decide)) (by rfl) (fun σ => passAt (takes_of rfl rfl rfl rfl) σ) (pa_cons (pe_fn F_m_law_cell (hr.mono (by decide)) (by rfl) (fun σ => passAt (takes_of rfl rfl rfl rfl) σ) (pa_cons (pv 0) (pa_cons (pe_op op_add (pe_op op_add pe_int (pe_op op_mulW pe_int (pv 4))) (pv 7)) pa_nil))) (pa_cons (pv 8) pa_nil)))) (pss_cons (ps_set (i := 10) sc_m_law_weights.nd rfl (Or.inl rfl) (pe_lst pa_nil)) (pss_cons (ps_for (passes_of rfl) rfl (pi_range1 (by rfl) T.g_range (pa_cons (pv 5) pa_nil)) (pg_name (i := 11) sc_m_law_weights.nd rfl (Or.inl rfl)) (pss_cons (ps_set (i := 12) sc_m_law_weights.nd rfl (Or.inl rfl) (pe_ix (ixL K) (pv 9) (pv 11) (fun _ _ => rfl))) (pss_cons (ps_set (i := 13) sc_m_law_weights.nd rfl (Or.inl rfl) pe_int) (pss_cons (ps_if (pt_cmpR op_eq (pe_ix (ixL K) (pv 2) pe_int (fun _ _ => rfl)) pe_int (nomark _)) (pss_one (ps_set (i := 12) sc_m_law_weights.nd rfl (Or.inl rfl) (pe_op op_mulW (pv 12) (pe_ix (ixL K) (pv 9) (pe_op op_add (pe_op op_mulW pe_int (pv 5)) (pv 11)) (fun _ _ => rfl))))) pss_nil) (pss_cons (ps_if (pt_cmpR op_eq (pe_ix (ixL K) (pv 2) pe_int (fun _ _ => rfl)) pe_int (nomark _)) (pss_one (ps_set (i := 13) sc_m_law_weights.nd rfl (Or.inl rfl) (pe_op op_add (pe_ix (ixL K) (pv 9) (pe_op op_add (pv 5) (pv 11)) (fun _ _ => rfl)) pe_int))) pss_nil) (pss_cons (ps_if (pt_cmpR op_eq (pe_ix (ixL K) (pv 2) pe_int (fun _ _ => rfl)) pe_int (nomark _)) (pss_one (ps_set (i := 12) sc_m_law_weights.nd rfl (Or.inl rfl) (pe_op op_add (pe_op op_mulW (pv 12) (pe_op op_pow pe_int pe_int)) (pe_op op_mulW (pv 12) (pv 12))))) pss_nil) (pss_cons (ps_if (PW.pt (pw_or (PW.pt (pw_and (pt_cmpR op_eq (pe_ix (ixL K) (pv 2) pe_int (fun _ _ => rfl)) pe_int (nomark _)) (pw_and1 (pt_cmpR op_gt (pv 7) (pv 11) (nomark _))))) (pw_or1 (PW.pt (pw_and (pt_cmpR op_eq (pe_ix (ixL K) (pv 2) pe_int (fun _ _ => rfl)) pe_int (nomark _)) (pw_and1 (pt_cmpR op_lt (pv 7) (pv 11) (nomark _)))))))) (pss_one (ps_set (i := 12) sc_m_law_weights.nd rfl (Or.inl rfl) pe_int)) pss_nil) (pss_one (ps_expr (pe_bm PySem.F.plainAttrs_list PySem.F.slot_list_append PySem.F.type_list_append mt_append (pv 10) (pa_cons (pe_fn F_m_law_lowest_terms (hr.mono (by decide)) (by rfl) (fun σ => passAt (takes_of rfl rfl rfl rfl) σ) (pa_cons (pv 12) (pa_cons (pv 13) pa_nil))) pa_nil))))))))))) (pss_one (ps_expr (pe_bm PySem.F.plainAttrs_list PySem.F.slot_list_append PySem.F.type_list_append mt_append (pv 6) (pa_cons (pv 10) pa_nil))))))))) (pss_one (ps_expr (pe_bm PySem.F.plainAttrs_list PySem.F.slot_list_append PySem.F.type_list_append mt_append (pv 3) (pa_cons (pv 6) pa_nil)))))))) (pss_one (ps_ret (pv 3)))))), ?_⟩), D.kp, T.g__law_weights⟩
  intro a
  rw [m_law_weights]
  exact (gs_seq (gs_asg (Gv.fr (gv_callS (ga_cons (gv_callS (ga_cons (gv_var 0) (ga_cons gv_int ga_nil))) (ga_cons (Gv.fr (gv_lst (gs_cons gv_int (gs_cons gv_int (gs_cons gv_int (gs_cons gv_int gs_nil)))))) ga_nil)))) (fun v_shape_2 => (gs_seq (gs_asgO (gv_lst gs_nil) (fun v_weights_3 => (gs_seq (gs_for (S := (List (List (List (Int × Int))))) (fun s4 => [sv a.1, sv a.2.1, sv v_shape_2, so s4, .any, .any, .any, .any, .any, .any, .any, .any, .any, .any, .any]) (v_weights_3) (qi_range1 (live := false) (gv_cb1 o1_len (Gv.lv (gv_var 1)))) (gg_name 4) (.r (.r (.r (.r (.r (.r (.r (.r (.r (.r (.r (.r (.r (.r (.r .nil))))))))))))))) (fun s4 x5 kn6 kb7 => (gs_seq (gs_asg (gv_op q2_ix (Gv.lv (gv_var 1)) (gv_var 4)) (fun v_many_8 => (gs_seq (gs_asgO (gv_lst gs_nil) (fun v_table_9 => (gs_seq (gs_for (S := (List (List (Int × Int)))) (fun s10 => [sv a.1, sv a.2.1, sv v_shape_2, so s4, sv x5, sv v_many_8, so s10, .any, .any, .any, .any, .any, .any, .any, .any]) (v_table_9) (qi_range1 (live := false) (gv_var 5)) (gg_name 7) (.r (.r (.r (.r (.r (.r (.r (.r (.r (.r (.r (.r (.r (.r (.r .nil))))))))))))))) (fun s10 x11 kn12 kb13 => (gs_seq (gs_asg (Gv.fr (gv_op q2_cat (Gv.lo (gv_op q2_cat (Gv.lo (gv_lc (qi_range1 (live := true) (gv_var 5)) (gg_name 14) (by decide) (any1 rfl) (fun _ => Gv.nx gv_int))) (Gv.lo (gv_lc (qi_range1 (live := true) (gv_var 5)) (gg_name 14) (by decide) (any1 rfl) (fun _ => Gv.nx gv_int))))) (Gv.lo (gv_lc (qi_range1 (live := true) (gv_var 5)) (gg_name 14) (by decide) (any1 rfl) (fun _ => Gv.nx gv_int))))) (fun v_sizes_24 => (gs_seq (gs_asg (Gv.fr (gv_callS (ga_cons (gv_callS (ga_cons (gv_var 0) (ga_cons (gv_op o2_add (gv_op o2_add gv_int (gv_op q2_mul gv_int (gv_var 4))) (gv_var 7)) ga_nil))) (ga_cons (gv_var 8) ga_nil)))) (fun v_drawn_29 => (gs_seq (gs_asgO (gv_lst gs_nil) (fun v_row_30 => (gs_seq (gs_for (S := (List (Int × Int))) (fun s31 => [sv a.1, sv a.2.1, sv v_shape_2, so s4, sv x5, sv v_many_8, so s10, sv x11, sv v_sizes_24, sv v_drawn_29, so s31, .any, .any, .any, .any]) (v_row_30) (qi_range1 (live := false) (gv_var 5)) (gg_name 11) (.r (.r (.r (.r (.r (.r (.r (.r (.r (.r (.r (.r (.r (.r (.r .nil))))))))))))))) (fun s31 x32 kn33 kb34 => (gs_seq (gs_asg (gv_op q2_ix (Gv.lv (gv_var 9)) (gv_var 11)) (fun v_n_35 => (gs_seq (gs_asg gv_int (fun v_d_36 => (gs_seq (gs_joinR (S := Int) (fun s42 => [sv a.1, sv a.2.1, sv v_shape_2, so s4, sv x5, sv v_many_8, so s10, sv x11, sv v_sizes_24, sv v_drawn_29, so s31, sv x32, sv s42, sv v_d_36, .any]) (fun s42 => (gs_seq (gs_joinR (S := Int) (fun s46 => [sv a.1, sv a.2.1, sv v_shape_2, so s4, sv x5, sv v_many_8, so s10, sv x11, sv v_sizes_24, sv v_drawn_29, so s31, sv x32, sv s42, sv s46, .any]) (fun s46 => (gs_seq (gs_joinR (S := Int) (fun s52 => [sv a.1, sv a.2.1, sv v_shape_2, so s4, sv x5, sv v_many_8, so s10, sv x11, sv v_sizes_24, sv v_drawn_29, so s31, sv x32, sv s52, sv s46, .any]) (fun s52 => (gs_seq (gs_joinR (S := Int) (fun s59 => [sv a.1, sv a.2.1, sv v_shape_2, so s4, sv x5, sv v_many_8, so s10, sv x11, sv v_sizes_24, sv v_drawn_29, so s31, sv x32, sv s59, sv s46, .any]) (fun s59 => (gs_append (n := 10) rfl (gv_callS (ga_cons (gv_var 12) (ga_cons (gv_var 13) ga_nil))) (fun x60 => ⟨((s31 ++ [x60])), (.r (.r (.r (.r (.r (.r (.r (.r (.r (.r (.r (.a (.a (.a (.r .nil))))))))))))))), rfl⟩))) (gs_if (gt_or (gt_and (gt_test (gv_op o2_eq (gv_op q2_ix (Gv.lv (gv_var 2)) gv_int) gv_int)) (gt_test (gv_op o2_gt (gv_var 7) (gv_var 11)))) (gt_and (gt_test (gv_op o2_eq (gv_op q2_ix (Gv.lv (gv_var 2)) gv_int) gv_int)) (gt_test (gv_op o2_lt (gv_var 7) (gv_var 11))))) (gs_asg gv_int (fun v_n_62 => ⟨(v_n_62), (.r (.r (.r (.r (.r (.r (.r (.r (.r (.r (.r (.r (.r (.r (.r .nil))))))))))))))), rfl⟩)) (gs_next ⟨(s52), (.r (.r (.r (.r (.r (.r (.r (.r (.r (.r (.r (.r (.r (.r (.r .nil))))))))))))))), rfl⟩))))) (gs_if (gt_test (gv_op o2_eq (gv_op q2_ix (Gv.lv (gv_var 2)) gv_int) gv_int)) (gs_asg (gv_op o2_add (gv_op q2_mul (gv_var 12) (gv_op q2_pow gv_int gv_int)) (gv_op q2_mul (gv_var 12) (gv_var 12))) (fun v_n_68 => ⟨(v_n_68), (.r (.r (.r (.r (.r (.r (.r (.r (.r (.r (.r (.r (.r (.r (.r .nil))))))))))))))), rfl⟩)) (gs_next ⟨(s42), (.r (.r (.r (.r (.r (.r (.r (.r (.r (.r (.r (.r (.r (.r (.r .nil))))))))))))))), rfl⟩))))) (gs_if (gt_test (gv_op o2_eq (gv_op q2_ix (Gv.lv (gv_var 2)) gv_int) gv_int)) (gs_asg (gv_op o2_add (gv_op q2_ix (Gv.lv (gv_var 9)) (gv_op o2_add (gv_var 5) (gv_var 11))) gv_int) (fun v_d_72 => ⟨(v_d_72), (.r (.r (.r (.r (.r (.r (.r (.r (.r (.r (.r (.r (.r (.r (.r .nil))))))))))))))), rfl⟩)) (gs_next ⟨(v_d_36), (.r (.r (.r (.r (.r (.r (.r (.r (.r (.r (.r (.r (.r (.r (.r .nil))))))))))))))), rfl⟩))))) (gs_if (gt_test (gv_op o2_eq (gv_op q2_ix (Gv.lv (gv_var 2)) gv_int) gv_int)) (gs_asg (gv_op q2_mul (gv_var 12) (gv_op q2_ix (Gv.lv (gv_var 9)) (gv_op o2_add (gv_op q2_mul gv_int (gv_var 5)) (gv_var 11)))) (fun v_n_78 => ⟨(v_n_78), (.r (.r (.r (.r (.r (.r (.r (.r (.r (.r (.r (.r (.r (.r (.r .nil))))))))))))))), rfl⟩)) (gs_next ⟨(v_n_35), (.r (.r (.r (.r (.r (.r (.r (.r (.r (.r (.r (.r (.r (.r (.r .nil))))))))))))))), rfl⟩))))))))))) (fun s80 => (gs_freeze (i := (Ow.list (inferInstance : Py (Int × Int)))) (xs := s80) 10 (gs_append (n := 6) rfl (gv_var 10) (fun x81 => ⟨((s10 ++ [x81])), (.r (.r (.r (.r (.r (.r (.r (.a (.a (.a (.a (.r (.r (.r (.r .nil))))))))))))))), rfl⟩)))))))))))))))) (fun s83 => (gs_freeze (i := (Ow.list (inferInstance : Py (List (Int × Int))))) (xs := s83) 6 (gs_append (n := 3) rfl (gv_var 6) (fun x84 => ⟨((s4 ++ [x84])), (.r (.r (.r (.r (.a (.a (.a (.r (.r (.r (.r (.r (.r (.r (.r .nil))))))))))))))), rfl⟩))))))))))))) (fun s86 => (gs_retOwn 3))))))))))
@[irreducible] def m_law_rates (a0 : (List (List (Int × Int)))) : R (List (List Int)) := (R.bind (.ok ([] : List (Int × Int))) fun v_numbers_1 => (R.bind (.ok a0) fun xs10 => forC xs10 (fun (s2 : (List (Int × Int))) (x3 : (List (Int × Int))) kn4 kb5 => (R.bind (catQ s2 x3) fun v_numbers_6 => (kn4 (v_numbers_6)))) (fun (s7 : (List (Int × Int))) => (R.bind (m_law_common s7) fun v_common_8 => (comp a0 (fun (x9 : (List (Int × Int))) => (m_law_scaled x9 v_common_8))))) (v_numbers_1)))
abbrev s_m_law_rates : Stmt := top 54
theorem sc_m_law_rates : FnScope ["table", "numbers", "row", "common"] ["table"] (defScope s_m_law_rates) := ⟨rfl, rfl, rfl, by decide +kernel, rfl, by decide +kernel, by decide +kernel⟩
theorem ok_m_law_rates {fd : FuncData} (T : Tx K mg) (D : FunD K "_law_rates" "_law_rates" (defArgs s_m_law_rates) (defBody s_m_law_rates) (defScope s_m_law_rates) [] [] (He.ga K "_law_rates") fd) (F_m_law_common : FnX P w K mg base 2 "_law_common" (Prm K (rv K) fun (a : (List (Int × Int)) × Unit) => m_law_common a.1)) (F_m_law_scaled : FnX P w K mg base 1 "_law_scaled" (Prm K (ro K) fun (a : (List (Int × Int)) × Int × Unit) => m_law_scaled a.1 a.2.1)) : FnX P w K mg base 3 "_law_rates" (Prm K (ro K) fun (a : (List (List (Int × Int))) × Unit) => m_law_rates a.1) := by
  refine ⟨fnr_of (k := 2) D sc_m_law_rates (by decide) rfl (fun _ _ _ _ _ _ us hl => match us, hl with | [_], _ => rfl) (fun cdv A' outer s H E hr => ⟨_, (pss_cons (ps_set (i := 1) sc_m_law_rates.nd rfl (Or.inl rfl) (pe_lst pa_nil)) (pss_cons (ps_for (passes_of rfl) rfl (piList K (pv 0)) (pg_name (i := 2) sc_m_law_rates.nd rfl (Or.inl rfl)) (pss_one (ps_set (i := 1) sc_m_law_rates.nd rfl (Or.inl rfl) (pe_op op_cat (pv 1) (pv 2))))) (pss_cons (ps_set (i := 3) sc_m_law_rates.nd rfl (Or.inr rfl) (pe_fn F_m_law_common (hr.mono (by decide)) (by rfl) (fun σ => passAt (takes_of rfl rfl rfl rfl) σ) (pa_cons (pv 1) pa_nil))) (pss_one (ps_ret (pe_lc (own := [("row", 2)]) (g := gName 2) rfl sc_m_law_rates.nd (piList K (pv 0)) (blkOk_by (N := ["table", "numbers", "row", "common"]) (sc := (defScope s_m_law_rates)) (by decide +kernel)) (fun _ _ _ _ _ => (pg_name (i := 2) sc_m_law_rates.nd rfl (Or.inl rfl))) (fun _ _ _ _ _ => pts_nil) (fun _ _ _ _ _ => (pe_fn F_m_law_scaled (hr.mono (by decide)) (by rfl) (fun σ => passAt takes0 σ) (pa_cons (pv 2) (pa_cons (pv 3) pa_nil)))))))))), ?_⟩), D.kp, T.g__law_rates⟩
  intro a
  rw [m_law_rates]
  exact (gs_seq (gs_asg (Gv.fr (gv_lst gs_nil)) (fun v_numbers_1 => (gs_seq (gs_for (S := (List (Int × Int))) (fun s2 => [sv a.1, sv s2, .any, .any]) (v_numbers_1) (gi_list (gv_var 0)) (gg_name 2) (.r (.r (.r (.r .nil)))) (fun s2 x3 kn4 kb5 => (gs_asg (Gv.fr (gv_op q2_cat (Gv.lv (gv_var 1)) (Gv.lv (gv_var 2)))) (fun v_numbers_6 => ⟨(v_numbers_6), (.r (.r (.a (.r .nil)))), rfl⟩))) (fun s7 => (gs_seq (gs_asg (gv_callS (ga_cons (gv_var 1) ga_nil)) (fun v_common_8 => (gs_ret (gv_lc (gi_list (gv_var 0)) (gg_name 2) (by decide) (any1 rfl) (fun _ => Gv.nx (Gv.fr (gv_callS (ga_cons (gv_var 2) (ga_cons (gv_var 3) ga_nil))))))))))))))))
@[irreducible] def m_law_rests (a0 : (List (List Int))) (a1 : (List (Int × Int))) : R Bool := (R.bind (m_law_common a1) fun v_common_1 => (R.bind (m_law_scaled a1 v_common_1) fun v_held_2 => (R.bind (R.bind (R.bind (minQ v_held_2) fun r3 => (.ok (decide (r3 < (0 : Int))))) fun b4 => if b4 = true then .ok true else (.ok (!decide (v_held_2.sum = v_common_1)))) fun b27 => if b27 = true then (.ok false) else (R.bind (rangeQ 0 (v_held_2.length : Int)) fun xs26 => forC xs26 (fun (s5 : Unit) (x6 : Int) kn7 kb8 => (R.bind (R.bind (rangeQ 0 (v_held_2.length : Int)) fun r10 => (compIf r10 (fun (x9 : Int) => (.ok (!decide (x9 = x6)))) (fun (x9 : Int) => (.ok x9)))) fun v_others_11 => (R.bind (R.bind (comp v_others_11 (fun (x12 : Int) => (R.bind (ixQ v_held_2 x6) fun r14 => (R.bind (R.bind (ixQ a0 x6) fun r13 => (ixQ r13 x12)) fun r15 => (mulQ r14 r15))))) fun r16 => (.ok r16.sum)) fun v_leaving_17 => (R.bind (R.bind (R.bind (comp v_others_11 (fun (x18 : Int) => (R.bind (ixQ v_held_2 x18) fun r20 => (R.bind (R.bind (ixQ a0 x18) fun r19 => (ixQ r19 x6)) fun r21 => (mulQ r20 r21))))) fun r22 => (.ok r22.sum)) fun r23 => (.ok (!decide (v_leaving_17 = r23)))) fun b24 => if b24 = true then (.ok false) else (kn7 ()))))) (fun (s25 : Unit) => (.ok true)) ()))))
abbrev s_m_law_rests : Stmt := top 55
theorem sc_m_law_rests : FnScope ["rates", "shares", "common", "held", "state", "others", "leaving", "k"] ["rates", "shares"] (defScope s_m_law_rests) := ⟨rfl, rfl, rfl, by decide +kernel, rfl, by decide +kernel, by decide +kernel⟩
theorem ok_m_law_rests {fd : FuncData} (T : Tx K mg) (D : FunD K "_law_rests" "_law_rests" (defArgs s_m_law_rests) (defBody s_m_law_rests) (defScope s_m_law_rests) [] [] (He.ga K "_law_rests") fd) (F_m_law_common : FnX P w K mg base 2 "_law_common" (Prm K (rv K) fun (a : (List (Int × Int)) × Unit) => m_law_common a.1)) (F_m_law_scaled : FnX P w K mg base 1 "_law_scaled" (Prm K (ro K) fun (a : (List (Int × Int)) × Int × Unit) => m_law_scaled a.1 a.2.1)) : FnX P w K mg base 3 "_law_rests" (Prm K (rv K) fun (a : (List (List Int)) × (List (Int × Int)) × Unit) => m_law_rests a.1 a.2.1) := by
  refine ⟨fnr_of (k := 2) D sc_m_law_rests (by decide) rfl (fun _ _ _ _ _ _ us hl => match us, hl with | [_, _], _ => rfl) (fun cdv A' outer s H E hr => ⟨_, (pss_cons (ps_set (i := 2) sc_m_law_rests.nd rfl (Or.inl rfl) (pe_fn F_m_law_common (hr.mono (by decide)) (by rfl) (fun σ => passAt (takes_of rfl rfl rfl rfl) σ) (pa_cons (pv 1) pa_nil))) (pss_cons (ps_set (i := 3) sc_m_law_rests.nd rfl (Or.inr rfl) (pe_fn F_m_law_scaled (hr.mono (by decide)) (by rfl) (fun σ => passAt (takes_of rfl rfl rfl rfl) σ) (pa_cons (pv 1) (pa_cons (pv 2) pa_nil)))) (pss_cons (ps_if (PW.pt (pw_or (pt_cmpR op_lt (pe_callB (crMin K) (by rfl) T.g_min (by decide +kernel) (pa_cons (pv 3) pa_nil)) pe_int (nomark _)) (pw_or1 (pt_cmpR op_ne (pe_callB (crSum K) (by rfl) T.g_sum (by decide +kernel) (pa_cons (pv 3) pa_nil)) (pv 2) (nomark _))))) (pss_one (ps_ret pe_bl)) pss_nil) (pss_cons (ps_for (passes_of rfl) rfl (pi_range1 (by rfl) T.g_range (pa_cons (pe_callB (crLen K) (by rfl) T.g_len PySem.boot_len (pa_cons (pv 3) pa_nil)) pa_nil)) (pg_name (i := 4) sc_m_law_rests.nd rfl (Or.inr rfl)) (pss_cons (ps_setLc (i := 5) (own := [("k", 7)]) (g := gName 7) rfl sc_m_law_rests.nd rfl rfl (sw_true rfl rfl rfl (by decide +kernel)) (pi_range1 (by rfl) T.g_range (pa_cons (pe_callB (crLen K) (by rfl) T.g_len PySem.boot_len (pa_cons (pv 3) pa_nil)) pa_nil)) (blkOk_by (N := ["rates", "shares", "common", "held", "state", "others", "leaving", "k"]) (sc := (defScope s_m_law_rests)) (by decide +kernel)) (fun _ _ _ _ _ => (pg_name (i := 7) sc_m_law_rests.nd rfl (Or.inl rfl))) (fun _ _ _ _ _ => (pts_one (pt_cmpR op_ne (pv 7) (pv 4) (nomark _)))) (fun _ _ _ _ _ => (pv 7))) (pss_cons (ps_set (i := 6) sc_m_law_rests.nd rfl (Or.inl rfl) (pe_callB (crSum K) (by rfl) T.g_sum (by decide +kernel) (pa_cons (pe_lc (own := [("k", 7)]) (g := gName 7) rfl sc_m_law_rests.nd (piList K (pv 5)) (blkOk_by (N := ["rates", "shares", "common", "held", "state", "others", "leaving", "k"]) (sc := (defScope s_m_law_rests)) (by decide +kernel)) (fun _ _ _ _ _ => (pg_name (i := 7) sc_m_law_rests.nd rfl (Or.inl rfl))) (fun _ _ _ _ _ => pts_nil) (fun _ _ _ _ _ => (pe_op op_mulW (pe_ix (ixL K) (pv 3) (pv 4) (fun _ _ => rfl)) (pe_ix (ixL K) (pe_ix (ixL K) (pv 0) (pv 4) (fun _ _ => rfl)) (pv 7) (fun _ _ => rfl))))) pa_nil))) (pss_one (ps_if (pt_cmpR op_ne (pv 6) (pe_callB (crSum K) (by rfl) T.g_sum (by decide +kernel) (pa_cons (pe_lc (own := [("k", 7)]) (g := gName 7) rfl sc_m_law_rests.nd (piList K (pv 5)) (blkOk_by (N := ["rates", "shares", "common", "held", "state", "others", "leaving", "k"]) (sc := (defScope s_m_law_rests)) (by decide +kernel)) (fun _ _ _ _ _ => (pg_name (i := 7) sc_m_law_rests.nd rfl (Or.inl rfl))) (fun _ _ _ _ _ => pts_nil) (fun _ _ _ _ _ => (pe_op op_mulW (pe_ix (ixL K) (pv 3) (pv 7) (fun _ _ => rfl)) (pe_ix (ixL K) (pe_ix (ixL K) (pv 0) (pv 7) (fun _ _ => rfl)) (pv 4) (fun _ _ => rfl))))) pa_nil)) (nomark _)) (pss_one (ps_ret pe_bl)) pss_nil))))) (pss_one (ps_ret pe_bl)))))), ?_⟩), D.kp, T.g__law_rests⟩
  intro a
  rw [m_law_rests]
  exact (gs_seq (gs_asg (gv_callS (ga_cons (gv_var 1) ga_nil)) (fun v_common_1 => (gs_seq (gs_asg (Gv.fr (gv_callS (ga_cons (gv_var 1) (ga_cons (gv_var 2) ga_nil)))) (fun v_held_2 => (gs_seq (gs_if (gt_or (gt_test (gv_op o2_lt (gv_cb1 q1_min (Gv.lv (gv_var 3))) gv_int)) (gt_test (gv_op o2_ne (gv_cb1 o1_sum (Gv.lv (gv_var 3))) (gv_var 2)))) (gs_ret gv_bl) (gs_next (gs_seq (gs_for (S := Unit) (fun s5 => [sv a.1, sv a.2.1, sv v_common_1, sv v_held_2, .any, .any, .any, .any]) () (qi_range1 (live := false) (gv_cb1 o1_len (Gv.lv (gv_var 3)))) (gg_name 4) (.r (.r (.r (.r (.r (.r (.r (.r .nil)))))))) (fun s5 x6 kn7 kb8 => (gs_seq (gs_asg (Gv.fr (gv_lcI (qi_range1 (live := true) (gv_cb1 o1_len (Gv.lv (gv_var 3)))) (gg_name 7) (by decide) (any1 rfl) (fun _ => Gt.nx (gt_test (gv_op o2_ne (gv_var 7) (gv_var 4)))) (fun _ => Gv.nx (gv_var 7)))) (fun v_others_11 => (gs_seq (gs_asg (gv_cb1 o1_sum (Gv.lo (gv_lc (gi_list (gv_var 5)) (gg_name 7) (by decide) (any1 rfl) (fun _ => Gv.nx (gv_op q2_mul (gv_op q2_ix (Gv.lv (gv_var 3)) (gv_var 4)) (gv_op q2_ix (Gv.lv (gv_op q2_ix (Gv.lv (gv_var 0)) (gv_var 4))) (gv_var 7))))))) (fun v_leaving_17 => (gs_if (gt_test (gv_op o2_ne (gv_var 6) (gv_cb1 o1_sum (Gv.lo (gv_lc (gi_list (gv_var 5)) (gg_name 7) (by decide) (any1 rfl) (fun _ => Gv.nx (gv_op q2_mul (gv_op q2_ix (Gv.lv (gv_var 3)) (gv_var 7)) (gv_op q2_ix (Gv.lv (gv_op q2_ix (Gv.lv (gv_var 0)) (gv_var 7))) (gv_var 4))))))))) (gs_ret gv_bl) (gs_next ⟨(), (.r (.r (.r (.r (.a (.a (.a (.r .nil)))))))), rfl⟩))))))))) (fun s25 => (gs_ret gv_bl)))))))))))))
@[irreducible] def m_law_judged (a0 : (List (List Int))) (a1 : (List (Int × Int))) : R Bool := (R.bind (R.bind (comp a0 (fun (x1 : (List Int)) => (.ok x1))) fun r2 => (.ok (Hd.mk r2 a1))) fun v_handed_3 => (R.bind (m_is_resting v_handed_3.a v_handed_3.b) fun v_actual_4 => (R.bind (R.bind (R.bind (isQ (PyTy.ty v_actual_4) "bool") fun b5 => .ok (!b5)) fun b7 => if b7 = true then .ok true else (R.bind (.ok (!PyData.eqv (ToPd.pd v_handed_3.a) (ToPd.pd a0))) fun b6 => if b6 = true then .ok true else (.ok (!PyData.eqv (ToPd.pd v_handed_3.b) (ToPd.pd a1))))) fun b9 => if b9 = true then (.ok false) else (R.bind (m_law_rests a0 a1) fun r8 => (.ok (decide (v_actual_4 = r8)))))))
abbrev s_m_law_judged : Stmt := top 56
theorem sc_m_law_judged : FnScope ["rates", "shares", "handed", "actual", "row"] ["rates", "shares"] (defScope s_m_law_judged) := ⟨rfl, rfl, rfl, by decide +kernel, rfl, by decide +kernel, by decide +kernel⟩
theorem ok_m_law_judged {fd : FuncData} (T : Tx K mg) (D : FunD K "_law_judged" "_law_judged" (defArgs s_m_law_judged) (defBody s_m_law_judged) (defScope s_m_law_judged) [] [] (He.ga K "_law_judged") fd) (F_m_is_resting : FnX P w K mg base 4 "is_resting" (Prm K (rv K) fun (a : (List (List Int)) × (List (Int × Int)) × Unit) => m_is_resting a.1 a.2.1)) (F_m_law_rests : FnX P w K mg base 3 "_law_rests" (Prm K (rv K) fun (a : (List (List Int)) × (List (Int × Int)) × Unit) => m_law_rests a.1 a.2.1)) : FnX P w K mg base 5 "_law_judged" (Prm K (rv K) fun (a : (List (List Int)) × (List (Int × Int)) × Unit) => m_law_judged a.1 a.2.1) := by
  refine ⟨fnr_of (k := 4) D sc_m_law_judged (by decide) rfl (fun _ _ _ _ _ _ us hl => match us, hl with | [_, _], _ => rfl) (fun cdv A' outer s H E hr => ⟨_, (pss_cons (ps_set (i := 2) sc_m_law_judged.nd rfl (Or.inl rfl) (pe_lst (pa_cons (pe_lc (own := [("row", 4)]) (g := gName 4) rfl sc_m_law_judged.nd (piList K (pv 0)) (blkOk_by (N := ["rates", "shares", "handed", "actual", "row"]) (sc := (defScope s_m_law_judged)) (by decide +kernel)) (fun _ _ _ _ _ => (pg_name (i := 4) sc_m_law_judged.nd rfl (Or.inl rfl))) (fun _ _ _ _ _ => pts_nil) (fun _ _ _ _ _ => (pe_callTy (crList K) (by rfl) T.g_list (by decide +kernel) (pa_cons (pv 4) pa_nil)))) (pa_cons (pe_callTy (crList K) (by rfl) T.g_list (by decide +kernel) (pa_cons (pv 1) pa_nil)) pa_nil)))) (pss_cons (ps_set (i := 3) sc_m_law_judged.nd rfl (Or.inl rfl) (pe_fn F_m_is_resting (hr.mono (by decide)) (by rfl) (fun σ => passAt (takes_of rfl rfl rfl rfl) σ) (pa_cons (pe_ix (ixL K) (pv 2) pe_int (fun _ _ => rfl)) (pa_cons (pe_ix (ixL K) (pv 2) pe_int (fun _ _ => rfl)) pa_nil)))) (pss_cons (ps_if (PW.pt (pw_or (pt_not (pt_val (pe_callB (crIsi K) (by rfl) T.g_isinstance (by decide +kernel) (pa_cons (pv 3) (pa_cons (pe_bltn (v := .ty "bool") (u := .type "bool") (by rfl) T.g_bool (by decide +kernel) rfl) pa_nil))))) (pw_or (pt_cmpR (opNeD K (hu := hr.units)) (pe_ix (ixL K) (pv 2) pe_int (fun _ _ => rfl)) (pv 0) (nomark _)) (pw_or1 (pt_cmpR (opNeD K (hu := hr.units)) (pe_ix (ixL K) (pv 2) pe_int (fun _ _ => rfl)) (pv 1) (nomark _)))))) (pss_one (ps_ret pe_bl)) pss_nil) (pss_one (ps_ret (pe_cmpR op_eq (pv 3) (pe_fn F_m_law_rests (hr.mono (by decide)) (by rfl) (fun σ => passAt (takes_of rfl rfl rfl rfl) σ) (pa_cons (pv 0) (pa_cons (pv 1) pa_nil))) (nomark _))))))), ?_⟩), D.kp, T.g__law_judged⟩
  intro a
  rw [m_law_judged]
  exact (gs_seq (gs_asg (gv_h2 (Gv.fr (gv_lc (gi_list (gv_var 0)) (gg_name 4) (by decide) (any1 rfl) (fun _ => Gv.nx (Gv.fr (gv_cb1 o1_list (Gv.lv (gv_var 4))))))) (Gv.fr (gv_cb1 o1_list (Gv.lv (gv_var 1))))) (fun v_handed_3 => (gs_seq (gs_asg (gv_callS (ga_cons (gv_h2a (gv_var 2)) (ga_cons (gv_h2b (gv_var 2)) ga_nil))) (fun v_actual_4 => (gs_seq (gs_if (gt_or (gt_not (gt_B (qv_isi (gv_var 3)))) (gt_or (gt_test (gv_op (o2_neD (α := (List (List Int))) (β := (List (List Int)))) (Gv.lv (gv_h2a (gv_var 2))) (Gv.lv (gv_var 0)))) (gt_test (gv_op (o2_neD (α := (List (Int × Int))) (β := (List (Int × Int)))) (Gv.lv (gv_h2b (gv_var 2))) (Gv.lv (gv_var 1)))))) (gs_ret gv_bl) (gs_next (gs_ret (gv_op o2_eq (gv_var 3) (gv_callS (ga_cons (gv_var 0) (ga_cons (gv_var 1) ga_nil))))))))))))))
@[irreducible] def m_law_resting (a0 : (List (List Int))) (a1 : (List Int)) : R (Option (List (Int × Int))) := (R.bind (.ok (a0.length : Int)) fun v_many_1 => (R.bind (comp a0 (fun (x2 : (List Int)) => (.ok x2))) fun v_handed_3 => (R.bind (m_resting v_handed_3) fun v_answer_4 => (R.bind (R.bind (.ok (!PyData.eqv (ToPd.pd v_handed_3) (ToPd.pd a0))) fun b8 => if b8 = true then .ok true else (R.bind (R.bind (m_law_are_numbers (ToPd.pd v_answer_4) v_many_1) fun b5 => .ok (!b5)) fun b7 => if b7 = true then .ok true else (R.bind (m_law_rests a0 v_answer_4) fun b6 => .ok (!b6)))) fun b41 => if b41 = true then (.ok (none : Option (List (Int × Int)))) else (R.bind (.ok v_answer_4) fun v_shares_9 => (R.bind (R.bind (R.bind (ixQ a1 (0 : Int)) fun r10 => (.ok r10)) fun r11 => (modQ r11 v_many_1)) fun v_first_12 => (R.bind (R.bind (R.bind (ixQ a1 (1 : Int)) fun r13 => (.ok r13)) fun r14 => (modQ r14 v_many_1)) fun v_second_15 => (R.bind (.ok v_shares_9) fun v_turned_16 => (R.bind (ixQ v_shares_9 v_second_15) fun x17 => R.bind (.ok v_first_12) fun i18 => R.bind (setQ v_turned_16 i18 x17) fun v_turned_19 => (R.bind (ixQ v_shares_9 v_first_12) fun x20 => R.bind (.ok v_second_15) fun i21 => R.bind (setQ v_turned_19 i21 x20) fun v_turned_22 => (R.bind (R.bind (R.bind (rangeQ 0 v_many_1) fun r24 => (comp r24 (fun (x23 : Int) => (.ok ((1 : Int), v_many_1))))) fun r25 => (.ok ([v_shares_9, v_turned_22, r25] : List (List (Int × Int))))) fun xs40 => forC xs40 (fun (s26 : Unit) (x27 : (List (Int × Int))) kn28 kb29 => (R.bind (R.bind (m_law_judged a0 x27) fun b30 => .ok (!b30)) fun b31 => if b31 = true then (.ok (none : Option (List (Int × Int)))) else (kn28 ()))) (fun (s32 : Unit) => (R.bind (R.bind (comp a0 (fun (x33 : (List Int)) => (.ok x33))) fun r34 => (R.bind (catQ v_shares_9 ([((0 : Int), (1 : Int))] : List (Int × Int))) fun r35 => (m_is_resting r34 r35))) fun v_short_36 => (R.bind (R.bind (R.bind (isQ (PyTy.ty v_short_36) "bool") fun b37 => .ok (!b37)) fun b38 => if b38 = true then .ok true else (.ok v_short_36)) fun b39 => if b39 = true then (.ok (none : Option (List (Int × Int)))) else .ok (some v_shares_9)))) ())))))))))))
abbrev s_m_law_resting : Stmt := top 57
theorem sc_m_law_resting : FnScope ["rates", "drawn", "many", "handed", "answer", "shares", "first", "second", "turned", "row", "short", "k"] ["rates", "drawn"] (defScope s_m_law_resting) := ⟨rfl, rfl, rfl, by decide +kernel, rfl, by decide +kernel, by decide +kernel⟩
theorem ok_m_law_resting {fd : FuncData} (T : Tx K mg) (D : FunD K "_law_resting" "_law_resting" (defArgs s_m_law_resting) (defBody s_m_law_resting) (defScope s_m_law_resting) [] [] (He.ga K "_law_resting") fd) (F_m_resting : FnX P w K mg base 2 "resting" (Prm K (ro K) fun (a : (List (List Int)) × Unit) => m_resting a.1)) (F_m_law_are_numbers : FnX P w K mg base 3 "_law_are_numbers" (Prm K (rv K) fun (a : PyData × Int × Unit) => m_law_are_numbers a.1 a.2.1)) (F_m_law_rests : FnX P w K mg base 3 "_law_rests" (Prm K (rv K) fun (a : (List (List Int)) × (List (Int × Int)) × Unit) => m_law_rests a.1 a.2.1)) (F_m_law_judged : FnX P w K mg base 5 "_law_judged" (Prm K (rv K) fun (a : (List (List Int)) × (List (Int × Int)) × Unit) => m_law_judged a.1 a.2.1)) (F_m_is_resting : FnX P w K mg base 4 "is_resting" (Prm K (rv K) fun (a : (List (List Int)) × (List (Int × Int)) × Unit) => m_is_resting a.1 a.2.1)) : FnX P w K mg base 6 "_law_resting" (Prm K (rv K) fun (a : (List (List Int)) × (List Int) × Unit) => m_law_resting a.1 a.2.1) := by
  refine ⟨fnr_of (k := 5) D sc_m_law_resting (by decide) rfl (fun _ _ _ _ _ _ us hl => match us, hl with | [_, _], _ => rfl) (fun cdv A' outer s H E hr => ⟨_, (pss_cons (ps_set (i := 2) sc_m_law_resting.nd rfl (Or.inr rfl) (pe_callB (crLen K) (by rfl) T.g_len PySem.boot_len (pa_cons (pv 0) pa_nil))) (pss_cons (ps_setLc (i := 3) (own := [("row", 9)]) (g := gName 9) rfl sc_m_law_resting.nd rfl rfl (sw_true rfl rfl rfl (by decide +kernel)) (piList K (pv 0)) (blkOk_by (N := ["rates", "drawn", "many", "handed", "answer", "shares", "first", "second", "turned", "row", "short", "k"]) (sc := (defScope s_m_law_resting)) (by decide +kernel)) (fun _ _ _ _ _ => (pg_name (i := 9) sc_m_law_resting.nd rfl (Or.inl rfl))) (fun _ _ _ _ _ => pts_nil) (fun _ _ _ _ _ => (pe_callTy (crList K) (by rfl) T.g_list (by decide +kernel) (pa_cons (pv 9) pa_nil)))) (pss_cons (ps_set (i := 4) sc_m_law_resting.nd rfl (Or.inl rfl) (pe_fn F_m_resting (hr.mono (by decide)) (by rfl) (fun σ => passAt (takes_of rfl rfl rfl rfl) σ) (pa_cons (pv 3) pa_nil))) (pss_cons (ps_if (PW.pt (pw_or (pt_cmpR (opNeD K (hu := hr.units)) (pv 3) (pv 0) (nomark _)) (pw_or (pt_not (pt_val (pe_fn F_m_law_are_numbers (hr.mono (by decide)) (by rfl) (fun σ => passAt (takes_of rfl rfl rfl rfl) σ) (pa_cons (pv 4) (pa_cons (pv 2) pa_nil))))) (pw_or1 (pt_not (pt_val (pe_fn F_m_law_rests (hr.mono (by decide)) (by rfl) (fun σ => passAt (takes_of rfl rfl rfl rfl) σ) (pa_cons (pv 0) (pa_cons (pv 4) pa_nil))))))))) (pss_one (ps_ret pe_non)) pss_nil) (pss_cons (ps_set (i := 5) sc_m_law_resting.nd rfl (Or.inl rfl) (pe_callTy (crList K) (by rfl) T.g_list (by decide +kernel) (pa_cons (pv 4) pa_nil))) (pss_cons (ps_expr (pe_bm0 PySem.F.plainAttrs_list PySem.F.slot_list_clear PySem.F.type_list_clear mt_clear (pv 4))) (pss_cons (ps_set (i := 6) sc_m_law_resting.nd rfl (Or.inl rfl) (pe_op op_mod (pe_callTy call_int1 (by rfl) T.g_int (by decide +kernel) (pa_cons (pe_ix (ixL K) (pv 1) pe_int (fun _ _ => rfl)) pa_nil)) (pv 2))) (pss_cons (ps_set (i := 7) sc_m_law_resting.nd rfl (Or.inl rfl) (pe_op op_mod (pe_callTy call_int1 (by rfl) T.g_int (by decide +kernel) (pa_cons (pe_ix (ixL K) (pv 1) pe_int (fun _ _ => rfl)) pa_nil)) (pv 2))) (pss_cons (ps_set (i := 8) sc_m_law_resting.nd rfl (Or.inl rfl) (pe_callTy (crList K) (by rfl) T.g_list (by decide +kernel) (pa_cons (pv 5) pa_nil))) (pss_cons (ps_asg (pe_ix (ixL K) (pv 5) (pv 7) (fun _ _ => rfl)) (pg_sub (pv 8) (pv 6) set_list)) (pss_cons (ps_asg (pe_ix (ixL K) (pv 5) (pv 6) (fun _ _ => rfl)) (pg_sub (pv 8) (pv 7) set_list)) (pss_cons (ps_for (passes_of rfl) rfl (piList K (pe_lst (pa_cons (pv 5) (pa_cons (pv 8) (pa_cons (pe_lc (own := [("k", 11)]) (g := gName 11) rfl sc_m_law_resting.nd (pi_range1 (by rfl) T.g_range (pa_cons (pv 2) pa_nil)) (blkOk_by (N := ["rates", "drawn", "many", "handed", "answer", "shares", "first", "second", "turned", "row", "short", "k"]) (sc := (defScope s_m_law_resting)) (by decide +kernel)) (fun _ _ _ _ _ => (pg_name (i := 11) sc_m_law_resting.nd rfl (Or.inl rfl))) (fun _ _ _ _ _ => pts_nil) (fun _ _ _ _ _ => (pe_tup (pa_cons pe_int (pa_cons (pv 2) pa_nil))))) pa_nil))))) (pg_name (i := 9) sc_m_law_resting.nd rfl (Or.inl rfl)) (pss_one (ps_if (pt_not (pt_val (pe_fn F_m_law_judged (hr.mono (by decide)) (by rfl) (fun σ => passAt (takes_of rfl rfl rfl rfl) σ) (pa_cons (pv 0) (pa_cons (pv 9) pa_nil))))) (pss_one (ps_ret pe_non)) pss_nil))) (pss_cons (ps_set (i := 10) sc_m_law_resting.nd rfl (Or.inl rfl) (pe_fn F_m_is_resting (hr.mono (by decide)) (by rfl) (fun σ => passAt (takes_of rfl rfl rfl rfl) σ) (pa_cons (pe_lc (own := [("row", 9)]) (g := gName 9) rfl sc_m_law_resting.nd (piList K (pv 0)) (blkOk_by (N := ["rates", "drawn", "many", "handed", "answer", "shares", "first", "second", "turned", "row", "short", "k"]) (sc := (defScope s_m_law_resting)) (by decide +kernel)) (fun _ _ _ _ _ => (pg_name (i := 9) sc_m_law_resting.nd rfl (Or.inl rfl))) (fun _ _ _ _ _ => pts_nil) (fun _ _ _ _ _ => (pe_callTy (crList K) (by rfl) T.g_list (by decide +kernel) (pa_cons (pv 9) pa_nil)))) (pa_cons (pe_op op_cat (pv 5) (pe_lst (pa_cons (pe_tup (pa_cons pe_int (pa_cons pe_int pa_nil))) pa_nil))) pa_nil)))) (pss_cons (ps_if (PW.pt (pw_or (pt_not (pt_val (pe_callB (crIsi K) (by rfl) T.g_isinstance (by decide +kernel) (pa_cons (pv 10) (pa_cons (pe_bltn (v := .ty "bool") (u := .type "bool") (by rfl) T.g_bool (by decide +kernel) rfl) pa_nil))))) (pw_or1 (pt_val (pv 10))))) (pss_one (ps_ret pe_non)) pss_nil) (pss_one (ps_ret (pv 5))))))))))))))))), ?_⟩), D.kp, T.g__law_resting⟩
  intro a
  rw [m_law_resting]
  exact (gs_seq (gs_asg (gv_cb1 o1_len (Gv.lv (gv_var 0))) (fun v_many_1 => (gs_seq (gs_asg (Gv.fr (gv_lc (gi_list (gv_var 0)) (gg_name 9) (by decide) (any1 rfl) (fun _ => Gv.nx (Gv.fr (gv_cb1 o1_list (Gv.lv (gv_var 9))))))) (fun v_handed_3 => (gs_seq (gs_asgO (gv_callS (ga_cons (gv_var 3) ga_nil)) (fun v_answer_4 => (gs_seq (gs_if (gt_lend (i := (Ow.list (inferInstance : Py (Int × Int)))) (xs := v_answer_4) 4 (gt_or (gt_test (gv_op (o2_neD (α := (List (List Int))) (β := (List (List Int)))) (Gv.lv (gv_var 3)) (Gv.lv (gv_var 0)))) (gt_or (gt_not (gt_B (gv_callS (ga_cons (Gv.pd (gv_var 4)) (ga_cons (gv_var 2) ga_nil))))) (gt_not (gt_B (gv_callS (ga_cons (gv_var 0) (ga_cons (gv_var 4) ga_nil)))))))) (gs_ret gv_noneO) (gs_next (gs_seq (gs_asg (Gv.fr (gv_cb1 o1_list (gv_own 4))) (fun v_shares_9 => (gs_seq (gs_clear (n := 4) rfl (gs_seq (gs_asg (gv_op q2_mod (gv_cb1 o1_int (gv_op q2_ix (Gv.lv (gv_var 1)) gv_int)) (gv_var 2)) (fun v_first_12 => (gs_seq (gs_asg (gv_op q2_mod (gv_cb1 o1_int (gv_op q2_ix (Gv.lv (gv_var 1)) gv_int)) (gv_var 2)) (fun v_second_15 => (gs_seq (gs_asgO (gv_cb1 o1_list (Gv.lv (gv_var 5))) (fun v_turned_16 => (gs_seq (qs_setitem (n := 8) rfl (gv_op q2_ix (Gv.lv (gv_var 5)) (gv_var 7)) (gv_var 6) (fun v_turned_19 => (gs_seq (qs_setitem (n := 8) rfl (gv_op q2_ix (Gv.lv (gv_var 5)) (gv_var 6)) (gv_var 7) (fun v_turned_22 => (gs_seq (gs_freeze (i := (Ow.list (inferInstance : Py (Int × Int)))) (xs := v_turned_22) 8 (gs_for (S := Unit) (fun s26 => [sv a.1, sv a.2.1, sv v_many_1, sv v_handed_3, so ([] : (List (Int × Int))), sv v_shares_9, sv v_first_12, sv v_second_15, sv v_turned_22, .any, .any, .any]) () (gi_list (Gv.fr (gv_lst (gs_cons (gv_var 5) (gs_cons (gv_var 8) (gs_cons (Gv.fr (gv_lc (qi_range1 (live := true) (gv_var 2)) (gg_name 11) (by decide) (any1 rfl) (fun _ => Gv.nx (gv_pair gv_int (gv_var 2))))) gs_nil)))))) (gg_name 9) (.r (.r (.r (.r (.r (.r (.r (.r (.r (.r (.r (.r .nil)))))))))))) (fun s26 x27 kn28 kb29 => (gs_if (gt_not (gt_B (gv_callS (ga_cons (gv_var 0) (ga_cons (gv_var 9) ga_nil))))) (gs_ret gv_noneO) (gs_next ⟨(), (.r (.r (.r (.r (.r (.r (.r (.r (.r (.a (.r (.r .nil)))))))))))), rfl⟩))) (fun s32 => (gs_seq (gs_asg (gv_callS (ga_cons (Gv.fr (gv_lc (gi_list (gv_var 0)) (gg_name 9) (by decide) (any1 rfl) (fun _ => Gv.nx (Gv.fr (gv_cb1 o1_list (Gv.lv (gv_var 9))))))) (ga_cons (Gv.fr (gv_op q2_cat (Gv.lv (gv_var 5)) (Gv.lo (gv_lst (gs_cons (gv_pair gv_int gv_int) gs_nil))))) ga_nil))) (fun v_short_36 => (gs_seq (gs_if (gt_or (gt_not (gt_B (qv_isi (gv_var 10)))) (gt_B (gv_var 10))) (gs_ret gv_noneO) (gs_next (gs_ret (Gv.some (gv_var 5)))))))))))))))))))))))))))))))))))))))))))))
@[irreducible] def m_law_copy (a0 : (List (List (List (Int × Int))))) : R (List (List (List (Int × Int)))) := (comp a0 (fun (x1 : (List (List (Int × Int)))) => (comp x1 (fun (x2 : (List (Int × Int))) => (.ok x2)))))
abbrev s_m_law_copy : Stmt := top 59
theorem sc_m_law_copy : FnScope ["weights", "table", "row"] ["weights"] (defScope s_m_law_copy) := ⟨rfl, rfl, rfl, by decide +kernel, rfl, by decide +kernel, by decide +kernel⟩
theorem ok_m_law_copy {fd : FuncData} (T : Tx K mg) (D : FunD K "_law_copy" "_law_copy" (defArgs s_m_law_copy) (defBody s_m_law_copy) (defScope s_m_law_copy) [] [] (He.ga K "_law_copy") fd) : FnX P w K mg base 1 "_law_copy" (Prm K (rd K (Ow.deep (Ow.deep (Ow.list (inferInstance : Py (Int × Int)))))) fun (a : (List (List (List (Int × Int)))) × Unit) => m_law_copy a.1) := by
  refine ⟨fnr_of (k := 0) D sc_m_law_copy (by decide) rfl (fun _ _ _ _ _ _ us hl => match us, hl with | [_], _ => rfl) (fun cdv A' outer s H E hr => ⟨_, (pss_one (ps_ret (pe_lc (own := [("table", 1)]) (g := gName 1) rfl sc_m_law_copy.nd (piList K (pv 0)) (blkOk_by (N := ["weights", "table", "row"]) (sc := (defScope s_m_law_copy)) (by decide +kernel)) (fun _ _ _ _ _ => (pg_name (i := 1) sc_m_law_copy.nd rfl (Or.inl rfl))) (fun _ _ _ _ _ => pts_nil) (fun _ _ _ _ _ => (pe_lc (own := [("row", 2)]) (g := gName 2) rfl sc_m_law_copy.nd (piList K (pv 1)) (blkOk_by (N := ["weights", "table", "row"]) (sc := (relS _ (defScope s_m_law_copy))) (by decide +kernel)) (fun _ _ _ _ _ => (pg_name (i := 2) sc_m_law_copy.nd rfl (Or.inl rfl))) (fun _ _ _ _ _ => pts_nil) (fun _ _ _ _ _ => (pe_callTy (crList K) (by rfl) T.g_list (by decide +kernel) (pa_cons (pv 2) pa_nil)))))))), ?_⟩), D.kp, T.g__law_copy⟩
  intro a
  rw [m_law_copy]
  exact (gs_ret (gv_lcD (o := (Ow.deep (Ow.list (inferInstance : Py (Int × Int))))) (gi_list (gv_var 0)) (gg_name 1) (by decide) (any1 rfl) (fun _ => Gv.nx (gv_lcD (o := (Ow.list (inferInstance : Py (Int × Int)))) (gi_list (gv_var 1)) (gg_name 2) (by decide) (any1 rfl) (fun _ => Gv.nx (Gv.od (gv_cb1 o1_list (Gv.lv (gv_var 2)))))))))
def m_law_try (a0 : Int) (a1 : GameO) (a2 : List (List (List (Int × Int)))) : R Unit := R.bind (.ok (decide (a0 = (0 : Int)))) fun b => if b = true then R.bind (m_gains a1 a2) fun _ => .ok () else R.bind (m_refuted a1 a2) fun _ => .ok ()
@[irreducible] def m_law_refused (a0 : Int) (a1 : GameO) (a2 : List (List (List (Int × Int)))) : R Bool := match m_law_try a0 a1 a2 with
  | .ok _ => .ok false
  | .ex e => if e.name = ("BadRow" : Str) then (match e.args with
    | [] => .ok true
    | _ => .no) else .no
  | .no => .no
abbrev s_m_law_refused : Stmt := top 58
theorem sc_m_law_refused : FnScope ["door", "game", "weights", "e"] ["door", "game", "weights"] (defScope s_m_law_refused) := ⟨rfl, rfl, rfl, by decide +kernel, rfl, by decide +kernel, by decide +kernel⟩
def tIsE (K : Fg) (D a : Addr) (c : V) : TE := tCB (rIsE K D a) (tCons (tVar 3) (tCons (tC c) tNil))
theorem tIsE_ok {D a : Addr} {c : V} {cv : Value} {b : Bool} {σ : Sg} {H : Hp} {Q : VK} (h1 : σ[3]? = some (some (.ref a))) (h2 : ∀ u, RelV c u → u = cv) (h3 : PySem.W.kitOne K (.ref D) cv = some b) (q : Q (.bl b) H) : tIsE K D a c σ H Q :=
  ⟨_, h1, ⟨c, cv, b, rfl, h2, h3, q⟩⟩
abbrev t_try (K : Fg) (W : WX) : TS := tIfS (tTest (tOp rEq (tVar 0) (tC (V.int 0)))) (tDrop (tCallS (Prm K (ro K) fun (a : GameO × (List (List (List (Int × Int)))) × Unit) => m_gains a.1 a.2.1) (WE W) (tCons (tVar 1) (tCons (tVar 2) tNil)))) (tDrop (tCallS (Prm K (rv K) fun (a : GameO × (List (List (List (Int × Int)))) × Unit) => m_refuted a.1 a.2.1) (WE W) (tCons (tVar 1) (tCons (tVar 2) tNil))))
theorem ok_m_law_refused {fd : FuncData} (T : Tx K mg) (D : FunD K "_law_refused" "_law_refused" (defArgs s_m_law_refused) (defBody s_m_law_refused) (defScope s_m_law_refused) [] [] (He.ga K "_law_refused") fd)
    (F_m_gains : FnX P w K mg base 4 "gains" (Prm K (ro K) fun (a : GameO × (List (List (List (Int × Int)))) × Unit) => m_gains a.1 a.2.1)) (F_m_refuted : FnX P w K mg base 5 "refuted" (Prm K (rv K) fun (a : GameO × (List (List (List (Int × Int)))) × Unit) => m_refuted a.1 a.2.1)) :
    FnX P w K mg base 6 "_law_refused" (Prm K (rv K) fun (a : Int × GameO × (List (List (List (Int × Int)))) × Unit) => m_law_refused a.1 a.2.1 a.2.2.1) := by
  refine ⟨fnr_of (k := 5) D sc_m_law_refused (by decide) rfl (fun _ _ _ _ _ _ us hl => match us, hl with | [_, _, _], _ => rfl) (fun cdv A' outer s H E hr => ⟨_,
    (pss_cons (ps_try_as (i := 3) (c := .ref (He.ga K "Fault")) (ts := fun a cls d => fun D' σ H => (cls = .ref (He.ga K "BadRow") ∧ d = none) ∧ (σ.length = 4 → tRet (tAndV (tIsE K (He.ga K "BadRow") a (.ref (He.ga K "BadRow"))) (tAndV (tNotV (tIsE K (He.ga K "BadRow") a (.ref (He.ga K "BadGame")))) (tIsE K (He.ga K "BadRow") a (.ty "ValueError")))) D' σ H))
      rfl rfl sc_m_law_refused.nd rfl rfl ⟨by rfl, by decide, .inl T.g_Fault⟩ (takes_of rfl rfl rfl rfl)
      (fun W pn xe tk _ => pss_one (ps_if (pt_cmpR op_eq (pv 0) pe_int (nomark _))
        (pss_one (ps_expr (pe_fn F_m_gains (hr.mono (by decide)) (by rfl) (fun σ => passAt tk σ) (pa_cons (pv 1) (pa_cons (pv 2) pa_nil)))))
        (pss_one (ps_expr (pe_fn F_m_refuted (hr.mono (by decide)) (by rfl) (fun σ => passAt tk σ) (pa_cons (pv 1) (pa_cons (pv 2) pa_nil)))))))
      (fun a oe cls d pn hz hf => pss_pre fun hc => by
        obtain ⟨hc1, hc2⟩ := hc
        subst hc1 hc2
        exact pss_len (pss_one (ps_ret (pe_and (pe_callB (call_isE T.ie_BadRow hz hf) (by rfl) T.g_isinstance (by decide +kernel) (pa_cons (pv 3) (pa_cons (pe_gref (by rfl) T.g_BadRow) pa_nil)))
          (pe_and (pe_not (pe_callB (call_isE T.ie_BadRow hz hf) (by rfl) T.g_isinstance (by decide +kernel) (pa_cons (pv 3) (pa_cons (pe_gref (by rfl) T.g_BadGame) pa_nil))))
            (pe_one (pe_callB (call_isE T.ie_BadRow hz hf) (by rfl) T.g_isinstance (by decide +kernel) (pa_cons (pv 3) (pa_cons (pe_bltn (v := .ty "ValueError") (u := .type "ValueError") (by rfl) T.g_ValueError (by decide +kernel) rfl) pa_nil))))))))))
      (pss_one (ps_ret pe_bl))), ?_⟩), D.kp, T.g__law_refused⟩
  intro a
  have e0 : m_law_refused a.1 a.2.1 a.2.2.1 = (match m_law_try a.1 a.2.1 a.2.2.1 with
    | .ok _ => .ok false
    | .ex e => if e.name = ("BadRow" : Str) then (match e.args with
      | [] => .ok true
      | _ => .no) else .no
    | .no => .no) := by rw [m_law_refused] <;> rfl
  intro F0 H0 F H σ D s hn
  refine gs_seq (gs_tryAs (Gn := [sv a.1, sv a.2.1, sv a.2.2.1, .any]) (tb := t_try K) (mb := m_law_try a.1 a.2.1 a.2.2.1) (fun W => ?_) (fun z => hn (by rw [e0, z])) (fun z => ?_) fun e z F0 H0 F H σ G' D cls d s o hR => ?_) F0 H0 F H σ D s hn
  · rw [m_law_try]
    exact gs_if (gt_test (gv_op o2_eq (gv_var 0) gv_int)) (gs_expr (Gv.fr (gv_callS (ga_cons (gv_var 1) (ga_cons (gv_var 2) ga_nil)))) fun x => ⟨.r (.r (.r (.r .nil))), rfl⟩)
      (gs_expr (gv_callS (ga_cons (gv_var 1) (ga_cons (gv_var 2) ga_nil))) fun x => ⟨.r (.r (.r (.r .nil))), rfl⟩)
  · rw [e0, z]; exact gs_ret gv_bl
  · rw [e0, z] at hn hR
    obtain ⟨o1, o2⟩ := o
    have hne : e.name = ("BadRow" : Str) := by
      by_cases q : e.name = ("BadRow" : Str)
      · exact q
      · exact absurd (if_neg q) hn
    rw [hne] at o1
    rcases o2 with ⟨o2, o3⟩ | ⟨o2, _⟩
    · subst o1 o3
      have e5 : (if e.name = ("BadRow" : Str) then (match e.args with
        | [] => R.ok true
        | _ => .no) else .no) = R.ok true := by simp [hne, o2]
      refine ⟨true, T.caught, fun _ x hx => ⟨⟨rfl, rfl⟩, fun hlen => ?_⟩, fun z => nomatch z⟩
      have hl : (σ.set 3 (some (V.ref x)))[3]? = some (some (V.ref x)) := by
        rw [List.length_set] at hlen
        rw [List.getElem?_set_self (by omega)]
      have rr : ∀ (C : Addr) (u : Value), RelV (V.ref C) u → u = .ref C := fun C u q => q
      exact tIsE_ok hl (rr _) T.ki_BadRow_BadRow ⟨true, rfl, tIsE_ok hl (rr _) T.ki_BadRow_BadGame ⟨false, rfl, true, rfl, tIsE_ok (c := .ty "ValueError") (cv := .type "ValueError") hl (fun u q => q) T.ki_BadRow_ValueError (hR true e5 _ F H s.ext rfl)⟩⟩
    · have hn : (if e.name = ("BadRow" : Str) then (match e.args with
        | [] => R.ok true
        | _ => .no) else .no) ≠ R.no := hn
      rw [if_pos hne] at hn
      cases q : e.args with
      | nil => exact absurd q o2
      | cons x y => rw [q] at hn; exact absurd rfl hn

@[irreducible] def m_law_gains_asked (a0 : GameO) (a1 : (List (List (List (Int × Int))))) (a2 : (List (Int × Int))) : R Bool := (R.bind (m_law_copy a1) fun v_handed_1 => (R.bind (rangeQ 0 (2 : Int)) fun xs24 => forC xs24 (fun (s2 : Unit) (x3 : Int) kn4 kb5 => (R.bind (m_gains a0 v_handed_1) fun v_answer_6 => (R.bind (R.bind (R.bind (m_law_same fuel_m_law_same (ToPd.pd v_answer_6) (ToPd.pd a2)) fun b7 => .ok (!b7)) fun b8 => if b8 = true then .ok true else (.ok (!PyData.eqv (ToPd.pd v_handed_1) (ToPd.pd a1)))) fun b9 => if b9 = true then (.ok false) else (kn4 ())))) (fun (s10 : Unit) => (R.bind (R.bind (rangeQ 0 (a2.length : Int)) fun r14 => (compIf r14 (fun (x11 : Int) => (R.bind (R.bind (ixQ a2 x11) fun r12 => (.ok r12.1)) fun r13 => (.ok (decide (r13 ≤ (0 : Int)))))) (fun (x11 : Int) => (.ok x11)))) fun v_low_15 => (R.bind (R.bind (.ok (decide ((v_low_15.length : Int) = (0 : Int)))) fun b22 => if b22 = true then .ok true else (R.bind (R.bind (R.bind (R.bind (m_refuted a0 v_handed_1) fun r16 => (.ok (ToPd.pd r16))) fun r18 => (R.bind (R.bind (ixQ v_low_15 (0 : Int)) fun r17 => (.ok (ToPd.pd r17))) fun r19 => (m_law_same fuel_m_law_same r18 r19))) fun b20 => .ok (!b20)) fun b21 => if b21 = true then .ok true else (.ok (!PyData.eqv (ToPd.pd v_handed_1) (ToPd.pd a1))))) fun b23 => if b23 = true then (.ok false) else (.ok true)))) ()))
abbrev s_m_law_gains_asked : Stmt := top 60
theorem sc_m_law_gains_asked : FnScope ["game", "weights", "due", "handed", "turn", "answer", "low", "k"] ["game", "weights", "due"] (defScope s_m_law_gains_asked) := ⟨rfl, rfl, rfl, by decide +kernel, rfl, by decide +kernel, by decide +kernel⟩
theorem ok_m_law_gains_asked {fd : FuncData} (T : Tx K mg) (D : FunD K "_law_gains_asked" "_law_gains_asked" (defArgs s_m_law_gains_asked) (defBody s_m_law_gains_asked) (defScope s_m_law_gains_asked) [] [] (He.ga K "_law_gains_asked") fd) (F_m_law_copy : FnX P w K mg base 1 "_law_copy" (Prm K (rd K (Ow.deep (Ow.deep (Ow.list (inferInstance : Py (Int × Int)))))) fun (a : (List (List (List (Int × Int)))) × Unit) => m_law_copy a.1)) (F_m_gains : FnX P w K mg base 4 "gains" (Prm K (ro K) fun (a : GameO × (List (List (List (Int × Int)))) × Unit) => m_gains a.1 a.2.1)) (F_m_law_same : FnX P w K mg base 9 "_law_same" (Prm K (rv K) fun (a : PyData × PyData × Unit) => m_law_same fuel_m_law_same a.1 a.2.1)) (F_m_refuted : FnX P w K mg base 5 "refuted" (Prm K (rv K) fun (a : GameO × (List (List (List (Int × Int)))) × Unit) => m_refuted a.1 a.2.1)) : FnX P w K mg base 10 "_law_gains_asked" (Prm K (rv K) fun (a : GameO × (List (List (List (Int × Int)))) × (List (Int × Int)) × Unit) => m_law_gains_asked a.1 a.2.1 a.2.2.1) := by
  refine ⟨fnr_of (k := 9) D sc_m_law_gains_asked (by decide) rfl (fun _ _ _ _ _ _ us hl => match us, hl with | [_, _, _], _ => rfl) (fun cdv A' outer s H E hr => ⟨_, (pss_cons (ps_set (i := 3) sc_m_law_gains_asked.nd rfl (Or.inl rfl) (pe_fn F_m_law_copy (hr.mono (by decide)) (by rfl) (fun σ => passAt (takes_of rfl rfl rfl rfl) σ) (pa_cons (pv 1) pa_nil))) (pss_cons (ps_for (passes_of rfl) rfl (pi_range1 (by rfl) T.g_range (pa_cons pe_int pa_nil)) (pg_name (i := 4) sc_m_law_gains_asked.nd rfl (Or.inl rfl)) (pss_cons (ps_set (i := 5) sc_m_law_gains_asked.nd rfl (Or.inl rfl) (pe_fn F_m_gains (hr.mono (by decide)) (by rfl) (fun σ => passAt (takes_of rfl rfl rfl rfl) σ) (pa_cons (pv 0) (pa_cons (pv 3) pa_nil)))) (pss_cons (ps_if (PW.pt (pw_or (pt_not (pt_val (pe_fn F_m_law_same (hr.mono (by decide)) (by rfl) (fun σ => passAt (takes_of rfl rfl rfl rfl) σ) (pa_cons (pv 5) (pa_cons (pv 2) pa_nil))))) (pw_or1 (pt_cmpR (opNeD K (hu := hr.units)) (pv 3) (pv 1) (nomark _))))) (pss_one (ps_ret pe_bl)) pss_nil) (pss_one (ps_expr (pe_bm0 PySem.F.plainAttrs_list PySem.F.slot_list_clear PySem.F.type_list_clear mt_clear (pv 5))))))) (pss_cons (ps_setLc (i := 6) (own := [("k", 7)]) (g := gName 7) rfl sc_m_law_gains_asked.nd rfl rfl (sw_true rfl rfl rfl (by decide +kernel)) (pi_range1 (by rfl) T.g_range (pa_cons (pe_callB (crLen K) (by rfl) T.g_len PySem.boot_len (pa_cons (pv 2) pa_nil)) pa_nil)) (blkOk_by (N := ["game", "weights", "due", "handed", "turn", "answer", "low", "k"]) (sc := (defScope s_m_law_gains_asked)) (by decide +kernel)) (fun _ _ _ _ _ => (pg_name (i := 7) sc_m_law_gains_asked.nd rfl (Or.inl rfl))) (fun _ _ _ _ _ => (pts_one (pt_cmpR op_le (pe_ix (ixT K) (pe_ix (ixL K) (pv 2) (pv 7) (fun _ _ => rfl)) pe_int (fun _ _ => rfl)) pe_int (nomark _)))) (fun _ _ _ _ _ => (pv 7))) (pss_cons (ps_if (PW.pt (pw_or (pt_cmpR op_eq (pe_callB (crLen K) (by rfl) T.g_len PySem.boot_len (pa_cons (pv 6) pa_nil)) pe_int (nomark _)) (pw_or (pt_not (pt_val (pe_fn F_m_law_same (hr.mono (by decide)) (by rfl) (fun σ => passAt (takes_of rfl rfl rfl rfl) σ) (pa_cons (pe_fn F_m_refuted (hr.mono (by decide)) (by rfl) (fun σ => passAt (takes_of rfl rfl rfl rfl) σ) (pa_cons (pv 0) (pa_cons (pv 3) pa_nil))) (pa_cons (pe_ix (ixL K) (pv 6) pe_int (fun _ _ => rfl)) pa_nil))))) (pw_or1 (pt_cmpR (opNeD K (hu := hr.units)) (pv 3) (pv 1) (nomark _)))))) (pss_one (ps_ret pe_bl)) pss_nil) (pss_one (ps_ret pe_bl)))))), ?_⟩), D.kp, T.g__law_gains_asked⟩
  intro a
  rw [m_law_gains_asked]
  exact (gs_seq (gs_asg (Gv.dfr (gv_callS (ga_cons (gv_var 1) ga_nil))) (fun v_handed_1 => (gs_seq (gs_for (S := Unit) (fun s2 => [sv a.1, sv a.2.1, sv a.2.2.1, sv v_handed_1, .any, .any, .any, .any]) () (qi_range1 (live := false) gv_int) (gg_name 4) (.r (.r (.r (.r (.r (.r (.r (.r .nil)))))))) (fun s2 x3 kn4 kb5 => (gs_seq (gs_asgO (gv_callS (ga_cons (gv_var 0) (ga_cons (gv_var 3) ga_nil))) (fun v_answer_6 => (gs_seq (gs_if (gt_lend (i := (Ow.list (inferInstance : Py (Int × Int)))) (xs := v_answer_6) 5 (gt_or (gt_not (gt_B (gv_callS (ga_cons (Gv.pd (gv_var 5)) (ga_cons (Gv.pd (gv_var 2)) ga_nil))))) (gt_test (gv_op (o2_neD (α := (List (List (List (Int × Int))))) (β := (List (List (List (Int × Int)))))) (Gv.lv (gv_var 3)) (Gv.lv (gv_var 1)))))) (gs_ret gv_bl) (gs_next (gs_clear (n := 5) rfl ⟨(), (.r (.r (.r (.r (.a (.a (.r (.r .nil)))))))), rfl⟩)))))))) (fun s10 => (gs_seq (gs_asg (Gv.fr (gv_lcI (qi_range1 (live := true) (gv_cb1 o1_len (Gv.lv (gv_var 2)))) (gg_name 7) (by decide) (any1 rfl) (fun _ => Gt.nx (gt_test (gv_op o2_le (gv_fst (gv_op q2_ix (Gv.lv (gv_var 2)) (gv_var 7))) gv_int))) (fun _ => Gv.nx (gv_var 7)))) (fun v_low_15 => (gs_seq (gs_if (gt_or (gt_test (gv_op o2_eq (gv_cb1 o1_len (Gv.lv (gv_var 6))) gv_int)) (gt_or (gt_not (gt_B (gv_callS (ga_cons (Gv.pd (gv_callS (ga_cons (gv_var 0) (ga_cons (gv_var 3) ga_nil)))) (ga_cons (Gv.pd (gv_op q2_ix (Gv.lv (gv_var 6)) gv_int)) ga_nil))))) (gt_test (gv_op (o2_neD (α := (List (List (List (Int × Int))))) (β := (List (List (List (Int × Int)))))) (Gv.lv (gv_var 3)) (Gv.lv (gv_var 1)))))) (gs_ret gv_bl) (gs_next (gs_ret gv_bl)))))))))))))
@[irreducible] def m_law_bad_asked (a0 : GameO) (a1 : (List Int)) (a2 : (List (List (List (Int × Int))))) (a3 : (List Int)) : R Bool := (R.bind (R.bind (R.bind (ixQ a3 (2 : Int)) fun r1 => (.ok r1)) fun r2 => (modQ r2 (a1.length : Int))) fun v_person_3 => (R.bind (R.bind (R.bind (ixQ a3 (3 : Int)) fun r4 => (.ok r4)) fun r5 => (R.bind (ixQ a1 v_person_3) fun r6 => (modQ r5 r6))) fun v_first_7 => (R.bind (R.bind (R.bind (ixQ a3 (4 : Int)) fun r8 => (.ok r8)) fun r9 => (R.bind (ixQ a1 v_person_3) fun r10 => (modQ r9 r10))) fun v_second_11 => (R.bind (m_law_copy a2) fun v_below_12 => (R.bind (.ok ((-(1 : Int)), (2 : Int))) fun x17 => R.bind (R.bind (R.bind (.ok (v_below_12, fun (z : (List (List (List (Int × Int))))) => z)) fun r13 => R.bind (.ok v_person_3) fun j14 => pixR r13 j14) fun r15 => R.bind (.ok v_first_7) fun j16 => pixR r15 j16) fun r18 => R.bind (.ok v_second_11) fun j19 => R.bind (setR r18.1 j19 x17) fun ys20 => (fun v_below_21 => (R.bind (m_law_copy a2) fun v_longer_22 => (R.bind (R.bind (R.bind (.ok (v_longer_22, fun (z : (List (List (List (Int × Int))))) => z)) fun r23 => R.bind (.ok v_person_3) fun j24 => pixR r23 j24) fun r25 => R.bind (.ok v_first_7) fun j26 => pixR r25 j26) fun r27 => R.bind (.ok ((0 : Int), (1 : Int))) fun x29 => R.chk (r27.1.length < 100000) ((fun v_longer_28 => (R.bind (m_law_copy a2) fun v_fewer_30 => (R.bind (R.bind (.ok (v_fewer_30, fun (z : (List (List (List (Int × Int))))) => z)) fun r31 => R.bind (.ok v_person_3) fun j32 => pixR r31 j32) fun r33 => R.chk (0 < r33.1.length) ((fun v_fewer_34 => (R.bind (rangeQ 0 (2 : Int)) fun xs50 => forC xs50 (fun (s35 : Unit) (x36 : Int) kn37 kb38 => (R.bind (R.bind (catQ a2 ([([([((0 : Int), (1 : Int))] : List (Int × Int))] : List (List (Int × Int)))] : List (List (List (Int × Int))))) fun r39 => (.ok ([v_below_21, v_longer_28, v_fewer_34, r39] : List (List (List (List (Int × Int))))))) fun xs48 => forC xs48 (fun (s40 : Unit) (x41 : (List (List (List (Int × Int))))) kn42 kb43 => (R.bind (R.bind (R.bind (m_law_copy x41) fun r44 => (m_law_refused x36 a0 r44)) fun b45 => .ok (!b45)) fun b46 => if b46 = true then (.ok false) else (kn42 ()))) (fun (s47 : Unit) => (kn37 ())) ())) (fun (s49 : Unit) => (.ok true)) ())) (r33.2 r33.1.dropLast))))) (r27.2 (r27.1 ++ [x29])))))) (r18.2 ys20))))))
abbrev s_m_law_bad_asked : Stmt := top 61
theorem sc_m_law_bad_asked : FnScope ["game", "choices", "weights", "drawn", "person", "first", "second", "below", "longer", "fewer", "door", "paper"] ["game", "choices", "weights", "drawn"] (defScope s_m_law_bad_asked) := ⟨rfl, rfl, rfl, by decide +kernel, rfl, by decide +kernel, by decide +kernel⟩
theorem ok_m_law_bad_asked {fd : FuncData} (T : Tx K mg) (D : FunD K "_law_bad_asked" "_law_bad_asked" (defArgs s_m_law_bad_asked) (defBody s_m_law_bad_asked) (defScope s_m_law_bad_asked) [] [] (He.ga K "_law_bad_asked") fd) (F_m_law_copy : FnX P w K mg base 1 "_law_copy" (Prm K (rd K (Ow.deep (Ow.deep (Ow.list (inferInstance : Py (Int × Int)))))) fun (a : (List (List (List (Int × Int)))) × Unit) => m_law_copy a.1)) (F_m_law_refused : FnX P w K mg base 6 "_law_refused" (Prm K (rv K) fun (a : Int × GameO × (List (List (List (Int × Int)))) × Unit) => m_law_refused a.1 a.2.1 a.2.2.1)) : FnX P w K mg base 7 "_law_bad_asked" (Prm K (rv K) fun (a : GameO × (List Int) × (List (List (List (Int × Int)))) × (List Int) × Unit) => m_law_bad_asked a.1 a.2.1 a.2.2.1 a.2.2.2.1) := by
  refine ⟨fnr_of (k := 6) D sc_m_law_bad_asked (by decide) rfl (fun _ _ _ _ _ _ us hl => match us, hl with | [_, _, _, _], _ => rfl) (fun cdv A' outer s H E hr => ⟨_, (pss_cons (ps_set (i := 4) sc_m_law_bad_asked.nd rfl (Or.inl rfl) (pe_op op_mod (pe_callTy call_int1 (by rfl) T.g_int (by decide +kernel) (pa_cons (pe_ix (ixL K) (pv 3) pe_int (fun _ _ => rfl)) pa_nil)) (pe_callB (crLen K) (by rfl) T.g_len PySem.boot_len (pa_cons (pv 1) pa_nil)))) (pss_cons (ps_set (i := 5) sc_m_law_bad_asked.nd rfl (Or.inl rfl) (pe_op op_mod (pe_callTy call_int1 (by rfl) T.g_int (by decide +kernel) (pa_cons (pe_ix (ixL K) (pv 3) pe_int (fun _ _ => rfl)) pa_nil)) (pe_ix (ixL K) (pv 1) (pv 4) (fun _ _ => rfl)))) (pss_cons (ps_set (i := 6) sc_m_law_bad_asked.nd rfl (Or.inl rfl) (pe_op op_mod (pe_callTy call_int1 (by rfl) T.g_int (by decide +kernel) (pa_cons (pe_ix (ixL K) (pv 3) pe_int (fun _ _ => rfl)) pa_nil)) (pe_ix (ixL K) (pv 1) (pv 4) (fun _ _ => rfl)))) (pss_cons (ps_set (i := 7) sc_m_law_bad_asked.nd rfl (Or.inl rfl) (pe_fn F_m_law_copy (hr.mono (by decide)) (by rfl) (fun σ => passAt (takes_of rfl rfl rfl rfl) σ) (pa_cons (pv 2) pa_nil))) (pss_cons (ps_asg (pe_tup (pa_cons (pe_un un_neg pe_int) (pa_cons pe_int pa_nil))) (pg_sub (pe_ix (ixL K) (pe_ix (ixL K) (pv 7) (pv 4) (fun _ _ => rfl)) (pv 5) (fun _ _ => rfl)) (pv 6) set_list)) (pss_cons (ps_set (i := 8) sc_m_law_bad_asked.nd rfl (Or.inl rfl) (pe_fn F_m_law_copy (hr.mono (by decide)) (by rfl) (fun σ => passAt (takes_of rfl rfl rfl rfl) σ) (pa_cons (pv 2) pa_nil))) (pss_cons (ps_expr (pe_bm PySem.F.plainAttrs_list PySem.F.slot_list_append PySem.F.type_list_append mt_append (pe_ix (ixL K) (pe_ix (ixL K) (pv 8) (pv 4) (fun _ _ => rfl)) (pv 5) (fun _ _ => rfl)) (pa_cons (pe_tup (pa_cons pe_int (pa_cons pe_int pa_nil))) pa_nil))) (pss_cons (ps_set (i := 9) sc_m_law_bad_asked.nd rfl (Or.inl rfl) (pe_fn F_m_law_copy (hr.mono (by decide)) (by rfl) (fun σ => passAt (takes_of rfl rfl rfl rfl) σ) (pa_cons (pv 2) pa_nil))) (pss_cons (ps_expr (pe_bm0 PySem.F.plainAttrs_list PySem.F.slot_list_pop PySem.F.type_list_pop mt_pop (pe_ix (ixL K) (pv 9) (pv 4) (fun _ _ => rfl)))) (pss_cons (ps_for (passes_of rfl) rfl (pi_range1 (by rfl) T.g_range (pa_cons pe_int pa_nil)) (pg_name (i := 10) sc_m_law_bad_asked.nd rfl (Or.inl rfl)) (pss_one (ps_for (passes_of rfl) rfl (piList K (pe_lst (pa_cons (pv 7) (pa_cons (pv 8) (pa_cons (pv 9) (pa_cons (pe_op op_cat (pv 2) (pe_lst (pa_cons (pe_lst (pa_cons (pe_lst (pa_cons (pe_tup (pa_cons pe_int (pa_cons pe_int pa_nil))) pa_nil)) pa_nil)) pa_nil))) pa_nil)))))) (pg_name (i := 11) sc_m_law_bad_asked.nd rfl (Or.inl rfl)) (pss_one (ps_if (pt_not (pt_val (pe_fn F_m_law_refused (hr.mono (by decide)) (by rfl) (fun σ => passAt (takes_of rfl rfl rfl rfl) σ) (pa_cons (pv 10) (pa_cons (pv 0) (pa_cons (pe_fn F_m_law_copy (hr.mono (by decide)) (by rfl) (fun σ => passAt (takes_of rfl rfl rfl rfl) σ) (pa_cons (pv 11) pa_nil)) pa_nil)))))) (pss_one (ps_ret pe_bl)) pss_nil))))) (pss_one (ps_ret pe_bl)))))))))))), ?_⟩), D.kp, T.g__law_bad_asked⟩
  intro a
  rw [m_law_bad_asked]
  exact (gs_seq (gs_asg (gv_op q2_mod (gv_cb1 o1_int (gv_op q2_ix (Gv.lv (gv_var 3)) gv_int)) (gv_cb1 o1_len (Gv.lv (gv_var 1)))) (fun v_person_3 => (gs_seq (gs_asg (gv_op q2_mod (gv_cb1 o1_int (gv_op q2_ix (Gv.lv (gv_var 3)) gv_int)) (gv_op q2_ix (Gv.lv (gv_var 1)) (gv_var 4))) (fun v_first_7 => (gs_seq (gs_asg (gv_op q2_mod (gv_cb1 o1_int (gv_op q2_ix (Gv.lv (gv_var 3)) gv_int)) (gv_op q2_ix (Gv.lv (gv_var 1)) (gv_var 4))) (fun v_second_11 => (gs_seq (gs_asgD (gv_callS (ga_cons (gv_var 2) ga_nil)) (fun v_below_12 => (gs_seq (gs_setP (n := 7) (κ := fun v_below_21 => (R.bind (m_law_copy a.2.2.1) fun v_longer_22 => (R.bind (R.bind (R.bind (.ok (v_longer_22, fun (z : (List (List (List (Int × Int))))) => z)) fun r23 => R.bind (.ok v_person_3) fun j24 => pixR r23 j24) fun r25 => R.bind (.ok v_first_7) fun j26 => pixR r25 j26) fun r27 => R.bind (.ok ((0 : Int), (1 : Int))) fun x29 => R.chk (r27.1.length < 100000) ((fun v_longer_28 => (R.bind (m_law_copy a.2.2.1) fun v_fewer_30 => (R.bind (R.bind (.ok (v_fewer_30, fun (z : (List (List (List (Int × Int))))) => z)) fun r31 => R.bind (.ok v_person_3) fun j32 => pixR r31 j32) fun r33 => R.chk (0 < r33.1.length) ((fun v_fewer_34 => (R.bind (rangeQ 0 (2 : Int)) fun xs50 => forC xs50 (fun (s35 : Unit) (x36 : Int) kn37 kb38 => (R.bind (R.bind (catQ a.2.2.1 ([([([((0 : Int), (1 : Int))] : List (Int × Int))] : List (List (Int × Int)))] : List (List (List (Int × Int))))) fun r39 => (.ok ([v_below_21, v_longer_28, v_fewer_34, r39] : List (List (List (List (Int × Int))))))) fun xs48 => forC xs48 (fun (s40 : Unit) (x41 : (List (List (List (Int × Int))))) kn42 kb43 => (R.bind (R.bind (R.bind (m_law_copy x41) fun r44 => (m_law_refused x36 a.1 r44)) fun b45 => .ok (!b45)) fun b46 => if b46 = true then (.ok false) else (kn42 ()))) (fun (s47 : Unit) => (kn37 ())) ())) (fun (s49 : Unit) => (.ok true)) ())) (r33.2 r33.1.dropLast))))) (r27.2 (r27.1 ++ [x29])))))) (gv_pair (gv_un o1_neg gv_int) gv_int) (gp_ix (gp_ix (gp_var 7) (gv_var 4)) (gv_var 5)) (gv_var 6) (fun v_below_21 => (gs_seq (gs_asgD (gv_callS (ga_cons (gv_var 2) ga_nil)) (fun v_longer_22 => (gs_seq (gs_appendP (n := 8) (κ := fun v_longer_28 => (R.bind (m_law_copy a.2.2.1) fun v_fewer_30 => (R.bind (R.bind (.ok (v_fewer_30, fun (z : (List (List (List (Int × Int))))) => z)) fun r31 => R.bind (.ok v_person_3) fun j32 => pixR r31 j32) fun r33 => R.chk (0 < r33.1.length) ((fun v_fewer_34 => (R.bind (rangeQ 0 (2 : Int)) fun xs50 => forC xs50 (fun (s35 : Unit) (x36 : Int) kn37 kb38 => (R.bind (R.bind (catQ a.2.2.1 ([([([((0 : Int), (1 : Int))] : List (Int × Int))] : List (List (Int × Int)))] : List (List (List (Int × Int))))) fun r39 => (.ok ([v_below_21, v_longer_28, v_fewer_34, r39] : List (List (List (List (Int × Int))))))) fun xs48 => forC xs48 (fun (s40 : Unit) (x41 : (List (List (List (Int × Int))))) kn42 kb43 => (R.bind (R.bind (R.bind (m_law_copy x41) fun r44 => (m_law_refused x36 a.1 r44)) fun b45 => .ok (!b45)) fun b46 => if b46 = true then (.ok false) else (kn42 ()))) (fun (s47 : Unit) => (kn37 ())) ())) (fun (s49 : Unit) => (.ok true)) ())) (r33.2 r33.1.dropLast))))) (gp_ix (gp_ix (gp_var 8) (gv_var 4)) (gv_var 5)) (gv_pair gv_int gv_int) (fun v_longer_28 => (gs_seq (gs_asgD (gv_callS (ga_cons (gv_var 2) ga_nil)) (fun v_fewer_30 => (gs_seq (gs_popP (n := 9) (κ := fun v_fewer_34 => (R.bind (rangeQ 0 (2 : Int)) fun xs50 => forC xs50 (fun (s35 : Unit) (x36 : Int) kn37 kb38 => (R.bind (R.bind (catQ a.2.2.1 ([([([((0 : Int), (1 : Int))] : List (Int × Int))] : List (List (Int × Int)))] : List (List (List (Int × Int))))) fun r39 => (.ok ([v_below_21, v_longer_28, v_fewer_34, r39] : List (List (List (List (Int × Int))))))) fun xs48 => forC xs48 (fun (s40 : Unit) (x41 : (List (List (List (Int × Int))))) kn42 kb43 => (R.bind (R.bind (R.bind (m_law_copy x41) fun r44 => (m_law_refused x36 a.1 r44)) fun b45 => .ok (!b45)) fun b46 => if b46 = true then (.ok false) else (kn42 ()))) (fun (s47 : Unit) => (kn37 ())) ())) (fun (s49 : Unit) => (.ok true)) ())) (gp_ix (gp_var 9) (gv_var 4)) (fun v_fewer_34 => (gs_seq (gs_freeze (i := (Ow.deep (Ow.deep (Ow.list (inferInstance : Py (Int × Int)))))) (xs := v_below_21) 7 (gs_freeze (i := (Ow.deep (Ow.deep (Ow.list (inferInstance : Py (Int × Int)))))) (xs := v_longer_28) 8 (gs_freeze (i := (Ow.deep (Ow.deep (Ow.list (inferInstance : Py (Int × Int)))))) (xs := v_fewer_34) 9 (gs_for (S := Unit) (fun s35 => [sv a.1, sv a.2.1, sv a.2.2.1, sv a.2.2.2.1, sv v_person_3, sv v_first_7, sv v_second_11, sv v_below_21, sv v_longer_28, sv v_fewer_34, .any, .any]) () (qi_range1 (live := false) gv_int) (gg_name 10) (.r (.r (.r (.r (.r (.r (.r (.r (.r (.r (.r (.r .nil)))))))))))) (fun s35 x36 kn37 kb38 => (gs_for (S := Unit) (fun s40 => [sv a.1, sv a.2.1, sv a.2.2.1, sv a.2.2.2.1, sv v_person_3, sv v_first_7, sv v_second_11, sv v_below_21, sv v_longer_28, sv v_fewer_34, sv x36, .any]) () (gi_list (Gv.fr (gv_lst (gs_cons (gv_var 7) (gs_cons (gv_var 8) (gs_cons (gv_var 9) (gs_cons (Gv.fr (gv_op q2_cat (Gv.lv (gv_var 2)) (Gv.lo (gv_lst (gs_cons (Gv.fr (gv_lst (gs_cons (Gv.fr (gv_lst (gs_cons (gv_pair gv_int gv_int) gs_nil))) gs_nil))) gs_nil))))) gs_nil))))))) (gg_name 11) (.r (.r (.r (.r (.r (.r (.r (.r (.r (.r (.r (.r .nil)))))))))))) (fun s40 x41 kn42 kb43 => (gs_if (gt_not (gt_B (gv_callS (ga_cons (gv_var 10) (ga_cons (gv_var 0) (ga_cons (Gv.dfr (gv_callS (ga_cons (gv_var 11) ga_nil))) ga_nil)))))) (gs_ret gv_bl) (gs_next ⟨(), (.r (.r (.r (.r (.r (.r (.r (.r (.r (.r (.r (.a .nil)))))))))))), rfl⟩))) (fun s47 => ⟨(), (.r (.r (.r (.r (.r (.r (.r (.r (.r (.r (.a (.r .nil)))))))))))), rfl⟩))) (fun s49 => (gs_ret gv_bl))))))))))))))))))))))))))))))))))
@[irreducible] def m_counted (a0 : (List Int)) : R Int := (R.bind (R.bind (.ok (decide ((a0.length : Int) < (1 : Int)))) fun b1 => if b1 = true then .ok true else (.ok (decide ((3 : Int) < (a0.length : Int))))) fun b13 => if b13 = true then .no else (R.bind (.ok (1 : Int)) fun v_outcomes_2 => (R.bind (.ok a0) fun xs12 => forC xs12 (fun (s3 : Int) (x4 : Int) kn5 kb6 => (R.bind (R.bind (.ok (decide (x4 < (1 : Int)))) fun b7 => if b7 = true then .ok true else (.ok (decide ((4 : Int) < x4)))) fun b9 => if b9 = true then .no else (R.bind (mulQ s3 x4) fun v_outcomes_8 => (kn5 (v_outcomes_8))))) (fun (s10 : Int) => (R.bind (.ok (decide ((12 : Int) < s10))) fun b11 => if b11 = true then .no else (.ok s10))) (v_outcomes_2))))
abbrev s_m_counted : Stmt := top 26
theorem sc_m_counted : FnScope ["choices", "outcomes", "many"] ["choices"] (defScope s_m_counted) := ⟨rfl, rfl, rfl, by decide +kernel, rfl, by decide +kernel, by decide +kernel⟩
theorem ok_m_counted {fd : FuncData} (T : Tx K mg) (D : FunD K "counted" "counted" (defArgs s_m_counted) (defBody s_m_counted) (defScope s_m_counted) [] [] (He.ga K "counted") fd) : FnX P w K mg base 1 "counted" (Prm K (rv K) fun (a : (List Int) × Unit) => m_counted a.1) := by
  refine ⟨fnr_of (k := 0) D sc_m_counted (by decide) rfl (fun _ _ _ _ _ _ us hl => match us, hl with | [_], _ => rfl) (fun cdv A' outer s H E hr => ⟨_, (pss_cons (ps_if (PW.pt (pw_or (pt_cmpR op_lt (pe_callB (crLen K) (by rfl) T.g_len PySem.boot_len (pa_cons (pv 0) pa_nil)) pe_int (nomark _)) (pw_or1 (pt_cmpR op_gt (pe_callB (crLen K) (by rfl) T.g_len PySem.boot_len (pa_cons (pv 0) pa_nil)) (pe_gint (by rfl) T.g_MOST_PLAYERS) (nomark _))))) pss_never pss_nil) (pss_cons (ps_set (i := 1) sc_m_counted.nd rfl (Or.inl rfl) pe_int) (pss_cons (ps_for (passes_of rfl) rfl (piList K (pv 0)) (pg_name (i := 2) sc_m_counted.nd rfl (Or.inl rfl)) (pss_cons (ps_if (PW.pt (pw_or (pt_cmpR op_lt (pv 2) pe_int (nomark _)) (pw_or1 (pt_cmpR op_gt (pv 2) (pe_gint (by rfl) T.g_MOST_CHOICES) (nomark _))))) pss_never pss_nil) (pss_one (ps_set (i := 1) sc_m_counted.nd rfl (Or.inl rfl) (pe_op op_mulW (pv 1) (pv 2)))))) (pss_cons (ps_if (pt_cmpR op_gt (pv 1) (pe_gint (by rfl) T.g_MOST_OUTCOMES) (nomark _)) pss_never pss_nil) (pss_one (ps_ret (pv 1))))))), ?_⟩), D.kp, T.g_counted⟩
  intro a
  rw [m_counted]
  exact (gs_seq (gs_if (gt_or (gt_test (gv_op o2_lt (gv_cb1 o1_len (Gv.lv (gv_var 0))) gv_int)) (gt_test (gv_op o2_gt (gv_cb1 o1_len (Gv.lv (gv_var 0))) gv_int))) gs_never (gs_next (gs_seq (gs_asg gv_int (fun v_outcomes_2 => (gs_seq (gs_for (S := Int) (fun s3 => [sv a.1, sv s3, .any]) (v_outcomes_2) (gi_list (gv_var 0)) (gg_name 2) (.r (.r (.r .nil))) (fun s3 x4 kn5 kb6 => (gs_seq (gs_if (gt_or (gt_test (gv_op o2_lt (gv_var 2) gv_int)) (gt_test (gv_op o2_gt (gv_var 2) gv_int))) gs_never (gs_next (gs_asg (gv_op q2_mul (gv_var 1) (gv_var 2)) (fun v_outcomes_8 => ⟨(v_outcomes_8), (.r (.r (.a .nil))), rfl⟩)))))) (fun s10 => (gs_seq (gs_if (gt_test (gv_op o2_gt (gv_var 1) gv_int)) gs_never (gs_next (gs_ret (gv_var 1))))))))))))))
@[irreducible] def m_check_pays (a0 : (List (List Int))) (a1 : Int) (a2 : Int) : R Unit := (R.bind (.ok (!decide ((a0.length : Int) = a1))) fun b16 => if b16 = true then .no else (R.bind (.ok a0) fun xs15 => forC xs15 (fun (s1 : Unit) (x2 : (List Int)) kn3 kb4 => (R.bind (.ok (!decide ((x2.length : Int) = a2))) fun b13 => if b13 = true then .no else (R.bind (.ok x2) fun xs12 => forC xs12 (fun (s5 : Unit) (x6 : Int) kn7 kb8 => (R.bind (R.bind (.ok (decide (x6 < (-(99 : Int))))) fun b9 => if b9 = true then .ok true else (.ok (decide ((99 : Int) < x6)))) fun b10 => if b10 = true then .no else (kn7 ()))) (fun (s11 : Unit) => (kn3 ())) ()))) (fun (s14 : Unit) => (.ok ())) ()))
abbrev s_m_check_pays : Stmt := top 27
theorem sc_m_check_pays : FnScope ["pays", "people", "outcomes", "row", "amount"] ["pays", "people", "outcomes"] (defScope s_m_check_pays) := ⟨rfl, rfl, rfl, by decide +kernel, rfl, by decide +kernel, by decide +kernel⟩
theorem ok_m_check_pays {fd : FuncData} (T : Tx K mg) (D : FunD K "check_pays" "check_pays" (defArgs s_m_check_pays) (defBody s_m_check_pays) (defScope s_m_check_pays) [] [] (He.ga K "check_pays") fd) : FnX P w K mg base 1 "check_pays" (Prm K (rv K) fun (a : (List (List Int)) × Int × Int × Unit) => m_check_pays a.1 a.2.1 a.2.2.1) := by
  refine ⟨fnr_of (k := 0) D sc_m_check_pays (by decide) rfl (fun _ _ _ _ _ _ us hl => match us, hl with | [_, _, _], _ => rfl) (fun cdv A' outer s H E hr => ⟨_, (pss_cons (ps_if (pt_cmpR op_ne (pe_callB (crLen K) (by rfl) T.g_len PySem.boot_len (pa_cons (pv 0) pa_nil)) (pv 1) (nomark _)) pss_never pss_nil) (pss_one (ps_for (passes_of rfl) rfl (piList K (pv 0)) (pg_name (i := 3) sc_m_check_pays.nd rfl (Or.inl rfl)) (pss_cons (ps_if (pt_cmpR op_ne (pe_callB (crLen K) (by rfl) T.g_len PySem.boot_len (pa_cons (pv 3) pa_nil)) (pv 2) (nomark _)) pss_never pss_nil) (pss_one (ps_for (passes_of rfl) rfl (piList K (pv 3)) (pg_name (i := 4) sc_m_check_pays.nd rfl (Or.inl rfl)) (pss_one (ps_if (PW.pt (pw_or (pt_cmpR op_lt (pv 4) (pe_un un_neg (pe_gint (by rfl) T.g_MOST_PAY)) (nomark _)) (pw_or1 (pt_cmpR op_gt (pv 4) (pe_gint (by rfl) T.g_MOST_PAY) (nomark _))))) pss_never pss_nil)))))))), ?_⟩), D.kp, T.g_check_pays⟩
  intro a
  rw [m_check_pays]
  exact (gs_seq (gs_if (gt_test (gv_op o2_ne (gv_cb1 o1_len (Gv.lv (gv_var 0))) (gv_var 1))) gs_never (gs_next (gs_for (S := Unit) (fun s1 => [sv a.1, sv a.2.1, sv a.2.2.1, .any, .any]) () (gi_list (gv_var 0)) (gg_name 3) (.r (.r (.r (.r (.r .nil))))) (fun s1 x2 kn3 kb4 => (gs_seq (gs_if (gt_test (gv_op o2_ne (gv_cb1 o1_len (Gv.lv (gv_var 3))) (gv_var 2))) gs_never (gs_next (gs_for (S := Unit) (fun s5 => [sv a.1, sv a.2.1, sv a.2.2.1, sv x2, .any]) () (gi_list (gv_var 3)) (gg_name 4) (.r (.r (.r (.r (.r .nil))))) (fun s5 x6 kn7 kb8 => (gs_if (gt_or (gt_test (gv_op o2_lt (gv_var 4) (gv_un o1_neg gv_int))) (gt_test (gv_op o2_gt (gv_var 4) gv_int))) gs_never (gs_next ⟨(), (.r (.r (.r (.r (.a .nil))))), rfl⟩))) (fun s11 => ⟨(), (.r (.r (.r (.a (.r .nil))))), rfl⟩)))))) (fun s14 => ⟨(), rfl, fun _ _ _ => rfl⟩)))))
@[irreducible] def m_law_game (a0 : Scr) : R (Hd (List Int) (List (List Int))) := (R.bind (R.bind (m_law_cell a0 (0 : Int)) fun r1 => (m_law_draws r1 ([(3 : Int), (4 : Int), (4 : Int), (4 : Int), (2 : Int), (2 : Int)] : List Int))) fun v_shape_2 => (R.bind (.ok ([] : List Int)) fun v_choices_3 => (R.bind (.ok (1 : Int)) fun v_outcomes_4 => (R.bind (R.bind (R.bind (ixQ v_shape_2 (0 : Int)) fun r5 => (.ok (r5 + (1 : Int)))) fun r6 => (rangeQ 0 r6)) fun xs45 => forC xs45 (fun (s7 : (List Int) × Int) (x8 : Int) kn9 kb10 => (R.bind (R.bind (R.bind (ixQ v_shape_2 ((1 : Int) + x8)) fun r11 => (.ok (r11 + (1 : Int)))) fun r12 => (R.bind (divQ (12 : Int) s7.2) fun r13 => (.ok (min r12 r13)))) fun v_many_14 => (R.bind (.ok v_many_14) fun x15 => R.chk (s7.1.length < 100000) (R.bind (mulQ s7.2 v_many_14) fun v_outcomes_16 => (kn9 ((s7.1 ++ [x15]), v_outcomes_16)))))) (fun (s17 : (List Int) × Int) => (joinR (fun (s22 : (List Int)) => (R.bind (R.bind (ixQ v_shape_2 (5 : Int)) fun r23 => (ixQ ([(2 : Int), (99 : Int)] : List Int) r23)) fun v_most_24 => (R.bind (.ok ([] : List (List Int))) fun v_pays_25 => (R.bind (rangeQ 0 (s22.length : Int)) fun xs39 => forC xs39 (fun (s26 : (List (List Int))) (x27 : Int) kn28 kb29 => (R.bind (R.bind (m_law_cell a0 ((1 : Int) + x27)) fun r33 => (R.bind (R.bind (rangeQ 0 s17.2) fun r32 => (comp r32 (fun (x30 : Int) => (R.bind (mulQ (2 : Int) v_most_24) fun r31 => (.ok (r31 + (1 : Int))))))) fun r34 => (m_law_draws r33 r34))) fun v_row_35 => (R.bind (comp v_row_35 (fun (x36 : Int) => (.ok (x36 - v_most_24)))) fun x37 => R.chk (s26.length < 100000) (kn28 ((s26 ++ [x37])))))) (fun (s38 : (List (List Int))) => (.ok (Hd.mk s22 s38))) (v_pays_25))))) fun kj40 => R.bind (R.bind (ixQ v_shape_2 (4 : Int)) fun r18 => (.ok (decide (r18 = (1 : Int))))) fun b44 => if b44 = true then (R.bind (R.bind (rangeQ 0 (s17.1.length : Int)) fun r42 => (comp r42 (fun (x41 : Int) => (ixQ s17.1 (((s17.1.length : Int) - (1 : Int)) - x41))))) fun v_choices_43 => (kj40 (v_choices_43))) else (kj40 (s17.1)))) (v_choices_3, v_outcomes_4)))))
abbrev s_m_law_game : Stmt := top 46
theorem sc_m_law_game : FnScope ["script", "shape", "choices", "outcomes", "k", "many", "most", "pays", "person", "row", "n"] ["script"] (defScope s_m_law_game) := ⟨rfl, rfl, rfl, by decide +kernel, rfl, by decide +kernel, by decide +kernel⟩
theorem ok_m_law_game {fd : FuncData} (T : Tx K mg) (D : FunD K "_law_game" "_law_game" (defArgs s_m_law_game) (defBody s_m_law_game) (defScope s_m_law_game) [] [] (He.ga K "_law_game") fd) (F_m_law_draws : FnX P w K mg base 1 "_law_draws" (Prm K (ro K) fun (a : Int × (List Int) × Unit) => m_law_draws a.1 a.2.1)) (F_m_law_cell : FnX P w K mg base 1 "_law_cell" (Prm K (rv K) fun (a : Scr × Int × Unit) => m_law_cell a.1 a.2.1)) : FnX P w K mg base 2 "_law_game" (Prm K (rv K) fun (a : Scr × Unit) => m_law_game a.1) := by
  refine ⟨fnr_of (k := 1) D sc_m_law_game (by decide) rfl (fun _ _ _ _ _ _ us hl => match us, hl with | [_], _ => rfl) (fun cdv A' outer s H E hr => ⟨_, (pss_cons (ps_set (i := 1) sc_m_law_game.nd rfl (Or.inl rfl) (pe_fn F_m_law_draws (hr.mono (by decide)) (by rfl) (fun σ => passAt (takes_of rfl rfl rfl rfl) σ) (pa_cons (pe_fn F_m_law_cell (hr.mono (by decide)) (by rfl) (fun σ => passAt (takes_of rfl rfl rfl rfl) σ) (pa_cons (pv 0) (pa_cons pe_int pa_nil))) (pa_cons (pe_lst (pa_cons pe_int (pa_cons pe_int (pa_cons pe_int (pa_cons pe_int (pa_cons pe_int (pa_cons pe_int pa_nil))))))) pa_nil)))) (pss_cons (ps_set (i := 2) sc_m_law_game.nd rfl (Or.inr rfl) (pe_lst pa_nil)) (pss_cons (ps_set (i := 3) sc_m_law_game.nd rfl (Or.inl rfl) pe_int) (pss_cons (ps_for (passes_of rfl) rfl (pi_range1 (by rfl) T.g_range (pa_cons (pe_op op_add (pe_ix (ixL K) (pv 1) pe_int (fun _ _ => rfl)) pe_int) pa_nil)) (pg_name (i := 4) sc_m_law_game.nd rfl (Or.inl rfl)) (pss_cons (ps_set (i := 5) sc_m_law_game.nd rfl (Or.inl rfl) (pe_callB (call_min2 rfl) (by rfl) T.g_min (by decide +kernel) (pa_cons (pe_op op_add (pe_ix (ixL K) (pv 1) (pe_op op_add pe_int (pv 4)) (fun _ _ => rfl)) pe_int) (pa_cons (pe_op op_fdivW pe_int (pv 3)) pa_nil)))) (pss_cons (ps_expr (pe_bm PySem.F.plainAttrs_list PySem.F.slot_list_append PySem.F.type_list_append mt_append (pv 2) (pa_cons (pv 5) pa_nil))) (pss_one (ps_set (i := 3) sc_m_law_game.nd rfl (Or.inl rfl) (pe_op op_mulW (pv 3) (pv 5))))))) (pss_cons (ps_if (pt_cmpR op_eq (pe_ix (ixL K) (pv 1) pe_int (fun _ _ => rfl)) pe_int (nomark _)) (pss_one (ps_set (i := 2) sc_m_law_game.nd rfl (Or.inr rfl) (pe_lc (own := [("k", 4)]) (g := gName 4) rfl sc_m_law_game.nd (pi_range1 (by rfl) T.g_range (pa_cons (pe_callB (crLen K) (by rfl) T.g_len PySem.boot_len (pa_cons (pv 2) pa_nil)) pa_nil)) (blkOk_by (N := ["script", "shape", "choices", "outcomes", "k", "many", "most", "pays", "person", "row", "n"]) (sc := (defScope s_m_law_game)) (by decide +kernel)) (fun _ _ _ _ _ => (pg_name (i := 4) sc_m_law_game.nd rfl (Or.inl rfl))) (fun _ _ _ _ _ => pts_nil) (fun _ _ _ _ _ => (pe_ix (ixL K) (pv 2) (pe_op op_sub (pe_op op_sub (pe_callB (crLen K) (by rfl) T.g_len PySem.boot_len (pa_cons (pv 2) pa_nil)) pe_int) (pv 4)) (fun _ _ => rfl)))))) pss_nil) (pss_cons (ps_set (i := 6) sc_m_law_game.nd rfl (Or.inr rfl) (pe_ix (ixL K) (pe_lst (pa_cons pe_int (pa_cons pe_int pa_nil))) (pe_ix (ixL K) (pv 1) pe_int (fun _ _ => rfl)) (fun _ _ => rfl))) (pss_cons (ps_set (i := 7) sc_m_law_game.nd rfl (Or.inl rfl) (pe_lst pa_nil)) (pss_cons (ps_for (passes_of rfl) rfl (pi_range1 (by rfl) T.g_range (pa_cons (pe_callB (crLen K) (by rfl) T.g_len PySem.boot_len (pa_cons (pv 2) pa_nil)) pa_nil)) (pg_name (i := 8) sc_m_law_game.nd rfl (Or.inl rfl)) (pss_cons (ps_set (i := 9) sc_m_law_game.nd rfl (Or.inl rfl) (pe_fn F_m_law_draws (hr.mono (by decide)) (by rfl) (fun σ => passAt (takes_of rfl rfl rfl rfl) σ) (pa_cons (pe_fn F_m_law_cell (hr.mono (by decide)) (by rfl) (fun σ => passAt (takes_of rfl rfl rfl rfl) σ) (pa_cons (pv 0) (pa_cons (pe_op op_add pe_int (pv 8)) pa_nil))) (pa_cons (pe_lc (own := [("k", 4)]) (g := gName 4) rfl sc_m_law_game.nd (pi_range1 (by rfl) T.g_range (pa_cons (pv 3) pa_nil)) (blkOk_by (N := ["script", "shape", "choices", "outcomes", "k", "many", "most", "pays", "person", "row", "n"]) (sc := (defScope s_m_law_game)) (by decide +kernel)) (fun _ _ _ _ _ => (pg_name (i := 4) sc_m_law_game.nd rfl (Or.inl rfl))) (fun _ _ _ _ _ => pts_nil) (fun _ _ _ _ _ => (pe_op op_add (pe_op op_mulW pe_int (pv 6)) pe_int))) pa_nil)))) (pss_one (ps_expr (pe_bm PySem.F.plainAttrs_list PySem.F.slot_list_append PySem.F.type_list_append mt_append (pv 7) (pa_cons (pe_lc (own := [("n", 10)]) (g := gName 10) rfl sc_m_law_game.nd (piList K (pv 9)) (blkOk_by (N := ["script", "shape", "choices", "outcomes", "k", "many", "most", "pays", "person", "row", "n"]) (sc := (defScope s_m_law_game)) (by decide +kernel)) (fun _ _ _ _ _ => (pg_name (i := 10) sc_m_law_game.nd rfl (Or.inl rfl))) (fun _ _ _ _ _ => pts_nil) (fun _ _ _ _ _ => (pe_op op_sub (pv 10) (pv 6)))) pa_nil)))))) (pss_one (ps_ret (pe_lst (pa_cons (pv 2) (pa_cons (pv 7) pa_nil))))))))))))), ?_⟩), D.kp, T.g__law_game⟩
  intro a
  rw [m_law_game]
  exact (gs_seq (gs_asg (Gv.fr (gv_callS (ga_cons (gv_callS (ga_cons (gv_var 0) (ga_cons gv_int ga_nil))) (ga_cons (Gv.fr (gv_lst (gs_cons gv_int (gs_cons gv_int (gs_cons gv_int (gs_cons gv_int (gs_cons gv_int (gs_cons gv_int gs_nil)))))))) ga_nil)))) (fun v_shape_2 => (gs_seq (gs_asgO (gv_lst gs_nil) (fun v_choices_3 => (gs_seq (gs_asg gv_int (fun v_outcomes_4 => (gs_seq (gs_for (S := (List Int) × Int) (fun s7 => [sv a.1, sv v_shape_2, so s7.1, sv s7.2, .any, .any, .any, .any, .any, .any, .any]) (v_choices_3, v_outcomes_4) (qi_range1 (live := false) (gv_op o2_add (gv_op q2_ix (Gv.lv (gv_var 1)) gv_int) gv_int)) (gg_name 4) (.r (.r (.r (.r (.r (.r (.r (.r (.r (.r (.r .nil))))))))))) (fun s7 x8 kn9 kb10 => (gs_seq (gs_asg (gv_cb2 o2_min (gv_op o2_add (gv_op q2_ix (Gv.lv (gv_var 1)) (gv_op o2_add gv_int (gv_var 4))) gv_int) (gv_op q2_div gv_int (gv_var 3))) (fun v_many_14 => (gs_seq (gs_append (n := 2) rfl (gv_var 5) (fun x15 => (gs_asg (gv_op q2_mul (gv_var 3) (gv_var 5)) (fun v_outcomes_16 => ⟨((s7.1 ++ [x15]), v_outcomes_16), (.r (.r (.r (.r (.a (.a (.r (.r (.r (.r (.r .nil))))))))))), rfl⟩))))))))) (fun s17 => (gs_seq (gs_joinR (S := (List Int)) (fun s22 => [sv a.1, sv v_shape_2, so s22, sv s17.2, .any, .any, .any, .any, .any, .any, .any]) (fun s22 => (gs_seq (gs_asg (gv_op q2_ix (Gv.lo (gv_lst (gs_cons gv_int (gs_cons gv_int gs_nil)))) (gv_op q2_ix (Gv.lv (gv_var 1)) gv_int)) (fun v_most_24 => (gs_seq (gs_asgO (gv_lst gs_nil) (fun v_pays_25 => (gs_seq (gs_for (S := (List (List Int))) (fun s26 => [sv a.1, sv v_shape_2, so s22, sv s17.2, .any, .any, sv v_most_24, so s26, .any, .any, .any]) (v_pays_25) (qi_range1 (live := false) (gv_cb1 o1_len (gv_own 2))) (gg_name 8) (.r (.r (.r (.r (.r (.r (.r (.r (.r (.r (.r .nil))))))))))) (fun s26 x27 kn28 kb29 => (gs_seq (gs_asg (Gv.fr (gv_callS (ga_cons (gv_callS (ga_cons (gv_var 0) (ga_cons (gv_op o2_add gv_int (gv_var 8)) ga_nil))) (ga_cons (Gv.fr (gv_lc (qi_range1 (live := true) (gv_var 3)) (gg_name 4) (by decide) (any1 rfl) (fun _ => Gv.nx (gv_op o2_add (gv_op q2_mul gv_int (gv_var 6)) gv_int)))) ga_nil)))) (fun v_row_35 => (gs_append (n := 7) rfl (Gv.fr (gv_lc (gi_list (gv_var 9)) (gg_name 10) (by decide) (any1 rfl) (fun _ => Gv.nx (gv_op o2_sub (gv_var 10) (gv_var 6))))) (fun x37 => ⟨((s26 ++ [x37])), (.r (.r (.r (.r (.r (.r (.r (.r (.a (.a (.r .nil))))))))))), rfl⟩)))))) (fun s38 => (gs_freeze (i := (Ow.list (inferInstance : Py Int))) (xs := s22) 2 (gs_freeze (i := (Ow.list (inferInstance : Py (List Int)))) (xs := s38) 7 (gs_ret (gv_h2 (gv_var 2) (gv_var 7))))))))))))))) (gs_if (gt_test (gv_op o2_eq (gv_op q2_ix (Gv.lv (gv_var 1)) gv_int) gv_int)) (gs_asgO (gv_lc (qi_range1 (live := true) (gv_cb1 o1_len (gv_own 2))) (gg_name 4) (by decide) (any1 rfl) (fun _ => Gv.nx (gv_op q2_ix (gv_own 2) (gv_op o2_sub (gv_op o2_sub (gv_cb1 o1_len (gv_own 2)) gv_int) (gv_var 4))))) (fun v_choices_43 => ⟨(v_choices_43), (.r (.r (.r (.r (.r (.r (.r (.r (.r (.r (.r .nil))))))))))), rfl⟩)) (gs_next ⟨(s17.1), (.r (.r (.r (.r (.r (.r (.r (.r (.r (.r (.r .nil))))))))))), rfl⟩))))))))))))))))
@[irreducible] def m_Game_init (a0 : (List Int)) (a1 : (List (List Int))) : R (((((Unit × Int) × Int) × (List Int)) × (List (List Int))) × (List Int)) := (R.bind (m_counted a0) fun f_outcomes_1 => (R.bind (.ok (a0.length : Int)) fun f_people_2 => (R.bind (m_check_pays a1 (((), f_outcomes_1), f_people_2).2 (((), f_outcomes_1), f_people_2).1.2) fun x3 => (R.bind (.ok a0) fun f_choices_4 => (R.bind (comp a1 (fun (x5 : (List Int)) => (.ok x5))) fun f_pays_6 => (R.bind (.ok ([] : List Int)) fun f_steps_7 => (R.bind (.ok ((((((), f_outcomes_1), f_people_2), f_choices_4), f_pays_6), f_steps_7).1.1.1.1.2) fun v_step_8 => (R.bind (.ok a0) fun xs18 => forC xs18 (fun (s9 : Int × (((((Unit × Int) × Int) × (List Int)) × (List (List Int))) × (List Int))) (x10 : Int) kn11 kb12 => (R.bind (divQ s9.1 x10) fun v_step_13 => (R.bind (.ok (s9.2.2, fun (z : (List Int)) => (s9.2.1, z))) fun r14 => R.bind (.ok v_step_13) fun x16 => R.chk (r14.1.length < 100000) ((fun v_self_15 => (kn11 (v_step_13, v_self_15))) (r14.2 (r14.1 ++ [x16])))))) (fun (s17 : Int × (((((Unit × Int) × Int) × (List Int)) × (List (List Int))) × (List Int))) => (.ok s17.2)) (v_step_8, ((((((), f_outcomes_1), f_people_2), f_choices_4), f_pays_6), f_steps_7))))))))))
abbrev s_m_Game_init : Stmt := inClass (top 28) 0
theorem sc_m_Game_init : FnScope ["self", "choices", "pays", "step", "many", "row"] ["self", "choices", "pays"] (defScope s_m_Game_init) := ⟨rfl, rfl, rfl, by decide +kernel, rfl, by decide +kernel, by decide +kernel⟩
theorem ok_m_Game_init {fd : FuncData} (T : Tx K mg) (D : FunD K "__init__" "Game.__init__" (defArgs s_m_Game_init) (defBody s_m_Game_init) (defScope s_m_Game_init) [] [] (He.ma K (He.ga K "Game") "__init__") fd) (F_m_counted : FnX P w K mg base 1 "counted" (Prm K (rv K) fun (a : (List Int) × Unit) => m_counted a.1)) (F_m_check_pays : FnX P w K mg base 1 "check_pays" (Prm K (rv K) fun (a : (List (List Int)) × Int × Int × Unit) => m_check_pays a.1 a.2.1 a.2.2.1)) : FnR P w K mg base (L2.CX P w) 2 (He.ma K (He.ga K "Game") "__init__") (PrmI K "Game" (Fs.own "_steps" (Ow.list (inferInstance : Py Int)) (Fs.val "_pays" (inferInstance : Py (List (List Int))) (Fs.val "_choices" (inferInstance : Py (List Int)) (Fs.val "people" (inferInstance : Py Int) (Fs.val "outcomes" (inferInstance : Py Int) Fs.nil))))) fun (a : (List Int) × (List (List Int)) × Unit) => m_Game_init a.1 a.2.1) := by
  refine fnr_init (k := 1) D sc_m_Game_init (by decide) rfl (fun _ _ _ _ _ _ us hl => match us, hl with | [_, _, _], _ => rfl) (fun cdv A' outer s H E hr => ⟨_, (pss_cons (ps_fld (pv 0) (pe_fn F_m_counted (hr.mono (by decide)) (by rfl) (fun σ => passAt (takes_of rfl rfl rfl rfl) σ) (pa_cons (pv 1) pa_nil)) rfl) (pss_cons (ps_fld (pv 0) (pe_callB (crLen K) (by rfl) T.g_len PySem.boot_len (pa_cons (pv 1) pa_nil)) rfl) (pss_cons (ps_expr (pe_fn F_m_check_pays (hr.mono (by decide)) (by rfl) (fun σ => passAt (takes_of rfl rfl rfl rfl) σ) (pa_cons (pv 2) (pa_cons (peFld K (pv 0)) (pa_cons (peFld K (pv 0)) pa_nil))))) (pss_cons (ps_fld (pv 0) (pe_callTy (crList K) (by rfl) T.g_list (by decide +kernel) (pa_cons (pv 1) pa_nil)) rfl) (pss_cons (ps_fld (pv 0) (pe_lc (own := [("row", 5)]) (g := gName 5) rfl sc_m_Game_init.nd (piList K (pv 2)) (blkOk_by (N := ["self", "choices", "pays", "step", "many", "row"]) (sc := (defScope s_m_Game_init)) (by decide +kernel)) (fun _ _ _ _ _ => (pg_name (i := 5) sc_m_Game_init.nd rfl (Or.inl rfl))) (fun _ _ _ _ _ => pts_nil) (fun _ _ _ _ _ => (pe_callTy (crList K) (by rfl) T.g_list (by decide +kernel) (pa_cons (pv 5) pa_nil)))) rfl) (pss_cons (ps_fld (pv 0) (pe_lst pa_nil) rfl) (pss_cons (ps_set (i := 3) sc_m_Game_init.nd rfl (Or.inl rfl) (peFld K (pv 0))) (pss_one (ps_for (passes_of rfl) rfl (piList K (pv 1)) (pg_name (i := 4) sc_m_Game_init.nd rfl (Or.inl rfl)) (pss_cons (ps_set (i := 3) sc_m_Game_init.nd rfl (Or.inl rfl) (pe_op op_fdivW (pv 3) (pv 4))) (pss_one (ps_expr (pe_bm PySem.F.plainAttrs_list PySem.F.slot_list_append PySem.F.type_list_append mt_append (peFld K (pv 0)) (pa_cons (pv 3) pa_nil)))))))))))))), ?_⟩)
  intro px a
  rw [m_Game_init]
  exact (gs_seq (gs_fldV (n := 0) rfl (gv_callS (ga_cons (gv_var 1) ga_nil)) T.c_Game T.n_Game_outcomes (fun f_outcomes_1 => (gs_seq (gs_fldV (n := 0) rfl (gv_cb1 o1_len (Gv.lv (gv_var 1))) T.c_Game T.n_Game_people (fun f_people_2 => (gs_seq (gs_expr (gv_callS (ga_cons (gv_var 2) (ga_cons (gv_pfld (FdV.here (r := (Fs.val "outcomes" (inferInstance : Py Int) Fs.nil)) (by decide)) T.c_Game T.n_Game_people (gp_pin (gp_var 0))) (ga_cons (gv_pfld (FdV.val (FdV.here (r := Fs.nil) (by decide))) T.c_Game T.n_Game_outcomes (gp_pin (gp_var 0))) ga_nil)))) (fun x3 => (gs_seq (gs_fldV (n := 0) rfl (Gv.fr (gv_cb1 o1_list (Gv.lv (gv_var 1)))) T.c_Game T.n_Game__choices (fun f_choices_4 => (gs_seq (gs_fldV (n := 0) rfl (Gv.fr (gv_lc (gi_list (gv_var 2)) (gg_name 5) (by decide) (any1 rfl) (fun _ => Gv.nx (Gv.fr (gv_cb1 o1_list (Gv.lv (gv_var 5))))))) T.c_Game T.n_Game__pays (fun f_pays_6 => (gs_seq (gs_fldO (n := 0) rfl (Gv.od (gv_lst gs_nil)) T.c_Game T.n_Game__steps (fun f_steps_7 => (gs_seq (gs_asg (gv_pfld (FdV.own (FdV.val (FdV.val (FdV.val (FdV.here (r := Fs.nil) (by decide)))))) T.c_Game T.n_Game_outcomes (gp_pin (gp_var 0))) (fun v_step_8 => (gs_for (S := Int × (((((Unit × Int) × Int) × (List Int)) × (List (List Int))) × (List Int))) (fun s9 => [.own (Ow.pin (V.ref px) (Ow.ob "Game" (Fs.own "_steps" (Ow.list (inferInstance : Py Int)) (Fs.val "_pays" (inferInstance : Py (List (List Int))) (Fs.val "_choices" (inferInstance : Py (List Int)) (Fs.val "people" (inferInstance : Py Int) (Fs.val "outcomes" (inferInstance : Py Int) Fs.nil))))))) s9.2, sv a.1, sv a.2.1, sv s9.1, .any, .any]) (v_step_8, ((((((), f_outcomes_1), f_people_2), f_choices_4), f_pays_6), f_steps_7)) (gi_list (gv_var 1)) (gg_name 4) (.r (.r (.r (.r (.r (.r .nil)))))) (fun s9 x10 kn11 kb12 => (gs_seq (gs_asg (gv_op q2_div (gv_var 3) (gv_var 4)) (fun v_step_13 => (gs_appendP (n := 0) (κ := fun v_self_15 => (kn11 (v_step_13, v_self_15))) (gp_fld (FdO.here (r := (Fs.val "_pays" (inferInstance : Py (List (List Int))) (Fs.val "_choices" (inferInstance : Py (List Int)) (Fs.val "people" (inferInstance : Py Int) (Fs.val "outcomes" (inferInstance : Py Int) Fs.nil))))) (by decide)) T.c_Game T.n_Game__steps (gp_pin (gp_var 0))) (gv_var 3) (fun v_self_15 => ⟨(v_step_13, v_self_15), (.r (.r (.r (.r (.a (.r .nil)))))), rfl⟩)))))) (fun s17 => ⟨s17.2, rfl, rfl⟩)))))))))))))))))))))))
@[irreducible] def m_law (a0 : Scr) : R Bool := (R.bind (m_law_game a0) fun v_built_1 => (R.bind (.ok v_built_1.a) fun v_choices_2 => (R.bind (.ok v_built_1.b) fun v_pays_3 => (R.bind (R.bind (comp v_pays_3 (fun (x4 : (List Int)) => (.ok x4))) fun r5 => (R.bind (m_Game_init v_choices_2 r5) fun X => .ok (mkGame X))) fun v_game_6 => (R.bind (m_law_weights a0 v_choices_2) fun v_weights_7 => (R.bind (R.bind (m_law_cell a0 (6 : Int)) fun r8 => (m_law_draws r8 ([(12 : Int), (12 : Int), (3 : Int), (4 : Int), (4 : Int)] : List Int))) fun v_drawn_9 => (R.bind (R.bind (m_law_every v_weights_7) fun r10 => (m_law_common r10)) fun v_common_11 => (R.bind (m_law_gains v_choices_2 v_pays_3 v_weights_7) fun v_gained_12 => (R.bind (R.bind (R.bind (comp v_gained_12 (fun (x13 : Int) => (m_law_lowest_terms x13 v_common_11))) fun r14 => (m_law_gains_asked v_game_6 v_weights_7 r14)) fun b15 => .ok (!b15)) fun b50 => if b50 = true then (.ok false) else (R.bind (comp v_gained_12 (fun (x16 : Int) => (.ok (1 : Int)))) fun v_products_17 => (R.bind (rangeQ 0 (v_choices_2.length : Int)) fun xs49 => forC xs49 (fun (s18 : (List Int)) (x19 : Int) kn20 kb21 => (R.bind (R.bind (ixQ v_weights_7 x19) fun r22 => (m_law_rates r22)) fun v_rates_23 => (R.bind (m_law_resting v_rates_23 v_drawn_9) fun v_shares_24 => (optC v_shares_24 (.ok false) fun v_shares_25 => (R.bind (R.bind (m_law_common v_shares_25) fun r26 => (m_law_scaled v_shares_25 r26)) fun v_held_27 => (R.bind (rangeQ 0 (s18.length : Int)) fun xs39 => forC xs39 (fun (s28 : (List Int)) (x29 : Int) kn30 kb31 => (R.bind (R.bind (ixQ s28 x29) fun r33 => (R.bind (R.bind (m_law_chosen v_choices_2 x19 x29) fun r32 => (ixQ v_held_27 r32)) fun r34 => (mulQ r33 r34))) fun x35 => R.bind (.ok x29) fun i36 => R.bind (setQ s28 i36 x35) fun v_products_37 => (kn30 (v_products_37)))) (fun (s38 : (List Int)) => (kn20 (s38))) (s18))))))) (fun (s40 : (List Int)) => (R.bind (R.bind (R.bind (R.bind (R.bind (rangeQ 0 (v_gained_12.length : Int)) fun r44 => (comp r44 (fun (x41 : Int) => (R.bind (ixQ s40 x41) fun r42 => (R.bind (ixQ v_gained_12 x41) fun r43 => (mulQ r42 r43)))))) fun r45 => (.ok r45.sum)) fun r46 => (.ok (!decide (r46 = (0 : Int))))) fun b47 => if b47 = true then .ok true else (.ok (decide (s40.sum ≤ (0 : Int))))) fun b48 => if b48 = true then (.ok false) else (m_law_bad_asked v_game_6 v_choices_2 v_weights_7 v_drawn_9))) (v_products_17))))))))))))
abbrev s_m_law : Stmt := top 62
theorem sc_m_law : FnScope ["script", "built", "choices", "pays", "game", "weights", "drawn", "common", "gained", "products", "person", "rates", "shares", "held", "outcome", "row", "n", "k"] ["script"] (defScope s_m_law) := ⟨rfl, rfl, rfl, by decide +kernel, rfl, by decide +kernel, by decide +kernel⟩
theorem ok_m_law {fd : FuncData} (T : Tx K mg) (D : FunD K "law" "law" (defArgs s_m_law) (defBody s_m_law) (defScope s_m_law) [] [] (He.ga K "law") fd) (F_m_law_game : FnX P w K mg base 2 "_law_game" (Prm K (rv K) fun (a : Scr × Unit) => m_law_game a.1)) (F_m_Game_init : MkX P w K mg base 2 "Game" (PrmI K "Game" (Fs.own "_steps" (Ow.list (inferInstance : Py Int)) (Fs.val "_pays" (inferInstance : Py (List (List Int))) (Fs.val "_choices" (inferInstance : Py (List Int)) (Fs.val "people" (inferInstance : Py Int) (Fs.val "outcomes" (inferInstance : Py Int) Fs.nil))))) fun (a : (List Int) × (List (List Int)) × Unit) => m_Game_init a.1 a.2.1)) (F_m_law_weights : FnX P w K mg base 3 "_law_weights" (Prm K (ro K) fun (a : Scr × (List Int) × Unit) => m_law_weights a.1 a.2.1)) (F_m_law_draws : FnX P w K mg base 1 "_law_draws" (Prm K (ro K) fun (a : Int × (List Int) × Unit) => m_law_draws a.1 a.2.1)) (F_m_law_cell : FnX P w K mg base 1 "_law_cell" (Prm K (rv K) fun (a : Scr × Int × Unit) => m_law_cell a.1 a.2.1)) (F_m_law_common : FnX P w K mg base 2 "_law_common" (Prm K (rv K) fun (a : (List (Int × Int)) × Unit) => m_law_common a.1)) (F_m_law_every : FnX P w K mg base 1 "_law_every" (Prm K (ro K) fun (a : (List (List (List (Int × Int)))) × Unit) => m_law_every a.1)) (F_m_law_gains : FnX P w K mg base 4 "_law_gains" (Prm K (ro K) fun (a : (List Int) × (List (List Int)) × (List (List (List (Int × Int)))) × Unit) => m_law_gains a.1 a.2.1 a.2.2.1)) (F_m_law_gains_asked : FnX P w K mg base 10 "_law_gains_asked" (Prm K (rv K) fun (a : GameO × (List (List (List (Int × Int)))) × (List (Int × Int)) × Unit) => m_law_gains_asked a.1 a.2.1 a.2.2.1)) (F_m_law_lowest_terms : FnX P w K mg base 2 "_law_lowest_terms" (Prm K (rv K) fun (a : Int × Int × Unit) => m_law_lowest_terms a.1 a.2.1)) (F_m_law_rates : FnX P w K mg base 3 "_law_rates" (Prm K (ro K) fun (a : (List (List (Int × Int))) × Unit) => m_law_rates a.1)) (F_m_law_resting : FnX P w K mg base 6 "_law_resting" (Prm K (rv K) fun (a : (List (List Int)) × (List Int) × Unit) => m_law_resting a.1 a.2.1)) (F_m_law_scaled : FnX P w K mg base 1 "_law_scaled" (Prm K (ro K) fun (a : (List (Int × Int)) × Int × Unit) => m_law_scaled a.1 a.2.1)) (F_m_law_chosen : FnX P w K mg base 2 "_law_chosen" (Prm K (rv K) fun (a : (List Int) × Int × Int × Unit) => m_law_chosen a.1 a.2.1 a.2.2.1)) (F_m_law_bad_asked : FnX P w K mg base 7 "_law_bad_asked" (Prm K (rv K) fun (a : GameO × (List Int) × (List (List (List (Int × Int)))) × (List Int) × Unit) => m_law_bad_asked a.1 a.2.1 a.2.2.1 a.2.2.2.1)) : FnOk P w K mg base (L2.CX P w) 11 (He.ga K "law") fd ["script"] (Prm K (rv K) fun (a : Scr × Unit) => m_law a.1) := by
  refine fnok_of (k := 10) D sc_m_law (by decide) rfl (fun cdv A' outer s H E hr => ⟨_, (pss_cons (ps_set (i := 1) sc_m_law.nd rfl (Or.inl rfl) (pe_fn F_m_law_game (hr.mono (by decide)) (by rfl) (fun σ => passAt (takes_of rfl rfl rfl rfl) σ) (pa_cons (pv 0) pa_nil))) (pss_cons (ps_set (i := 2) sc_m_law.nd rfl (Or.inl rfl) (pe_ix (ixL K) (pv 1) pe_int (fun _ _ => rfl))) (pss_cons (ps_set (i := 3) sc_m_law.nd rfl (Or.inl rfl) (pe_ix (ixL K) (pv 1) pe_int (fun _ _ => rfl))) (pss_cons (ps_set (i := 4) sc_m_law.nd rfl (Or.inl rfl) (pe_mkx F_m_Game_init (hr.mono (by decide)) (by rfl) (fun σ => passAt (takes_of rfl rfl rfl rfl) σ) (pa_cons (pe_callTy (crList K) (by rfl) T.g_list (by decide +kernel) (pa_cons (pv 2) pa_nil)) (pa_cons (pe_lc (own := [("row", 15)]) (g := gName 15) rfl sc_m_law.nd (piList K (pv 3)) (blkOk_by (N := ["script", "built", "choices", "pays", "game", "weights", "drawn", "common", "gained", "products", "person", "rates", "shares", "held", "outcome", "row", "n", "k"]) (sc := (defScope s_m_law)) (by decide +kernel)) (fun _ _ _ _ _ => (pg_name (i := 15) sc_m_law.nd rfl (Or.inl rfl))) (fun _ _ _ _ _ => pts_nil) (fun _ _ _ _ _ => (pe_callTy (crList K) (by rfl) T.g_list (by decide +kernel) (pa_cons (pv 15) pa_nil)))) pa_nil)))) (pss_cons (ps_set (i := 5) sc_m_law.nd rfl (Or.inl rfl) (pe_fn F_m_law_weights (hr.mono (by decide)) (by rfl) (fun σ => passAt (takes_of rfl rfl rfl rfl) σ) (pa_cons (pv 0) (pa_cons (pv 2) pa_nil)))) (pss_cons (ps_set (i := 6) sc_m_law.nd rfl (Or.inl rfl) (pe_fn F_m_law_draws (hr.mono (by decide)) (by rfl) (fun σ => passAt (takes_of rfl rfl rfl rfl) σ) (pa_cons (pe_fn F_m_law_cell (hr.mono (by decide)) (by rfl) (fun σ => passAt (takes_of rfl rfl rfl rfl) σ) (pa_cons (pv 0) (pa_cons pe_int pa_nil))) (pa_cons (pe_lst (pa_cons pe_int (pa_cons pe_int (pa_cons pe_int (pa_cons pe_int (pa_cons pe_int pa_nil)))))) pa_nil)))) (pss_cons (ps_set (i := 7) sc_m_law.nd rfl (Or.inr rfl) (pe_fn F_m_law_common (hr.mono (by decide)) (by rfl) (fun σ => passAt (takes_of rfl rfl rfl rfl) σ) (pa_cons (pe_fn F_m_law_every (hr.mono (by decide)) (by rfl) (fun σ => passAt (takes_of rfl rfl rfl rfl) σ) (pa_cons (pv 5) pa_nil)) pa_nil))) (pss_cons (ps_set (i := 8) sc_m_law.nd rfl (Or.inr rfl) (pe_fn F_m_law_gains (hr.mono (by decide)) (by rfl) (fun σ => passAt (takes_of rfl rfl rfl rfl) σ) (pa_cons (pv 2) (pa_cons (pv 3) (pa_cons (pv 5) pa_nil))))) (pss_cons (ps_if (pt_not (pt_val (pe_fn F_m_law_gains_asked (hr.mono (by decide)) (by rfl) (fun σ => passAt (takes_of rfl rfl rfl rfl) σ) (pa_cons (pv 4) (pa_cons (pv 5) (pa_cons (pe_lc (own := [("n", 16)]) (g := gName 16) rfl sc_m_law.nd (piList K (pv 8)) (blkOk_by (N := ["script", "built", "choices", "pays", "game", "weights", "drawn", "common", "gained", "products", "person", "rates", "shares", "held", "outcome", "row", "n", "k"]) (sc := (defScope s_m_law)) (by decide +kernel)) (fun _ _ _ _ _ => (pg_name (i := 16) sc_m_law.nd rfl (Or.inl rfl))) (fun _ _ _ _ _ => pts_nil) (fun _ _ _ _ _ => (pe_fn F_m_law_lowest_terms (hr.mono (by decide)) (by rfl) (fun σ => passAt takes0 σ) (pa_cons (pv 16) (pa_cons (pv 7) pa_nil))))) pa_nil)))))) (pss_one (ps_ret pe_bl)) pss_nil) (pss_cons (ps_set (i := 9) sc_m_law.nd rfl (Or.inr rfl) (pe_lc (own := [("n", 16)]) (g := gName 16) rfl sc_m_law.nd (piList K (pv 8)) (blkOk_by (N := ["script", "built", "choices", "pays", "game", "weights", "drawn", "common", "gained", "products", "person", "rates", "shares", "held", "outcome", "row", "n", "k"]) (sc := (defScope s_m_law)) (by decide +kernel)) (fun _ _ _ _ _ => (pg_name (i := 16) sc_m_law.nd rfl (Or.inl rfl))) (fun _ _ _ _ _ => pts_nil) (fun _ _ _ _ _ => pe_int))) (pss_cons (ps_for (passes_of rfl) rfl (pi_range1 (by rfl) T.g_range (pa_cons (pe_callB (crLen K) (by rfl) T.g_len PySem.boot_len (pa_cons (pv 2) pa_nil)) pa_nil)) (pg_name (i := 10) sc_m_law.nd rfl (Or.inl rfl)) (pss_cons (ps_set (i := 11) sc_m_law.nd rfl (Or.inl rfl) (pe_fn F_m_law_rates (hr.mono (by decide)) (by rfl) (fun σ => passAt (takes_of rfl rfl rfl rfl) σ) (pa_cons (pe_ix (ixL K) (pv 5) (pv 10) (fun _ _ => rfl)) pa_nil))) (pss_cons (ps_set (i := 12) sc_m_law.nd rfl (Or.inl rfl) (pe_fn F_m_law_resting (hr.mono (by decide)) (by rfl) (fun σ => passAt (takes_of rfl rfl rfl rfl) σ) (pa_cons (pv 11) (pa_cons (pv 6) pa_nil)))) (pss_cons (ps_if (pt_cmpR op_isN (pv 12) pe_non (nomark _)) (pss_one (ps_ret pe_bl)) pss_nil) (pss_cons (ps_set (i := 13) sc_m_law.nd rfl (Or.inl rfl) (pe_fn F_m_law_scaled (hr.mono (by decide)) (by rfl) (fun σ => passAt (takes_of rfl rfl rfl rfl) σ) (pa_cons (pv 12) (pa_cons (pe_fn F_m_law_common (hr.mono (by decide)) (by rfl) (fun σ => passAt (takes_of rfl rfl rfl rfl) σ) (pa_cons (pv 12) pa_nil)) pa_nil)))) (pss_one (ps_for (passes_of rfl) rfl (pi_range1 (by rfl) T.g_range (pa_cons (pe_callB (crLen K) (by rfl) T.g_len PySem.boot_len (pa_cons (pv 9) pa_nil)) pa_nil)) (pg_name (i := 14) sc_m_law.nd rfl (Or.inl rfl)) (pss_one (ps_asg (pe_op op_mulW (pe_ix (ixL K) (pv 9) (pv 14) (fun _ _ => rfl)) (pe_ix (ixL K) (pv 13) (pe_fn F_m_law_chosen (hr.mono (by decide)) (by rfl) (fun σ => passAt (takes_of rfl rfl rfl rfl) σ) (pa_cons (pv 2) (pa_cons (pv 10) (pa_cons (pv 14) pa_nil)))) (fun _ _ => rfl))) (pg_sub (pv 9) (pv 14) set_list)))))))))) (pss_cons (ps_if (PW.pt (pw_or (pt_cmpR op_ne (pe_callB (crSum K) (by rfl) T.g_sum (by decide +kernel) (pa_cons (pe_lc (own := [("k", 17)]) (g := gName 17) rfl sc_m_law.nd (pi_range1 (by rfl) T.g_range (pa_cons (pe_callB (crLen K) (by rfl) T.g_len PySem.boot_len (pa_cons (pv 8) pa_nil)) pa_nil)) (blkOk_by (N := ["script", "built", "choices", "pays", "game", "weights", "drawn", "common", "gained", "products", "person", "rates", "shares", "held", "outcome", "row", "n", "k"]) (sc := (defScope s_m_law)) (by decide +kernel)) (fun _ _ _ _ _ => (pg_name (i := 17) sc_m_law.nd rfl (Or.inl rfl))) (fun _ _ _ _ _ => pts_nil) (fun _ _ _ _ _ => (pe_op op_mulW (pe_ix (ixL K) (pv 9) (pv 17) (fun _ _ => rfl)) (pe_ix (ixL K) (pv 8) (pv 17) (fun _ _ => rfl))))) pa_nil)) pe_int (nomark _)) (pw_or1 (pt_cmpR op_le (pe_callB (crSum K) (by rfl) T.g_sum (by decide +kernel) (pa_cons (pv 9) pa_nil)) pe_int (nomark _))))) (pss_one (ps_ret pe_bl)) pss_nil) (pss_one (ps_ret (pe_fn F_m_law_bad_asked (hr.mono (by decide)) (by rfl) (fun σ => passAt (takes_of rfl rfl rfl rfl) σ) (pa_cons (pv 4) (pa_cons (pv 2) (pa_cons (pv 5) (pa_cons (pv 6) pa_nil))))))))))))))))))), ?_⟩)
  intro a
  rw [m_law]
  exact (gs_seq (gs_asg (gv_callS (ga_cons (gv_var 0) ga_nil)) (fun v_built_1 => (gs_seq (gs_asg (gv_h2a (gv_var 1)) (fun v_choices_2 => (gs_seq (gs_asg (gv_h2b (gv_var 1)) (fun v_pays_3 => (gs_seq (gs_asg (Gv.fzc fzGame (gv_mkx (ga_cons (Gv.fr (gv_cb1 o1_list (Gv.lv (gv_var 2)))) (ga_cons (Gv.fr (gv_lc (gi_list (gv_var 3)) (gg_name 15) (by decide) (any1 rfl) (fun _ => Gv.nx (Gv.fr (gv_cb1 o1_list (Gv.lv (gv_var 15))))))) ga_nil)))) (fun v_game_6 => (gs_seq (gs_asg (Gv.fr (gv_callS (ga_cons (gv_var 0) (ga_cons (gv_var 2) ga_nil)))) (fun v_weights_7 => (gs_seq (gs_asg (Gv.fr (gv_callS (ga_cons (gv_callS (ga_cons (gv_var 0) (ga_cons gv_int ga_nil))) (ga_cons (Gv.fr (gv_lst (gs_cons gv_int (gs_cons gv_int (gs_cons gv_int (gs_cons gv_int (gs_cons gv_int gs_nil))))))) ga_nil)))) (fun v_drawn_9 => (gs_seq (gs_asg (gv_callS (ga_cons (Gv.fr (gv_callS (ga_cons (gv_var 5) ga_nil))) ga_nil)) (fun v_common_11 => (gs_seq (gs_asg (Gv.fr (gv_callS (ga_cons (gv_var 2) (ga_cons (gv_var 3) (ga_cons (gv_var 5) ga_nil))))) (fun v_gained_12 => (gs_seq (gs_if (gt_not (gt_B (gv_callS (ga_cons (gv_var 4) (ga_cons (gv_var 5) (ga_cons (Gv.fr (gv_lc (gi_list (gv_var 8)) (gg_name 16) (by decide) (any1 rfl) (fun _ => Gv.nx (gv_callS (ga_cons (gv_var 16) (ga_cons (gv_var 7) ga_nil)))))) ga_nil)))))) (gs_ret gv_bl) (gs_next (gs_seq (gs_asgO (gv_lc (gi_list (gv_var 8)) (gg_name 16) (by decide) (any1 rfl) (fun _ => Gv.nx gv_int)) (fun v_products_17 => (gs_seq (gs_for (S := (List Int)) (fun s18 => [sv a.1, sv v_built_1, sv v_choices_2, sv v_pays_3, sv v_game_6, sv v_weights_7, sv v_drawn_9, sv v_common_11, sv v_gained_12, so s18, .any, .any, .any, .any, .any, .any, .any, .any]) (v_products_17) (qi_range1 (live := false) (gv_cb1 o1_len (Gv.lv (gv_var 2)))) (gg_name 10) (.r (.r (.r (.r (.r (.r (.r (.r (.r (.r (.r (.r (.r (.r (.r (.r (.r (.r .nil)))))))))))))))))) (fun s18 x19 kn20 kb21 => (gs_seq (gs_asg (Gv.fr (gv_callS (ga_cons (gv_op q2_ix (Gv.lv (gv_var 5)) (gv_var 10)) ga_nil))) (fun v_rates_23 => (gs_seq (gs_asg (gv_callS (ga_cons (gv_var 11) (ga_cons (gv_var 6) ga_nil))) (fun v_shares_24 => (gs_seq (gs_optC (n := 12) rfl (gs_ret gv_bl) (fun v_shares_25 => (gs_seq (gs_asg (Gv.fr (gv_callS (ga_cons (gv_var 12) (ga_cons (gv_callS (ga_cons (gv_var 12) ga_nil)) ga_nil)))) (fun v_held_27 => (gs_for (S := (List Int)) (fun s28 => [sv a.1, sv v_built_1, sv v_choices_2, sv v_pays_3, sv v_game_6, sv v_weights_7, sv v_drawn_9, sv v_common_11, sv v_gained_12, so s28, sv x19, sv v_rates_23, sv v_shares_25, sv v_held_27, .any, .any, .any, .any]) (s18) (qi_range1 (live := false) (gv_cb1 o1_len (gv_own 9))) (gg_name 14) (.r (.r (.r (.r (.r (.r (.r (.r (.r (.r (.r (.r (.r (.r (.r (.r (.r (.r .nil)))))))))))))))))) (fun s28 x29 kn30 kb31 => (qs_setitem (n := 9) rfl (gv_op q2_mul (gv_op q2_ix (gv_own 9) (gv_var 14)) (gv_op q2_ix (Gv.lv (gv_var 13)) (gv_callS (ga_cons (gv_var 2) (ga_cons (gv_var 10) (ga_cons (gv_var 14) ga_nil)))))) (gv_var 14) (fun v_products_37 => ⟨(v_products_37), (.r (.r (.r (.r (.r (.r (.r (.r (.r (.r (.r (.r (.r (.r (.a (.r (.r (.r .nil)))))))))))))))))), rfl⟩))) (fun s38 => ⟨(s38), (.r (.r (.r (.r (.r (.r (.r (.r (.r (.r (.a (.a (.a (.a (.r (.r (.r (.r .nil)))))))))))))))))), rfl⟩))))))))))))))) (fun s40 => (gs_seq (gs_if (gt_or (gt_test (gv_op o2_ne (gv_cb1 o1_sum (Gv.lo (gv_lc (qi_range1 (live := true) (gv_cb1 o1_len (Gv.lv (gv_var 8)))) (gg_name 17) (by decide) (any1 rfl) (fun _ => Gv.nx (gv_op q2_mul (gv_op q2_ix (gv_own 9) (gv_var 17)) (gv_op q2_ix (Gv.lv (gv_var 8)) (gv_var 17))))))) gv_int)) (gt_test (gv_op o2_le (gv_cb1 o1_sum (gv_own 9)) gv_int))) (gs_ret gv_bl) (gs_next (gs_ret (gv_callS (ga_cons (gv_var 4) (ga_cons (gv_var 2) (ga_cons (gv_var 5) (ga_cons (gv_var 6) ga_nil))))))))))))))))))))))))))))))))))))))))))
end
end Wk
end
section
set_option Elab.async false
set_option linter.all false
set_option maxRecDepth 100000
namespace Wk
open PySem L2
/-! ### Euclid -/
theorem mod_half {a b : Int} (h0 : 0 < b) (h1 : b ≤ a) : 2 * (a % b) < a := by
  have h2 := Int.emod_lt_of_pos a h0
  have h3 := Int.emod_nonneg a (by omega : b ≠ 0)
  have h4 := Int.emod_add_mul_ediv a b
  have h5 : 1 ≤ a / b := by
    have := Int.ediv_le_ediv h0 h1
    rw [Int.ediv_self (by omega)] at this
    exact this
  have h6 : b * 1 ≤ b * (a / b) := Int.mul_le_mul_of_nonneg_left h5 (by omega)
  omega
theorem gcd_step {a b : Int} (ha : 0 ≤ a) (hb : 0 ≤ b) : Int.gcd a b = Int.gcd b (a % b) := by
  obtain ⟨m, rfl⟩ := Int.eq_ofNat_of_zero_le ha
  obtain ⟨n, rfl⟩ := Int.eq_ofNat_of_zero_le hb
  show Nat.gcd m n = Nat.gcd n (m % n)
  rw [Nat.gcd_comm, Nat.gcd_rec, Nat.gcd_comm]
def gcdBody {ρ : Type} (ret : Int → R ρ) (s1 : Int × Int) (x2 : Int) (kn3 kb4 : Int × Int → R ρ) : R ρ := (R.bind (.ok (decide (s1.2 = (0 : Int)))) fun b8 => if b8 = true then (ret s1.1) else (R.bind (modQ s1.1 s1.2) fun v_rest_5 => (R.bind (.ok s1.2) fun v_first_6 => (R.bind (.ok v_rest_5) fun v_second_7 => (kn3 (v_first_6, v_second_7))))))
theorem euclid {xs : List Int} : ∀ {k : Nat} {a b : Int} {ys : List Int}, 0 ≤ a → 0 ≤ b → b < 2 ^ k → 2 * k + 1 ≤ ys.length → forC ys (gcdBody (fun x => .ok x)) (fun (s9 : Int × Int) => (.ok s9.1)) (a, b) = .ok ((Int.gcd a b : Nat) : Int) := by
  intro k
  induction k with
  | zero =>
    intro a b ys ha hb hk hl
    have e : b = 0 := by omega
    subst e
    cases ys with
    | nil => simp at hl
    | cons y ys =>
      rw [forC, gcdBody]
      simp
      omega
  | succ k ih =>
    intro a b ys ha hb hk hl
    cases ys with
    | nil => simp at hl
    | cons y ys =>
      by_cases h0 : b = 0
      · subst h0
        rw [forC, gcdBody]
        simp
        omega
      · have hb' : 0 < b := by omega
        rw [forC, gcdBody]
        simp (implicitDefEqProofs := false) only [bok, decide_eq_false h0, Bool.false_eq_true, if_false, modQ_ok hb']
        have g1 : Int.gcd a b = Int.gcd b (a % b) := gcd_step ha hb
        have m0 := Int.emod_nonneg a (by omega : b ≠ 0)
        have m1 := Int.emod_lt_of_pos a hb'
        cases ys with
        | nil => simp at hl
        | cons y2 ys =>
          by_cases h1 : a % b = 0
          · rw [forC, gcdBody]
            simp (implicitDefEqProofs := false) only [bok, decide_eq_true h1, if_true]
            rw [g1, h1]
            simp
            omega
          · have hc : 0 < a % b := by omega
            rw [forC, gcdBody]
            simp (implicitDefEqProofs := false) only [bok, decide_eq_false h1, Bool.false_eq_true, if_false, modQ_ok hc]
            have n0 := Int.emod_nonneg b (by omega : a % b ≠ 0)
            have n1 := mod_half hc (Int.le_of_lt m1)
            have g2 : Int.gcd b (a % b) = Int.gcd (a % b) (b % (a % b)) := gcd_step hb m0
            rw [g1, g2]
            refine ih (by omega) n0 ?_ ?_
            · rw [Int.pow_succ] at hk; omega
            · simp at hl ⊢; omega
theorem gcd_ok {a b : Int} {k : Nat} (ha : 0 ≤ a) (hb : 0 ≤ b) (hk : Sz k b) (hs : k < 5900 := by decide) : m_law_gcd a b = .ok ((Int.gcd a b : Nat) : Int) := by
  rw [m_law_gcd]
  rw [show (12000 : Int) = ((12000 : Nat) : Int) from rfl, rangeQ_ok (by decide), R.bind_ok]
  refine euclid (xs := []) (k := k) ha hb ?_ (by simp; omega)
  unfold Sz at hk
  have h1 : (b.natAbs : Int) < ((2 ^ k : Nat) : Int) := by exact_mod_cast hk
  rw [Int.natCast_pow] at h1
  have h2 : (b.natAbs : Int) = b := Int.natAbs_of_nonneg hb
  rw [h2] at h1
  exact h1

/-! ### numbers as fractions -/
def qv (x : Int × Int) : Rat := (x.1 : Rat) / (x.2 : Rat)
def nf (q : Rat) : Int × Int := (q.num, (q.den : Int))
theorem nf_pos (q : Rat) : 0 < (nf q).2 := by
  unfold nf
  have := q.den_pos
  show (0 : Int) < (q.den : Int)
  omega
theorem qv_nf (q : Rat) : qv (nf q) = q := by
  unfold qv nf
  have := Rat.num_divInt_den q
  rw [Rat.divInt_eq_div] at this
  exact this
theorem nf_inj {p q : Rat} (h : nf p = nf q) : p = q := by rw [← qv_nf p, h, qv_nf]
theorem nf_of {n d : Int} (hd : 0 < d) : nf ((n : Rat) / (d : Rat)) = (n / (Int.gcd n d : Nat), d / (Int.gcd n d : Nat)) := by
  have hg : 0 < Int.gcd n d := Int.gcd_pos_of_ne_zero_right _ (by omega)
  have hd' : d.natAbs ≠ 0 := by omega
  have e : ((n : Rat) / (d : Rat)) = Rat.normalize n d.natAbs hd' := by
    rw [Rat.normalize_eq_mkRat, Rat.mkRat_eq_div]
    have h2 : ((d.natAbs : Nat) : Rat) = (d : Rat) := by
      rw [← Rat.intCast_natCast, Int.natAbs_of_nonneg (by omega)]
    rw [h2]
  rw [e]
  unfold nf
  rw [Rat.normalize_eq hd']
  have gg : n.natAbs.gcd d.natAbs = Int.gcd n d := rfl
  ext
  · rfl
  · show ((d.natAbs / n.natAbs.gcd d.natAbs : Nat) : Int) = d / (Int.gcd n d : Nat)
    rw [gg, Int.natCast_ediv, Int.natAbs_of_nonneg (by omega)]
end Wk
end
section
set_option Elab.async false
set_option linter.all false
set_option maxRecDepth 100000
namespace Wk
open PySem L2
theorem ratio_ok {n d : Int} {b : Nat} (hd : 0 < d) (hs : Sz b d) (hb : b < 9000 := by decide) : m_ratio n d = .ok (nf ((n : Rat) / (d : Rat))) := by
  have hg : 0 < Int.gcd n d := Int.gcd_pos_of_ne_zero_right _ (by omega)
  have gd : ((Int.gcd n d : Nat) : Int) ∣ d := Int.gcd_dvd_right ..
  have gl : ((Int.gcd n d : Nat) : Int) ≤ d := Int.le_of_dvd hd gd
  have gs : Sz b ((Int.gcd n d : Nat) : Int) := hs.of_le (by omega) gl
  rw [m_ratio, nf_of hd]
  simp (implicitDefEqProofs := false) only [bok, decide_eq_false (show ¬ d = 0 by omega), decide_eq_false (show ¬ d < 0 by omega), Bool.false_eq_true, if_false, joinR, divQ_ok (show (0 : Int) < (Int.gcd n d : Nat) by omega) gs hb]
theorem lowest_ok {n d : Int} {b : Nat} (hd : 0 < d) (hs : Sz b d) (hb : b < 5900 := by decide) : m_law_lowest_terms n d = .ok (nf ((n : Rat) / (d : Rat))) := by
  have hg : 0 < Int.gcd n d := Int.gcd_pos_of_ne_zero_right _ (by omega)
  have gd : ((Int.gcd n d : Nat) : Int) ∣ d := Int.gcd_dvd_right ..
  have gl : ((Int.gcd n d : Nat) : Int) ≤ d := Int.le_of_dvd hd gd
  have gs : Sz b ((Int.gcd n d : Nat) : Int) := hs.of_le (by omega) gl
  have e : Int.gcd ((n.natAbs : Nat) : Int) d = Int.gcd n d := rfl
  rw [m_law_lowest_terms, gcd_ok (by omega) (by omega) hs hb, nf_of hd, e]
  simp (implicitDefEqProofs := false) only [bok, divQ_ok (show (0 : Int) < (Int.gcd n d : Nat) by omega) gs (by omega)]
def qsum : List (Int × Int) → Rat
  | [] => 0
  | x :: r => qv x + qsum r
def qprod : List (Int × Int) → Rat
  | [] => 1
  | x :: r => qv x * qprod r
/-- numbers of a size, their denominators above zero -/
def Nums (c : Nat) (xs : List (Int × Int)) : Prop := ∀ x ∈ xs, Sz c x.1 ∧ Sz c x.2 ∧ 0 < x.2
theorem cast_ne {d : Int} (h : 0 < d) : (d : Rat) ≠ 0 := by
  intro z
  have : d = 0 := Rat.intCast_inj.mp (by rw [z]; rfl)
  omega
theorem ediv_cast {a b : Int} (hb : 0 < b) (h : b ∣ a) : ((a / b : Int) : Rat) = (a : Rat) / (b : Rat) := by
  obtain ⟨c, rfl⟩ := h
  rw [Int.mul_ediv_cancel_left _ (by omega), Rat.intCast_mul]
  have := cast_ne hb
  grind
theorem Sz.ediv {n : Nat} {x y : Int} (h : Sz n x) (hy : 0 < y) : Sz n (x / y) := by
  unfold Sz at *
  have : (x / y).natAbs ≤ x.natAbs := Int.natAbs_ediv_le_natAbs x y
  omega
def plusBody {ρ : Type} (s3 : Int × Int) (x4 : Int × Int) (kn5 kb6 : Int × Int → R ρ) : R ρ := (R.bind (.ok ((Int.gcd s3.2 x4.2 : Nat) : Int)) fun v_common_7 => (R.bind (R.bind (R.bind (divQ x4.2 v_common_7) fun r8 => (mulQ s3.1 r8)) fun r10 => (R.bind (R.bind (divQ s3.2 v_common_7) fun r9 => (mulQ x4.1 r9)) fun r11 => (.ok (r10 + r11)))) fun v_top_12 => (R.bind (R.bind (divQ s3.2 v_common_7) fun r13 => (mulQ r13 x4.2)) fun v_bottom_14 => (kn5 (v_top_12, v_bottom_14)))))
theorem plus_loop {ρ : Type} {c : Nat} {k : Int × Int → R ρ} : ∀ {xs : List (Int × Int)} {m : Nat} {t b : Int}, Nums c xs → 0 < b → Sz m t → Sz m b → m + xs.length * (c + 1) < 9000 →
    ∃ t' b', forC xs plusBody k (t, b) = k (t', b') ∧ 0 < b' ∧ Sz (m + xs.length * (c + 1)) b' ∧ (t' : Rat) / (b' : Rat) = (t : Rat) / (b : Rat) + qsum xs
  | [], m, t, b, _, hb, ht, hbs, hl => ⟨t, b, rfl, hb, by simpa using hbs, by rw [qsum]; grind⟩
  | x :: r, m, t, b, hx, hb, ht, hbs, hl => by
    obtain ⟨h1, h2, h3⟩ := hx x List.mem_cons_self
    have hg : 0 < Int.gcd b x.2 := Int.gcd_pos_of_ne_zero_right _ (by omega)
    have hg' : (0 : Int) < ((Int.gcd b x.2 : Nat) : Int) := by omega
    have gd : ((Int.gcd b x.2 : Nat) : Int) ∣ x.2 := Int.gcd_dvd_right ..
    have gb : ((Int.gcd b x.2 : Nat) : Int) ∣ b := Int.gcd_dvd_left ..
    have gs : Sz c ((Int.gcd b x.2 : Nat) : Int) := h2.of_le (by omega) (Int.le_of_dvd h3 gd)
    rw [List.length_cons, Nat.succ_mul] at hl
    have s1 : Sz c (x.2 / (Int.gcd b x.2 : Nat)) := h2.ediv hg'
    have s2 : Sz m (b / (Int.gcd b x.2 : Nat)) := hbs.ediv hg'
    have p1 : 0 < b / ((Int.gcd b x.2 : Nat) : Int) := Int.ediv_pos_of_pos_of_dvd hb (by omega) gb
    have nt : Sz (m + c + 1) (t * (x.2 / (Int.gcd b x.2 : Nat)) + x.1 * (b / (Int.gcd b x.2 : Nat))) := (ht.mul s1).add ((h1.mul s2).mono (by omega))
    have nb : Sz (m + c + 1) (b / (Int.gcd b x.2 : Nat) * x.2) := (s2.mul h2).mono (by omega)
    obtain ⟨t', b', e1, e2, e3, e4⟩ := plus_loop (k := k) (xs := r) (m := m + c + 1) (t := t * (x.2 / (Int.gcd b x.2 : Nat)) + x.1 * (b / (Int.gcd b x.2 : Nat))) (b := b / (Int.gcd b x.2 : Nat) * x.2) (fun y hy => hx y (List.mem_cons_of_mem _ hy)) (Int.mul_pos p1 h3) nt nb (by omega)
    refine ⟨t', b', ?_, e2, e3.mono (by rw [List.length_cons, Nat.succ_mul]; omega), ?_⟩
    · rw [forC, plusBody]
      simp (implicitDefEqProofs := false) only [bok]
      rw [divQ_ok hg' gs (by omega), R.bind_ok, mulQ_ok ht s1 (by omega), R.bind_ok, divQ_ok hg' gs (by omega), R.bind_ok, mulQ_ok h1 s2 (by omega), R.bind_ok, R.bind_ok, R.bind_ok, mulQ_ok s2 h2 (by omega), R.bind_ok]
      exact e1
    · rw [e4, qsum, qv]
      have z1 := cast_ne hb
      have z2 := cast_ne h3
      have z3 := cast_ne hg'
      rw [Rat.intCast_add, Rat.intCast_mul, Rat.intCast_mul, Rat.intCast_mul, ediv_cast hg' gd, ediv_cast hg' gb]
      grind
theorem plus_ok {xs : List (Int × Int)} {c : Nat} (h : Nums c xs) (hl : 1 + xs.length * (c + 1) < 9000) : m_plus xs = .ok (nf (qsum xs)) := by
  rw [m_plus, R.chk_pos (by
    have : xs.length * 1 ≤ xs.length * (c + 1) := Nat.mul_le_mul_left _ (by omega)
    omega)]
  simp (implicitDefEqProofs := false) only [bok]
  obtain ⟨t', b', e1, e2, e3, e4⟩ := plus_loop (k := fun (s15 : Int × Int) => (m_ratio s15.1 s15.2)) (m := 1) (t := 0) (b := 1) h (by decide) (by decide) (by decide) hl
  refine Eq.trans e1 ?_
  rw [ratio_ok e2 e3 hl, e4]
  congr 2
  have : ((0 : Int) : Rat) / ((1 : Int) : Rat) = 0 := by
    rw [Rat.intCast_zero]; grind
  rw [this]; grind
def timesBody {ρ : Type} (s3 : Int × Int) (x4 : Int × Int) (kn5 kb6 : Int × Int → R ρ) : R ρ := (R.bind (mulQ s3.1 x4.1) fun v_top_7 => (R.bind (mulQ s3.2 x4.2) fun v_bottom_8 => (kn5 (v_top_7, v_bottom_8))))
theorem times_loop {ρ : Type} {c : Nat} {k : Int × Int → R ρ} : ∀ {xs : List (Int × Int)} {m : Nat} {t b : Int}, Nums c xs → 0 < b → Sz m t → Sz m b → m + xs.length * c < 9000 →
    ∃ t' b', forC xs timesBody k (t, b) = k (t', b') ∧ 0 < b' ∧ Sz (m + xs.length * c) b' ∧ (t' : Rat) / (b' : Rat) = (t : Rat) / (b : Rat) * qprod xs
  | [], m, t, b, _, hb, ht, hbs, hl => ⟨t, b, rfl, hb, by simpa using hbs, by rw [qprod]; grind⟩
  | x :: r, m, t, b, hx, hb, ht, hbs, hl => by
    obtain ⟨h1, h2, h3⟩ := hx x List.mem_cons_self
    rw [List.length_cons, Nat.succ_mul] at hl
    obtain ⟨t', b', e1, e2, e3, e4⟩ := times_loop (k := k) (xs := r) (m := m + c) (t := t * x.1) (b := b * x.2) (fun y hy => hx y (List.mem_cons_of_mem _ hy)) (Int.mul_pos hb h3) (ht.mul h1) (hbs.mul h2) (by omega)
    refine ⟨t', b', ?_, e2, e3.mono (by rw [List.length_cons, Nat.succ_mul]; omega), ?_⟩
    · rw [forC, timesBody, mulQ_ok ht h1 (by omega), R.bind_ok, mulQ_ok hbs h2 (by omega), R.bind_ok]
      exact e1
    · rw [e4, qprod, qv]
      have z1 := cast_ne hb
      have z2 := cast_ne h3
      rw [Rat.intCast_mul, Rat.intCast_mul]
      grind
theorem times_ok {xs : List (Int × Int)} {c : Nat} (h : Nums c xs) (h0 : xs.length ≤ 100000) (hl : 1 + xs.length * c < 9000) : m_times xs = .ok (nf (qprod xs)) := by
  rw [m_times, R.chk_pos h0]
  simp (implicitDefEqProofs := false) only [bok]
  obtain ⟨t', b', e1, e2, e3, e4⟩ := times_loop (k := fun (s15 : Int × Int) => (m_ratio s15.1 s15.2)) (m := 1) (t := 1) (b := 1) h (by decide) (by decide) (by decide) hl
  refine Eq.trans e1 ?_
  rw [ratio_ok e2 e3 hl, e4]
  congr 2
  have : ((1 : Int) : Rat) / ((1 : Int) : Rat) = 1 := by
    rw [Rat.intCast_one]; grind
  rw [this]; grind

/-! ### common denominators -/
def lcmL (c : Int) (xs : List (Int × Int)) : Int := xs.foldl (fun c x => ((Int.lcm c x.2 : Nat) : Int)) c
theorem lcm_eq {a b : Int} (ha : 0 < a) (hb : 0 < b) : ((Int.lcm a b : Nat) : Int) = a / (Int.gcd a b : Nat) * b := by
  obtain ⟨m, rfl⟩ := Int.eq_ofNat_of_zero_le (Int.le_of_lt ha)
  obtain ⟨n, rfl⟩ := Int.eq_ofNat_of_zero_le (Int.le_of_lt hb)
  show ((Nat.lcm m n : Nat) : Int) = _ / ((Nat.gcd m n : Nat) : Int) * _
  rw [← Int.natCast_ediv, ← Int.natCast_mul, Nat.lcm]
  congr 1
  rw [Nat.mul_comm m n, Nat.mul_div_assoc _ (Nat.gcd_dvd_left m n), Nat.mul_comm]
theorem lcm_pos {a b : Int} (ha : 0 < a) (hb : 0 < b) : (0 : Int) < ((Int.lcm a b : Nat) : Int) := by
  have : 0 < Int.lcm a b := Int.lcm_pos (by omega) (by omega)
  omega
theorem lcm_sz {a b : Int} {m n : Nat} (ha : 0 < a) (hb : 0 < b) (h1 : Sz m a) (h2 : Sz n b) : Sz (m + n) ((Int.lcm a b : Nat) : Int) := by
  rw [lcm_eq ha hb]
  exact (h1.ediv (by have : 0 < Int.gcd a b := Int.gcd_pos_of_ne_zero_right _ (by omega); omega)).mul h2
theorem lcmL_facts {c : Nat} : ∀ {xs : List (Int × Int)} {m : Nat} {a : Int}, Nums c xs → 0 < a → Sz m a → 0 < lcmL a xs ∧ Sz (m + xs.length * c) (lcmL a xs) ∧ a ∣ lcmL a xs ∧ ∀ x ∈ xs, x.2 ∣ lcmL a xs
  | [], m, a, _, ha, hs => ⟨ha, hs.mono (Nat.le_add_right _ _), Int.dvd_refl a, fun x hx => by simp at hx⟩
  | x :: r, m, a, h, ha, hs => by
    obtain ⟨h1, h2, h3⟩ := h x List.mem_cons_self
    obtain ⟨q1, q2, q3, q4⟩ := lcmL_facts (xs := r) (m := m + c) (a := ((Int.lcm a x.2 : Nat) : Int)) (fun y hy => h y (List.mem_cons_of_mem _ hy)) (lcm_pos ha h3) (lcm_sz ha h3 hs h2)
    refine ⟨q1, q2.mono (by rw [List.length_cons, Nat.succ_mul]; omega), Int.dvd_trans (Int.dvd_lcm_left a x.2) q3, fun y hy => ?_⟩
    rcases List.mem_cons.mp hy with e | hy
    · rw [e]; exact Int.dvd_trans (Int.dvd_lcm_right a x.2) q3
    · exact q4 y hy
def commonL (xs : List (Int × Int)) : Int := lcmL 1 xs
theorem common_ok {xs : List (Int × Int)} {c : Nat} (h : Nums c xs) (hc : c < 5900 := by decide) (hl : 1 + xs.length * c < 900000) : m_law_common xs = .ok (commonL xs) := by
  rw [m_law_common]
  simp (implicitDefEqProofs := false) only [bok]
  suffices q : ∀ (ys : List (Int × Int)) (m : Nat) (a : Int), Nums c ys → 0 < a → Sz m a → m + ys.length * c < 900000 → forC ys (fun (s2 : Int) (x3 : (Int × Int)) kn4 kb5 => (R.bind (R.bind (R.bind (m_law_gcd s2 x3.2) fun r6 => (divQ s2 r6)) fun r7 => (mulQ r7 x3.2)) fun v_common_8 => (kn4 (v_common_8)))) (fun (s9 : Int) => (R.ok s9)) a = .ok (lcmL a ys) by
    exact q xs 1 1 h (by decide) (by decide) hl
  intro ys
  induction ys with
  | nil => intro m a _ _ _ _; rfl
  | cons x r ih =>
    intro m a h ha hs hl
    obtain ⟨h1, h2, h3⟩ := h x List.mem_cons_self
    have hg : 0 < Int.gcd a x.2 := Int.gcd_pos_of_ne_zero_right _ (by omega)
    have gd : ((Int.gcd a x.2 : Nat) : Int) ∣ x.2 := Int.gcd_dvd_right ..
    have gs : Sz c ((Int.gcd a x.2 : Nat) : Int) := h2.of_le (by omega) (Int.le_of_dvd h3 gd)
    rw [List.length_cons, Nat.succ_mul] at hl
    rw [forC]
    rw [gcd_ok (by omega) (by omega) h2 hc, R.bind_ok, divQ_ok (by omega) gs (by omega), R.bind_ok, mulQ_ok (hs.ediv (by omega)) h2 (by omega), R.bind_ok, ← lcm_eq ha h3]
    exact ih (m + c) _ (fun y hy => h y (List.mem_cons_of_mem _ hy)) (lcm_pos ha h3) (lcm_sz ha h3 hs h2) (by omega)
def scaledL (xs : List (Int × Int)) (k : Int) : List Int := xs.map fun x => x.1 * (k / x.2)
theorem scaled_ok {xs : List (Int × Int)} {c m : Nat} {k : Int} (h : Nums c xs) (hk : Sz m k) (hl : xs.length ≤ 100000) (hc : c < 9000 := by decide) (hm : c + m < 1000000 := by decide) : m_law_scaled xs k = .ok (scaledL xs k) := by
  rw [m_law_scaled]
  refine comp_ok (fun x => x.1 * (k / x.2)) hl fun x hx => ?_
  obtain ⟨h1, h2, h3⟩ := h x hx
  rw [divQ_ok h3 h2 hc, R.bind_ok, mulQ_ok h1 (hk.ediv h3) hm]
theorem whole_ok {xs : List (Int × Int)} {c : Nat} (h : Nums c xs) (hl : 1 + xs.length * c < 13000) (h0 : xs.length ≤ 100000) (hc : c < 9000 := by decide) : m_whole xs = .ok (scaledL xs (commonL xs), commonL xs) := by
  have z : ∀ (ys : List (Int × Int)) (m : Nat) (a : Int) (k : Int → R (List Int × Int)), Nums c ys → 0 < a → Sz m a → m + ys.length * c < 13000 → forC ys (fun (s2 : Int) (x3 : (Int × Int)) kn4 kb5 => (R.bind (lcmQ s2 x3.2) fun v_factor_5 => (kn4 (v_factor_5)))) k a = k (lcmL a ys) := by
    intro ys
    induction ys with
    | nil => intro m a k _ _ _ _; rfl
    | cons x r ih =>
      intro m a k h ha hs hl
      obtain ⟨h1, h2, h3⟩ := h x List.mem_cons_self
      rw [List.length_cons, Nat.succ_mul] at hl
      rw [forC]
      have e : lcmQ a x.2 = .ok ((Int.lcm a x.2 : Nat) : Int) := by
        unfold lcmQ lcmR
        refine R.chk_pos ?_
        have := hs.log'
        have := h2.log'
        unfold CLcm
        constructor <;> omega
      rw [e, R.bind_ok]
      exact ih (m + c) _ k (fun y hy => h y (List.mem_cons_of_mem _ hy)) (lcm_pos ha h3) (lcm_sz ha h3 hs h2) (by omega)
  rw [m_whole]
  simp (implicitDefEqProofs := false) only [bok]
  refine (z xs 1 1 _ h (by decide) (by decide) hl).trans ?_
  obtain ⟨q1, q2, q3, q4⟩ := lcmL_facts h (show (0 : Int) < 1 by decide) (show Sz 1 1 by decide)
  have e : comp xs (fun (x8 : (Int × Int)) => (R.bind (divQ (lcmL 1 xs) x8.2) fun r9 => (mulQ x8.1 r9))) = .ok (scaledL xs (commonL xs)) := by
    refine comp_ok (fun x => x.1 * (lcmL 1 xs / x.2)) h0 fun x hx => ?_
    obtain ⟨h1, h2, h3⟩ := h x hx
    rw [divQ_ok h3 h2 hc, R.bind_ok, mulQ_ok h1 (q2.ediv h3) (by omega)]
  rw [e]
  rfl
end Wk
end
section
set_option Elab.async false
set_option linter.all false
set_option maxRecDepth 100000
namespace Wk
open PySem L2
/-! ### what is drawn -/
def DrN (sizes : List Int) (n : Nat) (d : List Int) : Prop := d.length = n ∧ ∀ j z, j < n → sizes[j]? = some z → ∃ r, d[j]? = some r ∧ 0 ≤ r ∧ r < z
def Dr (sizes d : List Int) : Prop := DrN sizes sizes.length d
theorem DrN.push {sizes d : List Int} {n : Nat} {z x : Int} (h : DrN sizes n d) (hz : sizes[n]? = some z) (h0 : 0 ≤ x) (h1 : x < z) : DrN sizes (n + 1) (d ++ [x]) := by
  obtain ⟨h2, h3⟩ := h
  refine ⟨by simp [h2], fun j w hj hw => ?_⟩
  by_cases e : j = n
  · subst e
    rw [hz] at hw; cases hw
    exact ⟨x, by rw [List.getElem?_append_right (by omega)]; simp [h2], h0, h1⟩
  · obtain ⟨r, q1, q2⟩ := h3 j w (by omega) hw
    exact ⟨r, by rw [List.getElem?_append_left (by omega)]; exact q1, q2⟩
theorem pow10_18 : powQ (10 : Int) (18 : Int) = .ok 1000000000000000000 := by
  unfold powQ powR
  rw [R.chk_pos (by unfold CPow; decide)]
  rfl
theorem draws_ok {cell : Int} {sizes : List Int} (h : ∀ z ∈ sizes, 0 < z ∧ z ≤ 1000000000) (hl : sizes.length ≤ 99999) : Rt (m_law_draws cell sizes) (Dr sizes) := by
  rw [m_law_draws]
  simp (implicitDefEqProofs := false) only [bok, pow10_18]
  by_cases c : (1000000000000000000 : Int) ≤ cell
  · simp only [decide_eq_true c, if_true]
    obtain ⟨s', h1, h2⟩ := forC_ok (ρ := List Int) (xs := sizes) (body := fun (s6 : (List Int) × Int) (x7 : Int) kn8 kb9 => (R.bind (modQ s6.2 x7) fun x10 => R.chk (s6.1.length < 100000) (R.bind (divQ s6.2 x7) fun v_rest_11 => (kn8 ((s6.1 ++ [x10]), v_rest_11)))))
      (k := fun (s12 : (List Int) × Int) => (.ok s12.1)) (fun n s => DrN sizes n s.1) (s0 := ([], cell - 1000000000000000000)) ⟨rfl, fun j z hj => by omega⟩ (fun i hi s hs => by
        obtain ⟨z1, z2⟩ := h sizes[i] (List.getElem_mem hi)
        refine ⟨(s.1 ++ [s.2 % sizes[i]], s.2 / sizes[i]), hs.push (List.getElem?_eq_getElem hi) (Int.emod_nonneg _ (by omega)) (Int.emod_lt_of_pos _ z1), fun kn kb => ?_⟩
        rw [modQ_ok z1, R.bind_ok, R.chk_pos (by have := hs.1; omega), divQ_ok z1 (show Sz 30 _ from Sz.of_nat 1000000000 (by omega)), R.bind_ok])
    exact Rt.of_eq h2 h1
  · simp only [decide_eq_false c, Bool.false_eq_true, if_false]
    rw [modQ_ok (by decide), R.bind_ok, rangeQ_ok (by omega), R.bind_ok]
    obtain ⟨s', h1, h2⟩ := forC_ok (ρ := List Int) (xs := iota sizes.length) (body := fun (s15 : Int × (List Int)) (x16 : Int) kn17 kb18 => (R.bind (R.bind (R.bind (R.bind (R.bind (mulQ s15.1 (48271 : Int)) fun r19 => (R.bind (mulQ (11 : Int) x16) fun r20 => (.ok (r19 + r20)))) fun r21 => (.ok (r21 + (7 : Int)))) fun r22 => (.ok r22)) fun r23 => (modQ r23 (2147483647 : Int))) fun v_seed_24 => (R.bind (R.bind (R.bind (R.bind (R.bind (mulQ v_seed_24 (69621 : Int)) fun r25 => (R.bind (mulQ (3 : Int) x16) fun r26 => (.ok (r25 + r26)))) fun r27 => (.ok (r27 + (1 : Int)))) fun r28 => (.ok r28)) fun r29 => (modQ r29 (2147483629 : Int))) fun v_mixed_30 => (R.bind (R.bind (R.bind (divQ v_mixed_30 (7 : Int)) fun r31 => (.ok r31)) fun r32 => (R.bind (ixQ sizes x16) fun r33 => (modQ r32 r33))) fun x34 => R.chk (s15.2.length < 100000) (kn17 (v_seed_24, (s15.2 ++ [x34])))))))
      (k := fun (s35 : Int × (List Int)) => (.ok s35.2)) (fun n s => DrN sizes n s.2 ∧ 0 ≤ s.1 ∧ s.1 < 2147483647) (s0 := (cell % 2147483647, [])) ⟨⟨rfl, fun j z hj => by omega⟩, Int.emod_nonneg _ (by decide), Int.emod_lt_of_pos _ (by decide)⟩ (fun i hi s ⟨hs, hs1, hs2⟩ => by
        have hi' : i < sizes.length := by simpa using hi
        obtain ⟨z1, z2⟩ := h sizes[i] (List.getElem_mem hi')
        let sd := (s.1 * 48271 + 11 * (i : Int) + 7) % 2147483647
        have d0 : 0 ≤ sd := Int.emod_nonneg _ (by decide)
        have d1 : sd < 2147483647 := Int.emod_lt_of_pos _ (by decide)
        refine ⟨(sd, s.2 ++ [(sd * 69621 + 3 * (i : Int) + 1) % 2147483629 / 7 % sizes[i]]), ⟨hs.push (List.getElem?_eq_getElem hi') (Int.emod_nonneg _ (by omega)) (Int.emod_lt_of_pos _ z1), d0, d1⟩, fun kn kb => ?_⟩
        have b1 : Sz 31 s.1 := Sz.of_nat 2147483647 (by omega)
        have b2 : Sz 31 sd := Sz.of_nat 2147483647 (by omega)
        have b3 : Sz 17 (i : Int) := Sz.of_nat 100000 (by omega)
        rw [iota_get, mulQ_ok b1 (show Sz 16 48271 by decide), R.bind_ok, mulQ_ok (show Sz 4 11 by decide) b3, R.bind_ok, R.bind_ok, R.bind_ok, R.bind_ok, modQ_ok (by decide), R.bind_ok]
        show (R.bind (R.bind (R.bind (R.bind (R.bind (mulQ sd (69621 : Int)) _) _) _) _) _) = _
        rw [mulQ_ok b2 (show Sz 17 69621 by decide), R.bind_ok, mulQ_ok (show Sz 2 3 by decide) b3, R.bind_ok, R.bind_ok, R.bind_ok, R.bind_ok, modQ_ok (by decide), R.bind_ok, divQ_ok (by decide) (show Sz 3 7 by decide), R.bind_ok, R.bind_ok, ixQ_ok hi', R.bind_ok, modQ_ok z1, R.bind_ok, R.chk_pos (by have := hs.1; omega)])
    rw [iota_length] at h1
    exact Rt.of_eq h2 h1.1
theorem cell_ok {s : Scr} {k : Nat} (hk : k ≤ 1000) : Rt (m_law_cell s (k : Int)) (fun _ => True) := by
  rw [m_law_cell]
  simp (implicitDefEqProofs := false) only [bok]
  by_cases c : (k : Int) < (s.xs.length : Int)
  · simp only [decide_eq_true c, if_true]
    exact Rt.of_eq (ixQ_ok (by omega)) trivial
  · simp only [decide_eq_false c, Bool.false_eq_true, if_false]
    rw [mulQ_ok (show Sz 5 31 by decide) (show Sz 10 (k : Int) from Sz.of_nat 1000 (by omega))]
    exact Rt.ok trivial
theorem cell_draws {s : Scr} {k : Nat} {sizes : List Int} (hk : k ≤ 1000) (h : ∀ z ∈ sizes, 0 < z ∧ z ≤ 1000000000) (hl : sizes.length ≤ 99999) : Rt (R.bind (m_law_cell s (k : Int)) fun r => m_law_draws r sizes) (Dr sizes) :=
  Rt.bind (cell_ok hk) fun _ _ => draws_ok h hl
/-- the i-th drawn -/
theorem Dr.get {sizes d : List Int} (h : Dr sizes d) {i : Nat} {z : Int} (hz : sizes[i]? = some z) : ∃ r, d[i]? = some r ∧ 0 ≤ r ∧ r < z := h.2 i z (List.getElem?_eq_some_iff.mp hz).1 hz
theorem ixQ_some {α : Type} {xs : List α} {i : Nat} {x : α} (h : xs[i]? = some x) : ixQ xs (i : Int) = .ok x := by
  obtain ⟨h1, h2⟩ := List.getElem?_eq_some_iff.mp h
  rw [ixQ_ok h1, h2]
end Wk
end
section
set_option Elab.async false
set_option linter.all false
set_option maxRecDepth 100000
namespace Wk
open PySem L2
/-! ### the game that is drawn -/
def prodL : List Nat → Nat
  | [] => 1
  | c :: r => c * prodL r
def icast (cs : List Nat) : List Int := cs.map fun (c : Nat) => (c : Int)
@[simp] theorem icast_length {cs : List Nat} : (icast cs).length = cs.length := by simp [icast]
theorem prodL_append {a b : List Nat} : prodL (a ++ b) = prodL a * prodL b := by
  induction a with
  | nil => simp [prodL]
  | cons c r ih => simp [prodL, ih, Nat.mul_assoc]
theorem prodL_reverse {a : List Nat} : prodL a.reverse = prodL a := by
  induction a with
  | nil => rfl
  | cons c r ih => rw [List.reverse_cons, prodL_append, ih]; simp [prodL, Nat.mul_comm]
theorem prodL_pos {a : List Nat} (h : ∀ c ∈ a, 1 ≤ c) : 1 ≤ prodL a := by
  induction a with
  | nil => exact Nat.le_refl 1
  | cons c r ih =>
    have := Nat.mul_le_mul (h c List.mem_cons_self) (ih fun x hx => h x (List.mem_cons_of_mem _ hx))
    simpa [prodL] using this
structure Cs (cs : List Nat) : Prop where
  l1 : 1 ≤ cs.length
  l2 : cs.length ≤ 3
  c : ∀ x ∈ cs, 1 ≤ x ∧ x ≤ 4
  p : prodL cs ≤ 12
def Ps (cs : List Nat) (pays : List (List Int)) : Prop := pays.length = cs.length ∧ ∀ row ∈ pays, row.length = prodL cs ∧ ∀ a ∈ row, -99 ≤ a ∧ a ≤ 99
theorem nat_of {x : Int} (h : 0 ≤ x) : ∃ n : Nat, x = (n : Int) := Int.eq_ofNat_of_zero_le h
theorem min_step {m o : Nat} (ho : 1 ≤ o) (ho2 : o ≤ 12) (hm : 1 ≤ m) (hm2 : m ≤ 4) : 1 ≤ min m (12 / o) ∧ min m (12 / o) ≤ 4 ∧ o * min m (12 / o) ≤ 12 := by
  have h1 : 1 ≤ 12 / o := (Nat.le_div_iff_mul_le (by omega)).mpr (by omega)
  have h2 : o * (12 / o) ≤ 12 := Nat.mul_div_le 12 o
  have h3 : o * min m (12 / o) ≤ o * (12 / o) := Nat.mul_le_mul_left _ (Nat.min_le_right _ _)
  omega
theorem game_ok {s : Scr} : Rt (m_law_game s) (fun b => ∃ cs : List Nat, b.a = icast cs ∧ Cs cs ∧ Ps cs b.b) := by
  rw [m_law_game]
  refine Rt.bind (cell_draws (k := 0) (by omega) (by intro z hz; simp at hz; omega) (by simp)) fun d hd => ?_
  obtain ⟨r0, e0, a0, b0⟩ := hd.get (i := 0) (z := 3) rfl
  obtain ⟨r4, e4, a4, b4⟩ := hd.get (i := 4) (z := 2) rfl
  obtain ⟨r5, e5, a5, b5⟩ := hd.get (i := 5) (z := 2) rfl
  have hr : ∀ k : Nat, k < 3 → ∃ r : Nat, d[1 + k]? = some (r : Int) ∧ r < 4 := fun k hk => by
    have : [(3 : Int), 4, 4, 4, 2, 2][1 + k]? = some 4 := by
      have : k = 0 ∨ k = 1 ∨ k = 2 := by omega
      rcases this with e | e | e <;> subst e <;> rfl
    obtain ⟨r, e, a, b⟩ := hd.get this
    obtain ⟨n, rfl⟩ := nat_of a
    exact ⟨n, e, by omega⟩
  obtain ⟨n0, rfl⟩ := nat_of a0
  simp (implicitDefEqProofs := false) only [bok]
  rw [show (0 : Int) = ((0 : Nat) : Int) from rfl, ixQ_some e0, R.bind_ok, R.bind_ok]
  rw [show ((n0 : Nat) : Int) + 1 = ((n0 + 1 : Nat) : Int) by omega, show ((0 : Nat) : Int) = 0 from rfl, rangeQ_ok (by omega), R.bind_ok]
  refine Rt.forC (fun i st => ∃ cs : List Nat, st.1 = icast cs ∧ st.2 = (prodL cs : Int) ∧ cs.length = i ∧ (∀ x ∈ cs, 1 ≤ x ∧ x ≤ 4) ∧ prodL cs ≤ 12) ⟨[], rfl, rfl, rfl, fun x hx => by simp at hx, by decide⟩ (fun i hi st ⟨cs, q1, q2, q3, q4, q5⟩ kn hkn => ?_) fun st ⟨cs, q1, q2, q3, q4, q5⟩ => ?_
  · have hi' : i < n0 + 1 := by simpa using hi
    obtain ⟨r, er, br⟩ := hr i (by omega)
    have hp := prodL_pos fun x hx => (q4 x hx).1
    rw [iota_get, q2, q1, show (1 : Int) + (i : Int) = ((1 + i : Nat) : Int) by omega, ixQ_some er, R.bind_ok, R.bind_ok, divQ_ok (by omega) (show Sz 4 (prodL cs : Int) from Sz.of_nat 12 (by omega)), R.bind_ok, R.bind_ok]
    obtain ⟨m1, m2, m3⟩ := min_step hp q5 (show 1 ≤ r + 1 by omega) (by omega)
    have em : min ((r : Int) + 1) (12 / (prodL cs : Int)) = ((min (r + 1) (12 / prodL cs) : Nat) : Int) := by
      have : (12 : Int) / (prodL cs : Int) = ((12 / prodL cs : Nat) : Int) := (Int.natCast_ediv 12 (prodL cs)).symm
      rw [this]; omega
    rw [em, R.chk_pos (by rw [icast_length]; omega), mulQ_ok (show Sz 4 (prodL cs : Int) from Sz.of_nat 12 (by omega)) (show Sz 3 ((min (r + 1) (12 / prodL cs) : Nat) : Int) from Sz.of_nat 4 (by omega)), R.bind_ok]
    refine hkn _ ⟨cs ++ [min (r + 1) (12 / prodL cs)], by simp [icast], ?_, by simp [q3], fun x hx => ?_, ?_⟩
    · rw [prodL_append]; simp [prodL]
    · rcases List.mem_append.mp hx with hx | hx
      · exact q4 x hx
      · rw [List.mem_singleton.mp hx]; exact ⟨m1, m2⟩
    · rw [prodL_append]; simpa [prodL] using m3
  · rw [iota_length] at q3
    -- the tail, from the choices cs2
    have tailOk : ∀ cs2 : List Nat, cs2.length = n0 + 1 → (∀ x ∈ cs2, 1 ≤ x ∧ x ≤ 4) → prodL cs2 = prodL cs → Rt (R.bind (R.bind (ixQ d (5 : Int)) fun r23 => (ixQ ([(2 : Int), (99 : Int)] : List Int) r23)) fun v_most_24 => (R.bind (rangeQ 0 ((icast cs2).length : Int)) fun xs39 => forC xs39 (fun (s26 : (List (List Int))) (x27 : Int) kn28 kb29 => (R.bind (R.bind (m_law_cell s ((1 : Int) + x27)) fun r33 => (R.bind (R.bind (rangeQ 0 st.2) fun r32 => (comp r32 (fun (x30 : Int) => (R.bind (mulQ (2 : Int) v_most_24) fun r31 => (.ok (r31 + (1 : Int))))))) fun r34 => (m_law_draws r33 r34))) fun v_row_35 => (R.bind (comp v_row_35 (fun (x36 : Int) => (.ok (x36 - v_most_24)))) fun x37 => R.chk (s26.length < 100000) (kn28 ((s26 ++ [x37])))))) (fun (s38 : (List (List Int))) => (.ok (Hd.mk (icast cs2) s38))) ([] : List (List Int)))) (fun b => ∃ cs : List Nat, b.a = icast cs ∧ Cs cs ∧ Ps cs b.b) := by
      intro cs2 l2 c2 p2
      obtain ⟨n5, rfl⟩ := nat_of a5
      have hm : Rt (R.bind (ixQ d (5 : Int)) fun r23 => (ixQ ([(2 : Int), (99 : Int)] : List Int) r23)) (fun m => m = 2 ∨ m = 99) := by
        rw [show (5 : Int) = ((5 : Nat) : Int) from rfl, ixQ_some e5, R.bind_ok]
        have : n5 = 0 ∨ n5 = 1 := by omega
        rcases this with e | e <;> subst e
        · exact Rt.of_eq (ixQ_some rfl) (.inl rfl)
        · exact Rt.of_eq (ixQ_some rfl) (.inr rfl)
      refine Rt.bind hm fun m hm => ?_
      have hm1 : 2 ≤ m ∧ m ≤ 99 := by omega
      rw [icast_length, rangeQ_ok (by omega), R.bind_ok]
      refine Rt.forC (fun i st => st.length = i ∧ ∀ row ∈ st, row.length = prodL cs2 ∧ ∀ a ∈ row, -99 ≤ a ∧ a ≤ 99) ⟨rfl, fun x hx => by simp at hx⟩ (fun i hi st2 ⟨z1, z2⟩ kn hkn => ?_) fun st2 ⟨z1, z2⟩ => ?_
      · have hi' : i < cs2.length := by simpa using hi
        rw [iota_get, q2]
        rw [rangeQ_ok (by omega), R.bind_ok]
        have ec : comp (iota (prodL cs)) (fun (x30 : Int) => (R.bind (mulQ (2 : Int) m) fun r31 => (.ok (r31 + (1 : Int))))) = .ok ((iota (prodL cs)).map fun _ => 2 * m + 1) := comp_ok _ (by rw [iota_length]; omega) fun x hx => by
          rw [mulQ_ok (show Sz 2 2 by decide) (show Sz 7 m from Sz.of_nat 99 (by omega)), R.bind_ok]
        rw [ec]
        simp (implicitDefEqProofs := false) only [bok]
        rw [show (1 : Int) + (i : Int) = ((1 + i : Nat) : Int) by omega]
        refine Rt.bind (cell_draws (by omega) (fun z hz => ?_) (by simp; omega)) fun row hrow => ?_
        · obtain ⟨w, _, rfl⟩ := List.mem_map.mp hz
          exact ⟨by omega, by omega⟩
        · have hlen : row.length = prodL cs := by rw [hrow.1]; simp
          have er : comp row (fun (x36 : Int) => (R.ok (x36 - m))) = .ok (row.map fun x => x - m) := comp_ok _ (by omega) fun x hx => rfl
          rw [er, R.bind_ok, R.chk_pos (by omega)]
          refine hkn _ ⟨by simp [z1], fun row2 hr2 => ?_⟩
          rcases List.mem_append.mp hr2 with hr2 | hr2
          · exact z2 row2 hr2
          · rw [List.mem_singleton.mp hr2]
            refine ⟨by simp [hlen, p2], fun a ha => ?_⟩
            obtain ⟨x, hx, rfl⟩ := List.mem_map.mp ha
            obtain ⟨j, hj, hjx⟩ := List.mem_iff_getElem.mp hx
            obtain ⟨r, e1, e2, e3⟩ := hrow.get (i := j) (z := 2 * m + 1) (by rw [List.getElem?_map, List.getElem?_eq_getElem (by rw [iota_length]; omega)]; rfl)
            rw [List.getElem?_eq_getElem hj, hjx] at e1
            cases e1
            omega
      · rw [iota_length] at z1
        exact Rt.ok ⟨cs2, rfl, ⟨by omega, by omega, c2, by omega⟩, z1, z2⟩
    rw [joinR]
    obtain ⟨n4, rfl⟩ := nat_of a4
    rw [show (4 : Int) = ((4 : Nat) : Int) from rfl, ixQ_some e4, R.bind_ok, R.bind_ok]
    by_cases c4 : ((n4 : Nat) : Int) = 1
    · simp only [decide_eq_true c4, if_true]
      rw [q1, icast_length, rangeQ_ok (by omega), R.bind_ok]
      have ec : comp (iota cs.length) (fun (x41 : Int) => (ixQ (icast cs) ((((cs.length : Nat) : Int) - (1 : Int)) - x41))) = .ok (icast cs.reverse) := by
        have := comp_ok (f := fun (x41 : Int) => (ixQ (icast cs) ((((cs.length : Nat) : Int) - (1 : Int)) - x41))) (fun x : Int => (icast cs).getD (cs.length - 1 - x.toNat) 0) (xs := iota cs.length) (by rw [iota_length]; omega) fun x hx => by
          obtain ⟨j, hj, hjx⟩ := List.mem_iff_getElem.mp hx
          have hj' : j < cs.length := by simpa using hj
          rw [iota_get] at hjx
          subst hjx
          rw [show ((cs.length : Nat) : Int) - 1 - (j : Int) = ((cs.length - 1 - j : Nat) : Int) by omega, ixQ_ok (by rw [icast_length]; omega)]
          simp [List.getD_eq_getElem?_getD]
          rw [List.getElem?_eq_getElem (by rw [icast_length]; omega)]
          rfl
        rw [this]
        congr 1
        apply List.ext_getElem
        · simp
        · intro j h1 h2
          simp [icast] at h1 h2 ⊢
          rw [List.getElem?_eq_getElem (by omega)]
          rfl
      rw [ec, R.bind_ok]
      refine tailOk cs.reverse (by simp [q3]) (fun x hx => q4 x (by simpa using hx)) prodL_reverse
    · simp only [decide_eq_false c4, Bool.false_eq_true, if_false]
      rw [q1]
      exact tailOk cs q3 q4 rfl
end Wk
end
section
set_option Elab.async false
set_option linter.all false
set_option maxRecDepth 100000
namespace Wk
open PySem L2
/-! ### outcomes and digits -/
def stp (cs : List Nat) (p : Nat) : Nat := prodL (cs.drop (p + 1))
def mn (cs : List Nat) (p : Nat) : Nat := cs.getD p 1
def dig (cs : List Nat) (p o : Nat) : Nat := o / stp cs p % mn cs p
def swt (cs : List Nat) (p o c : Nat) : Nat := o / stp cs p / mn cs p * (mn cs p * stp cs p) + c * stp cs p + o % stp cs p
theorem mn_get {cs : List Nat} {p : Nat} (h : p < cs.length) : mn cs p = cs[p] := by
  unfold mn; rw [List.getD_eq_getElem?_getD, List.getElem?_eq_getElem h]; rfl
theorem prod_split {cs : List Nat} {p : Nat} (h : p < cs.length) : prodL cs = prodL (cs.take p) * (mn cs p * stp cs p) := by
  have e : cs = cs.take p ++ cs.drop p := (List.take_append_drop p cs).symm
  have e2 : cs.drop p = cs[p] :: cs.drop (p + 1) := List.drop_eq_getElem_cons h
  rw [show prodL cs = prodL (cs.take p ++ cs.drop p) by rw [← e], prodL_append, e2, mn_get h]
  rfl
theorem Cs.drop_pos {cs : List Nat} (h : Cs cs) (n : Nat) : 1 ≤ prodL (cs.drop n) := prodL_pos fun c hc => (h.c c (List.mem_of_mem_drop hc)).1
theorem Cs.take_pos {cs : List Nat} (h : Cs cs) (n : Nat) : 1 ≤ prodL (cs.take n) := prodL_pos fun c hc => (h.c c (List.mem_of_mem_take hc)).1
theorem Cs.mn_pos {cs : List Nat} (h : Cs cs) {p : Nat} (hp : p < cs.length) : 1 ≤ mn cs p ∧ mn cs p ≤ 4 := by
  rw [mn_get hp]; exact h.c _ (List.getElem_mem hp)
theorem Cs.stp_pos {cs : List Nat} (h : Cs cs) (p : Nat) : 1 ≤ stp cs p := h.drop_pos _
theorem Cs.stp_le {cs : List Nat} (h : Cs cs) {p : Nat} (hp : p < cs.length) : stp cs p ≤ 12 := by
  have e := prod_split hp
  have h1 := h.take_pos p
  have h2 := (h.mn_pos hp).1
  have h3 := h.p
  have h4 : stp cs p ≤ mn cs p * stp cs p := Nat.le_mul_of_pos_left _ h2
  have h5 : mn cs p * stp cs p ≤ prodL (cs.take p) * (mn cs p * stp cs p) := Nat.le_mul_of_pos_left _ h1
  omega
theorem dig_lt {cs : List Nat} (h : Cs cs) {p o : Nat} (hp : p < cs.length) : dig cs p o < mn cs p := Nat.mod_lt _ (h.mn_pos hp).1
theorem o_split {cs : List Nat} (p o : Nat) : o = o / stp cs p / mn cs p * (mn cs p * stp cs p) + dig cs p o * stp cs p + o % stp cs p := by
  unfold dig
  have h1 := Nat.div_add_mod (o / stp cs p) (mn cs p)
  have h2 := Nat.div_add_mod o (stp cs p)
  generalize stp cs p = s at *
  generalize mn cs p = m at *
  generalize o / s / m = q at *
  generalize o / s % m = d at *
  generalize o % s = r at *
  grind
theorem swt_eq {cs : List Nat} (p o c : Nat) : ((o : Nat) : Int) + ((c : Int) - (dig cs p o : Int)) * (stp cs p : Int) = (swt cs p o c : Int) := by
  have h := o_split (cs := cs) p o
  unfold swt
  generalize dig cs p o = d at *
  generalize stp cs p = s at *
  generalize mn cs p = m at *
  generalize o / s / m = q at *
  generalize o % s = r at *
  subst h
  push_cast
  grind
theorem swt_lt {cs : List Nat} (h : Cs cs) {p o c : Nat} (hp : p < cs.length) (ho : o < prodL cs) (hc : c < mn cs p) : swt cs p o c < prodL cs := by
  have e := prod_split hp
  have hs := h.stp_pos p
  have hm := (h.mn_pos hp).1
  have q1 : o / stp cs p / mn cs p < prodL (cs.take p) := by
    rw [Nat.div_div_eq_div_mul, Nat.div_lt_iff_lt_mul (Nat.mul_pos hs hm), Nat.mul_comm (stp cs p)]
    omega
  have q2 : o % stp cs p < stp cs p := Nat.mod_lt _ hs
  unfold swt
  rw [e]
  have q3 : (c + 1) * stp cs p ≤ mn cs p * stp cs p := Nat.mul_le_mul_right _ hc
  have q4 : (o / stp cs p / mn cs p + 1) * (mn cs p * stp cs p) ≤ prodL (cs.take p) * (mn cs p * stp cs p) := Nat.mul_le_mul_right _ q1
  rw [Nat.add_mul] at q3 q4
  omega
/-! ### the game's own mirrors -/
def stepsL (cs : List Nat) : List Int := (List.range cs.length).map fun i => (stp cs i : Int)
def gameOf (cs : List Nat) (pays : List (List Int)) : GameO := ⟨prodL cs, cs.length, icast cs, pays, stepsL cs⟩
def pay (pays : List (List Int)) (p o : Nat) : Int := (pays.getD p []).getD o 0
theorem icast_get {cs : List Nat} {p : Nat} (h : p < cs.length) : (icast cs)[p]? = some (mn cs p : Int) := by
  rw [mn_get h]; simp [icast, List.getElem?_eq_getElem h]
theorem steps_get {cs : List Nat} {p : Nat} (h : p < cs.length) : (stepsL cs)[p]? = some (stp cs p : Int) := by
  simp [stepsL, List.getElem?_eq_getElem, h]
theorem pay_get {cs : List Nat} {pays : List (List Int)} (hp : Ps cs pays) {p o : Nat} (h : p < cs.length) (ho : o < prodL cs) : ∃ row, pays[p]? = some row ∧ row[o]? = some (pay pays p o) ∧ -99 ≤ pay pays p o ∧ pay pays p o ≤ 99 := by
  have h1 : p < pays.length := by rw [hp.1]; exact h
  obtain ⟨h2, h3⟩ := hp.2 pays[p] (List.getElem_mem h1)
  have e : pay pays p o = pays[p][o]'(by omega) := by
    unfold pay; simp [List.getD_eq_getElem?_getD, List.getElem?_eq_getElem h1, List.getElem?_eq_getElem (show o < pays[p].length by omega)]
  refine ⟨pays[p], List.getElem?_eq_getElem h1, by rw [e]; exact List.getElem?_eq_getElem _, ?_⟩
  rw [e]
  exact h3 _ (List.getElem_mem _)
section
variable {cs : List Nat} {pays : List (List Int)} (h : Cs cs) (hp : Ps cs pays) {p o c : Nat} (hpl : p < cs.length) (ho : o < prodL cs)
include h hp hpl ho
omit h hp ho in
theorem player_ok : m_check_player (gameOf cs pays) (p : Int) = .ok () := by
  rw [m_check_player]
  simp (implicitDefEqProofs := false) only [bok]
  rw [decide_eq_false (show ¬ ((p : Int) < 0) by omega)]
  simp (implicitDefEqProofs := false) only [Bool.false_eq_true, if_false, bok]
  rw [decide_eq_false (show ¬ ((gameOf cs pays).people ≤ (p : Int)) by show ¬ ((cs.length : Int) ≤ p); omega)]
  simp
omit h hp hpl in
theorem outcome_ok : m_check_outcome (gameOf cs pays) (o : Int) = .ok () := by
  rw [m_check_outcome]
  simp (implicitDefEqProofs := false) only [bok]
  rw [decide_eq_false (show ¬ ((o : Int) < 0) by omega)]
  simp (implicitDefEqProofs := false) only [Bool.false_eq_true, if_false, bok]
  rw [decide_eq_false (show ¬ ((gameOf cs pays).outcomes ≤ (o : Int)) by show ¬ ((prodL cs : Int) ≤ o); omega)]
  simp
omit hp in
theorem chosen_ok : m_Game_chosen (gameOf cs pays) (p : Int) (o : Int) = .ok (dig cs p o : Int) := by
  have hs := h.stp_pos p
  have hm := (h.mn_pos hpl).1
  have hsl := h.stp_le hpl
  rw [m_Game_chosen, player_ok hpl, bok, outcome_ok ho, bok, show (gameOf cs pays).steps = stepsL cs from rfl, ixQ_some (steps_get hpl), bok, divQ_ok (by omega) (show Sz 4 (stp cs p : Int) from Sz.of_nat 12 (by omega)), bok, show (gameOf cs pays).choices = icast cs from rfl, ixQ_some (icast_get hpl), bok, modQ_ok (by omega)]
  unfold dig
  push_cast
  rfl
theorem pay_ok : m_Game_pay (gameOf cs pays) (p : Int) (o : Int) = .ok (pay pays p o) := by
  obtain ⟨row, e1, e2, _⟩ := pay_get hp hpl ho
  rw [m_Game_pay, player_ok hpl, bok, outcome_ok ho, bok, show (gameOf cs pays).pays = pays from rfl, ixQ_some e1, bok, ixQ_some e2]
omit hp in
theorem switched_ok (hc : c < mn cs p) : m_Game_switched (gameOf cs pays) (p : Int) (o : Int) (c : Int) = .ok (swt cs p o c : Int) := by
  have hs := h.stp_le hpl
  have hm := h.mn_pos hpl
  have hd := dig_lt h (o := o) hpl
  have e : m_check_choice (gameOf cs pays) (p : Int) (c : Int) = .ok () := by
    rw [m_check_choice, m_Game_choices]
    simp (implicitDefEqProofs := false) only [bok]
    rw [decide_eq_false (show ¬ ((c : Int) < 0) by omega)]
    simp (implicitDefEqProofs := false) only [Bool.false_eq_true, if_false, bok]
    rw [show (gameOf cs pays).choices = icast cs from rfl, ixQ_some (icast_get hpl), bok, bok, decide_eq_false (show ¬ ((mn cs p : Int) ≤ (c : Int)) by omega)]
    simp
  rw [m_Game_switched, chosen_ok h hpl ho, bok, e, bok, show (gameOf cs pays).steps = stepsL cs from rfl, ixQ_some (steps_get hpl), bok, mulQ_ok (show Sz 3 ((c : Int) - (dig cs p o : Int)) from Sz.of_nat 4 (by omega)) (show Sz 4 (stp cs p : Int) from Sz.of_nat 12 (by omega)), bok, swt_eq]
end
/-! ### the law's mirrors -/
section
variable {cs : List Nat} {pays : List (List Int)} (h : Cs cs) (hp : Ps cs pays) {p o c : Nat} (hpl : p < cs.length) (ho : o < prodL cs)
include h hpl
theorem step_ok : m_law_step (icast cs) (p : Int) = .ok (stp cs p : Int) := by
  have hl := h.l2
  rw [m_law_step, bok, icast_length, show (p : Int) + 1 = ((p + 1 : Nat) : Int) by omega, rangeQ2_ok (by omega) (by omega), bok]
  obtain ⟨s', h1, h2⟩ := forC_ok (ρ := Int) (xs := (List.range (cs.length - (p + 1))).map fun (i : Nat) => ((p + 1 + i : Nat) : Int)) (body := fun (s2 : Int) (x3 : Int) kn4 kb5 => (R.bind (R.bind (ixQ (icast cs) x3) fun r6 => (mulQ s2 r6)) fun v_step_7 => (kn4 (v_step_7)))) (k := fun (s8 : Int) => (.ok s8))
    (fun i s => s = ((prodL ((cs.drop (p + 1)).take i) : Nat) : Int) ∧ prodL ((cs.drop (p + 1)).take i) ≤ 4 ^ i) (s0 := 1) ⟨by simp [prodL], by simp [prodL]⟩ (fun i hi s ⟨hs, hb⟩ => by
      have hi' : i < cs.length - (p + 1) := by simpa using hi
      have hlt : p + 1 + i < cs.length := by omega
      have hm := h.mn_pos hlt
      have hb2 : prodL ((cs.drop (p + 1)).take i) ≤ 4 ^ 3 := Nat.le_trans hb (Nat.pow_le_pow_right (by decide) (by omega))
      have et : (cs.drop (p + 1)).take (i + 1) = (cs.drop (p + 1)).take i ++ [mn cs (p + 1 + i)] := by
        rw [List.take_succ, List.getElem?_drop, List.getElem?_eq_getElem hlt, mn_get hlt]; rfl
      refine ⟨s * (mn cs (p + 1 + i) : Int), ⟨?_, ?_⟩, fun kn kb => ?_⟩
      · rw [et, prodL_append, hs]; simp [prodL]
      · rw [et, prodL_append, Nat.pow_succ]; simp only [prodL, Nat.mul_one]; exact Nat.mul_le_mul hb hm.2
      · rw [List.getElem_map, List.getElem_range, ixQ_some (icast_get hlt), bok, mulQ_ok (show Sz 7 s from Sz.of_nat 64 (by rw [hs]; omega)) (show Sz 3 (mn cs (p + 1 + i) : Int) from Sz.of_nat 4 (by omega)), bok])
  have e : (cs.drop (p + 1)).take ((List.range (cs.length - (p + 1))).map fun (i : Nat) => ((p + 1 + i : Nat) : Int)).length = cs.drop (p + 1) := by
    rw [List.length_map, List.length_range]
    exact List.take_of_length_le (by simp)
  rw [e] at h1
  exact h2.trans (by rw [h1.1]; rfl)
theorem lchosen_ok : m_law_chosen (icast cs) (p : Int) (o : Int) = .ok (dig cs p o : Int) := by
  have hs := h.stp_pos p
  have hm := (h.mn_pos hpl).1
  have hsl := h.stp_le hpl
  rw [m_law_chosen, step_ok h hpl, bok, divQ_ok (by omega) (show Sz 4 (stp cs p : Int) from Sz.of_nat 12 (by omega)), bok, bok, ixQ_some (icast_get hpl), bok, modQ_ok (by omega)]
  unfold dig
  push_cast
  rfl
include hp ho
theorem change_ok (hc : c < mn cs p) : m_law_change (icast cs) pays (p : Int) (o : Int) (c : Int) = .ok (pay pays p (swt cs p o c) - pay pays p o) := by
  have hs := h.stp_le hpl
  have hm := h.mn_pos hpl
  have hd := dig_lt h (o := o) hpl
  obtain ⟨row, e1, e2, _⟩ := pay_get hp hpl ho
  obtain ⟨row2, e3, e4, _⟩ := pay_get hp hpl (swt_lt h hpl ho hc)
  rw [e1] at e3; cases e3
  rw [m_law_change, lchosen_ok h hpl, bok, bok, step_ok h hpl, bok, mulQ_ok (show Sz 3 ((c : Int) - (dig cs p o : Int)) from Sz.of_nat 4 (by omega)) (show Sz 4 (stp cs p : Int) from Sz.of_nat 12 (by omega)), bok, bok, swt_eq, ixQ_some e1, bok, ixQ_some e4, bok, bok, ixQ_some e2, bok]
end
/-! ### Game(..) -/
theorem counted_ok {cs : List Nat} (h : Cs cs) : m_counted (icast cs) = .ok (prodL cs : Int) := by
  have l1 := h.l1
  have l2 := h.l2
  rw [m_counted]
  simp (implicitDefEqProofs := false) only [bok, icast_length]
  rw [decide_eq_false (show ¬ ((cs.length : Int) < 1) by omega)]
  simp (implicitDefEqProofs := false) only [Bool.false_eq_true, if_false, bok]
  rw [decide_eq_false (show ¬ ((3 : Int) < (cs.length : Int)) by omega)]
  simp (implicitDefEqProofs := false) only [Bool.false_eq_true, if_false, bok]
  obtain ⟨s', h1, h2⟩ := forC_ok (ρ := Int) (xs := icast cs) (body := fun (s3 : Int) (x4 : Int) kn5 kb6 => (R.bind (if decide (x4 < (1 : Int)) = true then .ok true else (.ok (decide ((4 : Int) < x4)))) fun b9 => if b9 = true then .no else (R.bind (mulQ s3 x4) fun v_outcomes_8 => (kn5 (v_outcomes_8)))))
    (k := fun (s10 : Int) => if decide ((12 : Int) < s10) = true then .no else (.ok s10))
    (fun i s => s = ((prodL (cs.take i) : Nat) : Int) ∧ prodL (cs.take i) ≤ 4 ^ i) (s0 := 1) ⟨by simp [prodL], by simp [prodL]⟩ (fun i hi s ⟨hs, hb⟩ => by
      have hi' : i < cs.length := by simpa using hi
      have hm := h.mn_pos hi'
      have hb2 : prodL (cs.take i) ≤ 4 ^ 3 := Nat.le_trans hb (Nat.pow_le_pow_right (by decide) (by omega))
      have et : cs.take (i + 1) = cs.take i ++ [mn cs i] := by
        rw [List.take_succ, List.getElem?_eq_getElem hi', mn_get hi']; rfl
      have eg : (icast cs)[i] = (mn cs i : Int) := by
        have := icast_get hi'
        rw [List.getElem?_eq_getElem hi] at this
        exact Option.some.inj this
      refine ⟨s * (mn cs i : Int), ⟨?_, ?_⟩, fun kn kb => ?_⟩
      · rw [et, prodL_append, hs]; simp [prodL]
      · rw [et, prodL_append, Nat.pow_succ]; simp only [prodL, Nat.mul_one]; exact Nat.mul_le_mul hb hm.2
      · rw [eg, decide_eq_false (show ¬ ((mn cs i : Int) < 1) by omega), decide_eq_false (show ¬ ((4 : Int) < (mn cs i : Int)) by omega)]
        simp (implicitDefEqProofs := false) only [Bool.false_eq_true, if_false, bok]
        rw [mulQ_ok (show Sz 7 s from Sz.of_nat 64 (by rw [hs]; omega)) (show Sz 3 (mn cs i : Int) from Sz.of_nat 4 (by omega)), bok])
  rw [icast_length, List.take_length] at h1
  refine h2.trans ?_
  have := h.p
  rw [h1.1, decide_eq_false (show ¬ ((12 : Int) < ((prodL cs : Nat) : Int)) by omega)]
  simp
theorem check_pays_ok {cs : List Nat} {pays : List (List Int)} (hp : Ps cs pays) : m_check_pays pays (cs.length : Int) (prodL cs : Int) = .ok () := by
  rw [m_check_pays]
  simp (implicitDefEqProofs := false) only [bok]
  rw [decide_eq_true (show (pays.length : Int) = (cs.length : Int) by rw [hp.1])]
  simp (implicitDefEqProofs := false) only [Bool.not_true, Bool.false_eq_true, if_false]
  obtain ⟨s', h1, h2⟩ := forC_ok (ρ := Unit) (xs := pays) (body := fun (s1 : Unit) (x2 : (List Int)) kn3 kb4 => (if (!decide ((x2.length : Int) = (prodL cs : Int))) = true then .no else (forC x2 (fun (s5 : Unit) (x6 : Int) kn7 kb8 => (R.bind (if decide (x6 < (-(99 : Int))) = true then .ok true else (.ok (decide ((99 : Int) < x6)))) fun b10 => if b10 = true then .no else (kn7 ()))) (fun (s11 : Unit) => (kn3 ())) ()))) (k := fun (s14 : Unit) => (.ok ()))
    (fun i s => True) (s0 := ()) trivial (fun i hi s _ => by
      obtain ⟨g1, g2⟩ := hp.2 pays[i] (List.getElem_mem hi)
      refine ⟨(), trivial, fun kn kb => ?_⟩
      rw [decide_eq_true (show ((pays[i].length : Nat) : Int) = (prodL cs : Int) by rw [g1])]
      simp (implicitDefEqProofs := false) only [Bool.not_true, Bool.false_eq_true, if_false]
      obtain ⟨s', h1, h2⟩ := forC_ok (ρ := Unit) (xs := pays[i]) (body := fun (s5 : Unit) (x6 : Int) kn7 kb8 => (R.bind (if decide (x6 < (-(99 : Int))) = true then .ok true else (.ok (decide ((99 : Int) < x6)))) fun b10 => if b10 = true then .no else (kn7 ()))) (k := fun (s11 : Unit) => (kn ()))
        (fun i s => True) (s0 := ()) trivial (fun j hj s _ => by
          have g3 := g2 _ (List.getElem_mem hj)
          refine ⟨(), trivial, fun kn kb => ?_⟩
          rw [decide_eq_false (show ¬ (pays[i][j] < -99) by omega), decide_eq_false (show ¬ (99 < pays[i][j]) by omega)]
          simp)
      exact h2)
  exact h2
theorem init_ok {cs : List Nat} {pays : List (List Int)} (h : Cs cs) (hp : Ps cs pays) : (R.bind (m_Game_init (icast cs) pays) fun X => .ok (mkGame X)) = .ok (gameOf cs pays) := by
  have ec : comp pays (fun (x5 : (List Int)) => (R.ok x5)) = .ok pays := by
    have := comp_ok (f := fun (x5 : (List Int)) => (R.ok x5)) (fun x => x) (xs := pays) (by have := hp.1; have := h.l2; omega) fun x _ => rfl
    rw [this]; simp
  have l2 := h.l2
  rw [m_Game_init, counted_ok h, bok, bok, icast_length, check_pays_ok hp, bok, bok, ec, bok, bok, bok, bok]
  obtain ⟨s', h1, h2⟩ := forC_ok (ρ := ((((Unit × Int) × Int) × (List Int)) × (List (List Int))) × (List Int)) (xs := icast cs) (body := fun (s9 : Int × (((((Unit × Int) × Int) × (List Int)) × (List (List Int))) × (List Int))) (x10 : Int) kn11 kb12 => (R.bind (divQ s9.1 x10) fun v_step_13 => (R.bind (.ok (s9.2.2, fun (z : (List Int)) => (s9.2.1, z))) fun r14 => R.bind (.ok v_step_13) fun x16 => R.chk (r14.1.length < 100000) ((fun v_self_15 => (kn11 (v_step_13, v_self_15))) (r14.2 (r14.1 ++ [x16]))))))
    (k := fun (s17 : Int × (((((Unit × Int) × Int) × (List Int)) × (List (List Int))) × (List Int))) => (.ok s17.2))
    (fun i s => s.1 = ((prodL (cs.drop i) : Nat) : Int) ∧ s.2.1 = (((((), (prodL cs : Int)), (cs.length : Int)), icast cs), pays) ∧ s.2.2 = (List.range i).map fun j => (stp cs j : Int)) (s0 := ((prodL cs : Int), ((((((), (prodL cs : Int)), (cs.length : Int)), icast cs), pays), []))) ⟨rfl, rfl, rfl⟩ (fun i hi s ⟨hs1, hs2, hs3⟩ => by
      have hi' : i < cs.length := by simpa using hi
      have hm := h.mn_pos hi'
      have eg : (icast cs)[i] = (mn cs i : Int) := by
        have := icast_get hi'
        rw [List.getElem?_eq_getElem hi] at this
        exact Option.some.inj this
      have ed : cs.drop i = mn cs i :: cs.drop (i + 1) := by rw [List.drop_eq_getElem_cons hi', mn_get hi']
      have ev : s.1 / (mn cs i : Int) = (stp cs i : Int) := by
        rw [hs1, ed]
        show ((mn cs i * prodL (cs.drop (i + 1)) : Nat) : Int) / _ = _
        rw [Int.natCast_mul, Int.mul_ediv_cancel_left _ (by omega)]
        rfl
      refine ⟨((stp cs i : Int), (s.2.1, s.2.2 ++ [(stp cs i : Int)])), ⟨rfl, hs2, ?_⟩, fun kn kb => ?_⟩
      · show s.2.2 ++ _ = _
        rw [hs3, List.range_succ, List.map_append]; rfl
      · rw [eg, divQ_ok (by omega) (show Sz 3 (mn cs i : Int) from Sz.of_nat 4 (by omega)), bok, bok, bok, R.chk_pos (by rw [hs3]; simp; omega), ev])
  rw [icast_length] at h1
  obtain ⟨g1, g2, g3⟩ := h1
  rw [h2, bok]
  unfold mkGame gameOf stepsL
  rw [g2, g3]
end Wk
end
section
set_option Elab.async false
set_option linter.all false
set_option maxRecDepth 100000
namespace Wk
open PySem L2
theorem Rt.join {S : Type u} {ρ : Type v} {kj : S → R ρ} {f : (S → R ρ) → R ρ} {Q : ρ → Prop} (P : S → Prop) (hk : ∀ s, P s → Rt (kj s) Q) (hf : ∀ kj', (∀ s, P s → Rt (kj' s) Q) → Rt (f kj') Q) : Rt (joinR kj f) Q := hf kj hk
theorem Rt.ite {ρ : Type v} {c : Prop} [Decidable c] {a b : R ρ} {Q : ρ → Prop} (ha : c → Rt a Q) (hb : ¬ c → Rt b Q) : Rt (if c then a else b) Q := by
  by_cases h : c
  · rw [if_pos h]; exact ha h
  · rw [if_neg h]; exact hb h
/-! ### the weights -/
structure Wn (x : Int × Int) : Prop where
  n0 : 0 ≤ x.1
  ns : Sz 200 x.1
  d0 : 1 ≤ x.2
  d4 : x.2 ≤ 4
theorem Wn.nums {x : Int × Int} (h : Wn x) : Sz 200 x.1 ∧ Sz 200 x.2 ∧ 0 < x.2 := ⟨h.ns, (show Sz 3 x.2 from Sz.of_nat 4 (by have := h.d0; have := h.d4; omega)).mono (by decide), by have := h.d0; omega⟩
theorem Wn.nf {n d : Int} (h0 : 0 ≤ n) (hs : Sz 200 n) (hd : 1 ≤ d) (hd4 : d ≤ 4) : Wn (nf ((n : Rat) / (d : Rat))) := by
  have hg : 0 < Int.gcd n d := Int.gcd_pos_of_ne_zero_right _ (by omega)
  have gd : ((Int.gcd n d : Nat) : Int) ∣ d := Int.gcd_dvd_right ..
  rw [nf_of (by omega)]
  refine ⟨Int.ediv_nonneg h0 (by omega), hs.ediv (by omega), ?_, ?_⟩
  · exact Int.ediv_pos_of_pos_of_dvd (by omega) (by omega) gd
  · exact Int.le_trans (Int.ediv_le_self _ (by omega)) hd4
def Tw (m : Nat) (table : List (List (Int × Int))) : Prop := table.length = m ∧ ∀ row ∈ table, row.length = m ∧ ∀ x ∈ row, Wn x
def Ws (cs : List Nat) (w : List (List (List (Int × Int)))) : Prop := w.length = cs.length ∧ ∀ p table, w[p]? = some table → Tw (mn cs p) table
theorem pow10_57 : powQ (10 : Int) (57 : Int) = .ok 1000000000000000000000000000000000000000000000000000000000 := by
  unfold powQ powR
  rw [R.chk_pos (by unfold CPow; decide)]
  rfl
theorem weights_ok {s : Scr} {cs : List Nat} (h : Cs cs) : Rt (m_law_weights s (icast cs)) (Ws cs) := by
  have l2 := h.l2
  rw [m_law_weights]
  refine Rt.bind (cell_draws (k := 5) (by omega) (by intro z hz; simp at hz; omega) (by simp)) fun sh hsh => ?_
  obtain ⟨r0, e0, _, _⟩ := hsh.get (i := 0) (z := 2) rfl
  obtain ⟨r1, e1, _, _⟩ := hsh.get (i := 1) (z := 3) rfl
  obtain ⟨r2, e2, _, _⟩ := hsh.get (i := 2) (z := 8) rfl
  obtain ⟨r3, e3, _, _⟩ := hsh.get (i := 3) (z := 5) rfl
  have x0 : ixQ sh (0 : Int) = .ok r0 := ixQ_some (i := 0) e0
  have x1 : ixQ sh (1 : Int) = .ok r1 := ixQ_some (i := 1) e1
  have x2 : ixQ sh (2 : Int) = .ok r2 := ixQ_some (i := 2) e2
  have x3 : ixQ sh (3 : Int) = .ok r3 := ixQ_some (i := 3) e3
  rw [bok, icast_length, rangeQ_ok (by omega), bok]
  refine Rt.forC (fun i st => st.length = i ∧ ∀ p table, st[p]? = some table → Tw (mn cs p) table) ⟨rfl, fun p t hp => by simp at hp⟩ (fun i hi st ⟨q1, q2⟩ kn hkn => ?_) fun st ⟨q1, q2⟩ => Rt.ok ⟨by rw [q1, iota_length], q2⟩
  have hi' : i < cs.length := by simpa using hi
  have hm := h.mn_pos hi'
  rw [iota_get, ixQ_some (icast_get hi'), bok, bok, rangeQ_ok (by omega), bok]
  have ek : ∀ v : Int, comp (iota (mn cs i)) (fun (x14 : Int) => (R.ok v)) = .ok (List.replicate (mn cs i) v) := fun v => by
    rw [comp_ok (fun _ => v) (by rw [iota_length]; omega) fun x _ => rfl]
    congr 1
    rw [List.map_const', iota_length]
  refine Rt.forC (fun j tb => tb.length = j ∧ ∀ row ∈ tb, row.length = mn cs i ∧ ∀ x ∈ row, Wn x) ⟨rfl, fun row hr => by simp at hr⟩ (fun j hj tb ⟨t1, t2⟩ kn2 hkn2 => ?_) fun tb ⟨t1, t2⟩ => ?_
  · have hj' : j < mn cs i := by simpa using hj
    rw [iota_get, bok, ek, bok, bok, ek, bok, catQ_ok (by simp; omega), bok, bok, ek, bok, catQ_ok (by simp; omega), bok]
    rw [mulQ_ok (show Sz 3 4 by decide) (show Sz 2 (i : Int) from Sz.of_nat 3 (by omega)), bok, bok, bok, show (8 : Int) + 4 * (i : Int) + (j : Int) = ((8 + 4 * i + j : Nat) : Int) by omega]
    have hsz : ∀ z ∈ List.replicate (mn cs i) (10 : Int) ++ List.replicate (mn cs i) 4 ++ List.replicate (mn cs i) 2, 0 < z ∧ z ≤ 1000000000 := fun z hz => by
      simp only [List.mem_append, List.mem_replicate] at hz
      omega
    refine Rt.bind (cell_draws (by omega) hsz (by simp; omega)) fun d hd => ?_
    rw [bok, bok]
    refine Rt.forC (fun k row => row.length = k ∧ ∀ x ∈ row, Wn x) ⟨rfl, fun x hx => by simp at hx⟩ (fun k hk row ⟨w1, w2⟩ kn3 hkn3 => ?_) fun row ⟨w1, w2⟩ => ?_
    · have hk' : k < mn cs i := by simpa using hk
      rw [iota_get]
      obtain ⟨n, en, n0, n1⟩ := hd.get (i := k) (z := 10) (by
        rw [List.getElem?_append_left (by simp; omega), List.getElem?_append_left (by simp; omega)]; simp [hk'])
      obtain ⟨f, ef, f0, f1⟩ := hd.get (i := mn cs i + k) (z := 4) (by
        rw [List.getElem?_append_left (by simp; omega), List.getElem?_append_right (by simp)]; simp [hk'])
      obtain ⟨g, eg, g0, g1⟩ := hd.get (i := 2 * mn cs i + k) (z := 2) (by
        rw [List.getElem?_append_right (by simp; omega), List.getElem?_replicate, if_pos (by simp; omega)])
      rw [ixQ_some en, bok, bok]
      have low : ∀ n' d' : Int, 0 ≤ n' → Sz 200 n' → 1 ≤ d' → d' ≤ 4 → Rt (R.bind (m_law_lowest_terms n' d') fun x60 => R.chk (row.length < 100000) (kn3 ((row ++ [x60])))) (Ws cs) := fun n' d' a1 a2 a3 a4 => by
        rw [lowest_ok (by omega) (show Sz 3 d' from Sz.of_nat 4 (by omega)), bok, R.chk_pos (by omega)]
        refine hkn3 _ ⟨by simp [w1], fun x hx => ?_⟩
        rcases List.mem_append.mp hx with hx | hx
        · exact w2 x hx
        · rw [List.mem_singleton.mp hx]; exact Wn.nf a1 a2 a3 a4
      refine Rt.join (fun v => 0 ≤ v ∧ v ≤ 9) (fun v hv => ?_) fun kj hkj => ?_
      · refine Rt.join (fun v => 1 ≤ v ∧ v ≤ 4) (fun v2 hv2 => ?_) fun kj hkj => ?_
        · refine Rt.join (fun v => 0 ≤ v ∧ Sz 200 v) (fun v3 hv3 => ?_) fun kj hkj => ?_
          · refine Rt.join (fun v => 0 ≤ v ∧ Sz 200 v) (fun v4 hv4 => low v4 v2 hv4.1 hv4.2 hv2.1 hv2.2) fun kj hkj => ?_
            refine Rt.bind (P := fun _ => True) (Rt.bind (P := fun _ => True) ?_ fun b _ => Rt.ite (fun _ => Rt.ok trivial) fun _ => ?_) fun b _ => Rt.ite (fun _ => ?_) fun _ => hkj _ hv3
            · rw [x3, bok, bok]
              exact Rt.ite (fun _ => Rt.ok trivial) fun _ => Rt.ok trivial
            · rw [x3, bok, bok]
              exact Rt.ite (fun _ => Rt.ok trivial) fun _ => Rt.ok trivial
            · rw [bok]; exact hkj _ ⟨by decide, by decide⟩
          · rw [x2, bok, bok]
            have s1 : Sz 4 v := Sz.of_nat 9 (by omega)
            have s2 : Sz 190 (1000000000000000000000000000000000000000000000000000000000 : Int) := by decide
            refine Rt.ite (fun _ => ?_) fun _ => hkj _ ⟨hv.1, s1.mono (by decide)⟩
            rw [pow10_57, bok, mulQ_ok s1 s2, bok, mulQ_ok s1 s1, bok, bok]
            refine hkj _ ⟨?_, (((s1.mul s2).add ((s1.mul s1).mono (by decide)))).mono (by decide)⟩
            have a1 : 0 ≤ v * v := Int.mul_nonneg hv.1 hv.1
            omega
        · rw [x1, bok, bok]
          refine Rt.ite (fun _ => ?_) fun _ => hkj _ ⟨by decide, by decide⟩
          rw [show (mn cs i : Int) + (k : Int) = ((mn cs i + k : Nat) : Int) by omega, ixQ_some ef, bok, bok]
          exact hkj _ ⟨by omega, by omega⟩
      · rw [x0, bok, bok]
        refine Rt.ite (fun _ => ?_) fun _ => hkj _ ⟨n0, by omega⟩
        rw [mulQ_ok (show Sz 2 2 by decide) (show Sz 3 (mn cs i : Int) from Sz.of_nat 4 (by omega)), bok, bok, show (2 : Int) * (mn cs i : Int) + (k : Int) = ((2 * mn cs i + k : Nat) : Int) by omega, ixQ_some eg, bok, mulQ_ok (show Sz 4 n from Sz.of_nat 9 (by omega)) (show Sz 1 g from Sz.of_nat 1 (by omega)), bok]
        have : g = 0 ∨ g = 1 := by omega
        rcases this with z | z <;> subst z
        · exact hkj _ ⟨by omega, by omega⟩
        · exact hkj _ ⟨by omega, by omega⟩
    · rw [iota_length] at w1
      rw [bok, R.chk_pos (by omega)]
      refine hkn2 _ ⟨by simp [t1], fun row2 hr2 => ?_⟩
      rcases List.mem_append.mp hr2 with hr2 | hr2
      · exact t2 row2 hr2
      · rw [List.mem_singleton.mp hr2]; exact ⟨w1, w2⟩
  · rw [iota_length] at t1
    rw [bok, R.chk_pos (by omega)]
    refine hkn _ ⟨by simp [q1], fun p table hp => ?_⟩
    by_cases e : p = i
    · subst e
      rw [List.getElem?_append_right (by omega), q1] at hp
      simp at hp
      subst hp
      exact ⟨t1, t2⟩
    · by_cases e2 : p < i
      · rw [List.getElem?_append_left (by omega)] at hp
        exact q2 p table hp
      · rw [List.getElem?_eq_none (by simp; omega)] at hp
        cases hp
end Wk
end
section
set_option Elab.async false
set_option linter.all false
set_option maxRecDepth 100000
namespace Wk
open PySem L2
/-! ### sums -/
def sm (f : Nat → Int) : Nat → Int
  | 0 => 0
  | n + 1 => sm f n + f n
def smq (f : Nat → Rat) : Nat → Rat
  | 0 => 0
  | n + 1 => smq f n + f n
theorem sm_congr {f g : Nat → Int} : ∀ {n : Nat}, (∀ i, i < n → f i = g i) → sm f n = sm g n
  | 0, _ => rfl
  | n + 1, h => by rw [sm, sm, sm_congr fun i hi => h i (by omega), h n (by omega)]
theorem smq_congr {f g : Nat → Rat} : ∀ {n : Nat}, (∀ i, i < n → f i = g i) → smq f n = smq g n
  | 0, _ => rfl
  | n + 1, h => by rw [smq, smq, smq_congr fun i hi => h i (by omega), h n (by omega)]
theorem smq_mul {f : Nat → Rat} {c : Rat} : ∀ {n : Nat}, smq f n * c = smq (fun i => f i * c) n
  | 0 => by rw [smq, smq]; grind
  | n + 1 => by rw [smq, smq, ← smq_mul]; grind
theorem smq_cast {f : Nat → Int} : ∀ {n : Nat}, ((sm f n : Int) : Rat) = smq (fun i => (f i : Rat)) n
  | 0 => by rw [sm, smq]; rfl
  | n + 1 => by rw [sm, smq, Rat.intCast_add, smq_cast]
/-! ### all weights in one list -/
theorem push_loop {α ρ : Type} {k : List α → R ρ} : ∀ {xs s : List α}, s.length + xs.length ≤ 100000 → forC xs (fun (s10 : List α) (x11 : α) kn12 kb13 => (R.bind (.ok x11) fun x14 => R.chk (s10.length < 100000) (kn12 ((s10 ++ [x14]))))) k s = k (s ++ xs)
  | [], s, _ => by rw [forC, List.append_nil]
  | x :: r, s, h => by
    rw [List.length_cons] at h
    rw [forC, bok, R.chk_pos (by omega)]
    have := push_loop (k := k) (xs := r) (s := s ++ [x]) (by simp; omega)
    rw [List.append_assoc] at this
    exact this
theorem every_ok {cs : List Nat} {w : List (List (List (Int × Int)))} (h : Cs cs) (hw : Ws cs w) : m_law_every w = .ok w.flatten.flatten ∧ Nums 200 w.flatten.flatten ∧ w.flatten.flatten.length ≤ 48 ∧ ∀ x ∈ w.flatten.flatten, x.2 ∣ 12 := by
  have tb : ∀ t ∈ w, t.flatten.length ≤ 16 ∧ ∀ row ∈ t, row.length ≤ 4 ∧ ∀ x ∈ row, Wn x := fun t ht => by
    obtain ⟨p, hp, e⟩ := List.mem_iff_getElem.mp ht
    have h1 := hw.2 p t (by rw [List.getElem?_eq_getElem hp, e])
    have h2 := h.mn_pos (p := p) (by rw [← hw.1]; exact hp)
    have h3 : ∀ row ∈ t, row.length ≤ 4 ∧ ∀ x ∈ row, Wn x := fun row hr => ⟨by rw [(h1.2 row hr).1]; exact h2.2, (h1.2 row hr).2⟩
    refine ⟨?_, h3⟩
    have h4 : t.length ≤ 4 := by rw [h1.1]; exact h2.2
    have : ∀ l : List (List (Int × Int)), (∀ row ∈ l, row.length ≤ 4) → l.flatten.length ≤ l.length * 4 := fun l => by
      induction l with
      | nil => intro _; simp
      | cons a r ih =>
        intro hl
        have := ih fun x hx => hl x (List.mem_cons_of_mem _ hx)
        have := hl a List.mem_cons_self
        rw [List.flatten_cons, List.length_append, List.length_cons]
        omega
    have := this t fun row hr => (h3 row hr).1
    omega
  have tl : ∀ l : List (List (List (Int × Int))), (∀ t ∈ l, t.flatten.length ≤ 16) → l.flatten.flatten.length ≤ l.length * 16 := fun l => by
    induction l with
    | nil => intro _; simp
    | cons a r ih =>
      intro hl
      have := ih fun x hx => hl x (List.mem_cons_of_mem _ hx)
      have := hl a List.mem_cons_self
      rw [List.flatten_cons, List.flatten_append, List.length_append, List.length_cons]
      omega
  have hlen : w.flatten.flatten.length ≤ 48 := by
    have := tl w fun t ht => (tb t ht).1
    have := hw.1
    have := h.l2
    omega
  have hx : ∀ x ∈ w.flatten.flatten, Wn x := fun x hx => by
    obtain ⟨row, hr, hx⟩ := List.mem_flatten.mp hx
    obtain ⟨t, ht, hr⟩ := List.mem_flatten.mp hr
    exact ((tb t ht).2 row hr).2 x hx
  refine ⟨?_, fun x h => (hx x h).nums, hlen, fun x h => ?_⟩
  · rw [m_law_every, bok, bok]
    have mid : ∀ (ρ : Type) (k : List (Int × Int) → R ρ) (t : List (List (Int × Int))) (s : List (Int × Int)), s.length + t.flatten.length ≤ 100000 → forC t (fun (s6 : (List (Int × Int))) (x7 : (List (Int × Int))) kn8 kb9 => (R.bind (.ok x7) fun xs16 => forC xs16 (fun (s10 : (List (Int × Int))) (x11 : (Int × Int)) kn12 kb13 => (R.bind (.ok x11) fun x14 => R.chk (s10.length < 100000) (kn12 ((s10 ++ [x14]))))) (fun (s15 : (List (Int × Int))) => (kn8 (s15))) (s6))) k s = k (s ++ t.flatten) := fun ρ k t => by
      induction t with
      | nil => intro s _; rw [forC, List.flatten_nil, List.append_nil]
      | cons a r ih =>
        intro s hs
        rw [List.flatten_cons, List.length_append] at hs
        rw [forC, bok, push_loop (by omega)]
        refine (ih (s ++ a) (by rw [List.length_append]; omega)).trans ?_
        rw [List.flatten_cons, List.append_assoc]
    have top : ∀ (ρ : Type) (k : List (Int × Int) → R ρ) (l : List (List (List (Int × Int)))) (s : List (Int × Int)), s.length + l.flatten.flatten.length ≤ 100000 → forC l (fun (s2 : (List (Int × Int))) (x3 : (List (List (Int × Int)))) kn4 kb5 => (R.bind (.ok x3) fun xs18 => forC xs18 (fun (s6 : (List (Int × Int))) (x7 : (List (Int × Int))) kn8 kb9 => (R.bind (.ok x7) fun xs16 => forC xs16 (fun (s10 : (List (Int × Int))) (x11 : (Int × Int)) kn12 kb13 => (R.bind (.ok x11) fun x14 => R.chk (s10.length < 100000) (kn12 ((s10 ++ [x14]))))) (fun (s15 : (List (Int × Int))) => (kn8 (s15))) (s6))) (fun (s17 : (List (Int × Int))) => (kn4 (s17))) (s2))) k s = k (s ++ l.flatten.flatten) := fun ρ k l => by
      induction l with
      | nil => intro s _; rw [forC, List.flatten_nil, List.flatten_nil, List.append_nil]
      | cons a r ih =>
        intro s hs
        rw [List.flatten_cons, List.flatten_append, List.length_append] at hs
        rw [forC, bok, mid _ _ _ _ (by omega)]
        refine (ih (s ++ a.flatten) (by rw [List.length_append]; omega)).trans ?_
        rw [List.flatten_cons, List.flatten_append, List.append_assoc]
    rw [top _ _ _ _ (by simp at hlen ⊢; omega), List.nil_append]
  · have h1 := (hx x h).d0
    have h2 := (hx x h).d4
    have : x.2 = 1 ∨ x.2 = 2 ∨ x.2 = 3 ∨ x.2 = 4 := by omega
    rcases this with e | e | e | e <;> rw [e] <;> decide
theorem lcmL_dvd {m : Int} : ∀ {xs : List (Int × Int)} {a : Int}, a ∣ m → (∀ x ∈ xs, x.2 ∣ m) → lcmL a xs ∣ m
  | [], a, h, _ => h
  | x :: r, a, h, h2 => lcmL_dvd (xs := r) (by
      have := Int.lcm_dvd (c := m.natAbs) (a := a) (b := x.2) (Int.dvd_natAbs.mpr h) (Int.dvd_natAbs.mpr (h2 x List.mem_cons_self))
      exact Int.dvd_natAbs.mp (Int.natCast_dvd_natCast.mpr this)) fun y hy => h2 y (List.mem_cons_of_mem _ hy)
/-- the common denominator of all weights -/
theorem common12 {xs : List (Int × Int)} {c : Nat} (h : Nums c xs) (h2 : ∀ x ∈ xs, x.2 ∣ 12) : 0 < commonL xs ∧ commonL xs ≤ 12 ∧ ∀ x ∈ xs, x.2 ∣ commonL xs := by
  obtain ⟨q1, q2, q3, q4⟩ := lcmL_facts h (show (0 : Int) < 1 by decide) (show Sz 1 1 by decide)
  exact ⟨q1, Int.le_of_dvd (by decide) (lcmL_dvd (by decide) h2), q4⟩
end Wk
end
section
set_option Elab.async false
set_option linter.all false
set_option maxRecDepth 100000
namespace Wk
open PySem L2
def we (w : List (List (List (Int × Int)))) (p a c : Nat) : Int × Int := ((w.getD p []).getD a []).getD c (0, 1)
theorem we_get {cs : List Nat} {w : List (List (List (Int × Int)))} (hw : Ws cs w) {p a : Nat} (hp : p < cs.length) (ha : a < mn cs p) : ∃ table row, w[p]? = some table ∧ table[a]? = some row ∧ row.length = mn cs p ∧ (∀ x ∈ row, Wn x) ∧ ∀ c, c < mn cs p → row[c]? = some (we w p a c) ∧ Wn (we w p a c) ∧ we w p a c ∈ w.flatten.flatten := by
  have h1 : p < w.length := by rw [hw.1]; exact hp
  obtain ⟨t1, t2⟩ := hw.2 p w[p] (List.getElem?_eq_getElem h1)
  have h2 : a < w[p].length := by rw [t1]; exact ha
  obtain ⟨r1, r2⟩ := t2 w[p][a] (List.getElem_mem h2)
  refine ⟨w[p], w[p][a], List.getElem?_eq_getElem h1, List.getElem?_eq_getElem h2, r1, r2, fun c hc => ?_⟩
  have h3 : c < w[p][a].length := by rw [r1]; exact hc
  have e : we w p a c = w[p][a][c] := by
    unfold we
    simp [List.getD_eq_getElem?_getD, List.getElem?_eq_getElem h1, List.getElem?_eq_getElem h2, List.getElem?_eq_getElem h3]
  rw [e]
  exact ⟨List.getElem?_eq_getElem h3, r2 _ (List.getElem_mem h3), List.mem_flatten.mpr ⟨_, List.mem_flatten.mpr ⟨_, List.getElem_mem h1, List.getElem_mem h2⟩, List.getElem_mem h3⟩⟩
section
variable {cs : List Nat} {pays : List (List Int)} {w : List (List (List (Int × Int)))}
/-- what a choice changes -/
def dlt (cs : List Nat) (pays : List (List Int)) (p o c : Nat) : Int := pay pays p (swt cs p o c) - pay pays p o
def totI (cs : List Nat) (pays : List (List Int)) (w : List (List (List (Int × Int)))) (k : Int) (o : Nat) : Int := sm (fun p => sm (fun c => (we w p (dig cs p o) c).1 * (k / (we w p (dig cs p o) c).2) * dlt cs pays p o c) (mn cs p)) cs.length
def totQ (cs : List Nat) (pays : List (List Int)) (w : List (List (List (Int × Int)))) (o : Nat) : Rat := smq (fun p => smq (fun c => qv (we w p (dig cs p o) c) * (dlt cs pays p o c : Rat)) (mn cs p)) cs.length
theorem dlt_sz (h : Cs cs) (hp : Ps cs pays) {p o c : Nat} (hpl : p < cs.length) (ho : o < prodL cs) (hc : c < mn cs p) : Sz 8 (dlt cs pays p o c) := by
  obtain ⟨_, _, _, a1, a2⟩ := pay_get hp hpl ho
  obtain ⟨_, _, _, b1, b2⟩ := pay_get hp hpl (swt_lt h hpl ho hc)
  exact Sz.of_nat 198 (by unfold dlt; omega)
theorem law_gains_ok (h : Cs cs) (hp : Ps cs pays) (hw : Ws cs w) : m_law_gains (icast cs) pays w = .ok ((List.range (prodL cs)).map fun o => totI cs pays w (commonL w.flatten.flatten) o) := by
  obtain ⟨v1, v2, v3, v4⟩ := every_ok h hw
  obtain ⟨k1, k2, k3⟩ := common12 v2 v4
  have hp12 := h.p
  have hl2 := h.l2
  have hl1 := h.l1
  have hr0 : ∃ row, pays[0]? = some row ∧ row.length = prodL cs := by
    have : 0 < pays.length := by rw [hp.1]; omega
    exact ⟨pays[0], List.getElem?_eq_getElem this, (hp.2 _ (List.getElem_mem this)).1⟩
  obtain ⟨row0, er0, lr0⟩ := hr0
  rw [m_law_gains, v1, bok, common_ok v2 (by decide) (by omega), bok, bok, show ixQ pays (0 : Int) = .ok row0 from ixQ_some (i := 0) er0, bok, bok, lr0, rangeQ_ok (by omega), bok]
  generalize hk : commonL w.flatten.flatten = k at *
  obtain ⟨s', h1, h2⟩ := forC_ok (ρ := List Int) (xs := iota (prodL cs)) (body := fun (s6 : (List Int)) (x7 : Int) kn8 kb9 => (R.bind (.ok (0 : Int)) fun v_total_10 => (R.bind (rangeQ 0 ((icast cs).length : Int)) fun xs32 => forC xs32 (fun (s11 : Int) (x12 : Int) kn13 kb14 => (R.bind (R.bind (R.bind (ixQ w x12) fun r15 => (R.bind (m_law_chosen (icast cs) x12 x7) fun r16 => (ixQ r15 r16))) fun r17 => (m_law_scaled r17 k)) fun v_row_18 => (R.bind (R.bind (ixQ (icast cs) x12) fun r19 => (rangeQ 0 r19)) fun xs29 => forC xs29 (fun (s20 : Int) (x21 : Int) kn22 kb23 => (R.bind (R.bind (R.bind (ixQ v_row_18 x21) fun r24 => (R.bind (m_law_change (icast cs) pays x12 x7 x21) fun r25 => (mulQ r24 r25))) fun r26 => (.ok (s20 + r26))) fun v_total_27 => (kn22 (v_total_27)))) (fun (s28 : Int) => (kn13 (s28))) (s11)))) (fun (s30 : Int) => (R.bind (.ok s30) fun x31 => R.chk (s6.length < 100000) (kn8 ((s6 ++ [x31]))))) (v_total_10))))
    (k := fun (s33 : (List Int)) => (.ok s33)) (fun i s => s = (List.range i).map fun o => totI cs pays w k o) (s0 := []) rfl (fun o ho s hs => by
      have ho' : o < prodL cs := by simpa using ho
      refine ⟨s ++ [totI cs pays w k o], by rw [hs, List.range_succ, List.map_append]; rfl, fun kn kb => ?_⟩
      rw [iota_get, bok, icast_length, rangeQ_ok (by omega), bok]
      obtain ⟨s', g1, g2⟩ := forC_ok (xs := iota cs.length) (body := fun (s11 : Int) (x12 : Int) kn13 kb14 => (R.bind (R.bind (R.bind (ixQ w x12) fun r15 => (R.bind (m_law_chosen (icast cs) x12 (o : Int)) fun r16 => (ixQ r15 r16))) fun r17 => (m_law_scaled r17 k)) fun v_row_18 => (R.bind (R.bind (ixQ (icast cs) x12) fun r19 => (rangeQ 0 r19)) fun xs29 => forC xs29 (fun (s20 : Int) (x21 : Int) kn22 kb23 => (R.bind (R.bind (R.bind (ixQ v_row_18 x21) fun r24 => (R.bind (m_law_change (icast cs) pays x12 (o : Int) x21) fun r25 => (mulQ r24 r25))) fun r26 => (.ok (s20 + r26))) fun v_total_27 => (kn22 (v_total_27)))) (fun (s28 : Int) => (kn13 (s28))) (s11))))
        (k := fun (s30 : Int) => (R.bind (.ok s30) fun x31 => R.chk (s.length < 100000) (kn ((s ++ [x31]))))) (fun i t => t = sm (fun p => sm (fun c => (we w p (dig cs p o) c).1 * (k / (we w p (dig cs p o) c).2) * dlt cs pays p o c) (mn cs p)) i) (s0 := 0) rfl (fun p hpp t ht => by
          have hpl : p < cs.length := by simpa using hpp
          have hm := h.mn_pos hpl
          have hdl := dig_lt h (o := o) hpl
          obtain ⟨table, row, e1, e2, e3, e4, e5⟩ := we_get hw hpl hdl
          refine ⟨t + sm (fun c => (we w p (dig cs p o) c).1 * (k / (we w p (dig cs p o) c).2) * dlt cs pays p o c) (mn cs p), by rw [sm, ht], fun kn1 kb1 => ?_⟩
          have hnum : Nums 200 row := fun x hx => (e4 x hx).nums
          rw [iota_get, ixQ_some e1, bok, lchosen_ok h hpl, bok, ixQ_some e2, bok, scaled_ok hnum (show Sz 4 k from Sz.of_nat 12 (by omega)) (by omega) (by decide) (by decide), bok, ixQ_some (icast_get hpl), bok, rangeQ_ok (by omega), bok]
          obtain ⟨s', q1, q2⟩ := forC_ok (xs := iota (mn cs p)) (body := fun (s20 : Int) (x21 : Int) kn22 kb23 => (R.bind (R.bind (R.bind (ixQ (scaledL row k) x21) fun r24 => (R.bind (m_law_change (icast cs) pays (p : Int) (o : Int) x21) fun r25 => (mulQ r24 r25))) fun r26 => (.ok (s20 + r26))) fun v_total_27 => (kn22 (v_total_27))))
            (k := fun (s28 : Int) => (kn1 (s28))) (fun i u => u = t + sm (fun c => (we w p (dig cs p o) c).1 * (k / (we w p (dig cs p o) c).2) * dlt cs pays p o c) i) (s0 := t) (by rw [sm]; omega) (fun c hc u hu => by
              have hcl : c < mn cs p := by simpa using hc
              obtain ⟨f1, f2, f3⟩ := e5 c hcl
              have hd := f2.d0
              refine ⟨u + (we w p (dig cs p o) c).1 * (k / (we w p (dig cs p o) c).2) * dlt cs pays p o c, by rw [hu, sm]; omega, fun kn2 kb2 => ?_⟩
              have eg : (scaledL row k)[c]? = some ((we w p (dig cs p o) c).1 * (k / (we w p (dig cs p o) c).2)) := by
                unfold scaledL; rw [List.getElem?_map, f1]; rfl
              have sz1 : Sz 204 ((we w p (dig cs p o) c).1 * (k / (we w p (dig cs p o) c).2)) := f2.ns.mul ((show Sz 4 k from Sz.of_nat 12 (by omega)).ediv (by omega))
              rw [iota_get, ixQ_some eg, bok, show m_law_change (icast cs) pays (p : Int) (o : Int) (c : Int) = .ok (dlt cs pays p o c) from change_ok h hp hpl ho' hcl, bok, mulQ_ok sz1 (dlt_sz h hp hpl ho' hcl), bok, bok])
          rw [iota_length] at q1
          rw [q2, q1])
      rw [iota_length] at g1
      refine g2.trans ?_
      rw [bok, R.chk_pos (by rw [hs]; simp; omega), g1]
      rfl)
  rw [iota_length] at h1
  rw [h2, h1]
theorem qsum_append {a b : List (Int × Int)} : qsum (a ++ b) = qsum a + qsum b := by
  induction a with
  | nil => rw [List.nil_append, qsum]; grind
  | cons x r ih => rw [List.cons_append, qsum, qsum, ih]; grind
theorem enumL_get {α : Type} {xs : List α} {i : Nat} (h : i < (enumL xs).length) : ∃ h2 : i < xs.length, (enumL xs)[i] = ((i : Int), xs[i]) := by
  have h2 : i < xs.length := by unfold enumL at h; simp at h; exact h
  refine ⟨h2, ?_⟩
  have e : (enumL xs)[i]? = some ((i : Int), xs[i]) := by
    unfold enumL
    rw [List.getElem?_zipWith, List.getElem?_range h2, List.getElem?_eq_getElem h2]
  rw [List.getElem?_eq_getElem h] at e
  exact Option.some.inj e
/-- the parts of one person, of all -/
def prow (cs : List Nat) (pays : List (List Int)) (w : List (List (List (Int × Int)))) (o p n : Nat) : List (Int × Int) := (List.range n).map fun c => nf (qv (we w p (dig cs p o) c) * (dlt cs pays p o c : Rat))
def pall (cs : List Nat) (pays : List (List Int)) (w : List (List (List (Int × Int)))) (o : Nat) : Nat → List (Int × Int)
  | 0 => []
  | i + 1 => pall cs pays w o i ++ prow cs pays w o i (mn cs i)
theorem part_ok (h : Cs cs) (hp : Ps cs pays) (hw : Ws cs w) {p o c : Nat} (hpl : p < cs.length) (ho : o < prodL cs) (hcl : c < mn cs p) :
    m_times [we w p (dig cs p o) c, (dlt cs pays p o c, 1)] = .ok (nf (qv (we w p (dig cs p o) c) * (dlt cs pays p o c : Rat))) ∧ Sz 208 (nf (qv (we w p (dig cs p o) c) * (dlt cs pays p o c : Rat))).1 ∧ Sz 208 (nf (qv (we w p (dig cs p o) c) * (dlt cs pays p o c : Rat))).2 := by
  have hdl := dig_lt h (o := o) hpl
  obtain ⟨table, row, e1, e2, e3, e4, e5⟩ := we_get hw hpl hdl
  obtain ⟨f1, f2, f3⟩ := e5 c hcl
  have hd := f2.d0
  have dz := dlt_sz h hp hpl ho hcl
  have hnn : Nums 200 [we w p (dig cs p o) c, (dlt cs pays p o c, 1)] := fun x hx => by
    rcases List.mem_cons.mp hx with z | hx
    · rw [z]; exact f2.nums
    · rw [List.mem_singleton.mp hx]; exact ⟨dz.mono (by decide), Sz.mono (n := 1) (show Sz 1 1 by decide) (by decide), (by decide : (0 : Int) < 1)⟩
  have qe : qprod [we w p (dig cs p o) c, (dlt cs pays p o c, 1)] = qv (we w p (dig cs p o) c) * (dlt cs pays p o c : Rat) := by
    rw [qprod, qprod, qprod]
    have : qv (dlt cs pays p o c, 1) = (dlt cs pays p o c : Rat) := by
      unfold qv
      show _ / ((1 : Int) : Rat) = _
      rw [Rat.intCast_one]; grind
    rw [this]; grind
  have fin : qv (we w p (dig cs p o) c) * (dlt cs pays p o c : Rat) = (((we w p (dig cs p o) c).1 * dlt cs pays p o c : Int) : Rat) / ((we w p (dig cs p o) c).2 : Rat) := by
    unfold qv
    have := cast_ne (show 0 < (we w p (dig cs p o) c).2 by omega)
    rw [Rat.intCast_mul]; grind
  refine ⟨by rw [times_ok hnn (by simp) (by simp), qe], ?_⟩
  rw [fin, nf_of (by omega)]
  have hg : (0 : Int) < (Int.gcd ((we w p (dig cs p o) c).1 * dlt cs pays p o c) (we w p (dig cs p o) c).2 : Nat) := by
    have : 0 < Int.gcd ((we w p (dig cs p o) c).1 * dlt cs pays p o c) (we w p (dig cs p o) c).2 := Int.gcd_pos_of_ne_zero_right _ (by omega)
    omega
  exact ⟨(f2.ns.mul dz).ediv hg, (f2.nums.2.1.ediv hg).mono (by decide)⟩
theorem prow_facts (h : Cs cs) (hp : Ps cs pays) (hw : Ws cs w) {p o : Nat} (hpl : p < cs.length) (ho : o < prodL cs) : ∀ n, n ≤ mn cs p → Nums 208 (prow cs pays w o p n) ∧ (prow cs pays w o p n).length = n ∧ qsum (prow cs pays w o p n) = smq (fun c => qv (we w p (dig cs p o) c) * (dlt cs pays p o c : Rat)) n
  | 0, _ => ⟨fun x hx => by simp [prow] at hx, by simp [prow], by simp [prow, qsum, smq]⟩
  | n + 1, hn => by
    obtain ⟨q1, q2, q3⟩ := prow_facts h hp hw hpl ho n (by omega)
    have e : prow cs pays w o p (n + 1) = prow cs pays w o p n ++ [nf (qv (we w p (dig cs p o) n) * (dlt cs pays p o n : Rat))] := by
      unfold prow; rw [List.range_succ, List.map_append]; rfl
    obtain ⟨_, z1, z2⟩ := part_ok h hp hw hpl ho (c := n) (by omega)
    rw [e]
    refine ⟨fun x hx => ?_, by simp [q2], ?_⟩
    · rcases List.mem_append.mp hx with hx | hx
      · exact q1 x hx
      · rw [List.mem_singleton.mp hx]; exact ⟨z1, z2, nf_pos _⟩
    · rw [qsum_append, q3, qsum, qsum, qv_nf, smq]; grind
theorem pall_facts (h : Cs cs) (hp : Ps cs pays) (hw : Ws cs w) {o : Nat} (ho : o < prodL cs) : ∀ n, n ≤ cs.length → Nums 208 (pall cs pays w o n) ∧ (pall cs pays w o n).length ≤ 4 * n ∧ qsum (pall cs pays w o n) = smq (fun p => smq (fun c => qv (we w p (dig cs p o) c) * (dlt cs pays p o c : Rat)) (mn cs p)) n
  | 0, _ => ⟨fun x hx => by simp [pall] at hx, by simp [pall], by simp [pall, qsum, smq]⟩
  | n + 1, hn => by
    obtain ⟨q1, q2, q3⟩ := pall_facts h hp hw ho n (by omega)
    obtain ⟨r1, r2, r3⟩ := prow_facts h hp hw (p := n) (by omega) ho (mn cs n) (Nat.le_refl _)
    have hm := h.mn_pos (p := n) (by omega)
    rw [pall]
    refine ⟨fun x hx => ?_, by rw [List.length_append, r2]; omega, ?_⟩
    · rcases List.mem_append.mp hx with hx | hx
      · exact q1 x hx
      · exact r1 x hx
    · rw [qsum_append, q3, r3]; rfl
theorem gains_ok (h : Cs cs) (hp : Ps cs pays) (hw : Ws cs w) (hcw : m_check_weights (gameOf cs pays) w = .ok ()) : m_gains (gameOf cs pays) w = .ok ((List.range (prodL cs)).map fun o => nf (totQ cs pays w o)) := by
  have hp12 := h.p
  have hl2 := h.l2
  rw [m_gains, hcw, bok, bok, show (gameOf cs pays).outcomes = (prodL cs : Int) from rfl, rangeQ_ok (by omega), bok]
  obtain ⟨s', h1, h2⟩ := forC_ok (ρ := List (Int × Int)) (xs := iota (prodL cs)) (body := fun (s3 : (List (Int × Int))) (x4 : Int) kn5 kb6 => (R.bind (.ok ([] : List (Int × Int))) fun v_parts_7 => (R.bind (rangeQ 0 (gameOf cs pays).people) fun xs27 => forC xs27 (fun (s8 : (List (Int × Int))) (x9 : Int) kn10 kb11 => (R.bind (m_Game_pay (gameOf cs pays) x9 x4) fun v_before_12 => (R.bind (R.bind (R.bind (ixQ w x9) fun r13 => (R.bind (m_Game_chosen (gameOf cs pays) x9 x4) fun r14 => (ixQ r13 r14))) fun r15 => (.ok (enumL r15))) fun xs24 => forC xs24 (fun (s16 : (List (Int × Int))) (x17 : (Int × (Int × Int))) kn18 kb19 => (R.bind (R.bind (m_Game_switched (gameOf cs pays) x9 x4 x17.1) fun r20 => (m_Game_pay (gameOf cs pays) x9 r20)) fun v_after_21 => (R.bind (m_times [x17.2, ((v_after_21 - v_before_12), (1 : Int))]) fun x22 => R.chk (s16.length < 100000) (kn18 ((s16 ++ [x22])))))) (fun (s23 : (List (Int × Int))) => (kn10 (s23))) (s8)))) (fun (s25 : (List (Int × Int))) => (R.bind (m_plus s25) fun x26 => R.chk (s3.length < 100000) (kn5 ((s3 ++ [x26]))))) (v_parts_7))))
    (k := fun (s28 : (List (Int × Int))) => (.ok s28)) (fun i s => s = (List.range i).map fun o => nf (totQ cs pays w o)) (s0 := []) rfl (fun o ho s hs => by
      have ho' : o < prodL cs := by simpa using ho
      refine ⟨s ++ [nf (totQ cs pays w o)], by rw [hs, List.range_succ, List.map_append]; rfl, fun kn kb => ?_⟩
      rw [iota_get, bok, show (gameOf cs pays).people = (cs.length : Int) from rfl, rangeQ_ok (by omega), bok]
      obtain ⟨s', g1, g2⟩ := forC_ok (xs := iota cs.length) (body := fun (s8 : (List (Int × Int))) (x9 : Int) kn10 kb11 => (R.bind (m_Game_pay (gameOf cs pays) x9 (o : Int)) fun v_before_12 => (R.bind (R.bind (R.bind (ixQ w x9) fun r13 => (R.bind (m_Game_chosen (gameOf cs pays) x9 (o : Int)) fun r14 => (ixQ r13 r14))) fun r15 => (.ok (enumL r15))) fun xs24 => forC xs24 (fun (s16 : (List (Int × Int))) (x17 : (Int × (Int × Int))) kn18 kb19 => (R.bind (R.bind (m_Game_switched (gameOf cs pays) x9 (o : Int) x17.1) fun r20 => (m_Game_pay (gameOf cs pays) x9 r20)) fun v_after_21 => (R.bind (m_times [x17.2, ((v_after_21 - v_before_12), (1 : Int))]) fun x22 => R.chk (s16.length < 100000) (kn18 ((s16 ++ [x22])))))) (fun (s23 : (List (Int × Int))) => (kn10 (s23))) (s8))))
        (k := fun (s25 : (List (Int × Int))) => (R.bind (m_plus s25) fun x26 => R.chk (s.length < 100000) (kn ((s ++ [x26]))))) (fun i t => t = pall cs pays w o i) (s0 := []) rfl (fun p hpp t ht => by
          have hpl : p < cs.length := by simpa using hpp
          have hm := h.mn_pos hpl
          have hdl := dig_lt h (o := o) hpl
          obtain ⟨table, row, e1, e2, e3, e4, e5⟩ := we_get hw hpl hdl
          have len : (enumL row).length = mn cs p := by unfold enumL; simp [e3]
          have tl := (pall_facts h hp hw ho' p (by omega)).2.1
          rw [← ht] at tl
          refine ⟨t ++ prow cs pays w o p (mn cs p), by rw [ht]; rfl, fun kn1 kb1 => ?_⟩
          rw [iota_get, pay_ok h hp hpl ho', bok, ixQ_some e1, bok, chosen_ok h hpl ho', bok, ixQ_some e2, bok, bok]
          obtain ⟨s', q1, q2⟩ := forC_ok (xs := enumL row) (body := fun (s16 : (List (Int × Int))) (x17 : (Int × (Int × Int))) kn18 kb19 => (R.bind (R.bind (m_Game_switched (gameOf cs pays) (p : Int) (o : Int) x17.1) fun r20 => (m_Game_pay (gameOf cs pays) (p : Int) r20)) fun v_after_21 => (R.bind (m_times [x17.2, ((v_after_21 - pay pays p o), (1 : Int))]) fun x22 => R.chk (s16.length < 100000) (kn18 ((s16 ++ [x22]))))))
            (k := fun (s23 : (List (Int × Int))) => (kn1 (s23))) (fun i u => u = t ++ prow cs pays w o p i) (s0 := t) (by simp [prow]) (fun c hc u hu => by
              have hcl : c < mn cs p := by rw [len] at hc; exact hc
              obtain ⟨hc2, eg⟩ := enumL_get hc
              obtain ⟨f1, f2, f3⟩ := e5 c hcl
              have ew : row[c] = we w p (dig cs p o) c := by rw [List.getElem?_eq_getElem hc2] at f1; exact Option.some.inj f1
              refine ⟨u ++ [nf (qv (we w p (dig cs p o) c) * (dlt cs pays p o c : Rat))], ?_, fun kn2 kb2 => ?_⟩
              · rw [hu, List.append_assoc]
                unfold prow
                rw [List.range_succ, List.map_append]; rfl
              · rw [eg]
                show R.bind (R.bind (m_Game_switched (gameOf cs pays) (p : Int) (o : Int) (c : Int)) _) _ = _
                rw [switched_ok h hpl ho' hcl, bok, pay_ok h hp hpl (swt_lt h hpl ho' hcl), bok]
                show R.bind (m_times [row[c], (dlt cs pays p o c, 1)]) _ = _
                rw [ew, (part_ok h hp hw hpl ho' hcl).1, bok, R.chk_pos (by
                  have := (prow_facts h hp hw hpl ho' c (by omega)).2.1
                  rw [hu, List.length_append, this]; omega)])
          rw [len] at q1
          rw [q2, q1])
      rw [iota_length] at g1
      refine g2.trans ?_
      obtain ⟨z1, z2, z3⟩ := pall_facts h hp hw ho' cs.length (Nat.le_refl _)
      rw [g1, plus_ok z1 (by
        have : (pall cs pays w o cs.length).length * (208 + 1) ≤ 12 * (208 + 1) := Nat.mul_le_mul_right _ (by omega)
        omega), bok, R.chk_pos (by rw [hs]; simp; omega), z3]
      rfl)
  rw [iota_length] at h1
  rw [h2, h1]
/-- both ways to tell a gain -/
theorem tot_eq (h : Cs cs) (hw : Ws cs w) {k : Int} (hk : 0 < k) (hd : ∀ x ∈ w.flatten.flatten, x.2 ∣ k) (o : Nat) : totQ cs pays w o = (totI cs pays w k o : Rat) / (k : Rat) := by
  have hk0 := cast_ne hk
  have : totQ cs pays w o * (k : Rat) = (totI cs pays w k o : Rat) := by
    unfold totQ totI
    rw [smq_mul, smq_cast]
    refine smq_congr fun p hp => ?_
    rw [smq_mul, smq_cast]
    refine smq_congr fun c hc => ?_
    have hdl := dig_lt h (o := o) hp
    obtain ⟨table, row, e1, e2, e3, e4, e5⟩ := we_get hw hp hdl
    obtain ⟨f1, f2, f3⟩ := e5 c hc
    have d0 : 0 < (we w p (dig cs p o) c).2 := by have := f2.d0; omega
    have := cast_ne d0
    rw [Rat.intCast_mul, Rat.intCast_mul, ediv_cast d0 (hd _ f3)]
    unfold qv
    grind
  rw [← this]
  grind
end
end Wk
end
section
set_option Elab.async false
set_option linter.all false
set_option maxRecDepth 100000
namespace Wk
open PySem L2
/-! ### weights that are refused -/
theorem forC_exit {α ρ : Type} {body : Unit → α → (Unit → R ρ) → (Unit → R ρ) → R ρ} {k : Unit → R ρ} {X : R ρ} {good : α → Prop} : ∀ {xs : List α}, (∀ x ∈ xs, good x → ∀ kn kb, body () x kn kb = kn ()) → (∀ x ∈ xs, ¬ good x → ∀ kn kb, body () x kn kb = X) →
    ((∀ x ∈ xs, good x) → forC xs body k () = k ()) ∧ ((¬ ∀ x ∈ xs, good x) → forC xs body k () = X)
  | [], _, _ => ⟨fun _ => rfl, fun h => absurd (fun x hx => by simp at hx) h⟩
  | x :: r, h1, h2 => by
    obtain ⟨q1, q2⟩ := forC_exit (k := k) (X := X) (xs := r) (good := good) (fun y hy => h1 y (List.mem_cons_of_mem _ hy)) (fun y hy => h2 y (List.mem_cons_of_mem _ hy))
    refine ⟨fun hg => ?_, fun hg => ?_⟩
    · rw [forC, h1 x List.mem_cons_self (hg x List.mem_cons_self)]
      exact q1 fun y hy => hg y (List.mem_cons_of_mem _ hy)
    · by_cases hx : good x
      · rw [forC, h1 x List.mem_cons_self hx]
        refine q2 fun hr => hg fun y hy => ?_
        rcases List.mem_cons.mp hy with e | hy
        · rw [e]; exact hx
        · exact hr y hy
      · rw [forC, h2 x List.mem_cons_self hx]
def badRow : Ex := ⟨"BadRow", []⟩
def RowOk (m : Int) (row : List (Int × Int)) : Prop := (row.length : Int) = m ∧ ∀ x ∈ row, 0 ≤ x.1
def TableOk (m : Int) (t : List (List (Int × Int))) : Prop := (t.length : Int) = m ∧ ∀ row ∈ t, RowOk m row
def WeightsOk (g : GameO) (w : List (List (List (Int × Int)))) : Prop := (w.length : Int) = g.people ∧ ∀ x ∈ List.zip w g.choices, TableOk x.2 x.1
theorem check_weights_spec {g : GameO} {w : List (List (List (Int × Int)))} : (WeightsOk g w → m_check_weights g w = .ok ()) ∧ (¬ WeightsOk g w → m_check_weights g w = .ex badRow) := by
  rw [m_check_weights]
  rw [bok, m_Game_choices, bok, bok]
  by_cases hl : (w.length : Int) = g.people
  · rw [decide_eq_true hl]
    simp (implicitDefEqProofs := false) only [Bool.not_true, Bool.false_eq_true, if_false]
    have key := forC_exit (ρ := Unit) (xs := List.zip w g.choices) (body := fun (s2 : Unit) (x3 : ((List (List (Int × Int))) × Int)) kn4 kb5 => (R.bind (.ok (!decide ((x3.1.length : Int) = x3.2))) fun b20 => if b20 = true then (.ex ⟨"BadRow", []⟩) else (R.bind (.ok x3.1) fun xs19 => forC xs19 (fun (s6 : Unit) (x7 : (List (Int × Int))) kn8 kb9 => (R.bind (.ok (!decide ((x7.length : Int) = x3.2))) fun b17 => if b17 = true then (.ex ⟨"BadRow", []⟩) else (R.bind (.ok x7) fun xs16 => forC xs16 (fun (s10 : Unit) (x11 : (Int × Int)) kn12 kb13 => (R.bind (.ok (decide (x11.1 < (0 : Int)))) fun b14 => if b14 = true then (.ex ⟨"BadRow", []⟩) else (kn12 ()))) (fun (s15 : Unit) => (kn8 ())) ()))) (fun (s18 : Unit) => (kn4 ())) ())))
      (k := fun (s21 : Unit) => (.ok ())) (X := .ex badRow) (good := fun x => TableOk x.2 x.1) ?_ ?_
    · exact ⟨fun h => key.1 h.2, fun h => key.2 fun h2 => h ⟨hl, h2⟩⟩
    all_goals
      intro x hx
      have rowk : ∀ (k8 : Unit → R Unit), (TableOk x.2 x.1 → (x.1.length : Int) = x.2 ∧ forC x.1 (fun (s6 : Unit) (x7 : (List (Int × Int))) kn8 kb9 => (R.bind (.ok (!decide ((x7.length : Int) = x.2))) fun b17 => if b17 = true then (.ex ⟨"BadRow", []⟩) else (R.bind (.ok x7) fun xs16 => forC xs16 (fun (s10 : Unit) (x11 : (Int × Int)) kn12 kb13 => (R.bind (.ok (decide (x11.1 < (0 : Int)))) fun b14 => if b14 = true then (.ex ⟨"BadRow", []⟩) else (kn12 ()))) (fun (s15 : Unit) => (kn8 ())) ()))) k8 () = k8 ()) ∧ (¬ TableOk x.2 x.1 → (x.1.length : Int) = x.2 → forC x.1 (fun (s6 : Unit) (x7 : (List (Int × Int))) kn8 kb9 => (R.bind (.ok (!decide ((x7.length : Int) = x.2))) fun b17 => if b17 = true then (.ex ⟨"BadRow", []⟩) else (R.bind (.ok x7) fun xs16 => forC xs16 (fun (s10 : Unit) (x11 : (Int × Int)) kn12 kb13 => (R.bind (.ok (decide (x11.1 < (0 : Int)))) fun b14 => if b14 = true then (.ex ⟨"BadRow", []⟩) else (kn12 ()))) (fun (s15 : Unit) => (kn8 ())) ()))) k8 () = .ex badRow) := by
        intro k8
        have item : ∀ (row : List (Int × Int)) (k9 : Unit → R Unit), ((∀ y ∈ row, 0 ≤ y.1) → forC row (fun (s10 : Unit) (x11 : (Int × Int)) kn12 kb13 => (R.bind (.ok (decide (x11.1 < (0 : Int)))) fun b14 => if b14 = true then (.ex ⟨"BadRow", []⟩) else (kn12 ()))) k9 () = k9 ()) ∧ ((¬ ∀ y ∈ row, 0 ≤ y.1) → forC row (fun (s10 : Unit) (x11 : (Int × Int)) kn12 kb13 => (R.bind (.ok (decide (x11.1 < (0 : Int)))) fun b14 => if b14 = true then (.ex ⟨"BadRow", []⟩) else (kn12 ()))) k9 () = .ex badRow) := fun row k9 =>
          forC_exit (good := fun y : Int × Int => 0 ≤ y.1) (fun y hy hg kn kb => by rw [bok, decide_eq_false (show ¬ y.1 < 0 by omega)]; simp) (fun y hy hg kn kb => by rw [bok, decide_eq_true (show y.1 < 0 by omega)]; simp [badRow])
        have rows := forC_exit (ρ := Unit) (xs := x.1) (body := fun (s6 : Unit) (x7 : (List (Int × Int))) kn8 kb9 => (R.bind (.ok (!decide ((x7.length : Int) = x.2))) fun b17 => if b17 = true then (.ex ⟨"BadRow", []⟩) else (R.bind (.ok x7) fun xs16 => forC xs16 (fun (s10 : Unit) (x11 : (Int × Int)) kn12 kb13 => (R.bind (.ok (decide (x11.1 < (0 : Int)))) fun b14 => if b14 = true then (.ex ⟨"BadRow", []⟩) else (kn12 ()))) (fun (s15 : Unit) => (kn8 ())) ())))
          (k := k8) (X := .ex badRow) (good := fun row => RowOk x.2 row) (fun row hr hg kn kb => by
            rw [bok, decide_eq_true hg.1]
            simp (implicitDefEqProofs := false) only [Bool.not_true, Bool.false_eq_true, if_false]
            rw [bok]
            exact (item row _).1 hg.2) (fun row hr hg kn kb => by
            by_cases hl : (row.length : Int) = x.2
            · rw [bok, decide_eq_true hl]
              simp (implicitDefEqProofs := false) only [Bool.not_true, Bool.false_eq_true, if_false]
              rw [bok]
              exact (item row _).2 fun h => hg ⟨hl, h⟩
            · rw [bok, decide_eq_false hl]
              simp [badRow])
        exact ⟨fun h => ⟨h.1, rows.1 h.2⟩, fun h hl => rows.2 fun h2 => h ⟨hl, h2⟩⟩
    · intro hg kn kb
      rw [bok, decide_eq_true hg.1]
      simp (implicitDefEqProofs := false) only [Bool.not_true, Bool.false_eq_true, if_false]
      rw [bok]
      exact ((rowk fun _ => kn ()).1 hg).2
    · intro hg kn kb
      by_cases hl : (x.1.length : Int) = x.2
      · rw [bok, decide_eq_true hl]
        simp (implicitDefEqProofs := false) only [Bool.not_true, Bool.false_eq_true, if_false]
        rw [bok]
        exact (rowk fun _ => kn ()).2 hg hl
      · rw [bok, decide_eq_false hl]
        simp [badRow]
  · rw [decide_eq_false hl]
    simp (implicitDefEqProofs := false) only [Bool.not_false, if_true]
    exact ⟨fun h => absurd h.1 hl, fun _ => rfl⟩
theorem gains_bad {g : GameO} {w : List (List (List (Int × Int)))} (h : ¬ WeightsOk g w) : m_gains g w = .ex badRow := by
  rw [m_gains, check_weights_spec.2 h]
  rfl
theorem refuted_bad {g : GameO} {w : List (List (List (Int × Int)))} (h : ¬ WeightsOk g w) : m_refuted g w = .ex badRow := by
  rw [m_refuted, gains_bad h]
  rfl
theorem refused_bad {g : GameO} {w : List (List (List (Int × Int)))} (h : ¬ WeightsOk g w) (door : Int) : m_law_refused door g w = .ok true := by
  have e : m_law_try door g w = .ex badRow := by
    rw [m_law_try, bok, gains_bad h, refuted_bad h]
    by_cases c : door = 0
    · rw [decide_eq_true c]; rfl
    · rw [decide_eq_false c]; rfl
  rw [m_law_refused, e]
  simp [badRow]
theorem copy_ok {w : List (List (List (Int × Int)))} (h : w.length ≤ 100000) (h2 : ∀ t ∈ w, t.length ≤ 100000) : m_law_copy w = .ok w := by
  rw [m_law_copy]
  have := comp_ok (f := fun (x1 : (List (List (Int × Int)))) => (comp x1 (fun (x2 : (List (Int × Int))) => (R.ok x2)))) (fun x => x) h fun t ht => by
    have := comp_ok (f := fun (x2 : (List (Int × Int))) => (R.ok x2)) (fun x => x) (h2 t ht) fun x _ => rfl
    rw [this]; simp
  refine this.trans ?_
  simp
end Wk
end
section
set_option Elab.async false
set_option linter.all false
set_option maxRecDepth 100000
namespace Wk
open PySem L2
theorem isQ_of {a b : String} {r : Bool} (h : kitB a b = some r) : isQ a b = .ok r := by unfold isQ isR; rw [h]
theorem is_ii : isQ "int" "int" = .ok true := isQ_of (by decide +kernel)
theorem is_ib : isQ "int" "bool" = .ok false := isQ_of (by decide +kernel)
theorem is_bb : isQ "bool" "bool" = .ok true := isQ_of (by decide +kernel)
theorem is_li : isQ "list" "int" = .ok false := isQ_of (by decide +kernel)
theorem is_lt : isQ "list" "tuple" = .ok false := isQ_of (by decide +kernel)
theorem is_ll : isQ "list" "list" = .ok true := isQ_of (by decide +kernel)
theorem is_ti : isQ "tuple" "int" = .ok false := isQ_of (by decide +kernel)
theorem is_tt : isQ "tuple" "tuple" = .ok true := isQ_of (by decide +kernel)
theorem eqv_pd {α : Type} [Py α] [ToPd α] (x : α) : PyData.eqv (ToPd.pd x) (ToPd.pd x) = true := PySem.SeqAt.eqv_refl _ (ToPd.lay x).1
/-! ### the law's own equality, of a value with itself -/
theorem same_int (n : Nat) (i : Int) : m_law_same (n + 1) (.int i) (.int i) = .ok true := by
  rw [m_law_same, bok]
  show (if pdNone (.int i) = true then _ else _) = _
  rw [show pdNone (.int i) = false from rfl, if_neg Bool.false_ne_true, show PyTy.ty (PyData.int i) = "int" from rfl, is_ii, bok, if_pos rfl, bok, if_pos rfl, is_ib, bok, bok]
  unfold pdEqQ pdEqR
  simp
theorem same_items {n : Nat} {a : PyData} {ds : List PyData} (hl : ds.length ≤ 1000000) (hix : ∀ i, pdIxQ a i = ixR ds i) (hds : ∀ d ∈ ds, m_law_same n d d = .ok true) :
    (R.bind (rangeQ 0 (ds.length : Int)) fun xs25 => forC xs25 (fun (s16 : Unit) (x17 : Int) kn18 kb19 => (R.bind (R.bind (R.bind (pdIxQ a x17) fun r20 => (R.bind (pdIxQ a x17) fun r21 => (m_law_same n r20 r21))) fun b22 => .ok (!b22)) fun b23 => if b23 = true then (.ok false) else (kn18 ()))) (fun (s24 : Unit) => (R.ok true)) ()) = .ok true := by
  rw [rangeQ_ok hl, bok]
  obtain ⟨s', h1, h2⟩ := forC_ok (ρ := Bool) (xs := iota ds.length) (body := fun (s16 : Unit) (x17 : Int) kn18 kb19 => (R.bind (R.bind (R.bind (pdIxQ a x17) fun r20 => (R.bind (pdIxQ a x17) fun r21 => (m_law_same n r20 r21))) fun b22 => .ok (!b22)) fun b23 => if b23 = true then (.ok false) else (kn18 ()))) (k := fun (s24 : Unit) => (.ok true)) (fun _ _ => True) (s0 := ()) trivial (fun i hi s _ => by
    have hi' : i < ds.length := by simpa using hi
    refine ⟨(), trivial, fun kn kb => ?_⟩
    have e : pdIxQ a (i : Int) = .ok ds[i] := by
      rw [hix]
      have := ixQ_ok hi'
      unfold ixQ at this
      exact this
    rw [iota_get, e, bok, bok, hds _ (List.getElem_mem hi'), bok, bok]
    rfl)
  exact h2
theorem same_list {n : Nat} {ds : List PyData} (hl : ds.length ≤ 1000000) (hds : ∀ d ∈ ds, m_law_same n d d = .ok true) : m_law_same (n + 1) (.list ds) (.list ds) = .ok true := by
  have e : pdLenQ (.list ds) = .ok (ds.length : Int) := by unfold pdLenQ pdLen; rfl
  rw [m_law_same, bok, show pdNone (.list ds) = false from rfl, if_neg Bool.false_ne_true, show PyTy.ty (PyData.list ds) = "list" from rfl, is_li, bok, if_neg Bool.false_ne_true, joinR, is_lt, bok, if_neg Bool.false_ne_true, is_ll, bok, bok]
  rw [show (!true) = false from rfl, if_neg Bool.false_ne_true, e, bok, bok, bok, decide_eq_true rfl, show (!true) = false from rfl, if_neg Bool.false_ne_true, bok]
  exact same_items hl (fun i => by unfold pdIxQ pdIx; rfl) hds
theorem same_tuple {n : Nat} {ds : List PyData} (hl : ds.length ≤ 1000000) (hds : ∀ d ∈ ds, m_law_same n d d = .ok true) : m_law_same (n + 1) (.tuple ds) (.tuple ds) = .ok true := by
  have e : pdLenQ (.tuple ds) = .ok (ds.length : Int) := by unfold pdLenQ pdLen; rfl
  rw [m_law_same, bok, show pdNone (.tuple ds) = false from rfl, if_neg Bool.false_ne_true, show PyTy.ty (PyData.tuple ds) = "tuple" from rfl, is_ti, bok, if_neg Bool.false_ne_true, joinR, is_tt, bok, if_pos rfl, bok, bok]
  rw [show (!true) = false from rfl, if_neg Bool.false_ne_true, e, bok, bok, bok, decide_eq_true rfl, show (!true) = false from rfl, if_neg Bool.false_ne_true, bok]
  exact same_items hl (fun i => by unfold pdIxQ pdIx; rfl) hds
theorem same_nums {xs : List (Int × Int)} (hl : xs.length ≤ 1000000) : m_law_same fuel_m_law_same (ToPd.pd xs) (ToPd.pd xs) = .ok true := by
  rw [fuel_m_law_same]
  refine same_list (n := 7) (by simpa using hl) fun d hd => ?_
  obtain ⟨x, _, rfl⟩ := List.mem_map.mp hd
  refine same_tuple (n := 6) (ds := [.int x.1, .int x.2]) (by simp) fun d hd => ?_
  rcases List.mem_cons.mp hd with e | hd
  · rw [e]; exact same_int 5 _
  · rw [List.mem_singleton.mp hd]; exact same_int 5 _
/-! ### the questions about the gains -/
theorem filter_head {p : Nat → Bool} {n k : Nat} (hk : k < n) (hp : p k = true) (hm : ∀ j, j < k → p j = false) : (List.range n).filter p = k :: ((List.range' (k + 1) (n - (k + 1))).filter p) := by
  have e : List.range n = List.range k ++ List.range' k (n - k) := by
    rw [List.range_eq_range', List.range_eq_range']
    have := List.range'_append_1 (s := 0) (m := k) (n := n - k)
    rw [Nat.zero_add, show k + (n - k) = n by omega] at this
    exact this.symm
  rw [e, List.filter_append]
  have e1 : (List.range k).filter p = [] := by
    rw [List.filter_eq_nil_iff]
    intro j hj
    rw [hm j (List.mem_range.mp hj)]
    exact Bool.false_ne_true
  rw [e1, List.nil_append, show n - k = (n - (k + 1)) + 1 by omega, List.range'_succ, List.filter_cons_of_pos hp]
theorem exists_first {p : Nat → Bool} : ∀ {n : Nat}, (∃ k, k < n ∧ p k = true) → ∃ k, k < n ∧ p k = true ∧ ∀ j, j < k → p j = false
  | 0, ⟨k, h, _⟩ => by omega
  | n + 1, ⟨k, h, hp⟩ => by
    by_cases q : ∃ k, k < n ∧ p k = true
    · obtain ⟨k, a, b, c⟩ := exists_first q
      exact ⟨k, by omega, b, c⟩
    · have hk : k = n := by
        by_cases e : k = n
        · exact e
        · exact absurd ⟨k, by omega, hp⟩ q
      subst hk
      refine ⟨k, by omega, hp, fun j hj => ?_⟩
      cases e : p j with
      | false => rfl
      | true => exact absurd ⟨j, hj, e⟩ q
theorem gains_asked_ok {g : GameO} {w : List (List (List (Int × Int)))} {due : List (Int × Int)} (hw : w.length ≤ 100000 ∧ ∀ t ∈ w, t.length ≤ 100000) (hg : m_gains g w = .ok due) (hl : due.length ≤ 100000) (hlow : ∃ k, ∃ h : k < due.length, due[k].1 ≤ 0) : m_law_gains_asked g w due = .ok true := by
  rw [m_law_gains_asked, copy_ok hw.1 hw.2, bok, show (2 : Int) = ((2 : Nat) : Int) from rfl, rangeQ_ok (by omega), bok]
  obtain ⟨k, k1, k2, k3⟩ := exists_first (p := fun j => decide ((due.getD j (0, 0)).1 ≤ 0)) (n := due.length) (by
    obtain ⟨k, h, q⟩ := hlow
    exact ⟨k, h, by rw [List.getD_eq_getElem?_getD, List.getElem?_eq_getElem h]; simpa using q⟩)
  obtain ⟨s', h1, h2⟩ := forC_ok (ρ := Bool) (xs := iota 2) (body := fun (s2 : Unit) (x3 : Int) kn4 kb5 => (R.bind (m_gains g w) fun v_answer_6 => (R.bind (R.bind (R.bind (m_law_same fuel_m_law_same (ToPd.pd v_answer_6) (ToPd.pd due)) fun b7 => .ok (!b7)) fun b8 => if b8 = true then .ok true else (.ok (!PyData.eqv (ToPd.pd w) (ToPd.pd w)))) fun b9 => if b9 = true then (.ok false) else (kn4 ()))))
    (k := fun (s10 : Unit) => (R.bind (R.bind (rangeQ 0 (due.length : Int)) fun r14 => (compIf r14 (fun (x11 : Int) => (R.bind (R.bind (ixQ due x11) fun r12 => (.ok r12.1)) fun r13 => (.ok (decide (r13 ≤ (0 : Int)))))) (fun (x11 : Int) => (.ok x11)))) fun v_low_15 => (R.bind (R.bind (.ok (decide ((v_low_15.length : Int) = (0 : Int)))) fun b22 => if b22 = true then .ok true else (R.bind (R.bind (R.bind (R.bind (m_refuted g w) fun r16 => (.ok (ToPd.pd r16))) fun r18 => (R.bind (R.bind (ixQ v_low_15 (0 : Int)) fun r17 => (.ok (ToPd.pd r17))) fun r19 => (m_law_same fuel_m_law_same r18 r19))) fun b20 => .ok (!b20)) fun b21 => if b21 = true then .ok true else (.ok (!PyData.eqv (ToPd.pd w) (ToPd.pd w))))) fun b23 => if b23 = true then (.ok false) else (.ok true))))
    (fun _ _ => True) (s0 := ()) trivial (fun i hi s _ => ⟨(), trivial, fun kn kb => by
      rw [hg, bok, same_nums (by omega), bok, bok, eqv_pd]
      rfl⟩)
  refine h2.trans ?_
  have el : compIf (iota due.length) (fun (x11 : Int) => (R.bind (R.bind (ixQ due x11) fun r12 => (.ok r12.1)) fun r13 => (.ok (decide (r13 ≤ (0 : Int)))))) (fun (x11 : Int) => (.ok x11)) = .ok (((List.range due.length).filter (fun j => decide ((due.getD j (0, 0)).1 ≤ 0))).map fun (j : Nat) => (j : Int)) := by
    rw [compIf_ok (fun x : Int => decide ((due.getD x.toNat (0, 0)).1 ≤ 0)) (fun x => x) (by rw [iota_length]; exact hl) (fun x hx => by
      obtain ⟨j, hj, e⟩ := List.mem_iff_getElem.mp hx
      have hj' : j < due.length := by simpa using hj
      rw [iota_get] at e
      subst e
      rw [ixQ_ok hj', bok, bok]
      simp [List.getD_eq_getElem?_getD, List.getElem?_eq_getElem hj']) (fun x _ _ => rfl)]
    unfold iota
    rw [List.filter_map, List.map_map]
    rfl
  rw [rangeQ_ok (by omega), bok, el, bok, filter_head k1 k2 k3, bok, List.map_cons, List.length_cons]
  have er : m_refuted g w = .ok (k : Int) := by
    rw [m_refuted, hg, bok, comp_ok (fun x : Int × Int => decide (x.1 ≤ 0)) hl fun x _ => rfl, bok]
    unfold indexQ indexR
    have : (due.map fun x : Int × Int => decide (x.1 ≤ 0)).findIdx? (fun x => x == true) = some k := by
      rw [List.findIdx?_eq_some_iff_getElem]
      refine ⟨by simpa using k1, ?_, fun j hj => ?_⟩
      · have := k2
        rw [List.getD_eq_getElem?_getD, List.getElem?_eq_getElem k1] at this
        simpa using this
      · have := k3 j hj
        rw [List.getD_eq_getElem?_getD, List.getElem?_eq_getElem (by omega)] at this
        simpa using this
    rw [this]
  rw [decide_eq_false (by push_cast; omega), if_neg Bool.false_ne_true, er, bok, bok, show ixQ _ (0 : Int) = .ok (k : Int) from ixQ_some (i := 0) rfl, bok, bok]
  have es : m_law_same fuel_m_law_same (ToPd.pd (k : Int)) (ToPd.pd (k : Int)) = .ok true := by
    rw [fuel_m_law_same]; exact same_int 7 _
  rw [es, bok, bok, eqv_pd]
  rfl
end Wk
end
section
set_option Elab.async false
set_option linter.all false
set_option maxRecDepth 100000
namespace Wk
open PySem L2
theorem pixR_ok {α β : Type} {xs : List β} {put : List β → α} {i : Nat} {y : β} (h : xs[i]? = some y) : pixR (xs, put) (i : Int) = .ok (y, fun y' => put (xs.set i y')) := by
  obtain ⟨h1, h2⟩ := List.getElem?_eq_some_iff.mp h
  unfold pixR
  rw [ixN_nat (show i < (xs, put).1.length from h1)]
  show (match xs[i]? with
    | some y => R.ok (y, fun y' => put (xs.set i y'))
    | none => .no) = _
  rw [h]
theorem mod_nat {x : Int} {m : Nat} (hm : 0 < m) : ∃ r : Nat, x % (m : Int) = (r : Int) ∧ r < m := by
  obtain ⟨r, hr⟩ := nat_of (Int.emod_nonneg x (by omega : (m : Int) ≠ 0))
  have := Int.emod_lt_of_pos x (by omega : (0 : Int) < (m : Int))
  exact ⟨r, hr, by omega⟩
theorem zip_get {cs : List Nat} {w : List (List (List (Int × Int)))} {p : Nat} {t : List (List (Int × Int))} (h : w[p]? = some t) (hp : p < cs.length) : (t, (mn cs p : Int)) ∈ List.zip w (icast cs) := by
  apply List.mem_of_getElem? (i := p)
  rw [List.zip_eq_zipWith, List.getElem?_zipWith, h, icast_get hp]
theorem ws_ok {cs : List Nat} {pays : List (List Int)} {w : List (List (List (Int × Int)))} (hw : Ws cs w) : WeightsOk (gameOf cs pays) w := by
  refine ⟨by show (w.length : Int) = (cs.length : Int); rw [hw.1], fun x hx => ?_⟩
  obtain ⟨i, hi, e⟩ := List.mem_iff_getElem.mp hx
  have hi1 : i < w.length ∧ i < (icast cs).length := by
    have : i < min w.length (icast cs).length := by simpa [gameOf] using hi
    omega
  rw [List.getElem_zip] at e
  have hi2 : i < cs.length := by simpa using hi1.2
  obtain ⟨t1, t2⟩ := hw.2 i w[i] (List.getElem?_eq_getElem hi1.1)
  have em : (icast cs)[i]'hi1.2 = (mn cs i : Int) := by
    have := icast_get hi2
    rw [List.getElem?_eq_getElem hi1.2] at this
    exact Option.some.inj this
  have e2 : x = (w[i], (mn cs i : Int)) := by rw [← e]; exact congrArg _ em
  rw [e2]
  exact ⟨by show (w[i].length : Int) = _; rw [t1], fun row hr => ⟨by rw [(t2 row hr).1], fun y hy => ((t2 row hr).2 y hy).n0⟩⟩
theorem bad_asked_ok {cs : List Nat} {pays : List (List Int)} {w : List (List (List (Int × Int)))} {d : List Int} (h : Cs cs) (hw : Ws cs w) (hd : Dr [12, 12, 3, 4, 4] d) : m_law_bad_asked (gameOf cs pays) (icast cs) w d = .ok true := by
  have l1 := h.l1
  have l2 := h.l2
  obtain ⟨d2, e2, _, _⟩ := hd.get (i := 2) (z := 3) rfl
  obtain ⟨d3, e3, _, _⟩ := hd.get (i := 3) (z := 4) rfl
  obtain ⟨d4, e4, _, _⟩ := hd.get (i := 4) (z := 4) rfl
  obtain ⟨p, ep, hp⟩ := mod_nat (x := d2) (m := cs.length) (by omega)
  have hm := h.mn_pos hp
  obtain ⟨a, ea, ha⟩ := mod_nat (x := d3) (m := mn cs p) (by omega)
  obtain ⟨b, eb, hb⟩ := mod_nat (x := d4) (m := mn cs p) (by omega)
  obtain ⟨table, row, t1, t2, t3, t4, t5⟩ := we_get hw hp ha
  obtain ⟨q1, q2⟩ := hw.2 p table t1
  have hwl := hw.1
  have hwt : ∀ t ∈ w, t.length ≤ 4 := fun t ht => by
    obtain ⟨i, hi, e⟩ := List.mem_iff_getElem.mp ht
    rw [(hw.2 i t (by rw [List.getElem?_eq_getElem hi, e])).1]
    exact (h.mn_pos (by rw [← hwl]; exact hi)).2
  have hpw : p < w.length := by omega
  have hat : a < table.length := by omega
  rw [m_law_bad_asked, show ixQ d (2 : Int) = .ok d2 from ixQ_some (i := 2) e2, bok, bok, icast_length, modQ_ok (by omega), ep, bok, show ixQ d (3 : Int) = .ok d3 from ixQ_some (i := 3) e3, bok, bok, ixQ_some (icast_get hp), bok, modQ_ok (by omega), ea, bok, show ixQ d (4 : Int) = .ok d4 from ixQ_some (i := 4) e4, bok, bok, bok, modQ_ok (by omega), eb, bok]
  have hc : m_law_copy w = .ok w := copy_ok (by omega) fun t ht => by have := hwt t ht; omega
  rw [hc, bok, bok, bok, bok, pixR_ok t1, bok, bok, pixR_ok t2, bok, bok, setR_ok (show b < row.length by omega), bok]
  dsimp only
  rw [bok, bok, bok, pixR_ok t1, bok, bok, pixR_ok t2, bok, bok]
  dsimp only
  rw [R.chk_pos (show row.length < 100000 by omega), bok, bok, bok, pixR_ok t1, bok]
  dsimp only
  rw [R.chk_pos (show 0 < table.length by omega)]
  rw [show rangeQ 0 (2 : Int) = .ok (iota 2) from rangeQ_ok (n := 2) (by omega), bok, catQ_ok (by simp; omega)]
  -- the four papers
  have papers : ∀ x ∈ ([w.set p (table.set a (row.set b (-1, (2 : Int)))), w.set p (table.set a (row ++ [((0 : Int), (1 : Int))])), w.set p table.dropLast, w ++ [[[((0 : Int), (1 : Int))]]]] : List (List (List (List (Int × Int))))), ¬ WeightsOk (gameOf cs pays) x ∧ m_law_copy x = .ok x := by
    intro x hx
    have len : ∀ t' : List (List (Int × Int)), t'.length ≤ 4 → m_law_copy (w.set p t') = .ok (w.set p t') := fun t' ht' => copy_ok (by rw [List.length_set]; omega) fun t ht => by
      rcases List.mem_or_eq_of_mem_set ht with z | z
      · have := hwt t z; omega
      · rw [z]; omega
    have got : ∀ t' : List (List (Int × Int)), WeightsOk (gameOf cs pays) (w.set p t') → TableOk (mn cs p : Int) t' := fun t' ht' => ht'.2 _ (zip_get (by rw [List.getElem?_set_self hpw]) hp)
    simp only [List.mem_cons, List.not_mem_nil, or_false] at hx
    rcases hx with e | e | e | e
    · rw [e]
      refine ⟨fun z => ?_, len _ (by rw [List.length_set]; omega)⟩
      have z2 := (got _ z).2 (row.set b (-1, (2 : Int))) (List.mem_of_getElem? (i := a) (by rw [List.getElem?_set_self hat]))
      have z3 := z2.2 (-1, (2 : Int)) (List.mem_of_getElem? (i := b) (by rw [List.getElem?_set_self (by omega)]))
      have z4 : (0 : Int) ≤ -1 := z3
      omega
    · rw [e]
      refine ⟨fun z => ?_, len _ (by rw [List.length_set]; omega)⟩
      have z2 := (got _ z).2 (row ++ [((0 : Int), (1 : Int))]) (List.mem_of_getElem? (i := a) (by rw [List.getElem?_set_self hat]))
      have z3 := z2.1
      rw [List.length_append] at z3
      simp at z3
      omega
    · rw [e]
      refine ⟨fun z => ?_, len _ (by rw [List.length_dropLast]; omega)⟩
      have z3 := (got _ z).1
      rw [List.length_dropLast] at z3
      omega
    · rw [e]
      refine ⟨fun z => ?_, copy_ok (by simp; omega) fun t ht => ?_⟩
      · have z3 : ((w ++ [[[((0 : Int), (1 : Int))]]]).length : Int) = (cs.length : Int) := z.1
        rw [List.length_append] at z3
        simp at z3
        omega
      · rcases List.mem_append.mp ht with z | z
        · have := hwt t z; omega
        · rw [List.mem_singleton.mp z]; simp
  refine (Rt.eq (Rt.forC (fun _ _ => True) trivial (fun i hi s _ kn hkn => ?_) fun s _ => Rt.ok rfl))
  rw [bok]
  obtain ⟨s', h1, h2⟩ := forC_ok (ρ := Bool) (xs := ([w.set p (table.set a (row.set b (-1, (2 : Int)))), w.set p (table.set a (row ++ [((0 : Int), (1 : Int))])), w.set p table.dropLast, w ++ [[[((0 : Int), (1 : Int))]]]] : List (List (List (List (Int × Int)))))) (body := fun (s40 : Unit) (x41 : (List (List (List (Int × Int))))) kn42 kb43 => (R.bind (R.bind (R.bind (m_law_copy x41) fun r44 => (m_law_refused ((iota 2)[i]) (gameOf cs pays) r44)) fun b45 => .ok (!b45)) fun b46 => if b46 = true then (.ok false) else (kn42 ())))
    (k := fun (s47 : Unit) => (kn ())) (fun _ _ => True) (s0 := ()) trivial (fun j hj s _ => ⟨(), trivial, fun kn2 kb2 => by
      obtain ⟨z1, z2⟩ := papers _ (List.getElem_mem hj)
      rw [z2, bok, refused_bad z1, bok, bok]
      rfl⟩)
  rw [bok, show forC _ _ _ _ = _ from h2]
  exact hkn () trivial
end Wk
end
section
set_option Elab.async false
set_option linter.all false
set_option maxRecDepth 100000
namespace Wk
open PySem L2
/-! ### square matrices as lists -/
structure Mat (n : Nat) (rows : List (List Int)) (M : Nat → Nat → Int) : Prop where
  len : rows.length = n
  row : ∀ i, i < n → ∃ r, rows[i]? = some r ∧ r.length = n ∧ ∀ j, j < n → r[j]? = some (M i j)
theorem Mat.ix {n : Nat} {rows : List (List Int)} {M : Nat → Nat → Int} (h : Mat n rows M) {i j : Nat} (hi : i < n) (hj : j < n) : (R.bind (ixQ rows (i : Int)) fun r => ixQ r (j : Int)) = .ok (M i j) := by
  obtain ⟨r, h1, h2, h3⟩ := h.row i hi
  rw [ixQ_some h1, bok, ixQ_some (h3 j hj)]
theorem sum_take {f : Nat → Int} : ∀ {n : Nat} {r : List Int}, n ≤ r.length → (∀ j, j < n → r[j]? = some (f j)) → (r.take n).sum = sm f n
  | 0, r, _, _ => by simp [sm]
  | n + 1, r, h, hr => by
    rw [List.take_succ, hr n (by omega), List.sum_append, sum_take (by omega) fun j hj => hr j (by omega), sm]
    simp
theorem cut_to {r : List Int} {l : Nat} (h : l ≤ r.length) : cutL r none (some (l : Int)) = r.take l := by
  unfold cutL
  rw [HT.sIx_nat, HT.sIx_none, Nat.min_eq_left h]
  simp
theorem cut_from {r : List Int} {l : Nat} (h : l ≤ r.length) : cutL r (some (l : Int)) none = r.drop l := by
  unfold cutL
  rw [HT.sIx_nat, HT.sIx_none, Nat.min_eq_left h]
  apply List.take_of_length_le
  simp
/-! ### one state is left out -/
def elM (M : Nat → Nat → Int) (l : Nat) (out sc : Int) (i j : Nat) : Int := if i < l ∧ j < l then (M i j * out + M i l * M l j) / sc else M i j
abbrev loBody (s5 : List (List Int) × Int × Int) (kn6 kb7 : List (List Int) × Int × Int → R (T3 (List (List Int)) Int Int)) : R (T3 (List (List Int)) Int Int) := (R.bind (.ok (decide ((0 : Int) < s5.2.2))) fun b33 => if b33 = true then (R.bind (R.bind (R.bind (ixQ s5.1 s5.2.2) fun r8 => (.ok (cutL r8 none (some s5.2.2)))) fun r9 => (.ok r9.sum)) fun v_out_10 => R.bind (R.bind (.ok (0 : Int)) fun y => .ok (decide (y < v_out_10))) fun b34 => if b34 = true then (R.bind (R.bind (ixQ s5.1 s5.2.2) fun r11 => (.ok (cutL r11 none (some s5.2.2)))) fun v_back_12 => (R.bind (rangeQ 0 s5.2.2) fun xs31 => forC xs31 (fun (s13 : (List (List Int))) (x14 : Int) kn15 kb16 => (R.bind (ixQ s13 x14) fun v_row_17 => (R.bind (ixQ v_row_17 s5.2.2) fun v_toward_18 => (R.bind (R.bind (comp (List.zip v_row_17 v_back_12) (fun (x19 : (Int × Int)) => (R.bind (R.bind (mulQ x19.1 v_out_10) fun r20 => (R.bind (mulQ v_toward_18 x19.2) fun r21 => (.ok (r20 + r21)))) fun r22 => (divQ r22 s5.2.1)))) fun r23 => (catQ r23 (cutL v_row_17 (some s5.2.2) none))) fun x24 => R.bind (.ok x14) fun i25 => R.bind (setQ s13 i25 x24) fun v_rows_26 => (kn15 (v_rows_26)))))) (fun (s27 : (List (List Int))) => (R.bind (.ok v_out_10) fun v_scale_28 => (R.bind (.ok (1 : Int)) fun y29 => (fun v_last_30 => (kn6 (s27, v_scale_28, v_last_30))) (s5.2.2 - y29)))) (s5.1))) else (kb7 (s5.1, s5.2.1, s5.2.2))) else (kb7 (s5.1, s5.2.1, s5.2.2)))
def MSz (b : Nat) (n : Nat) (M : Nat → Nat → Int) : Prop := ∀ i j, i < n → j < n → Sz b (M i j)
theorem row_sum {n : Nat} {rows : List (List Int)} {M : Nat → Nat → Int} (h : Mat n rows M) {l : Nat} (hl : l < n) : ∃ r, rows[l]? = some r ∧ r.length = n ∧ (∀ j, j < n → r[j]? = some (M l j)) ∧ cutL r none (some (l : Int)) = r.take l ∧ (r.take l).sum = sm (M l) l := by
  obtain ⟨r, h1, h2, h3⟩ := h.row l hl
  exact ⟨r, h1, h2, h3, cut_to (by omega), sum_take (by omega) fun j hj => h3 j (by omega)⟩
/-- nothing more is left out -/
theorem lo_stop {n : Nat} {rows : List (List Int)} {M : Nat → Nat → Int} (h : Mat n rows M) {l : Nat} (hl : l < n) {sc : Int} (hs : l = 0 ∨ sm (M l) l ≤ 0) (kn kb : List (List Int) × Int × Int → R (T3 (List (List Int)) Int Int)) : loBody (rows, sc, (l : Int)) kn kb = kb (rows, sc, (l : Int)) := by
  unfold loBody
  rw [bok]
  by_cases h0 : l = 0
  · subst h0
    simp
  · obtain ⟨r, h1, h2, h3, h4, h5⟩ := row_sum h hl
    rw [decide_eq_true (show (0 : Int) < (l : Int) by omega), if_pos rfl]
    dsimp only
    rw [ixQ_some h1, bok, bok, bok, bok, h4, h5, decide_eq_false (by omega), bok, if_neg Bool.false_ne_true]
/-- one more is left out -/
theorem lo_step {n b c : Nat} {rows : List (List Int)} {M : Nat → Nat → Int} (h : Mat n rows M) (hn : n ≤ 4) {l : Nat} (hl : l < n) (hl0 : 0 < l) {sc : Int} (hsc : 0 < sc) (hsz : Sz c sc) (hb : MSz b n M) (hbb : 2 * b + 2 < 1000000 := by decide) (hcc : c < 9000 := by decide) (ho : 0 < sm (M l) l) (hos : Sz (b + 2) (sm (M l) l)) (kn kb : List (List Int) × Int × Int → R (T3 (List (List Int)) Int Int)) :
    ∃ rows', Mat n rows' (elM M l (sm (M l) l) sc) ∧ loBody (rows, sc, (l : Int)) kn kb = kn (rows', sm (M l) l, ((l - 1 : Nat) : Int)) := by
  obtain ⟨r, h1, h2, h3, h4, h5⟩ := row_sum h hl
  have body : ∀ i, i < l → ∃ ri : List Int, ri.length = n ∧ rows[i]? = some ri ∧ (∀ j, j < n → ri[j]? = some (M i j)) := fun i hi => by
    obtain ⟨ri, a, b, c⟩ := h.row i (by omega)
    exact ⟨ri, b, a, c⟩
  let nr : Nat → List Int := fun i => (List.range n).map fun j => elM M l (sm (M l) l) sc i j
  obtain ⟨rows', q1, q2⟩ := forC_ok (xs := iota l) (body := fun (s13 : (List (List Int))) (x14 : Int) kn15 kb16 => (R.bind (ixQ s13 x14) fun v_row_17 => (R.bind (ixQ v_row_17 (l : Int)) fun v_toward_18 => (R.bind (R.bind (comp (List.zip v_row_17 (r.take l)) (fun (x19 : (Int × Int)) => (R.bind (R.bind (mulQ x19.1 (sm (M l) l)) fun r20 => (R.bind (mulQ v_toward_18 x19.2) fun r21 => (.ok (r20 + r21)))) fun r22 => (divQ r22 sc)))) fun r23 => (catQ r23 (cutL v_row_17 (some (l : Int)) none))) fun x24 => R.bind (.ok x14) fun i25 => R.bind (setQ s13 i25 x24) fun v_rows_26 => (kn15 (v_rows_26))))))
    (k := fun (s27 : (List (List Int))) => (R.bind (.ok (sm (M l) l)) fun v_scale_28 => (R.bind (.ok (1 : Int)) fun y29 => (fun v_last_30 => (kn (s27, v_scale_28, v_last_30))) ((l : Int) - y29))))
    (fun i s => s.length = n ∧ ∀ k, k < n → s[k]? = if k < i then some (nr k) else rows[k]?) (s0 := rows) ⟨h.len, fun k hk => by simp⟩ (fun i hi s ⟨hs1, hs2⟩ => by
      have hi' : i < l := by simpa using hi
      obtain ⟨ri, r1, r2, r3⟩ := body i hi'
      have e1 : s[i]? = some ri := by rw [hs2 i (by omega), if_neg (by omega), r2]
      refine ⟨s.set i (nr i), ⟨by rw [List.length_set]; exact hs1, fun k hk => ?_⟩, fun kn2 kb2 => ?_⟩
      · by_cases e : k = i
        · subst e
          rw [List.getElem?_set_self (by omega), if_pos (by omega)]
        · rw [List.getElem?_set_ne (Ne.symm e), hs2 k hk]
          by_cases e2 : k < i
          · rw [if_pos e2, if_pos (by omega)]
          · rw [if_neg e2, if_neg (by omega)]
      · rw [iota_get, ixQ_some e1, bok, ixQ_some (r3 l hl), bok]
        have ez : comp (List.zip ri (r.take l)) (fun (x19 : (Int × Int)) => (R.bind (R.bind (mulQ x19.1 (sm (M l) l)) fun r20 => (R.bind (mulQ (M i l) x19.2) fun r21 => (.ok (r20 + r21)))) fun r22 => (divQ r22 sc))) = .ok ((List.zip ri (r.take l)).map fun x => (x.1 * sm (M l) l + M i l * x.2) / sc) := by
          refine comp_ok _ (by rw [List.length_zip]; omega) fun x hx => ?_
          obtain ⟨k, hk, e⟩ := List.mem_iff_getElem.mp hx
          rw [List.length_zip, List.length_take] at hk
          have z1 : x.1 = M i k ∧ x.2 = M l k := by
            have e' : (List.zip ri (r.take l))[k]? = some x := by rw [List.getElem?_eq_getElem (by rw [List.length_zip, List.length_take]; exact hk), e]
            rw [List.zip_eq_zipWith, List.getElem?_zipWith, r3 k (by omega), List.getElem?_take_of_lt (by omega), h3 k (by omega)] at e'
            have e2 := Option.some.inj e'
            rw [← e2]
            exact ⟨rfl, rfl⟩
          rw [mulQ_ok (n := b) (m := b + 2) (by rw [z1.1]; exact hb _ _ (by omega) (by omega)) hos (by omega), bok, mulQ_ok (n := b) (m := b) (hb _ _ (by omega) hl) (by rw [z1.2]; exact hb _ _ hl (by omega)) (by omega), bok, bok, divQ_ok hsc hsz hcc]
        have er : (List.zip ri (r.take l)).map (fun x => (x.1 * sm (M l) l + M i l * x.2) / sc) ++ ri.drop l = nr i := by
          apply List.ext_getElem?
          intro j
          by_cases hj : j < l
          · have a1 := r3 j (by omega)
            have a2 := h3 j (by omega)
            rw [List.getElem?_append_left (by simp; omega), List.getElem?_map, List.zip_eq_zipWith, List.getElem?_zipWith, a1, List.getElem?_take_of_lt hj, a2]
            show _ = ((List.range n).map _)[j]?
            rw [List.getElem?_map, List.getElem?_range (by omega)]
            simp only [Option.map_some]
            unfold elM
            rw [if_pos ⟨hi', hj⟩]
          · rw [List.getElem?_append_right (by simp; omega)]
            have el : ((List.zip ri (r.take l)).map (fun x => (x.1 * sm (M l) l + M i l * x.2) / sc)).length = l := by simp; omega
            rw [el, List.getElem?_drop, show l + (j - l) = j by omega]
            show _ = ((List.range n).map _)[j]?
            by_cases hjn : j < n
            · rw [r3 j hjn, List.getElem?_map, List.getElem?_range hjn]
              simp only [Option.map_some]
              unfold elM
              rw [if_neg (by omega)]
            · rw [List.getElem?_eq_none (by omega), List.getElem?_eq_none (by simp; omega)]
        rw [ez, bok, cut_from (by omega), catQ_ok (by simp; omega), er, bok, bok, setQ_ok (by omega), bok])
  rw [iota_length] at q1
  refine ⟨rows', ⟨q1.1, fun i hi => ?_⟩, ?_⟩
  · by_cases hil : i < l
    · refine ⟨nr i, by rw [q1.2 i hi, if_pos hil], by simp [nr], fun j hj => ?_⟩
      show ((List.range n).map _)[j]? = _
      rw [List.getElem?_map, List.getElem?_range hj]; rfl
    · obtain ⟨ri, a1, a2, a3⟩ := h.row i hi
      refine ⟨ri, by rw [q1.2 i hi, if_neg hil, a1], a2, fun j hj => ?_⟩
      rw [a3 j hj]
      unfold elM
      rw [if_neg (by omega)]
  · unfold loBody
    rw [bok, decide_eq_true (show (0 : Int) < (l : Int) by omega), if_pos rfl]
    dsimp only
    rw [ixQ_some h1, bok, bok, bok, bok, h4, h5, decide_eq_true ho, bok, if_pos rfl, bok, rangeQ_ok (by omega), bok, show forC _ _ _ _ = _ from q2, bok, bok]
    show kn _ = kn _
    congr 3
    omega
end Wk
end
section
set_option Elab.async false
set_option linter.all false
set_option maxRecDepth 100000
namespace Wk
open PySem L2
/-! ### a sum whose denominators divide m -/
theorem plus_loopD {ρ : Type} {c : Nat} {m : Int} {k : Int × Int → R ρ} (hm : 0 < m) (hc : Sz c m) (hc9 : c < 9000) : ∀ {xs : List (Int × Int)} {e : Nat} {t b : Int}, Nums c xs → (∀ x ∈ xs, x.2 ∣ m) → 0 < b → b ∣ m → Sz e t → c ≤ e → e + xs.length * (c + 1) < 500000 →
    ∃ t' b', forC xs plusBody k (t, b) = k (t', b') ∧ 0 < b' ∧ b' ∣ m ∧ (t' : Rat) / (b' : Rat) = (t : Rat) / (b : Rat) + qsum xs
  | [], e, t, b, _, _, hb, hbm, ht, hce, hl => ⟨t, b, rfl, hb, hbm, by rw [qsum]; grind⟩
  | x :: r, e, t, b, hx, hxm, hb, hbm, ht, hce, hl => by
    obtain ⟨h1, h2, h3⟩ := hx x List.mem_cons_self
    have hg : 0 < Int.gcd b x.2 := Int.gcd_pos_of_ne_zero_right _ (by omega)
    have hg' : (0 : Int) < ((Int.gcd b x.2 : Nat) : Int) := by omega
    have gd : ((Int.gcd b x.2 : Nat) : Int) ∣ x.2 := Int.gcd_dvd_right ..
    have gb : ((Int.gcd b x.2 : Nat) : Int) ∣ b := Int.gcd_dvd_left ..
    have gs : Sz c ((Int.gcd b x.2 : Nat) : Int) := h2.of_le (by omega) (Int.le_of_dvd h3 gd)
    have hbs : Sz c b := hc.of_le (by omega) (Int.le_of_dvd hm hbm)
    rw [List.length_cons, Nat.succ_mul] at hl
    have s1 : Sz c (x.2 / (Int.gcd b x.2 : Nat)) := h2.ediv hg'
    have s2 : Sz c (b / (Int.gcd b x.2 : Nat)) := hbs.ediv hg'
    have nt : Sz (e + c + 1) (t * (x.2 / (Int.gcd b x.2 : Nat)) + x.1 * (b / (Int.gcd b x.2 : Nat))) := (ht.mul s1).add ((h1.mul s2).mono (by omega))
    have el : b / (Int.gcd b x.2 : Nat) * x.2 = ((Int.lcm b x.2 : Nat) : Int) := (lcm_eq hb h3).symm
    have hlm : ((Int.lcm b x.2 : Nat) : Int) ∣ m := by
      have := Int.lcm_dvd (c := m.natAbs) (a := b) (b := x.2) (Int.dvd_natAbs.mpr hbm) (Int.dvd_natAbs.mpr (hxm x List.mem_cons_self))
      exact Int.dvd_natAbs.mp (Int.natCast_dvd_natCast.mpr this)
    obtain ⟨t', b', e1, e2, e3, e4⟩ := plus_loopD (k := k) hm hc hc9 (xs := r) (e := e + c + 1) (t := t * (x.2 / (Int.gcd b x.2 : Nat)) + x.1 * (b / (Int.gcd b x.2 : Nat))) (b := b / (Int.gcd b x.2 : Nat) * x.2) (fun y hy => hx y (List.mem_cons_of_mem _ hy)) (fun y hy => hxm y (List.mem_cons_of_mem _ hy)) (by rw [el]; exact lcm_pos hb h3) (by rw [el]; exact hlm) nt (by omega) (by omega)
    refine ⟨t', b', ?_, e2, e3, ?_⟩
    · rw [forC, plusBody]
      rw [bok, divQ_ok hg' gs (by omega), bok, mulQ_ok ht s1 (by omega), bok, divQ_ok hg' gs (by omega), bok, mulQ_ok h1 s2 (by omega), bok, bok, bok, mulQ_ok s2 h2 (by omega), bok]
      exact e1
    · rw [e4, qsum, qv]
      have z1 := cast_ne hb
      have z2 := cast_ne h3
      have z3 := cast_ne hg'
      rw [Rat.intCast_add, Rat.intCast_mul, Rat.intCast_mul, Rat.intCast_mul, ediv_cast hg' gd, ediv_cast hg' gb]
      grind
theorem plus_okD {xs : List (Int × Int)} {c : Nat} {m : Int} (h : Nums c xs) (hm : 0 < m) (hc : Sz c m) (hd : ∀ x ∈ xs, x.2 ∣ m) (hl : xs.length ≤ 20) (hc9 : c < 9000 := by decide) (hc1 : 1 ≤ c := by decide) : m_plus xs = .ok (nf (qsum xs)) := by
  rw [m_plus, R.chk_pos (by omega), bok, bok, bok]
  have hb : c + xs.length * (c + 1) < 500000 := by
    have : xs.length * (c + 1) ≤ 20 * (c + 1) := Nat.mul_le_mul_right _ hl
    omega
  obtain ⟨t', b', e1, e2, e3, e4⟩ := plus_loopD (k := fun (s15 : Int × Int) => (m_ratio s15.1 s15.2)) hm hc hc9 (e := c) (t := 0) (b := 1) h hd (by decide) (Int.one_dvd m) ((show Sz 1 0 by decide).mono hc1) (Nat.le_refl _) hb
  refine Eq.trans e1 ?_
  rw [ratio_ok e2 (hc.of_le (by omega) (Int.le_of_dvd hm e3)) hc9, e4]
  congr 2
  have : ((0 : Int) : Rat) / ((1 : Int) : Rat) = 0 := by
    rw [Rat.intCast_zero]; grind
  rw [this]; grind
/-! ### the amounts -/
theorem sum_map_range {f : Nat → Int} : ∀ {n : Nat}, ((List.range n).map f).sum = sm f n
  | 0 => by simp [sm]
  | n + 1 => by rw [sum_range_succ, sum_map_range, sm]
theorem rest_loop {n b c L : Nat} {rows : List (List Int)} {M : Nat → Nat → Int} {sc : Int} {τ : Nat → Int} (h : Mat n rows M) (hn : n ≤ 4) (hb : MSz b n M) (hbb : b + 2 < 9000) (hL : L < n) (t0 : ∀ k, k < L → τ k = 0) (t1 : τ L = sc) (tz : ∀ k, k < n → Sz c (τ k)) (hcb : c + b < 900000)
    (tk : ∀ k, L < k → k < n → 0 < sm (M k) k ∧ sm (fun i => τ i * M i k) k = τ k * sm (M k) k) (dz : ∀ k, L < k → k < n → Sz (b + 2) (sm (M k) k)) (htot : 0 < sm τ n) (htz : Sz (c + 2) (sm τ n)) (hc9 : c + 2 < 9000) (hlo : m_left_out rows0 = .ok (T3.mk rows (L : Int) sc)) :
    m_resting rows0 = .ok ((List.range n).map fun k => nf ((τ k : Rat) / (sm τ n : Rat))) := by
  rw [m_resting, hlo, bok]
  dsimp only
  have e1 : repQ ([(0 : Int)] : List Int) (L : Int) = .ok (List.replicate L 0) := by
    unfold repQ repR
    rw [R.chk_pos (by simp; omega)]
    simp
  rw [e1, bok, catQ_ok (by simp; omega), bok, h.len, show (L : Int) + 1 = ((L + 1 : Nat) : Int) by omega, rangeQ2_ok (by omega) (by omega), bok]
  have e0 : List.replicate L (0 : Int) ++ [sc] = (List.range (L + 1)).map τ := by
    rw [List.range_succ, List.map_append, ← t1]
    congr 1
    apply List.ext_getElem
    · simp
    · intro j h1 h2
      simp at h1 h2 ⊢
      exact (t0 j h1).symm
  obtain ⟨s', q1, q2⟩ := forC_ok (ρ := List (Int × Int)) (xs := (List.range (n - (L + 1))).map fun (i : Nat) => ((L + 1 + i : Nat) : Int)) (body := fun (s4 : (List Int)) (x5 : Int) kn6 kb7 => (R.bind (R.bind (comp (enumL s4) (fun (x8 : (Int × Int)) => (R.bind (R.bind (ixQ rows x8.1) fun r9 => (ixQ r9 x5)) fun r10 => (mulQ x8.2 r10)))) fun r11 => (.ok r11.sum)) fun v_coming_12 => (R.bind (R.bind (R.bind (R.bind (R.bind (R.bind (ixQ rows x5) fun r13 => (.ok (cutL r13 none (some x5)))) fun r14 => (.ok r14.sum)) fun r15 => (divQ v_coming_12 r15)) fun r16 => (.ok ([r16] : List Int))) fun r17 => (catQ s4 r17)) fun v_amounts_18 => (kn6 (v_amounts_18)))))
    (k := fun (s19 : (List Int)) => (R.bind (.ok s19.sum) fun v_total_20 => (comp s19 (fun (x21 : Int) => (m_ratio x21 v_total_20))))) (fun i s => s = (List.range (L + 1 + i)).map τ) (s0 := List.replicate L 0 ++ [sc]) e0 (fun i hi s hs => by
      have hi' : i < n - (L + 1) := by simpa using hi
      have hk : L + 1 + i < n := by omega
      obtain ⟨k1, k2⟩ := tk (L + 1 + i) (by omega) hk
      have hslen : s.length = L + 1 + i := by rw [hs]; simp
      refine ⟨s ++ [τ (L + 1 + i)], by rw [hs, show L + 1 + (i + 1) = (L + 1 + i) + 1 by omega, List.range_succ, List.map_append]; rfl, fun kn kb => ?_⟩
      rw [List.getElem_map, List.getElem_range]
      have ec : comp (enumL s) (fun (x8 : (Int × Int)) => (R.bind (R.bind (ixQ rows x8.1) fun r9 => (ixQ r9 ((L + 1 + i : Nat) : Int))) fun r10 => (mulQ x8.2 r10))) = .ok ((List.range (L + 1 + i)).map fun j => τ j * M j (L + 1 + i)) := by
        have hlen : (enumL s).length = L + 1 + i := by unfold enumL; simp [hslen]
        rw [comp_ok (fun x : Int × Int => x.2 * M x.1.toNat (L + 1 + i)) (by omega) fun x hx => ?_]
        · congr 1
          apply List.ext_getElem
          · simp [hlen]
          · intro j h1 h2
            have h3 : j < (enumL s).length := by simpa using h1
            obtain ⟨h4, e⟩ := enumL_get h3
            rw [List.getElem_map, e]
            simp [hs]
        · obtain ⟨j, hj, e⟩ := List.mem_iff_getElem.mp hx
          obtain ⟨h4, e2⟩ := enumL_get hj
          rw [e2] at e
          have hj' : j < L + 1 + i := by omega
          rw [← e]
          show R.bind (R.bind (ixQ rows (j : Int)) _) _ = _
          rw [h.ix (by omega) hk, bok]
          have es : s[j] = τ j := by simp [hs]
          show mulQ s[j] _ = .ok (s[j] * M (j : Int).toNat _)
          rw [es, mulQ_ok (tz j (by omega)) (hb j _ (by omega) hk) (by omega)]
          simp
      obtain ⟨r, h1, h2, h3, h4, h5⟩ := row_sum h hk
      rw [ec, bok, bok, ixQ_some h1, bok, bok, bok, h4, h5, sum_map_range, k2, divQ_ok k1 (dz _ (by omega) hk) (by omega), bok, Int.mul_ediv_cancel _ (by omega), bok, catQ_ok (by simp; omega), bok])
  rw [show forC _ _ _ _ = _ from q2, bok]
  have el : s' = (List.range n).map τ := by
    rw [q1]
    congr 2
    simp; omega
  rw [el, sum_map_range]
  rw [comp_ok (fun x : Int => nf ((x : Rat) / (sm τ n : Rat))) (by simp; omega) fun x _ => ratio_ok htot htz hc9, List.map_map]
  rfl
end Wk
end
section
set_option Elab.async false
set_option linter.all false
set_option maxRecDepth 100000
namespace Wk
/-! ### four states: the identities -/
structure Q4 (a01 a02 a03 a10 a12 a13 a20 a21 a23 a30 a31 a32 s t B01 B02 B10 B12 B20 B21 q01 q10 x2 x3 y3 : Int) : Prop where
  hs : s = a30 + a31 + a32
  h01 : B01 = a01 * s + a03 * a31
  h02 : B02 = a02 * s + a03 * a32
  h10 : B10 = a10 * s + a13 * a30
  h12 : B12 = a12 * s + a13 * a32
  h20 : B20 = a20 * s + a23 * a30
  h21 : B21 = a21 * s + a23 * a31
  ht : t = B20 + B21
  g01 : q01 = a01 * t + a03 * a31 * (a20 + a21) + a02 * B21 + a03 * a32 * a21 + a03 * a31 * a23
  g10 : q10 = a10 * t + a13 * a30 * (a20 + a21) + a12 * B20 + a13 * a32 * a20 + a13 * a30 * a23
  gx2 : x2 = a10 * a02 * s + a10 * a03 * a32 + a13 * a30 * a02 + a01 * a12 * s + a01 * a13 * a32 + a03 * a31 * a12 + a02 * a12 * s + a02 * a13 * a32 + a03 * a32 * a12 + a03 * a13 * a32
  gx3 : x3 = (a01 + a02 + a03) * (a10 + a12 + a13) * (a20 + a21 + a23) - (a01 + a02 + a03) * a12 * a21 - (a10 + a12 + a13) * a02 * a20 - (a20 + a21 + a23) * a01 * a10 - a01 * a12 * a20 - a02 * a10 * a21
  gy3 : y3 = (a20 + a21) * a13 + a12 * a23 + a13 * a23
section
variable {a01 a02 a03 a10 a12 a13 a20 a21 a23 a30 a31 a32 s t B01 B02 B10 B12 B20 B21 q01 q10 x2 x3 y3 : Int}
theorem Q4.div (q : Q4 a01 a02 a03 a10 a12 a13 a20 a21 a23 a30 a31 a32 s t B01 B02 B10 B12 B20 B21 q01 q10 x2 x3 y3) :
    B10 * t + B12 * B20 = s * q10 ∧ B01 * t + B02 * B21 = s * q01 ∧ q10 * B02 + q01 * B12 = x2 * t ∧ q10 * a03 + q01 * a13 + x2 * a23 = x3 * s ∧ t * a13 + B12 * a23 = y3 * s := by
  obtain ⟨hs, h01, h02, h10, h12, h20, h21, ht, g01, g10, gx2, gx3, gy3⟩ := q
  subst hs h01 h02 h10 h12 h20 h21 ht
  refine ⟨?_, ?_, ?_, ?_, ?_⟩
  · subst g10; grind
  · subst g01; grind
  · subst g01 g10 gx2; grind
  · subst g01 g10 gx2 gx3; grind
  · subst gy3; grind
/-- three left out -/
theorem Q4.bal3 (q : Q4 a01 a02 a03 a10 a12 a13 a20 a21 a23 a30 a31 a32 s t B01 B02 B10 B12 B20 B21 q01 q10 x2 x3 y3) :
    q01 * a10 + x2 * a20 + x3 * a30 = q10 * (a01 + a02 + a03) ∧ q10 * a01 + x2 * a21 + x3 * a31 = q01 * (a10 + a12 + a13) ∧ q10 * a02 + q01 * a12 + x3 * a32 = x2 * (a20 + a21 + a23) ∧ q10 * a03 + q01 * a13 + x2 * a23 = x3 * (a30 + a31 + a32) := by
  obtain ⟨hs, h01, h02, h10, h12, h20, h21, ht, g01, g10, gx2, gx3, gy3⟩ := q
  subst hs h01 h02 h10 h12 h20 h21 ht
  subst g01 g10 gx2 gx3
  refine ⟨?_, ?_, ?_, ?_⟩ <;> grind
/-- two left out, nothing flows to the first -/
theorem Q4.bal2 (q : Q4 a01 a02 a03 a10 a12 a13 a20 a21 a23 a30 a31 a32 s t B01 B02 B10 B12 B20 B21 q01 q10 x2 x3 y3) (h0 : q10 = 0) :
    t * a10 + B12 * a20 + y3 * a30 = 0 ∧ B12 * a21 + y3 * a31 = t * (a10 + a12 + a13) ∧ t * a12 + y3 * a32 = B12 * (a20 + a21 + a23) ∧ t * a13 + B12 * a23 = y3 * (a30 + a31 + a32) := by
  obtain ⟨hs, h01, h02, h10, h12, h20, h21, ht, g01, g10, gx2, gx3, gy3⟩ := q
  subst hs h01 h02 h10 h12 h20 h21 ht
  subst gy3
  rw [h0] at g10
  refine ⟨?_, ?_, ?_, ?_⟩ <;> grind
end
theorem bal1_4 {s a20 a21 a23 a30 a31 a32 : Int} (hs : s = a30 + a31 + a32) (q1 : a20 * s + a23 * a30 = 0) (q2 : a21 * s + a23 * a31 = 0) : s * a20 + a23 * a30 = 0 ∧ s * a21 + a23 * a31 = 0 ∧ a23 * a32 = s * (a20 + a21 + a23) ∧ s * a23 = a23 * (a30 + a31 + a32) := by
  subst hs
  refine ⟨?_, ?_, ?_, ?_⟩ <;> grind
end Wk
end
section
set_option Elab.async false
set_option linter.all false
set_option maxRecDepth 100000
namespace Wk
open PySem L2
/-! ### the whole run of left_out -/
abbrev loFin (s32 : (List (List Int)) × Int × Int) : R (T3 (List (List Int)) Int Int) := (.ok (T3.mk s32.1 s32.2.2 s32.2.1))
theorem lo_start {n : Nat} {rows : List (List Int)} {M : Nat → Nat → Int} (h : Mat n rows M) (hn : n ≤ 4) (hn1 : 1 ≤ n) : m_left_out rows = whileW (n + 1) loBody loFin (rows, 1, ((n - 1 : Nat) : Int)) := by
  have ec : comp rows (fun (x1 : (List Int)) => (R.ok x1)) = .ok rows := by
    have := comp_ok (f := fun (x1 : (List Int)) => (R.ok x1)) (fun x => x) (xs := rows) (by rw [h.len]; omega) fun x _ => rfl
    rw [this]; simp
  rw [m_left_out, ec, bok, bok, bok, h.len, show ((n : Nat) : Int) - 1 = ((n - 1 : Nat) : Int) by omega]
theorem lo_w_stop {n f : Nat} {rows : List (List Int)} {M : Nat → Nat → Int} (h : Mat n rows M) {l : Nat} (hl : l < n) {sc : Int} (hs : l = 0 ∨ sm (M l) l ≤ 0) : whileW (f + 1) loBody loFin (rows, sc, (l : Int)) = .ok (T3.mk rows (l : Int) sc) := by
  rw [whileW, lo_stop h hl hs]
theorem lo_w_step {n b c f : Nat} {rows : List (List Int)} {M : Nat → Nat → Int} (h : Mat n rows M) (hn : n ≤ 4) {l : Nat} (hl : l < n) (hl0 : 0 < l) {sc : Int} (hsc : 0 < sc) (hsz : Sz c sc) (hb : MSz b n M) (ho : 0 < sm (M l) l) (hos : Sz (b + 2) (sm (M l) l)) (hbb : 2 * b + 2 < 1000000 := by decide) (hcc : c < 9000 := by decide) :
    ∃ rows', Mat n rows' (elM M l (sm (M l) l) sc) ∧ whileW (f + 1) loBody loFin (rows, sc, (l : Int)) = whileW f loBody loFin (rows', sm (M l) l, ((l - 1 : Nat) : Int)) := by
  obtain ⟨rows', h1, h2⟩ := lo_step h hn hl hl0 hsc hsz hb hbb hcc ho hos (fun s' => whileW f loBody loFin s') loFin
  exact ⟨rows', h1, by rw [whileW, h2]⟩
theorem MSz.el {b n l : Nat} {M : Nat → Nat → Int} {out sc : Int} (h : MSz b n M) (hl : l < n) (ho : Sz (b + 2) out) (hsc : 0 < sc) : MSz (2 * b + 3) n (elM M l out sc) := fun i j hi hj => by
  unfold elM
  by_cases c : i < l ∧ j < l
  · rw [if_pos c]
    refine Sz.ediv ?_ hsc
    have z1 : Sz (2 * b + 2) (M i j * out) := ((h i j hi hj).mul ho).mono (by omega)
    have z2 : Sz (2 * b + 2) (M i l * M l j) := ((h i l hi hl).mul (h l j hl hj)).mono (by omega)
    exact z1.add z2
  · rw [if_neg c]; exact (h i j hi hj).mono (by omega)
def Bal (n : Nat) (a : Nat → Nat → Int) (τ : Nat → Int) : Prop := ∀ j, j < n → sm (fun i => τ i * a i j) n = τ j * sm (a j) n
structure RestOk (n : Nat) (rows : List (List Int)) (a : Nat → Nat → Int) (τ : Nat → Int) : Prop where
  eq : m_resting rows = .ok ((List.range n).map fun k => nf ((τ k : Rat) / (sm τ n : Rat)))
  pos : ∀ k, k < n → 0 ≤ τ k ∧ Sz 2300 (τ k)
  tot : 0 < sm τ n
  tsz : Sz 2302 (sm τ n)
  bal : Bal n a τ
theorem sm_sz {c : Nat} {f : Nat → Int} {n : Nat} (hn : n ≤ 4) (h : ∀ i, i < n → Sz c (f i)) : Sz (c + 2) (sm f n) := by
  have key : ∀ m, m ≤ n → (sm f m).natAbs + m ≤ m * 2 ^ c := fun m => by
    induction m with
    | zero => intro _; simp [sm]
    | succ m ih =>
      intro hm
      have h1 := ih (by omega)
      have h2 : (f m).natAbs < 2 ^ c := h m (by omega)
      have h3 := Int.natAbs_add_le (sm f m) (f m)
      rw [sm, Nat.succ_mul]
      omega
  have h1 := key n (Nat.le_refl _)
  have h2 : n * 2 ^ c ≤ 4 * 2 ^ c := Nat.mul_le_mul_right _ hn
  have h3 : 0 < 2 ^ c := Nat.pow_pos (by decide)
  have e : 2 ^ (c + 2) = 4 * 2 ^ c := by rw [Nat.pow_add]; omega
  unfold Sz
  rw [e]
  by_cases h0 : n = 0
  · subst h0
    simp [sm]
    exact h3
  · omega
theorem sm_nonneg {f : Nat → Int} : ∀ {n : Nat}, (∀ i, i < n → 0 ≤ f i) → 0 ≤ sm f n
  | 0, _ => by simp [sm]
  | n + 1, h => by
    have := sm_nonneg (n := n) fun i hi => h i (by omega)
    have := h n (by omega)
    rw [sm]; omega
end Wk
end
section
set_option Elab.async false
set_option linter.all false
set_option maxRecDepth 100000
namespace Wk
open PySem L2
theorem sm_ge {f : Nat → Int} {L : Nat} : ∀ {n : Nat}, (∀ i, i < n → 0 ≤ f i) → L < n → f L ≤ sm f n
  | 0, _, h => by omega
  | n + 1, h, hL => by
    rw [sm]
    by_cases e : L = n
    · subst e
      have := sm_nonneg (n := L) fun i hi => h i (by omega)
      omega
    · have := sm_ge (n := n) (L := L) (fun i hi => h i (by omega)) (by omega)
      have := h n (by omega)
      omega
theorem rest_of {n b L : Nat} {rows0 rows : List (List Int)} {a M : Nat → Nat → Int} {sc : Int} {τ : Nat → Int} (h : Mat n rows M) (hn : n ≤ 4) (hb : MSz b n M) (hL : L < n) (hsc : 0 < sc) (hlo : m_left_out rows0 = .ok (T3.mk rows (L : Int) sc))
    (t0 : ∀ k, k < L → τ k = 0) (t1 : τ L = sc) (tz : ∀ k, k < n → 0 ≤ τ k ∧ Sz 2300 (τ k)) (tk : ∀ k, L < k → k < n → 0 < sm (M k) k ∧ sm (fun i => τ i * M i k) k = τ k * sm (M k) k) (bal : Bal n a τ) (hbb : b + 2 < 9000 := by decide) : RestOk n rows0 a τ := by
  have tot : 0 < sm τ n := by
    have := sm_ge (f := τ) (L := L) (fun i hi => (tz i hi).1) hL
    omega
  have tsz : Sz 2302 (sm τ n) := sm_sz hn fun i hi => (tz i hi).2
  refine ⟨rest_loop (b := b) (c := 2300) h hn hb hbb hL t0 t1 (fun k hk => (tz k hk).2) (by omega) tk (fun k h1 h2 => sm_sz (by omega) fun i hi => hb k i h2 (by omega)) tot tsz (by decide) hlo, tz, tot, tsz, bal⟩
def tau (l : List Int) (k : Nat) : Int := l.getD k 0
section
variable {rows : List (List Int)} {a : Nat → Nat → Int}
theorem rest1 (h : Mat 1 rows a) (hb : MSz 204 1 a) : ∃ τ, RestOk 1 rows a τ := by
  have st : m_left_out rows = .ok (T3.mk rows ((0 : Nat) : Int) 1) := by
    rw [lo_start h (by decide) (by decide)]
    exact lo_w_stop (l := 0) h (by decide) (.inl rfl)
  refine ⟨tau [1], rest_of h (by decide) hb (L := 0) (by decide) (by decide) st (fun k hk => by omega) rfl (fun k hk => ?_) (fun k h1 h2 => by omega) (fun j hj => ?_)⟩
  · have : k = 0 := by omega
    subst this
    exact ⟨by decide, (show Sz 1 1 by decide).mono (by decide)⟩
  · have : j = 0 := by omega
    subst this
    simp [sm, tau]
theorem rest2 (h : Mat 2 rows a) (h0 : ∀ i j, i < 2 → j < 2 → 0 ≤ a i j) (hb : MSz 204 2 a) : ∃ τ, RestOk 2 rows a τ := by
  have e1 : sm (a 1) 1 = a 1 0 := by simp [sm]
  have p10 := h0 1 0 (by decide) (by decide)
  have p01 := h0 0 1 (by decide) (by decide)
  have st := lo_start h (by decide) (by decide)
  by_cases c : sm (a 1) 1 ≤ 0
  · refine ⟨tau [0, 1], rest_of h (by decide) hb (L := 1) (by decide) (by decide) (st.trans (lo_w_stop (l := 1) h (by decide) (.inr c))) (fun k hk => ?_) rfl (fun k hk => ?_) (fun k h1 h2 => by omega) (fun j hj => ?_)⟩
    · have : k = 0 := by omega
      subst this; rfl
    · have : k = 0 ∨ k = 1 := by omega
      rcases this with e | e <;> subst e
      · exact ⟨by decide, (show Sz 1 0 by decide).mono (by decide)⟩
      · exact ⟨by decide, (show Sz 1 1 by decide).mono (by decide)⟩
    · have : a 1 0 = 0 := by omega
      have : j = 0 ∨ j = 1 := by omega
      rcases this with e | e <;> subst e <;> simp [sm, tau] <;> omega
  · have s10 := hb 1 0 (by decide) (by decide)
    obtain ⟨rows', m1, w1⟩ := lo_w_step (f := 2) h (by decide) (l := 1) (by decide) (by decide) (sc := 1) (by decide) (show Sz 1 1 by decide) hb (by omega) (by rw [e1]; exact s10.mono (by decide))
    have st2 := st.trans (w1.trans (lo_w_stop (l := 0) m1 (by decide) (.inl rfl)))
    have mb := hb.el (l := 1) (out := sm (a 1) 1) (sc := 1) (by decide) (by rw [e1]; exact s10.mono (by decide)) (by decide)
    refine ⟨tau [sm (a 1) 1, a 0 1], rest_of m1 (by decide) mb (L := 0) (by decide) (by omega) st2 (fun k hk => by omega) rfl (fun k hk => ?_) (fun k h1 h2 => ?_) (fun j hj => ?_)⟩
    · have : k = 0 ∨ k = 1 := by omega
      rcases this with e | e <;> subst e
      · exact ⟨by show 0 ≤ sm (a 1) 1; omega, by show Sz 2300 (sm (a 1) 1); rw [e1]; exact s10.mono (by decide)⟩
      · exact ⟨p01, (hb 0 1 (by decide) (by decide)).mono (by decide)⟩
    · have : k = 1 := by omega
      subst this
      have z1 : ∀ o, elM a 1 o 1 1 0 = a 1 0 := fun o => by simp [elM]
      have z2 : ∀ o, elM a 1 o 1 0 1 = a 0 1 := fun o => by simp [elM]
      simp only [sm, z1, z2]
      refine ⟨by omega, ?_⟩
      simp [tau, e1]
      grind
    · have : j = 0 ∨ j = 1 := by omega
      rcases this with e | e <;> subst e <;> simp [sm, tau] <;> grind
end
end Wk
end
section
set_option Elab.async false
set_option linter.all false
set_option maxRecDepth 100000
namespace Wk
open PySem L2
section
variable {rows : List (List Int)} {a : Nat → Nat → Int}
theorem lt3 {k : Nat} (h : k < 3) : k = 0 ∨ k = 1 ∨ k = 2 := by omega
theorem lt4 {k : Nat} (h : k < 4) : k = 0 ∨ k = 1 ∨ k = 2 ∨ k = 3 := by omega
theorem rest3 (h : Mat 3 rows a) (h0 : ∀ i j, i < 3 → j < 3 → 0 ≤ a i j) (hb : MSz 204 3 a) : ∃ τ, RestOk 3 rows a τ := by
  have e2 : sm (a 2) 2 = a 2 0 + a 2 1 := by simp [sm]
  have p01 := h0 0 1 (by decide) (by decide)
  have p02 := h0 0 2 (by decide) (by decide)
  have p10 := h0 1 0 (by decide) (by decide)
  have p12 := h0 1 2 (by decide) (by decide)
  have p20 := h0 2 0 (by decide) (by decide)
  have p21 := h0 2 1 (by decide) (by decide)
  have z01 := hb 0 1 (by decide) (by decide)
  have z02 := hb 0 2 (by decide) (by decide)
  have z10 := hb 1 0 (by decide) (by decide)
  have z12 := hb 1 2 (by decide) (by decide)
  have z20 := hb 2 0 (by decide) (by decide)
  have z21 := hb 2 1 (by decide) (by decide)
  have st := lo_start h (by decide) (by decide)
  generalize hs : sm (a 2) 2 = s at *
  have zs : Sz 205 s := by rw [e2]; exact z20.add z21
  by_cases c : s ≤ 0
  · refine ⟨tau [0, 0, 1], rest_of h (by decide) hb (L := 2) (by decide) (by decide) (st.trans (lo_w_stop (l := 2) h (by decide) (.inr (by omega)))) (fun k hk => ?_) rfl (fun k hk => ?_) (fun k h1 h2 => by omega) (fun j hj => ?_)⟩
    · have : k = 0 ∨ k = 1 := by omega
      rcases this with e | e <;> subst e <;> rfl
    · rcases lt3 hk with e | e | e <;> subst e
      · exact ⟨by decide, (show Sz 1 0 by decide).mono (by decide)⟩
      · exact ⟨by decide, (show Sz 1 0 by decide).mono (by decide)⟩
      · exact ⟨by decide, (show Sz 1 1 by decide).mono (by decide)⟩
    · have : a 2 0 = 0 ∧ a 2 1 = 0 := by omega
      rcases lt3 hj with e | e | e <;> subst e <;> simp [sm, tau] <;> omega
  · have hsp : 0 < s := by omega
    obtain ⟨rows1, m1, w1⟩ := lo_w_step (f := 3) h (by decide) (l := 2) (by decide) (by decide) (sc := 1) (by decide) (show Sz 1 1 by decide) hb (by omega) (by rw [hs]; exact zs.mono (by decide))
    have mb1 := hb.el (l := 2) (out := sm (a 2) 2) (sc := 1) (by decide) (by rw [hs]; exact zs.mono (by decide)) (by decide)
    rw [hs] at m1 w1 mb1
    have v10 : elM a 2 s 1 1 0 = a 1 0 * s + a 1 2 * a 2 0 := by simp [elM]
    have v01 : elM a 2 s 1 0 1 = a 0 1 * s + a 0 2 * a 2 1 := by simp [elM]
    have v02 : elM a 2 s 1 0 2 = a 0 2 := by simp [elM]
    have v12 : elM a 2 s 1 1 2 = a 1 2 := by simp [elM]
    have v20 : elM a 2 s 1 2 0 = a 2 0 := by simp [elM]
    have v21 : elM a 2 s 1 2 1 = a 2 1 := by simp [elM]
    generalize hM : elM a 2 s 1 = M1 at *
    have f1 : sm (M1 1) 1 = M1 1 0 := by simp [sm]
    have b10 : Sz 411 (M1 1 0) := mb1 1 0 (by decide) (by decide)
    have b01 : Sz 411 (M1 0 1) := mb1 0 1 (by decide) (by decide)
    have n10 : 0 ≤ M1 1 0 := by
      rw [v10]
      have := Int.mul_nonneg p10 (Int.le_of_lt hsp)
      have := Int.mul_nonneg p12 p20
      omega
    have n01 : 0 ≤ M1 0 1 := by
      rw [v01]
      have := Int.mul_nonneg p01 (Int.le_of_lt hsp)
      have := Int.mul_nonneg p02 p21
      omega
    by_cases c2 : M1 1 0 ≤ 0
    · have q0 : a 1 0 * s + a 1 2 * a 2 0 = 0 := by omega
      refine ⟨tau [0, s, a 1 2], rest_of m1 (by decide) mb1 (L := 1) (by decide) hsp (st.trans (w1.trans (lo_w_stop (l := 1) m1 (by decide) (.inr (by omega))))) (fun k hk => ?_) rfl (fun k hk => ?_) (fun k h1 h2 => ?_) (fun j hj => ?_)⟩
      · have : k = 0 := by omega
        subst this; rfl
      · rcases lt3 hk with e | e | e <;> subst e
        · exact ⟨Int.le_refl 0, (show Sz 1 0 by decide).mono (by decide)⟩
        · exact ⟨Int.le_of_lt hsp, zs.mono (by decide)⟩
        · exact ⟨p12, z12.mono (by decide)⟩
      · have : k = 2 := by omega
        subst this
        simp only [sm, v20, v21, v02, v12]
        refine ⟨by omega, ?_⟩
        simp [tau, e2]
        grind
      · rcases lt3 hj with e | e | e <;> subst e <;> simp [sm, tau] <;> grind
    · obtain ⟨rows2, m2, w2⟩ := lo_w_step (f := 2) m1 (by decide) (l := 1) (by decide) (by decide) (sc := s) hsp (zs.mono (by decide) : Sz 300 s) mb1 (by omega) (by rw [f1]; exact b10.mono (by decide))
      have mb2 := mb1.el (l := 1) (out := sm (M1 1) 1) (sc := s) (by decide) (by rw [f1]; exact b10.mono (by decide)) hsp
      have st3 := st.trans (w1.trans (w2.trans (lo_w_stop (l := 0) m2 (by decide) (.inl rfl))))
      rw [f1] at m2 mb2 st3
      have u10 : elM M1 1 (M1 1 0) s 1 0 = M1 1 0 := by simp [elM]
      have u01 : elM M1 1 (M1 1 0) s 0 1 = M1 0 1 := by simp [elM]
      have u02 : elM M1 1 (M1 1 0) s 0 2 = a 0 2 := by simp [elM, v02]
      have u12 : elM M1 1 (M1 1 0) s 1 2 = a 1 2 := by simp [elM, v12]
      have u20 : elM M1 1 (M1 1 0) s 2 0 = a 2 0 := by simp [elM, v20]
      have u21 : elM M1 1 (M1 1 0) s 2 1 = a 2 1 := by simp [elM, v21]
      generalize hM2 : elM M1 1 (M1 1 0) s = M2 at *
      have n2 : 0 ≤ a 1 0 * a 0 2 + a 0 1 * a 1 2 + a 0 2 * a 1 2 := by
        have := Int.mul_nonneg p10 p02
        have := Int.mul_nonneg p01 p12
        have := Int.mul_nonneg p02 p12
        omega
      refine ⟨tau [M1 1 0, M1 0 1, a 1 0 * a 0 2 + a 0 1 * a 1 2 + a 0 2 * a 1 2], rest_of m2 (by decide) mb2 (L := 0) (by decide) (by omega) st3 (fun k hk => by omega) rfl (fun k hk => ?_) (fun k h1 h2 => ?_) (fun j hj => ?_)⟩
      · rcases lt3 hk with e | e | e <;> subst e
        · exact ⟨n10, b10.mono (by decide)⟩
        · exact ⟨n01, b01.mono (by decide)⟩
        · exact ⟨n2, (((z10.mul z02).add (z01.mul z12)).add ((z02.mul z12).mono (by decide))).mono (by decide)⟩
      · have : k = 1 ∨ k = 2 := by omega
        rcases this with e | e <;> subst e
        · simp only [sm, u10, u01]
          refine ⟨by omega, ?_⟩
          simp [tau]
          grind
        · simp only [sm, u20, u21, u02, u12]
          refine ⟨by omega, ?_⟩
          simp [tau, v10, v01]
          grind
      · rcases lt3 hj with e | e | e <;> subst e <;> simp [sm, tau, v10, v01] <;> grind
end
end Wk
end
section
set_option Elab.async false
set_option linter.all false
set_option maxRecDepth 100000
namespace Wk
open PySem L2
section
variable {rows : List (List Int)} {a : Nat → Nat → Int}
theorem nn_of {s q x : Int} (hs : 0 < s) (h : x = s * q) (hx : 0 ≤ x) : 0 ≤ q := by
  by_cases c : 0 ≤ q
  · exact c
  · have := Int.mul_neg_of_pos_of_neg hs (show q < 0 by omega)
    omega
theorem Sz.of_mul {n : Nat} {x t : Int} (ht : 0 < t) (h : Sz n (x * t)) : Sz n x := by
  unfold Sz at *
  rw [Int.natAbs_mul] at h
  have : x.natAbs * 1 ≤ x.natAbs * t.natAbs := Nat.mul_le_mul_left _ (by omega)
  omega
theorem bal4 {τ : Nat → Int} (b0 : τ 1 * a 1 0 + τ 2 * a 2 0 + τ 3 * a 3 0 = τ 0 * (a 0 1 + a 0 2 + a 0 3)) (b1 : τ 0 * a 0 1 + τ 2 * a 2 1 + τ 3 * a 3 1 = τ 1 * (a 1 0 + a 1 2 + a 1 3)) (b2 : τ 0 * a 0 2 + τ 1 * a 1 2 + τ 3 * a 3 2 = τ 2 * (a 2 0 + a 2 1 + a 2 3)) (b3 : τ 0 * a 0 3 + τ 1 * a 1 3 + τ 2 * a 2 3 = τ 3 * (a 3 0 + a 3 1 + a 3 2)) : Bal 4 a τ := fun j hj => by
  rcases lt4 hj with e | e | e | e <;> subst e <;> simp only [sm] <;> grind
theorem rest4 (h : Mat 4 rows a) (h0 : ∀ i j, i < 4 → j < 4 → 0 ≤ a i j) (hb : MSz 204 4 a) : ∃ τ, RestOk 4 rows a τ := by
  have e3 : sm (a 3) 3 = a 3 0 + a 3 1 + a 3 2 := by simp [sm]
  have p01 := h0 0 1 (by decide) (by decide)
  have p02 := h0 0 2 (by decide) (by decide)
  have p03 := h0 0 3 (by decide) (by decide)
  have p10 := h0 1 0 (by decide) (by decide)
  have p12 := h0 1 2 (by decide) (by decide)
  have p13 := h0 1 3 (by decide) (by decide)
  have p20 := h0 2 0 (by decide) (by decide)
  have p21 := h0 2 1 (by decide) (by decide)
  have p23 := h0 2 3 (by decide) (by decide)
  have p30 := h0 3 0 (by decide) (by decide)
  have p31 := h0 3 1 (by decide) (by decide)
  have p32 := h0 3 2 (by decide) (by decide)
  have z (i j : Nat) (hi : i < 4) (hj : j < 4) : Sz 204 (a i j) := hb i j hi hj
  have st := lo_start h (by decide) (by decide)
  generalize hs : sm (a 3) 3 = s at *
  have zs : Sz 206 s := by rw [← hs]; exact sm_sz (by decide) fun i hi => z 3 i (by decide) (by omega)
  by_cases c : s ≤ 0
  · refine ⟨tau [0, 0, 0, 1], rest_of h (by decide) hb (L := 3) (by decide) (by decide) (st.trans (lo_w_stop (l := 3) h (by decide) (.inr (by omega)))) (fun k hk => ?_) rfl (fun k hk => ?_) (fun k h1 h2 => by omega) (fun j hj => ?_)⟩
    · rcases lt3 hk with e | e | e <;> subst e <;> rfl
    · rcases lt4 hk with e | e | e | e <;> subst e
      · exact ⟨by decide, (show Sz 1 0 by decide).mono (by decide)⟩
      · exact ⟨by decide, (show Sz 1 0 by decide).mono (by decide)⟩
      · exact ⟨by decide, (show Sz 1 0 by decide).mono (by decide)⟩
      · exact ⟨by decide, (show Sz 1 1 by decide).mono (by decide)⟩
    · have : a 3 0 = 0 ∧ a 3 1 = 0 ∧ a 3 2 = 0 := by omega
      rcases lt4 hj with e | e | e | e <;> subst e <;> simp [sm, tau] <;> omega
  · have hsp : 0 < s := by omega
    obtain ⟨rows1, m1, w1⟩ := lo_w_step (f := 4) h (by decide) (l := 3) (by decide) (by decide) (sc := 1) (by decide) (show Sz 1 1 by decide) hb (by omega) (by rw [hs]; exact zs)
    have mb1 := hb.el (l := 3) (out := sm (a 3) 3) (sc := 1) (by decide) (by rw [hs]; exact zs) (by decide)
    rw [hs] at m1 w1 mb1
    have v01 : elM a 3 s 1 0 1 = a 0 1 * s + a 0 3 * a 3 1 := by simp [elM]
    have v02 : elM a 3 s 1 0 2 = a 0 2 * s + a 0 3 * a 3 2 := by simp [elM]
    have v10 : elM a 3 s 1 1 0 = a 1 0 * s + a 1 3 * a 3 0 := by simp [elM]
    have v12 : elM a 3 s 1 1 2 = a 1 2 * s + a 1 3 * a 3 2 := by simp [elM]
    have v20 : elM a 3 s 1 2 0 = a 2 0 * s + a 2 3 * a 3 0 := by simp [elM]
    have v21 : elM a 3 s 1 2 1 = a 2 1 * s + a 2 3 * a 3 1 := by simp [elM]
    have v03 : elM a 3 s 1 0 3 = a 0 3 := by simp [elM]
    have v13 : elM a 3 s 1 1 3 = a 1 3 := by simp [elM]
    have v23 : elM a 3 s 1 2 3 = a 2 3 := by simp [elM]
    have v30 : elM a 3 s 1 3 0 = a 3 0 := by simp [elM]
    have v31 : elM a 3 s 1 3 1 = a 3 1 := by simp [elM]
    have v32 : elM a 3 s 1 3 2 = a 3 2 := by simp [elM]
    generalize hM : elM a 3 s 1 = M1 at *
    have bz (i j : Nat) (hi : i < 4) (hj : j < 4) : Sz 411 (M1 i j) := mb1 i j hi hj
    have nn : ∀ {x y z : Int}, 0 ≤ x → 0 ≤ y → 0 ≤ z → 0 ≤ x * s + y * z := fun {x y z} hx hy hz => by
      have := Int.mul_nonneg hx (Int.le_of_lt hsp)
      have := Int.mul_nonneg hy hz
      omega
    have n01 : 0 ≤ M1 0 1 := by rw [v01]; exact nn p01 p03 p31
    have n02 : 0 ≤ M1 0 2 := by rw [v02]; exact nn p02 p03 p32
    have n10 : 0 ≤ M1 1 0 := by rw [v10]; exact nn p10 p13 p30
    have n12 : 0 ≤ M1 1 2 := by rw [v12]; exact nn p12 p13 p32
    have n20 : 0 ≤ M1 2 0 := by rw [v20]; exact nn p20 p23 p30
    have n21 : 0 ≤ M1 2 1 := by rw [v21]; exact nn p21 p23 p31
    have et : sm (M1 2) 2 = M1 2 0 + M1 2 1 := by simp [sm]
    generalize ht : sm (M1 2) 2 = t at *
    have zt : Sz 412 t := by rw [et]; exact (bz 2 0 (by decide) (by decide)).add (bz 2 1 (by decide) (by decide))
    by_cases c2 : t ≤ 0
    · have q0 : M1 2 0 = 0 ∧ M1 2 1 = 0 := by omega
      obtain ⟨q1, q2⟩ := q0
      rw [v20] at q1
      rw [v21] at q2
      refine ⟨tau [0, 0, s, a 2 3], rest_of m1 (by decide) mb1 (L := 2) (by decide) hsp (st.trans (w1.trans (lo_w_stop (l := 2) m1 (by decide) (.inr (by omega))))) (fun k hk => ?_) rfl (fun k hk => ?_) (fun k h1 h2 => ?_) (fun j hj => ?_)⟩
      · have : k = 0 ∨ k = 1 := by omega
        rcases this with e | e <;> subst e <;> rfl
      · rcases lt4 hk with e | e | e | e <;> subst e
        · exact ⟨Int.le_refl 0, (show Sz 1 0 by decide).mono (by decide)⟩
        · exact ⟨Int.le_refl 0, (show Sz 1 0 by decide).mono (by decide)⟩
        · exact ⟨Int.le_of_lt hsp, zs.mono (by decide)⟩
        · exact ⟨p23, (z 2 3 (by decide) (by decide)).mono (by decide)⟩
      · have : k = 3 := by omega
        subst this
        simp only [sm, v30, v31, v32, v03, v13, v23]
        refine ⟨by omega, ?_⟩
        simp [tau, e3]
        grind
      · obtain ⟨y0, y1, y2, y3⟩ := bal1_4 e3 q1 q2
        exact bal4 (by simp [tau]; exact y0) (by simp [tau]; exact y1) (by simp [tau]; exact y2) (by simp [tau]; exact y3) j hj
    · have htp : 0 < t := by omega
      have Q : Q4 (a 0 1) (a 0 2) (a 0 3) (a 1 0) (a 1 2) (a 1 3) (a 2 0) (a 2 1) (a 2 3) (a 3 0) (a 3 1) (a 3 2) s t (M1 0 1) (M1 0 2) (M1 1 0) (M1 1 2) (M1 2 0) (M1 2 1) _ _ _ _ _ := ⟨e3, v01, v02, v10, v12, v20, v21, et, rfl, rfl, rfl, rfl, rfl⟩
      obtain ⟨d1, d2, d3, d4, d5⟩ := Q.div
      have B3 := Q.bal3
      have B2 := Q.bal2
      generalize a 0 1 * t + a 0 3 * a 3 1 * (a 2 0 + a 2 1) + a 0 2 * M1 2 1 + a 0 3 * a 3 2 * a 2 1 + a 0 3 * a 3 1 * a 2 3 = q01 at *
      generalize a 1 0 * t + a 1 3 * a 3 0 * (a 2 0 + a 2 1) + a 1 2 * M1 2 0 + a 1 3 * a 3 2 * a 2 0 + a 1 3 * a 3 0 * a 2 3 = q10 at *
      generalize hx2 : a 1 0 * a 0 2 * s + a 1 0 * a 0 3 * a 3 2 + a 1 3 * a 3 0 * a 0 2 + a 0 1 * a 1 2 * s + a 0 1 * a 1 3 * a 3 2 + a 0 3 * a 3 1 * a 1 2 + a 0 2 * a 1 2 * s + a 0 2 * a 1 3 * a 3 2 + a 0 3 * a 3 2 * a 1 2 + a 0 3 * a 1 3 * a 3 2 = x2 at *
      generalize hx3 : (a 0 1 + a 0 2 + a 0 3) * (a 1 0 + a 1 2 + a 1 3) * (a 2 0 + a 2 1 + a 2 3) - (a 0 1 + a 0 2 + a 0 3) * a 1 2 * a 2 1 - (a 1 0 + a 1 2 + a 1 3) * a 0 2 * a 2 0 - (a 2 0 + a 2 1 + a 2 3) * a 0 1 * a 1 0 - a 0 1 * a 1 2 * a 2 0 - a 0 2 * a 1 0 * a 2 1 = x3 at *
      generalize hy3 : (a 2 0 + a 2 1) * a 1 3 + a 1 2 * a 2 3 + a 1 3 * a 2 3 = y3 at *
      clear Q
      obtain ⟨rows2, m2, w2⟩ := lo_w_step (f := 3) m1 (by decide) (l := 2) (by decide) (by decide) (sc := s) hsp zs mb1 (by omega) (by rw [ht]; exact zt.mono (by decide))
      have mb2 := mb1.el (l := 2) (out := sm (M1 2) 2) (sc := s) (by decide) (by rw [ht]; exact zt.mono (by decide)) hsp
      rw [ht] at m2 w2 mb2
      have w10 : elM M1 2 t s 1 0 = q10 := by
        simp [elM]
        rw [d1, Int.mul_ediv_cancel_left _ (by omega)]
      have w01 : elM M1 2 t s 0 1 = q01 := by
        simp [elM]
        rw [d2, Int.mul_ediv_cancel_left _ (by omega)]
      have w02 : elM M1 2 t s 0 2 = M1 0 2 := by simp [elM]
      have w12 : elM M1 2 t s 1 2 = M1 1 2 := by simp [elM]
      have w20 : elM M1 2 t s 2 0 = M1 2 0 := by simp [elM]
      have w21 : elM M1 2 t s 2 1 = M1 2 1 := by simp [elM]
      have w03 : elM M1 2 t s 0 3 = a 0 3 := by simp [elM, v03]
      have w13 : elM M1 2 t s 1 3 = a 1 3 := by simp [elM, v13]
      have w23 : elM M1 2 t s 2 3 = a 2 3 := by simp [elM, v23]
      have w30 : elM M1 2 t s 3 0 = a 3 0 := by simp [elM, v30]
      have w31 : elM M1 2 t s 3 1 = a 3 1 := by simp [elM, v31]
      have w32 : elM M1 2 t s 3 2 = a 3 2 := by simp [elM, v32]
      generalize hM2 : elM M1 2 t s = M2 at *
      have f2 : sm (M2 1) 1 = q10 := by simp [sm, w10]
      have nq10 : 0 ≤ q10 := nn_of hsp d1 (by have := Int.mul_nonneg n10 (Int.le_of_lt htp); have := Int.mul_nonneg n12 n20; omega)
      have nq01 : 0 ≤ q01 := nn_of hsp d2 (by have := Int.mul_nonneg n01 (Int.le_of_lt htp); have := Int.mul_nonneg n02 n21; omega)
      have zq10 : Sz 825 q10 := by rw [← w10]; exact mb2 1 0 (by decide) (by decide)
      have zq01 : Sz 825 q01 := by rw [← w01]; exact mb2 0 1 (by decide) (by decide)
      by_cases c3 : q10 ≤ 0
      · obtain ⟨y0, y1, y2, y3'⟩ := B2 (by omega)
        have ny3 : 0 ≤ y3 := nn_of hsp (d5.trans (Int.mul_comm _ _)) (by have := Int.mul_nonneg (Int.le_of_lt htp) p13; have := Int.mul_nonneg n12 p23; omega)
        have zy3 : Sz 700 y3 := Sz.of_mul hsp (by rw [← d5]; exact ((zt.mul (z 1 3 (by decide) (by decide))).add (((bz 1 2 (by decide) (by decide)).mul (z 2 3 (by decide) (by decide))).mono (by decide))).mono (by decide))
        refine ⟨tau [0, t, M1 1 2, y3], rest_of m2 (by decide) mb2 (L := 1) (by decide) htp (st.trans (w1.trans (w2.trans (lo_w_stop (l := 1) m2 (by decide) (.inr (by omega)))))) (fun k hk => ?_) rfl (fun k hk => ?_) (fun k h1 h2 => ?_) ?_⟩
        · have : k = 0 := by omega
          subst this; rfl
        · rcases lt4 hk with e | e | e | e <;> subst e
          · exact ⟨Int.le_refl 0, (show Sz 1 0 by decide).mono (by decide)⟩
          · exact ⟨Int.le_of_lt htp, zt.mono (by decide)⟩
          · exact ⟨n12, (bz 1 2 (by decide) (by decide)).mono (by decide)⟩
          · exact ⟨ny3, zy3.mono (by decide)⟩
        · have : k = 2 ∨ k = 3 := by omega
          rcases this with e | e <;> subst e
          · simp only [sm, w20, w21, w02, w12]
            refine ⟨by omega, ?_⟩
            simp [tau]
            rw [← et]; exact Int.mul_comm _ _
          · simp only [sm, w30, w31, w32, w03, w13, w23]
            refine ⟨by omega, ?_⟩
            simp [tau]
            rw [← e3]; exact d5
        · exact bal4 (by simp [tau]; exact y0) (by simp [tau]; exact y1) (by simp [tau]; exact y2) (by simp [tau]; exact y3')
      · obtain ⟨y0, y1, y2, y3'⟩ := B3
        have nx2 : 0 ≤ x2 := nn_of htp (d3.trans (Int.mul_comm _ _)) (by have := Int.mul_nonneg nq10 n02; have := Int.mul_nonneg nq01 n12; omega)
        have nx3 : 0 ≤ x3 := nn_of hsp (d4.trans (Int.mul_comm _ _)) (by have := Int.mul_nonneg nq10 p03; have := Int.mul_nonneg nq01 p13; have := Int.mul_nonneg nx2 p23; omega)
        have zx2 : Sz 1237 x2 := Sz.of_mul htp (by rw [← d3]; exact (zq10.mul (bz 0 2 (by decide) (by decide))).add (zq01.mul (bz 1 2 (by decide) (by decide))))
        have zx3 : Sz 1500 x3 := Sz.of_mul hsp (by rw [← d4]; exact (((zq10.mul (z 0 3 (by decide) (by decide))).add (zq01.mul (z 1 3 (by decide) (by decide)))).mono (by decide : _ ≤ 1441) |>.add ((zx2.mul (z 2 3 (by decide) (by decide))).mono (by decide))).mono (by decide))
        obtain ⟨rows3, m3, w3⟩ := lo_w_step (f := 2) m2 (by decide) (l := 1) (by decide) (by decide) (sc := t) htp zt mb2 (by omega) (by rw [f2]; exact zq10.mono (by decide))
        have mb3 := mb2.el (l := 1) (out := sm (M2 1) 1) (sc := t) (by decide) (by rw [f2]; exact zq10.mono (by decide)) htp
        have st4 := st.trans (w1.trans (w2.trans (w3.trans (lo_w_stop (l := 0) m3 (by decide) (.inl rfl)))))
        rw [f2] at m3 mb3 st4
        have u10 : elM M2 1 q10 t 1 0 = q10 := by simp [elM, w10]
        have u01 : elM M2 1 q10 t 0 1 = q01 := by simp [elM, w01]
        have u02 : elM M2 1 q10 t 0 2 = M1 0 2 := by simp [elM, w02]
        have u12 : elM M2 1 q10 t 1 2 = M1 1 2 := by simp [elM, w12]
        have u20 : elM M2 1 q10 t 2 0 = M1 2 0 := by simp [elM, w20]
        have u21 : elM M2 1 q10 t 2 1 = M1 2 1 := by simp [elM, w21]
        have u03 : elM M2 1 q10 t 0 3 = a 0 3 := by simp [elM, w03]
        have u13 : elM M2 1 q10 t 1 3 = a 1 3 := by simp [elM, w13]
        have u23 : elM M2 1 q10 t 2 3 = a 2 3 := by simp [elM, w23]
        have u30 : elM M2 1 q10 t 3 0 = a 3 0 := by simp [elM, w30]
        have u31 : elM M2 1 q10 t 3 1 = a 3 1 := by simp [elM, w31]
        have u32 : elM M2 1 q10 t 3 2 = a 3 2 := by simp [elM, w32]
        generalize hM3 : elM M2 1 q10 t = M3 at *
        refine ⟨tau [q10, q01, x2, x3], rest_of m3 (by decide) mb3 (L := 0) (by decide) (by omega) st4 (fun k hk => by omega) rfl (fun k hk => ?_) (fun k h1 h2 => ?_) ?_⟩
        · rcases lt4 hk with e | e | e | e <;> subst e
          · exact ⟨nq10, zq10.mono (by decide)⟩
          · exact ⟨nq01, zq01.mono (by decide)⟩
          · exact ⟨nx2, zx2.mono (by decide)⟩
          · exact ⟨nx3, zx3.mono (by decide)⟩
        · have : k = 1 ∨ k = 2 ∨ k = 3 := by omega
          rcases this with e | e | e <;> subst e
          · simp only [sm, u10, u01]
            refine ⟨by omega, ?_⟩
            simp [tau]
            exact Int.mul_comm _ _
          · simp only [sm, u20, u21, u02, u12]
            refine ⟨by omega, ?_⟩
            simp [tau]
            rw [← et]; exact d3
          · simp only [sm, u30, u31, u32, u03, u13, u23]
            refine ⟨by omega, ?_⟩
            simp [tau]
            rw [← e3]; exact d4
        · exact bal4 (by simp [tau]; exact y0) (by simp [tau]; exact y1) (by simp [tau]; exact y2) (by simp [tau]; exact y3')
end
end Wk
end
section
set_option Elab.async false
set_option linter.all false
set_option maxRecDepth 100000
namespace Wk
open PySem L2
theorem resting_ok {n : Nat} {rows : List (List Int)} {a : Nat → Nat → Int} (h : Mat n rows a) (h1 : 1 ≤ n) (h4 : n ≤ 4) (h0 : ∀ i j, i < n → j < n → 0 ≤ a i j) (hb : MSz 204 n a) : ∃ τ, RestOk n rows a τ := by
  have : n = 1 ∨ n = 2 ∨ n = 3 ∨ n = 4 := by omega
  rcases this with e | e | e | e <;> subst e
  · exact rest1 h hb
  · exact rest2 h h0 hb
  · exact rest3 h h0 hb
  · exact rest4 h h0 hb
theorem cat_loop {ρ : Type} {k : List (Int × Int) → R ρ} : ∀ {t : List (List (Int × Int))} {s : List (Int × Int)}, s.length + t.flatten.length ≤ 100000 → forC t (fun (s2 : (List (Int × Int))) (x3 : (List (Int × Int))) kn4 kb5 => (R.bind (catQ s2 x3) fun v_numbers_6 => (kn4 (v_numbers_6)))) k s = k (s ++ t.flatten)
  | [], s, _ => by rw [forC, List.flatten_nil, List.append_nil]
  | x :: r, s, h => by
    rw [List.flatten_cons, List.length_append] at h
    rw [forC, catQ_ok (by omega), bok]
    refine (cat_loop (t := r) (s := s ++ x) (by rw [List.length_append]; omega)).trans ?_
    rw [List.flatten_cons, List.append_assoc]
/-- the rates of a person's table -/
def rt (w : List (List (List (Int × Int)))) (p : Nat) (k : Int) (i j : Nat) : Int := (we w p i j).1 * (k / (we w p i j).2)
theorem rates_ok {cs : List Nat} {w : List (List (List (Int × Int)))} (h : Cs cs) (hw : Ws cs w) {p : Nat} (hp : p < cs.length) : ∃ table rows k, w[p]? = some table ∧ m_law_rates table = .ok rows ∧ Mat (mn cs p) rows (rt w p k) ∧ 0 < k ∧ (∀ i j, i < mn cs p → j < mn cs p → (we w p i j).2 ∣ k) ∧ (∀ i j, i < mn cs p → j < mn cs p → 0 ≤ rt w p k i j) ∧ MSz 204 (mn cs p) (rt w p k) := by
  have hm := h.mn_pos hp
  obtain ⟨table, row0, t1, _, _⟩ := we_get hw hp (a := 0) (by omega)
  obtain ⟨q1, q2⟩ := hw.2 p table t1
  have hfl : table.flatten.length ≤ 16 := by
    have : ∀ l : List (List (Int × Int)), (∀ row ∈ l, row.length ≤ 4) → l.flatten.length ≤ l.length * 4 := fun l => by
      induction l with
      | nil => intro _; simp
      | cons a r ih =>
        intro hl
        have := ih fun x hx => hl x (List.mem_cons_of_mem _ hx)
        have := hl a List.mem_cons_self
        rw [List.flatten_cons, List.length_append, List.length_cons]
        omega
    have := this table fun row hr => by rw [(q2 row hr).1]; exact hm.2
    omega
  have hx : ∀ x ∈ table.flatten, Wn x := fun x hx => by
    obtain ⟨row, hr, hx⟩ := List.mem_flatten.mp hx
    exact (q2 row hr).2 x hx
  have hn : Nums 200 table.flatten := fun x h => (hx x h).nums
  have h12 : ∀ x ∈ table.flatten, x.2 ∣ 12 := fun x h => by
    have h1 := (hx x h).d0
    have h2 := (hx x h).d4
    have : x.2 = 1 ∨ x.2 = 2 ∨ x.2 = 3 ∨ x.2 = 4 := by omega
    rcases this with e | e | e | e <;> rw [e] <;> decide
  obtain ⟨k1, k2, k3⟩ := common12 hn h12
  have ent : ∀ i j, i < mn cs p → j < mn cs p → ∃ row, table[i]? = some row ∧ row.length = mn cs p ∧ row[j]? = some (we w p i j) ∧ Wn (we w p i j) ∧ we w p i j ∈ table.flatten := fun i j hi hj => by
    obtain ⟨table', row, e1, e2, e3, e4, e5⟩ := we_get hw hp hi
    rw [t1] at e1; cases e1
    obtain ⟨f1, f2, _⟩ := e5 j hj
    exact ⟨row, e2, e3, f1, f2, List.mem_flatten.mpr ⟨row, List.mem_of_getElem? e2, List.mem_of_getElem? f1⟩⟩
  refine ⟨table, table.map fun row => scaledL row (commonL table.flatten), commonL table.flatten, t1, ?_, ⟨by rw [List.length_map]; exact q1, fun i hi => ?_⟩, k1, fun i j hi hj => ?_, fun i j hi hj => ?_, fun i j hi hj => ?_⟩
  · rw [m_law_rates, bok, bok, cat_loop (by rw [List.length_nil]; omega), List.nil_append, common_ok hn (by decide) (by omega), bok]
    exact comp_ok _ (by omega) fun row hr => scaled_ok (fun x hx => ((q2 row hr).2 x hx).nums) (show Sz 4 _ from Sz.of_nat 12 (by omega)) (by rw [(q2 row hr).1]; omega) (by decide) (by decide)
  · obtain ⟨row, e1, e2, _⟩ := ent i 0 hi (by omega)
    refine ⟨scaledL row (commonL table.flatten), by rw [List.getElem?_map, e1]; rfl, by unfold scaledL; rw [List.length_map]; exact e2, fun j hj => ?_⟩
    obtain ⟨row', f1, f2, f3, _⟩ := ent i j hi hj
    rw [e1] at f1; cases f1
    unfold scaledL
    rw [List.getElem?_map, f3]; rfl
  · obtain ⟨row, e1, e2, e3, e4, e5⟩ := ent i j hi hj
    exact k3 _ e5
  · obtain ⟨row, e1, e2, e3, e4, e5⟩ := ent i j hi hj
    exact Int.mul_nonneg e4.n0 (Int.ediv_nonneg (by omega) (by have := e4.d0; omega))
  · obtain ⟨row, e1, e2, e3, e4, e5⟩ := ent i j hi hj
    exact e4.ns.mul ((show Sz 4 (commonL table.flatten) from Sz.of_nat 12 (by omega)).ediv (by have := e4.d0; omega))
end Wk
end
section
set_option Elab.async false
set_option linter.all false
set_option maxRecDepth 100000
namespace Wk
open PySem L2
/-! ### shares -/
theorem nf_one : nf 1 = (1, 1) := rfl
theorem eqv_nums (x y : Int × Int) : PyData.eqv (ToPd.pd x) (ToPd.pd y) = decide (x = y) := by
  obtain ⟨a, b⟩ := x
  obtain ⟨c, d⟩ := y
  show PyData.eqv (.tuple [.int a, .int b]) (.tuple [.int c, .int d]) = _
  simp only [PyData.eqv, PyData.eqvAll, Bool.and_true, Prod.mk.injEq]
  by_cases h1 : a = c
  · by_cases h2 : b = d
    · subst h1 h2; simp
    · simp [h1, h2]
  · simp [h1]
theorem is_shares_ok {x : List (Int × Int)} {c : Nat} {m : Int} (h : Nums c x) (hm : 0 < m) (hc : Sz c m) (hd : ∀ y ∈ x, y.2 ∣ m) (hl : x.length ≤ 20) (hc9 : c < 9000 := by decide) (hc1 : 1 ≤ c := by decide) : m_is_shares x = .ok (decide ((∀ y ∈ x, 0 ≤ y.1) ∧ qsum x = 1)) := by
  have key := forC_exit (ρ := Bool) (xs := x) (body := fun (s1 : Unit) (x2 : (Int × Int)) kn3 kb4 => (R.bind (.ok (decide (x2.1 < (0 : Int)))) fun b5 => if b5 = true then (.ok false) else (kn3 ())))
    (k := fun (s6 : Unit) => (R.bind (m_plus x) fun r7 => (.ok (PyData.eqv (ToPd.pd r7) (ToPd.pd ((1, 1) : Int × Int)))))) (X := .ok false) (good := fun y => 0 ≤ y.1) (fun y hy hg kn kb => by rw [bok, decide_eq_false (show ¬ y.1 < 0 by omega)]; simp) (fun y hy hg kn kb => by rw [bok, decide_eq_true (show y.1 < 0 by omega)]; simp)
  rw [m_is_shares, bok]
  by_cases g : ∀ y ∈ x, 0 ≤ y.1
  · rw [show forC _ _ _ _ = _ from key.1 g, plus_okD h hm hc hd hl hc9 hc1, bok, eqv_nums]
    congr 1
    by_cases q : qsum x = 1
    · rw [q, nf_one, decide_eq_true rfl, decide_eq_true ⟨g, rfl⟩]
    · rw [decide_eq_false (fun z => q (nf_inj (z.trans nf_one.symm))), decide_eq_false (fun z => q z.2)]
  · rw [show forC _ _ _ _ = _ from key.2 g, decide_eq_false (fun z => g z.1)]
end Wk
end
section
set_option Elab.async false
set_option linter.all false
set_option maxRecDepth 100000
namespace Wk
open PySem L2
def oth (n s : Nat) : List Nat := (List.range n).filter fun k => !decide (k = s)
theorem sum_oth {f : Nat → Int} {s : Nat} : ∀ {n : Nat}, s < n → ((oth n s).map f).sum = sm f n - f s := by
  have none : ∀ {n : Nat}, n ≤ s → ((oth n s).map f).sum = sm f n := fun {n} => by
    induction n with
    | zero => intro _; rfl
    | succ n ih =>
      intro h
      have e : oth (n + 1) s = oth n s ++ [n] := by
        unfold oth
        rw [List.range_succ, List.filter_append]
        simp
        omega
      rw [e, List.map_append, List.sum_append, ih (by omega), sm]
      simp
  intro n
  induction n with
  | zero => intro h; omega
  | succ n ih =>
    intro h
    by_cases q : s = n
    · subst q
      have e : oth (s + 1) s = oth s s := by
        unfold oth
        rw [List.range_succ, List.filter_append]
        simp
      rw [e, none (Nat.le_refl _), sm]
      omega
    · have e : oth (n + 1) s = oth n s ++ [n] := by
        unfold oth
        rw [List.range_succ, List.filter_append]
        simp
        omega
      rw [e, List.map_append, List.sum_append, ih (by omega), sm]
      simp
      omega
theorem oth_ok {n s : Nat} (hn : n ≤ 1000) : (R.bind (rangeQ 0 (n : Int)) fun r10 => (compIf r10 (fun (x9 : Int) => (.ok (!decide (x9 = (s : Int))))) (fun (x9 : Int) => (.ok x9)))) = .ok ((oth n s).map fun (k : Nat) => (k : Int)) := by
  rw [rangeQ_ok (by omega), bok, compIf_ok (fun x : Int => !decide (x = (s : Int))) (fun x => x) (by rw [iota_length]; omega) (fun x _ => rfl) (fun x _ _ => rfl)]
  unfold iota oth
  rw [List.filter_map, List.map_map]
  congr 2
  apply List.filter_congr
  intro k _
  simp
  omega
theorem oth_lt {n s k : Nat} (h : k ∈ oth n s) : k < n := by
  unfold oth at h
  rw [List.mem_filter] at h
  exact List.mem_range.mp h.1
end Wk
end
section
set_option Elab.async false
set_option linter.all false
set_option maxRecDepth 100000
namespace Wk
open PySem L2
theorem sm_mul {f : Nat → Int} {c : Int} : ∀ {n : Nat}, sm (fun i => c * f i) n = c * sm f n
  | 0 => by simp [sm]
  | n + 1 => by rw [sm, sm, sm_mul, Int.mul_add]
/-- the balance at a state -/
def BalAt (n : Nat) (a : Nat → Nat → Int) (τ : Nat → Int) (s : Nat) : Prop := τ s * (sm (a s) n - a s s) = sm (fun i => τ i * a i s) n - τ s * a s s
instance {n : Nat} {a : Nat → Nat → Int} {τ : Nat → Int} {s : Nat} : Decidable (BalAt n a τ s) := inferInstanceAs (Decidable (_ = _))
theorem BalAt.of {n : Nat} {a : Nat → Nat → Int} {τ : Nat → Int} (h : Bal n a τ) {s : Nat} (hs : s < n) : BalAt n a τ s := by
  unfold BalAt
  rw [h s hs, Int.mul_sub]
theorem map_int {f : Nat → Int} {l : List Nat} : (l.map fun (k : Nat) => (k : Int)).map (fun x : Int => f x.toNat) = l.map f := by
  rw [List.map_map]; apply List.map_congr_left; intro k _; simp
section
variable {n b c : Nat} {rows : List (List Int)} {a : Nat → Nat → Int} {H : List Int} {τ : Nat → Int} (h : Mat n rows a) (hn : n ≤ 4) (hb : MSz b n a) (hH : ∀ i, i < n → H[i]? = some (τ i)) (hz : ∀ i, i < n → Sz c (τ i)) (hbc : c + b + 2 < 900000)
include h hn hb hH hz hbc
theorem coming_ok {s : Nat} (hs : s < n) : comp ((oth n s).map fun (k : Nat) => (k : Int)) (fun (x18 : Int) => (R.bind (ixQ H x18) fun r20 => (R.bind (R.bind (ixQ rows x18) fun r19 => (ixQ r19 (s : Int))) fun r21 => (mulQ r20 r21)))) = .ok ((oth n s).map fun k => τ k * a k s) := by
  have hl : (oth n s).length ≤ n := by
    have := List.length_filter_le (fun k => !decide (k = s)) (List.range n)
    rw [List.length_range] at this
    exact this
  rw [comp_ok (fun x : Int => τ x.toNat * a x.toNat s) (by rw [List.length_map]; omega) fun x hx => ?_]
  · congr 1; exact map_int (f := fun k => τ k * a k s)
  · obtain ⟨k, hk, e⟩ := List.mem_map.mp hx
    subst e
    have := oth_lt hk
    rw [ixQ_some (hH k this), bok, h.ix this hs, bok, mulQ_ok (hz k this) (hb k s this hs) (by omega)]
    simp
theorem leavingL_ok {s : Nat} (hs : s < n) : comp ((oth n s).map fun (k : Nat) => (k : Int)) (fun (x12 : Int) => (R.bind (ixQ H (s : Int)) fun r14 => (R.bind (R.bind (ixQ rows (s : Int)) fun r13 => (ixQ r13 x12)) fun r15 => (mulQ r14 r15)))) = .ok ((oth n s).map fun k => τ s * a s k) := by
  have hl : (oth n s).length ≤ n := by
    have := List.length_filter_le (fun k => !decide (k = s)) (List.range n)
    rw [List.length_range] at this
    exact this
  rw [comp_ok (fun x : Int => τ s * a s x.toNat) (by rw [List.length_map]; omega) fun x hx => ?_]
  · congr 1; exact map_int (f := fun k => τ s * a s k)
  · obtain ⟨k, hk, e⟩ := List.mem_map.mp hx
    subst e
    have := oth_lt hk
    rw [ixQ_some (hH s hs), bok, h.ix hs this, bok, mulQ_ok (hz s hs) (hb s k hs this) (by omega)]
    simp
omit hH hz in
theorem rowsum_ok {s : Nat} (hs : s < n) : comp ((oth n s).map fun (k : Nat) => (k : Int)) (fun (x12 : Int) => (R.bind (ixQ rows (s : Int)) fun r13 => (ixQ r13 x12))) = .ok ((oth n s).map fun k => a s k) := by
  have hl : (oth n s).length ≤ n := by
    have := List.length_filter_le (fun k => !decide (k = s)) (List.range n)
    rw [List.length_range] at this
    exact this
  rw [comp_ok (fun x : Int => a s x.toNat) (by rw [List.length_map]; omega) fun x hx => ?_]
  · congr 1; exact map_int (f := fun k => a s k)
  · obtain ⟨k, hk, e⟩ := List.mem_map.mp hx
    subst e
    have := oth_lt hk
    rw [h.ix hs this]
    simp
end
end Wk
end
section
set_option Elab.async false
set_option linter.all false
set_option maxRecDepth 100000
namespace Wk
open PySem L2
/-- what is held of the shares x -/
def hld (x : List (Int × Int)) (k : Nat) : Int := (scaledL x (commonL x)).getD k 0
section
variable {n b c : Nat} {rows : List (List Int)} {a : Nat → Nat → Int} {H : List Int} {τ : Nat → Int} (h : Mat n rows a) (hn : n ≤ 4) (hb : MSz b n a) (hH : ∀ i, i < n → H[i]? = some (τ i)) (hz : ∀ i, i < n → Sz c (τ i)) (hbc : c + b + 2 < 900000)
include h hn hb hH hz hbc
/-- both loops over the states -/
theorem loopL_ok (hl : H.length = n) : (R.bind (rangeQ 0 (H.length : Int)) fun xs26 => forC xs26 (fun (s5 : Unit) (x6 : Int) kn7 kb8 => (R.bind (R.bind (rangeQ 0 (H.length : Int)) fun r10 => (compIf r10 (fun (x9 : Int) => (.ok (!decide (x9 = x6)))) (fun (x9 : Int) => (.ok x9)))) fun v_others_11 => (R.bind (R.bind (comp v_others_11 (fun (x12 : Int) => (R.bind (ixQ H x6) fun r14 => (R.bind (R.bind (ixQ rows x6) fun r13 => (ixQ r13 x12)) fun r15 => (mulQ r14 r15))))) fun r16 => (.ok r16.sum)) fun v_leaving_17 => (R.bind (R.bind (R.bind (comp v_others_11 (fun (x18 : Int) => (R.bind (ixQ H x18) fun r20 => (R.bind (R.bind (ixQ rows x18) fun r19 => (ixQ r19 x6)) fun r21 => (mulQ r20 r21))))) fun r22 => (.ok r22.sum)) fun r23 => (.ok (!decide (v_leaving_17 = r23)))) fun b24 => if b24 = true then (.ok false) else (kn7 ()))))) (fun (s25 : Unit) => (R.ok true)) ()) = .ok (decide (∀ s, s < n → BalAt n a τ s)) := by
  have step : ∀ s, s < n → ∀ (kn : Unit → R Bool), (R.bind (R.bind (rangeQ 0 (H.length : Int)) fun r10 => (compIf r10 (fun (x9 : Int) => (.ok (!decide (x9 = (s : Int))))) (fun (x9 : Int) => (.ok x9)))) fun v_others_11 => (R.bind (R.bind (comp v_others_11 (fun (x12 : Int) => (R.bind (ixQ H (s : Int)) fun r14 => (R.bind (R.bind (ixQ rows (s : Int)) fun r13 => (ixQ r13 x12)) fun r15 => (mulQ r14 r15))))) fun r16 => (.ok r16.sum)) fun v_leaving_17 => (R.bind (R.bind (R.bind (comp v_others_11 (fun (x18 : Int) => (R.bind (ixQ H x18) fun r20 => (R.bind (R.bind (ixQ rows x18) fun r19 => (ixQ r19 (s : Int))) fun r21 => (mulQ r20 r21))))) fun r22 => (.ok r22.sum)) fun r23 => (.ok (!decide (v_leaving_17 = r23)))) fun b24 => if b24 = true then (.ok false) else (kn ())))) = if BalAt n a τ s then kn () else .ok false := fun s hs kn => by
    rw [hl, oth_ok (by omega), bok, leavingL_ok h hn hb hH hz hbc hs, bok, bok, coming_ok h hn hb hH hz hbc hs, bok, bok, bok, sum_oth hs, sum_oth hs, sm_mul]
    by_cases q : BalAt n a τ s
    · have q2 : τ s * sm (a s) n - τ s * a s s = sm (fun i => τ i * a i s) n - τ s * a s s := by unfold BalAt at q; rw [← q, Int.mul_sub]
      rw [decide_eq_true q2, if_pos q]; rfl
    · have q2 : ¬ (τ s * sm (a s) n - τ s * a s s = sm (fun i => τ i * a i s) n - τ s * a s s) := fun z => q (by unfold BalAt; rw [Int.mul_sub]; exact z)
      rw [decide_eq_false q2, if_neg q]; rfl
  rw [hl]
  refine bind_eq (rangeQ_ok (n := n) (by omega)) ?_
  rw [hl] at step
  have key := forC_exit (ρ := Bool) (xs := iota n) (body := fun (s5 : Unit) (x6 : Int) kn7 kb8 => (R.bind (R.bind (rangeQ 0 (n : Int)) fun r10 => (compIf r10 (fun (x9 : Int) => (.ok (!decide (x9 = x6)))) (fun (x9 : Int) => (.ok x9)))) fun v_others_11 => (R.bind (R.bind (comp v_others_11 (fun (x12 : Int) => (R.bind (ixQ H x6) fun r14 => (R.bind (R.bind (ixQ rows x6) fun r13 => (ixQ r13 x12)) fun r15 => (mulQ r14 r15))))) fun r16 => (.ok r16.sum)) fun v_leaving_17 => (R.bind (R.bind (R.bind (comp v_others_11 (fun (x18 : Int) => (R.bind (ixQ H x18) fun r20 => (R.bind (R.bind (ixQ rows x18) fun r19 => (ixQ r19 x6)) fun r21 => (mulQ r20 r21))))) fun r22 => (.ok r22.sum)) fun r23 => (.ok (!decide (v_leaving_17 = r23)))) fun b24 => if b24 = true then (.ok false) else (kn7 ())))))
    (k := fun (s25 : Unit) => (R.ok true)) (X := .ok false) (good := fun x => BalAt n a τ x.toNat) (fun x hx hg kn kb => by
      obtain ⟨s, hs, e⟩ := List.mem_iff_getElem.mp hx
      rw [iota_get] at e
      subst e
      rw [step s (by simpa using hs) kn, if_pos (by simpa using hg)]) (fun x hx hg kn kb => by
      obtain ⟨s, hs, e⟩ := List.mem_iff_getElem.mp hx
      rw [iota_get] at e
      subst e
      rw [step s (by simpa using hs) kn, if_neg (by simpa using hg)])
  by_cases g : ∀ s, s < n → BalAt n a τ s
  · rw [show forC _ _ _ _ = _ from key.1 (fun x hx => by
      obtain ⟨s, hs, e⟩ := List.mem_iff_getElem.mp hx
      rw [iota_get] at e
      subst e
      exact g s (by simpa using hs)), decide_eq_true g]
  · rw [show forC _ _ _ _ = _ from key.2 (fun z => g fun s hs => by
      have := z (s : Int) (List.mem_iff_getElem.mpr ⟨s, by simpa using hs, iota_get _⟩)
      simpa using this), decide_eq_false g]
end
end Wk
end
section
set_option Elab.async false
set_option linter.all false
set_option maxRecDepth 100000
namespace Wk
open PySem L2
section
variable {n b c : Nat} {rows : List (List Int)} {a : Nat → Nat → Int} {H : List Int} {τ : Nat → Int} (h : Mat n rows a) (hn : n ≤ 4) (hb : MSz b n a) (hH : ∀ i, i < n → H[i]? = some (τ i)) (hz : ∀ i, i < n → Sz c (τ i)) (hbc : c + b + 2 < 900000)
include h hn hb hH hz hbc
theorem loopR_ok : (R.bind (rangeQ 0 (rows.length : Int)) fun xs26 => forC xs26 (fun (s5 : Unit) (x6 : Int) kn7 kb8 => (R.bind (R.bind (rangeQ 0 (rows.length : Int)) fun r10 => (compIf r10 (fun (x9 : Int) => (.ok (!decide (x9 = x6)))) (fun (x9 : Int) => (.ok x9)))) fun v_others_11 => (R.bind (R.bind (ixQ H x6) fun r15 => (R.bind (R.bind (comp v_others_11 (fun (x12 : Int) => (R.bind (ixQ rows x6) fun r13 => (ixQ r13 x12)))) fun r14 => (.ok r14.sum)) fun r16 => (mulQ r15 r16))) fun v_leaving_17 => (R.bind (R.bind (R.bind (comp v_others_11 (fun (x18 : Int) => (R.bind (ixQ H x18) fun r20 => (R.bind (R.bind (ixQ rows x18) fun r19 => (ixQ r19 x6)) fun r21 => (mulQ r20 r21))))) fun r22 => (.ok r22.sum)) fun r23 => (.ok (!decide (v_leaving_17 = r23)))) fun b24 => if b24 = true then (.ok false) else (kn7 ()))))) (fun (s25 : Unit) => (R.ok true)) ()) = .ok (decide (∀ s, s < n → BalAt n a τ s)) := by
  rw [h.len]
  have step : ∀ s, s < n → ∀ (kn : Unit → R Bool), (R.bind (R.bind (rangeQ 0 (n : Int)) fun r10 => (compIf r10 (fun (x9 : Int) => (.ok (!decide (x9 = (s : Int))))) (fun (x9 : Int) => (.ok x9)))) fun v_others_11 => (R.bind (R.bind (ixQ H (s : Int)) fun r15 => (R.bind (R.bind (comp v_others_11 (fun (x12 : Int) => (R.bind (ixQ rows (s : Int)) fun r13 => (ixQ r13 x12)))) fun r14 => (.ok r14.sum)) fun r16 => (mulQ r15 r16))) fun v_leaving_17 => (R.bind (R.bind (R.bind (comp v_others_11 (fun (x18 : Int) => (R.bind (ixQ H x18) fun r20 => (R.bind (R.bind (ixQ rows x18) fun r19 => (ixQ r19 (s : Int))) fun r21 => (mulQ r20 r21))))) fun r22 => (.ok r22.sum)) fun r23 => (.ok (!decide (v_leaving_17 = r23)))) fun b24 => if b24 = true then (.ok false) else (kn ())))) = if BalAt n a τ s then kn () else .ok false := fun s hs kn => by
    have sz : Sz (b + 3) (sm (a s) n - a s s) := Sz.sub (sm_sz hn fun i hi => hb s i hs hi) ((hb s s hs hs).mono (by omega))
    rw [oth_ok (by omega), bok, ixQ_some (hH s hs), bok, rowsum_ok h hn hb hbc hs, bok, bok, sum_oth hs, mulQ_ok (hz s hs) sz (by omega), bok, coming_ok h hn hb hH hz hbc hs, bok, bok, bok, sum_oth hs]
    by_cases q : BalAt n a τ s
    · have q2 : τ s * (sm (a s) n - a s s) = sm (fun i => τ i * a i s) n - τ s * a s s := q
      rw [decide_eq_true q2, if_pos q]; rfl
    · have q2 : ¬ (τ s * (sm (a s) n - a s s) = sm (fun i => τ i * a i s) n - τ s * a s s) := q
      rw [decide_eq_false q2, if_neg q]; rfl
  refine bind_eq (rangeQ_ok (n := n) (by omega)) ?_
  have key := forC_exit (ρ := Bool) (xs := iota n) (body := fun (s5 : Unit) (x6 : Int) kn7 kb8 => (R.bind (R.bind (rangeQ 0 (n : Int)) fun r10 => (compIf r10 (fun (x9 : Int) => (.ok (!decide (x9 = x6)))) (fun (x9 : Int) => (.ok x9)))) fun v_others_11 => (R.bind (R.bind (ixQ H x6) fun r15 => (R.bind (R.bind (comp v_others_11 (fun (x12 : Int) => (R.bind (ixQ rows x6) fun r13 => (ixQ r13 x12)))) fun r14 => (.ok r14.sum)) fun r16 => (mulQ r15 r16))) fun v_leaving_17 => (R.bind (R.bind (R.bind (comp v_others_11 (fun (x18 : Int) => (R.bind (ixQ H x18) fun r20 => (R.bind (R.bind (ixQ rows x18) fun r19 => (ixQ r19 x6)) fun r21 => (mulQ r20 r21))))) fun r22 => (.ok r22.sum)) fun r23 => (.ok (!decide (v_leaving_17 = r23)))) fun b24 => if b24 = true then (.ok false) else (kn7 ())))))
    (k := fun (s25 : Unit) => (R.ok true)) (X := .ok false) (good := fun x => BalAt n a τ x.toNat) (fun x hx hg kn kb => by
      obtain ⟨s, hs, e⟩ := List.mem_iff_getElem.mp hx
      rw [iota_get] at e
      subst e
      rw [step s (by simpa using hs) kn, if_pos (by simpa using hg)]) (fun x hx hg kn kb => by
      obtain ⟨s, hs, e⟩ := List.mem_iff_getElem.mp hx
      rw [iota_get] at e
      subst e
      rw [step s (by simpa using hs) kn, if_neg (by simpa using hg)])
  by_cases g : ∀ s, s < n → BalAt n a τ s
  · rw [show forC _ _ _ _ = _ from key.1 (fun x hx => by
      obtain ⟨s, hs, e⟩ := List.mem_iff_getElem.mp hx
      rw [iota_get] at e
      subst e
      exact g s (by simpa using hs)), decide_eq_true g]
  · rw [show forC _ _ _ _ = _ from key.2 (fun z => g fun s hs => by
      have := z (s : Int) (List.mem_iff_getElem.mpr ⟨s, by simpa using hs, iota_get _⟩)
      simpa using this), decide_eq_false g]
end
end Wk
end
section
set_option Elab.async false
set_option linter.all false
set_option maxRecDepth 100000
namespace Wk
open PySem L2
/-- shares: none below nought, their sum one -/
def Shr (x : List (Int × Int)) : Prop := (∀ y ∈ x, 0 ≤ y.1) ∧ qsum x = 1
instance {x : List (Int × Int)} : Decidable (Shr x) := inferInstanceAs (Decidable (_ ∧ _))
theorem hld_get {x : List (Int × Int)} {i : Nat} (hi : i < x.length) : (scaledL x (commonL x))[i]? = some (hld x i) := by
  unfold hld
  have h2 : i < (scaledL x (commonL x)).length := by unfold scaledL; rw [List.length_map]; exact hi
  rw [List.getD_eq_getElem?_getD, List.getElem?_eq_getElem h2]; rfl
theorem hld_eq {x : List (Int × Int)} {i : Nat} {y : Int × Int} (hi : x[i]? = some y) : hld x i = y.1 * (commonL x / y.2) := by
  unfold hld scaledL
  rw [List.getD_eq_getElem?_getD, List.getElem?_map, hi]; rfl
theorem min_neg {xs : List Int} (h : xs ≠ []) : ∃ m, minQ xs = .ok m ∧ (m < 0 ↔ ∃ b ∈ xs, b < 0) := by
  unfold minQ minR
  cases e : xs.min? with
  | none => exact absurd (List.min?_eq_none_iff.mp e) h
  | some m =>
    refine ⟨m, rfl, ?_⟩
    obtain ⟨h1, h2⟩ := List.min?_eq_some_iff.mp e
    exact ⟨fun hm => ⟨m, h1, hm⟩, fun ⟨b, hb, hb0⟩ => by have := h2 b hb; omega⟩
theorem scaled_sum {k : Int} : ∀ {x : List (Int × Int)}, (∀ y ∈ x, y.2 ∣ k ∧ 0 < y.2) → (((scaledL x k).sum : Int) : Rat) = (k : Rat) * qsum x
  | [], _ => by simp [scaledL, qsum]
  | y :: r, h => by
    have ih := scaled_sum (k := k) (x := r) fun z hz => h z (List.mem_cons_of_mem _ hz)
    obtain ⟨h1, h2⟩ := h y List.mem_cons_self
    have := cast_ne h2
    unfold scaledL at ih ⊢
    rw [List.map_cons, List.sum_cons, Rat.intCast_add, ih, qsum, Rat.intCast_mul, ediv_cast h2 h1, qv]
    grind
theorem Sz.hld {c : Nat} {x : List (Int × Int)} (hx : Nums c x) {i : Nat} (hi : i < x.length) : Sz (c + (1 + x.length * c)) (hld x i) := by
  obtain ⟨q1, q2, q3, q4⟩ := lcmL_facts hx (show (0 : Int) < 1 by decide) (show Sz 1 1 by decide)
  rw [hld_eq (List.getElem?_eq_getElem hi)]
  obtain ⟨h1, h2, h3⟩ := hx _ (List.getElem_mem hi)
  exact h1.mul (q2.ediv h3)
theorem held_neg {c : Nat} {x : List (Int × Int)} (hx : Nums c x) : (∃ b ∈ scaledL x (commonL x), b < 0) ↔ ¬ ∀ y ∈ x, 0 ≤ y.1 := by
  obtain ⟨q1, q2, q3, q4⟩ := lcmL_facts hx (show (0 : Int) < 1 by decide) (show Sz 1 1 by decide)
  have pos : ∀ y ∈ x, 0 < commonL x / y.2 := fun y hy => Int.ediv_pos_of_pos_of_dvd q1 (by have := (hx y hy).2.2; omega) (q4 y hy)
  constructor
  · rintro ⟨b, hb, hb0⟩ h
    obtain ⟨y, hy, e⟩ := List.mem_map.mp hb
    have := Int.mul_nonneg (h y hy) (Int.le_of_lt (pos y hy))
    omega
  · intro h
    by_cases g : ∃ y ∈ x, y.1 < 0
    · obtain ⟨y, hy, h0⟩ := g
      exact ⟨_, List.mem_map.mpr ⟨y, hy, rfl⟩, Int.mul_neg_of_neg_of_pos h0 (pos y hy)⟩
    · refine absurd (fun y hy => ?_) h
      by_cases g2 : 0 ≤ y.1
      · exact g2
      · exact absurd ⟨y, hy, by omega⟩ g
theorem held_sum {c : Nat} {x : List (Int × Int)} (hx : Nums c x) : (scaledL x (commonL x)).sum = commonL x ↔ qsum x = 1 := by
  obtain ⟨q1, q2, q3, q4⟩ := lcmL_facts hx (show (0 : Int) < 1 by decide) (show Sz 1 1 by decide)
  have e := scaled_sum (k := commonL x) (x := x) fun y hy => ⟨q4 y hy, (hx y hy).2.2⟩
  have k0 : ((commonL x : Int) : Rat) ≠ 0 := cast_ne q1
  constructor
  · intro h
    rw [h] at e
    grind
  · intro h
    rw [h] at e
    apply Rat.intCast_inj.mp
    grind
section
variable {n b c : Nat} {rows : List (List Int)} {a : Nat → Nat → Int} {x : List (Int × Int)} (h : Mat n rows a) (hn1 : 1 ≤ n) (hn : n ≤ 4) (hb : MSz b n a) (hx : Nums c x) (hl : x.length = n) (hbc : 6 * c + b + 3 < 900000)
include h hn hb hx hl hbc
theorem len_le : x.length * c ≤ 4 * c := Nat.mul_le_mul_right _ (by omega)
include hn1 in
theorem law_rests_ok (hc : c < 5900) : m_law_rests rows x = .ok (decide (Shr x ∧ ∀ s, s < n → BalAt n a (hld x) s)) := by
  obtain ⟨q1, q2, q3, q4⟩ := lcmL_facts hx (show (0 : Int) < 1 by decide) (show Sz 1 1 by decide)
  have ll : x.length * c ≤ 4 * c := Nat.mul_le_mul_right _ (by omega)
  have hlen : (scaledL x (commonL x)).length = n := by unfold scaledL; rw [List.length_map]; exact hl
  obtain ⟨m, e, hm⟩ := min_neg (xs := scaledL x (commonL x)) (fun z => by rw [z] at hlen; simp at hlen; omega)
  rw [m_law_rests, common_ok hx hc (by omega), bok, scaled_ok (k := commonL x) hx q2 (by omega) (by omega) (by omega), bok, e, bok, bok]
  by_cases g : ∀ y ∈ x, 0 ≤ y.1
  · rw [decide_eq_false (show ¬ m < 0 from fun z => (held_neg hx).mp (hm.mp z) g), if_neg Bool.false_ne_true, bok]
    by_cases g2 : qsum x = 1
    · rw [decide_eq_true ((held_sum hx).mpr g2), show (!true) = false from rfl, if_neg Bool.false_ne_true]
      refine (loopL_ok h hn hb (H := scaledL x (commonL x)) (τ := hld x) (c := c + (1 + x.length * c)) (fun i hi => hld_get (by omega)) (fun i hi => Sz.hld hx (by omega)) (by omega) hlen).trans ?_
      congr 1
      by_cases g3 : ∀ s, s < n → BalAt n a (hld x) s
      · rw [decide_eq_true g3, decide_eq_true ⟨⟨g, g2⟩, g3⟩]
      · rw [decide_eq_false g3, decide_eq_false fun z => g3 z.2]
    · rw [decide_eq_false (fun z => g2 ((held_sum hx).mp z)), show (!false) = true from rfl, if_pos rfl, decide_eq_false fun z => g2 z.1.2]
  · rw [decide_eq_true (hm.mpr ((held_neg hx).mpr g)), if_pos rfl, bok, if_pos rfl, decide_eq_false fun z => g z.1.1]
theorem is_resting_ok {m : Int} (hm : 0 < m) (hmc : Sz c m) (hd : ∀ y ∈ x, y.2 ∣ m) (hc : c < 3000) (hc1 : 1 ≤ c) : m_is_resting rows x = .ok (decide (Shr x ∧ ∀ s, s < n → BalAt n a (hld x) s)) := by
  obtain ⟨q1, q2, q3, q4⟩ := lcmL_facts hx (show (0 : Int) < 1 by decide) (show Sz 1 1 by decide)
  have ll : x.length * c ≤ 4 * c := Nat.mul_le_mul_right _ (by omega)
  rw [m_is_resting, bok, decide_eq_true (show (x.length : Int) = (rows.length : Int) by rw [hl, h.len]), show (!true) = false from rfl, if_neg Bool.false_ne_true, is_shares_ok hx hm hmc hd (by omega) (by omega) hc1, bok, bok]
  by_cases g : (∀ y ∈ x, 0 ≤ y.1) ∧ qsum x = 1
  · rw [decide_eq_true g, show (!true) = false from rfl, if_neg Bool.false_ne_true, whole_ok hx (by omega) (by omega) (by omega), bok, bok]
    refine (loopR_ok h hn hb (H := scaledL x (commonL x)) (τ := hld x) (c := c + (1 + x.length * c)) (fun i hi => hld_get (by omega)) (fun i hi => Sz.hld hx (by omega)) (by omega)).trans ?_
    congr 1
    by_cases g3 : ∀ s, s < n → BalAt n a (hld x) s
    · rw [decide_eq_true g3, decide_eq_true ⟨g, g3⟩]
    · rw [decide_eq_false g3, decide_eq_false fun z => g3 z.2]
  · rw [decide_eq_false g, show (!false) = true from rfl, if_pos rfl, decide_eq_false fun z => g z.1]
include hn1 in
theorem judged_ok {m : Int} (hm : 0 < m) (hmc : Sz c m) (hd : ∀ y ∈ x, y.2 ∣ m) (hc : c < 3000) (hc1 : 1 ≤ c) : m_law_judged rows x = .ok true := by
  have hlen := h.len
  have ec : comp rows (fun (x1 : (List Int)) => (R.ok x1)) = .ok rows := by
    have := comp_ok (f := fun (x1 : (List Int)) => (R.ok x1)) (fun x => x) (xs := rows) (by omega) fun x _ => rfl
    rw [this]; simp
  rw [m_law_judged, ec, bok, bok, is_resting_ok h hn hb hx hl hbc hm hmc hd hc hc1, bok, show ∀ v : Bool, PyTy.ty v = "bool" from fun _ => rfl, is_bb, bok, bok, show (!true) = false from rfl, if_neg Bool.false_ne_true, bok, eqv_pd, show (!true) = false from rfl, if_neg Bool.false_ne_true, eqv_pd, bok, show (!true) = false from rfl, if_neg Bool.false_ne_true, law_rests_ok h hn1 hn hb hx hl hbc (by omega), bok, decide_eq_true rfl]
end
end Wk
end
section
set_option Elab.async false
set_option linter.all false
set_option maxRecDepth 100000
namespace Wk
open PySem L2
/-- the shares of the amounts τ -/
def shL (n : Nat) (τ : Nat → Int) : List (Int × Int) := (List.range n).map fun k => nf ((τ k : Rat) / (sm τ n : Rat))
theorem nf_facts {t T : Int} {c : Nat} (hT : 0 < T) (ht : Sz c t) (hTs : Sz c T) : Sz c (nf ((t : Rat) / (T : Rat))).1 ∧ Sz c (nf ((t : Rat) / (T : Rat))).2 ∧ 0 < (nf ((t : Rat) / (T : Rat))).2 ∧ (nf ((t : Rat) / (T : Rat))).2 ∣ T ∧ (0 ≤ t → 0 ≤ (nf ((t : Rat) / (T : Rat))).1) := by
  have hg : 0 < Int.gcd t T := Int.gcd_pos_of_ne_zero_right _ (by omega)
  have hg' : (0 : Int) < ((Int.gcd t T : Nat) : Int) := by omega
  have gd : ((Int.gcd t T : Nat) : Int) ∣ T := Int.gcd_dvd_right ..
  rw [nf_of hT]
  refine ⟨ht.ediv hg', hTs.ediv hg', Int.ediv_pos_of_pos_of_dvd hT (by omega) gd, ⟨((Int.gcd t T : Nat) : Int), (Int.ediv_mul_cancel gd).symm⟩, fun h0 => Int.ediv_nonneg h0 (by omega)⟩
theorem shL_get {n k : Nat} {τ : Nat → Int} (h : k < n) : (shL n τ)[k]? = some (nf ((τ k : Rat) / (sm τ n : Rat))) := by
  unfold shL; rw [List.getElem?_map, List.getElem?_range h]; rfl
theorem qsum_shL {τ : Nat → Int} {T : Rat} : ∀ {n : Nat}, qsum ((List.range n).map fun k => nf ((τ k : Rat) / T)) = ((sm τ n : Int) : Rat) / T
  | 0 => by
    show (0 : Rat) = ((0 : Int) : Rat) / T
    rw [Rat.intCast_zero]; grind
  | n + 1 => by
    rw [List.range_succ, List.map_append, qsum_append, qsum_shL, sm, Rat.intCast_add]
    simp only [List.map_cons, List.map_nil, qsum, qv_nf]
    grind
section
variable {n : Nat} {rows : List (List Int)} {a : Nat → Nat → Int} {τ : Nat → Int} (hr : RestOk n rows a τ)
include hr
theorem shL_nums : Nums 2302 (shL n τ) ∧ (∀ y ∈ shL n τ, y.2 ∣ sm τ n) ∧ (∀ y ∈ shL n τ, 0 ≤ y.1) := by
  have key : ∀ y ∈ shL n τ, (Sz 2302 y.1 ∧ Sz 2302 y.2 ∧ 0 < y.2) ∧ y.2 ∣ sm τ n ∧ 0 ≤ y.1 := fun y hy => by
    unfold shL at hy
    obtain ⟨k, hk, e⟩ := List.mem_map.mp hy
    have hk' := List.mem_range.mp hk
    obtain ⟨p1, p2⟩ := hr.pos k hk'
    obtain ⟨f1, f2, f3, f4, f5⟩ := nf_facts hr.tot (p2.mono (by decide : 2300 ≤ 2302)) hr.tsz
    rw [← e]
    exact ⟨⟨f1, f2, f3⟩, f4, f5 p1⟩
  exact ⟨fun y hy => (key y hy).1, fun y hy => (key y hy).2.1, fun y hy => (key y hy).2.2⟩
theorem shL_shr : Shr (shL n τ) := by
  refine ⟨(shL_nums hr).2.2, ?_⟩
  unfold shL
  rw [qsum_shL]
  have := cast_ne hr.tot
  grind
theorem hld_shL {k : Nat} (hk : k < n) : hld (shL n τ) k * sm τ n = commonL (shL n τ) * τ k := by
  obtain ⟨z1, z2, z3⟩ := shL_nums hr
  obtain ⟨q1, q2, q3, q4⟩ := lcmL_facts z1 (show (0 : Int) < 1 by decide) (show Sz 1 1 by decide)
  replace q4 : ∀ y ∈ shL n τ, y.2 ∣ commonL (shL n τ) := q4
  have e := shL_get (τ := τ) hk
  have hm := List.mem_of_getElem? e
  rw [hld_eq e]
  apply Rat.intCast_inj.mp
  have d0 := (z1 _ hm).2.2
  have := cast_ne d0
  have t0 := cast_ne hr.tot
  rw [Rat.intCast_mul, Rat.intCast_mul, Rat.intCast_mul, ediv_cast d0 (q4 _ hm)]
  have w := qv_nf ((τ k : Rat) / (sm τ n : Rat))
  unfold qv at w
  show _ * (((commonL (shL n τ) : Int) : Rat) / _) * _ = _
  generalize ((commonL (shL n τ) : Int) : Rat) = K at *
  grind
theorem bal_hld : Bal n a (hld (shL n τ)) := fun j hj => by
  have t0 := hr.tot
  have e : sm τ n * sm (fun i => hld (shL n τ) i * a i j) n = sm τ n * (hld (shL n τ) j * sm (a j) n) := by
    rw [← sm_mul]
    have e1 : sm (fun i => sm τ n * (hld (shL n τ) i * a i j)) n = sm (fun i => commonL (shL n τ) * (τ i * a i j)) n := sm_congr fun i hi => by
      have := hld_shL hr hi
      rw [← Int.mul_assoc, Int.mul_comm (sm τ n), this, Int.mul_assoc]
    rw [e1, sm_mul, hr.bal j hj, ← Int.mul_assoc, ← Int.mul_assoc, ← hld_shL hr hj, Int.mul_comm (sm τ n)]
  exact Int.eq_of_mul_eq_mul_left (by omega) e
end
/-! ### the law asks for shares -/
theorem is_number_ok {q : Rat} {c : Nat} (h : Sz c (nf q).2) (hc : c < 5900) : m_law_is_number (ToPd.pd (nf q)) = .ok true := by
  have hp := nf_pos q
  have e1 : ToPd.pd (nf q) = PyData.tuple [.int (nf q).1, .int (nf q).2] := rfl
  have hg : Int.gcd (Int.natAbs (nf q).1 : Int) (nf q).2 = 1 := by
    have := q.reduced
    unfold nf
    show Nat.gcd (Int.natAbs (Int.natAbs q.num : Int)) (Int.natAbs (q.den : Int)) = 1
    simp
    exact this
  rw [m_law_is_number, e1]
  generalize (nf q).1 = t at *
  generalize (nf q).2 = d at *
  have el : pdLenQ (.tuple [.int t, .int d]) = .ok 2 := by unfold pdLenQ pdLen; rfl
  have ei0 : pdIxQ (.tuple [.int t, .int d]) (0 : Int) = .ok (.int t) := by
    unfold pdIxQ pdIx; rfl
  have ei1 : pdIxQ (.tuple [.int t, .int d]) (1 : Int) = .ok (.int d) := by
    unfold pdIxQ pdIx; rfl
  have it : ∀ z, (R.bind (R.bind (R.bind (isQ (PyTy.ty (PyData.int z)) "int") fun b8 => .ok (!b8)) fun b9 => if b9 = true then .ok true else (isQ (PyTy.ty (PyData.int z)) "bool")) fun b10 => (R.ok b10)) = .ok false := fun z => by
    rw [show PyTy.ty (PyData.int z) = "int" from rfl, is_ii, bok, bok, show (!true) = false from rfl, if_neg Bool.false_ne_true, is_ib, bok]
  rw [show PyTy.ty (PyData.tuple [.int t, .int d]) = "tuple" from rfl, is_tt, bok, bok, show (!true) = false from rfl, if_neg Bool.false_ne_true, el, bok, decide_eq_true rfl, bok, show (!true) = false from rfl, if_neg Bool.false_ne_true, show pdItemsT (.tuple [.int t, .int d]) = .ok [.int t, .int d] from rfl, bok]
  obtain ⟨s', h1, h2⟩ := forC_ok (ρ := Bool) (xs := [PyData.int t, .int d]) (body := fun (s4 : Unit) (x5 : PyData) kn6 kb7 => (R.bind (R.bind (R.bind (isQ (PyTy.ty x5) "int") fun b8 => .ok (!b8)) fun b9 => if b9 = true then .ok true else (isQ (PyTy.ty x5) "bool")) fun b10 => if b10 = true then (.ok false) else (kn6 ())))
    (k := fun (s11 : Unit) => (R.bind (R.bind (R.bind (pdIxQ (.tuple [.int t, .int d]) (1 : Int)) fun r12 => (pdInt r12)) fun r13 => (.ok (decide ((0 : Int) < r13)))) fun b20 => if b20 = true then (R.bind (R.bind (R.bind (R.bind (pdIxQ (.tuple [.int t, .int d]) (0 : Int)) fun r14 => (pdInt r14)) fun r15 => (.ok (Int.natAbs r15 : Int))) fun r17 => (R.bind (R.bind (pdIxQ (.tuple [.int t, .int d]) (1 : Int)) fun r16 => (pdInt r16)) fun r18 => (m_law_gcd r17 r18))) fun r19 => (.ok (decide (r19 = (1 : Int))))) else .ok false)) (fun _ _ => True) (s0 := ()) trivial (fun i hi s _ => by
      refine ⟨(), trivial, fun kn kb => ?_⟩
      have ety : PyTy.ty ([PyData.int t, PyData.int d][i]) = "int" := by
        have hc2 : i = 0 ∨ i = 1 := by simp at hi; omega
        rcases hc2 with e | e <;> subst e <;> rfl
      rw [ety, is_ii, bok, bok, show (!true) = false from rfl, if_neg Bool.false_ne_true, is_ib, bok, if_neg Bool.false_ne_true])
  rw [show forC _ _ _ _ = _ from h2, ei1, bok, show pdInt (.int d) = .ok d from rfl, bok, decide_eq_true hp, bok, if_pos rfl, ei0, bok, show pdInt (.int t) = .ok t from rfl, bok, bok, bok, gcd_ok (by omega) (by omega) h hc, bok, hg]
  rfl
theorem are_numbers_ok {xs : List (Int × Int)} {c : Nat} (h : ∀ y ∈ xs, ∃ q : Rat, y = nf q ∧ Sz c y.2) (hc : c < 5900) : m_law_are_numbers (ToPd.pd xs) (xs.length : Int) = .ok true := by
  have e1 : ToPd.pd xs = PyData.list (xs.map ToPd.pd) := rfl
  have el : pdLenQ (.list (xs.map ToPd.pd)) = .ok (xs.length : Int) := by
    unfold pdLenQ pdLen
    show R.ok (((xs.map ToPd.pd).length : Nat) : Int) = _
    rw [List.length_map]
  rw [m_law_are_numbers, e1, show PyTy.ty (PyData.list (xs.map ToPd.pd)) = "list" from rfl, is_ll, bok, bok, show (!true) = false from rfl, if_neg Bool.false_ne_true, el, bok, decide_eq_true rfl, bok, show (!true) = false from rfl, if_neg Bool.false_ne_true, show pdItemsL (.list (xs.map ToPd.pd)) = .ok (xs.map ToPd.pd) from rfl, bok]
  obtain ⟨s', h1, h2⟩ := forC_ok (ρ := Bool) (xs := xs.map ToPd.pd) (body := fun (s4 : Unit) (x5 : PyData) kn6 kb7 => (R.bind (R.bind (m_law_is_number x5) fun b8 => .ok (!b8)) fun b9 => if b9 = true then (.ok false) else (kn6 ()))) (k := fun (s10 : Unit) => (.ok true)) (fun _ _ => True) (s0 := ()) trivial (fun i hi s _ => by
    refine ⟨(), trivial, fun kn kb => ?_⟩
    have hi' : i < xs.length := by simpa using hi
    obtain ⟨q, e, z⟩ := h _ (List.getElem_mem hi')
    rw [List.getElem_map, e]
    rw [e] at z
    rw [is_number_ok z hc, bok, bok, show (!true) = false from rfl, if_neg Bool.false_ne_true])
  exact h2
section
variable {n : Nat} {rows : List (List Int)} {a : Nat → Nat → Int} {τ : Nat → Int} (h : Mat n rows a) (hr : RestOk n rows a τ) (hn1 : 1 ≤ n) (hn : n ≤ 4) (hb : MSz 204 n a) {d : List Int} (hd : Dr [12, 12, 3, 4, 4] d)
include h hr hn1 hn hb hd
theorem law_resting_ok : m_law_resting rows d = .ok (some (shL n τ)) := by
  have hlen := h.len
  obtain ⟨z1, z2, z3⟩ := shL_nums hr
  have sl : (shL n τ).length = n := by unfold shL; simp
  have ec : comp rows (fun (x1 : (List Int)) => (R.ok x1)) = .ok rows := by
    have := comp_ok (f := fun (x1 : (List Int)) => (R.ok x1)) (fun x => x) (xs := rows) (by omega) fun x _ => rfl
    rw [this]; simp
  have an : m_law_are_numbers (ToPd.pd (shL n τ)) (n : Int) = .ok true := by
    have := are_numbers_ok (xs := shL n τ) (c := 2302) (fun y hy => by
      have hs := (z1 y hy).2.1
      unfold shL at hy
      obtain ⟨k, hk, e⟩ := List.mem_map.mp hy
      exact ⟨_, e.symm, hs⟩) (by decide)
    rw [sl] at this
    exact this
  have lr : m_law_rests rows (shL n τ) = .ok true := by
    rw [law_rests_ok h hn1 hn hb z1 sl (by decide) (by decide), decide_eq_true ⟨shL_shr hr, fun s hs => BalAt.of (bal_hld hr) hs⟩]
  obtain ⟨d0, e0, _, _⟩ := hd.get (i := 0) (z := 12) rfl
  obtain ⟨d1, e1, _, _⟩ := hd.get (i := 1) (z := 12) rfl
  obtain ⟨p, ep, hp⟩ := mod_nat (x := d0) (m := n) (by omega)
  obtain ⟨q, eq, hq⟩ := mod_nat (x := d1) (m := n) (by omega)
  rw [m_law_resting, bok, ec, bok, hr.eq, bok, eqv_pd, show (!true) = false from rfl, bok, if_neg Bool.false_ne_true, hlen]
  rw [show (List.range n).map (fun k => nf ((τ k : Rat) / (sm τ n : Rat))) = shL n τ from rfl]
  rw [an, bok, bok, show (!true) = false from rfl, if_neg Bool.false_ne_true, lr, bok, bok, show (!true) = false from rfl, if_neg Bool.false_ne_true, bok]
  rw [show ixQ d (0 : Int) = .ok d0 from ixQ_some (i := 0) e0, bok, bok, modQ_ok (by omega), ep, bok, show ixQ d (1 : Int) = .ok d1 from ixQ_some (i := 1) e1, bok, bok, modQ_ok (by omega), eq, bok, bok]
  have xq := shL_get (τ := τ) hq
  have xp := shL_get (τ := τ) hp
  rw [ixQ_some xq, bok, bok, setQ_ok (by omega), bok, ixQ_some xp, bok, bok, setQ_ok (by rw [List.length_set]; omega), bok, rangeQ_ok (by omega), bok]
  have er : comp (iota n) (fun (x23 : Int) => (R.ok ((1 : Int), (n : Int)))) = .ok ((iota n).map fun _ => ((1 : Int), (n : Int))) := comp_ok _ (by rw [iota_length]; omega) fun x hx => rfl
  rw [er, bok, bok]
  have J : ∀ x ∈ ([shL n τ, ((shL n τ).set p (nf ((τ q : Rat) / (sm τ n : Rat)))).set q (nf ((τ p : Rat) / (sm τ n : Rat))), (iota n).map fun _ => ((1 : Int), (n : Int))] : List (List (Int × Int))), m_law_judged rows x = .ok true := by
    have jt : ∀ x : List (Int × Int), x.length = n → (∀ y ∈ x, y ∈ shL n τ) → m_law_judged rows x = .ok true := fun x hx hm => judged_ok (c := 2302) h hn1 hn hb (fun y hy => z1 y (hm y hy)) hx (by decide) hr.tot hr.tsz (fun y hy => z2 y (hm y hy)) (by decide) (by decide)
    intro x hx
    simp only [List.mem_cons, List.not_mem_nil, or_false] at hx
    rcases hx with e | e | e <;> subst e
    · exact jt _ sl fun y hy => hy
    · refine jt _ (by rw [List.length_set, List.length_set]; exact sl) fun y hy => ?_
      rcases List.mem_or_eq_of_mem_set hy with z | z
      · rcases List.mem_or_eq_of_mem_set z with z | z
        · exact z
        · rw [z]; exact List.mem_of_getElem? xq
      · rw [z]; exact List.mem_of_getElem? xp
    · have hy : ∀ y ∈ (iota n).map (fun _ => ((1 : Int), (n : Int))), y = ((1 : Int), (n : Int)) := fun y hy => by
        obtain ⟨_, _, e⟩ := List.mem_map.mp hy
        exact e.symm
      refine judged_ok (c := 2302) (m := (n : Int)) h hn1 hn hb (fun y g => ?_) (by simp) (by decide) (by omega) ((Sz.of_nat 4 (by omega) : Sz 3 (n : Int)).mono (by decide)) (fun y g => ?_) (by decide) (by decide)
      · rw [hy y g]
        exact ⟨(show Sz 1 1 by decide).mono (by decide), (Sz.of_nat 4 (by omega) : Sz 3 (n : Int)).mono (by decide), by show (0 : Int) < n; omega⟩
      · rw [hy y g]; exact Int.dvd_refl _
  obtain ⟨s', h1, h2⟩ := forC_ok (ρ := Option (List (Int × Int))) (xs := ([shL n τ, ((shL n τ).set p (nf ((τ q : Rat) / (sm τ n : Rat)))).set q (nf ((τ p : Rat) / (sm τ n : Rat))), (iota n).map fun _ => ((1 : Int), (n : Int))] : List (List (Int × Int)))) (body := fun (s26 : Unit) (x27 : (List (Int × Int))) kn28 kb29 => (R.bind (R.bind (m_law_judged rows x27) fun b30 => .ok (!b30)) fun b31 => if b31 = true then (.ok (none : Option (List (Int × Int)))) else (kn28 ())))
    (k := fun (s32 : Unit) => (R.bind (R.bind (.ok rows) fun r34 => (R.bind (catQ (shL n τ) ([((0 : Int), (1 : Int))] : List (Int × Int))) fun r35 => (m_is_resting r34 r35))) fun v_short_36 => (R.bind (R.bind (R.bind (isQ (PyTy.ty v_short_36) "bool") fun b37 => .ok (!b37)) fun b38 => if b38 = true then .ok true else (.ok v_short_36)) fun b39 => if b39 = true then (.ok (none : Option (List (Int × Int)))) else .ok (some (shL n τ))))) (fun _ _ => True) (s0 := ()) trivial (fun i hi s _ => by
      refine ⟨(), trivial, fun kn kb => ?_⟩
      rw [J _ (List.getElem_mem hi), bok, bok, show (!true) = false from rfl, if_neg Bool.false_ne_true])
  refine Eq.trans h2 ?_
  have es : m_is_resting rows (shL n τ ++ [((0 : Int), (1 : Int))]) = .ok false := by
    rw [m_is_resting, bok, decide_eq_false (show ¬ (((shL n τ ++ [((0 : Int), (1 : Int))]).length : Int) = (rows.length : Int)) by rw [List.length_append, sl, hlen]; simp; omega), show (!false) = true from rfl, if_pos rfl, bok, if_pos rfl]
  rw [bok, catQ_ok (by rw [sl]; simp; omega), bok, es, bok, show ∀ v : Bool, PyTy.ty v = "bool" from fun _ => rfl, is_bb, bok, bok, show (!true) = false from rfl, if_neg Bool.false_ne_true, bok, if_neg Bool.false_ne_true]
end
end Wk
end
section
set_option Elab.async false
set_option linter.all false
set_option maxRecDepth 100000
namespace Wk
open PySem L2
/-! ### sums -/
theorem sm_zero : ∀ {n : Nat}, sm (fun _ => 0) n = 0
  | 0 => rfl
  | n + 1 => by rw [sm, sm_zero]; rfl
theorem sm_add {f g : Nat → Int} : ∀ {n : Nat}, sm (fun i => f i + g i) n = sm f n + sm g n
  | 0 => rfl
  | n + 1 => by rw [sm, sm, sm, sm_add]; omega
theorem sm_sub {f g : Nat → Int} : ∀ {n : Nat}, sm (fun i => f i - g i) n = sm f n - sm g n
  | 0 => rfl
  | n + 1 => by rw [sm, sm, sm, sm_sub]; omega
theorem sm_mulr {f : Nat → Int} {c : Int} {n : Nat} : sm (fun i => f i * c) n = sm f n * c := by
  rw [Int.mul_comm, ← sm_mul]
  exact sm_congr fun i _ => Int.mul_comm _ _
theorem sm_swap {f : Nat → Nat → Int} {m : Nat} : ∀ {n : Nat}, sm (fun i => sm (fun j => f i j) m) n = sm (fun j => sm (fun i => f i j) n) m
  | 0 => by
    have e : sm (fun j => sm (fun i => f i j) 0) m = sm (fun _ => 0) m := sm_congr fun j _ => rfl
    rw [e, sm_zero]; rfl
  | n + 1 => by
    rw [sm, sm_swap, ← sm_add]
    exact sm_congr fun j _ => rfl
theorem sm_app {f : Nat → Int} {n : Nat} : ∀ {m : Nat}, sm f (n + m) = sm f n + sm (fun j => f (n + j)) m
  | 0 => by show sm f n = sm f n + 0; omega
  | m + 1 => by
    show sm f ((n + m) + 1) = _
    rw [sm, sm, sm_app]; omega
theorem sm_split {f : Nat → Int} {b : Nat} : ∀ {a : Nat}, sm f (a * b) = sm (fun i => sm (fun j => f (i * b + j)) b) a
  | 0 => by rw [Nat.zero_mul]; rfl
  | a + 1 => by rw [Nat.succ_mul, sm_app, sm_split, sm]
theorem sm_ge0 {f : Nat → Int} {n k : Nat} (h : ∀ i, i < n → 0 ≤ f i) (hk : k < n) (hp : 0 < f k) : 0 < sm f n := by
  have := sm_ge (f := f) (L := k) h hk
  omega
/-- what flows in is what flows out -/
theorem flow {m : Nat} {H P : Nat → Int} {r : Nat → Nat → Int} (hb : Bal m r H) : sm (fun i => H i * sm (fun c => r i c * (P c - P i)) m) m = 0 := by
  have e1 : sm (fun i => H i * sm (fun c => r i c * (P c - P i)) m) m = sm (fun i => sm (fun c => H i * r i c * P c) m) m - sm (fun i => P i * (H i * sm (r i) m)) m := by
    rw [← sm_sub]
    refine sm_congr fun i _ => ?_
    have a1 : P i * (H i * sm (r i) m) = sm (fun c => H i * r i c * P i) m := by
      rw [sm_mulr, sm_mul, Int.mul_comm]
    rw [a1, ← sm_sub, ← sm_mul]
    refine sm_congr fun c _ => ?_
    grind
  rw [e1, sm_swap]
  have e2 : sm (fun c => sm (fun i => H i * r i c * P c) m) m = sm (fun i => P i * (H i * sm (r i) m)) m := sm_congr fun c hc => by
    rw [sm_mulr, hb c hc, Int.mul_comm]
  rw [e2]; omega
/-! ### products -/
def pr (f : Nat → Int) : Nat → Int
  | 0 => 1
  | n + 1 => pr f n * f n
theorem pr_congr {f g : Nat → Int} : ∀ {n : Nat}, (∀ i, i < n → f i = g i) → pr f n = pr g n
  | 0, _ => rfl
  | n + 1, h => by rw [pr, pr, pr_congr fun i hi => h i (by omega), h n (by omega)]
theorem pr_out {f : Nat → Int} {p : Nat} : ∀ {n : Nat}, p < n → pr f n = f p * pr (fun q => if q = p then 1 else f q) n
  | 0, h => by omega
  | n + 1, h => by
    rw [pr, pr]
    by_cases e : p = n
    · subst e
      have : pr (fun q => if q = p then 1 else f q) p = pr f p := pr_congr fun i hi => if_neg (by omega)
      rw [this, if_pos rfl]
      grind
    · rw [pr_out (show p < n by omega), if_neg (by omega)]
      grind
theorem pr_nonneg {f : Nat → Int} : ∀ {n : Nat}, (∀ i, i < n → 0 ≤ f i) → 0 ≤ pr f n
  | 0, _ => by show (0 : Int) ≤ 1; decide
  | n + 1, h => by rw [pr]; exact Int.mul_nonneg (pr_nonneg fun i hi => h i (by omega)) (h n (by omega))
theorem pr_pos {f : Nat → Int} : ∀ {n : Nat}, (∀ i, i < n → 0 < f i) → 0 < pr f n
  | 0, _ => by show (0 : Int) < 1; decide
  | n + 1, h => by rw [pr]; exact Int.mul_pos (pr_pos fun i hi => h i (by omega)) (h n (by omega))
/-! ### the places of an outcome -/
def mk3 (cs : List Nat) (p hi i lo : Nat) : Nat := hi * (mn cs p * stp cs p) + i * stp cs p + lo
theorem drop_prod {cs : List Nat} {p : Nat} (h : p < cs.length) : prodL (cs.drop p) = mn cs p * stp cs p := by
  rw [List.drop_eq_getElem_cons h, mn_get h]; rfl
theorem stp_split {cs : List Nat} {p p' : Nat} (h : p < p') (h' : p' < cs.length) : ∃ X, stp cs p = X * (mn cs p' * stp cs p') := by
  refine ⟨prodL ((cs.drop (p + 1)).take (p' - (p + 1))), ?_⟩
  rw [← drop_prod h']
  have e := List.take_append_drop (p' - (p + 1)) (cs.drop (p + 1))
  have e2 : (cs.drop (p + 1)).drop (p' - (p + 1)) = cs.drop p' := by
    rw [List.drop_drop]; congr 1; omega
  rw [e2] at e
  rw [← prodL_append, e]; rfl
section
variable {cs : List Nat} (h : Cs cs) {p hi i lo : Nat} (hp : p < cs.length)
include h
theorem mk3_div (hlo : lo < stp cs p) : mk3 cs p hi i lo / stp cs p = hi * mn cs p + i := by
  have e : mk3 cs p hi i lo = lo + (hi * mn cs p + i) * stp cs p := by
    unfold mk3; rw [Nat.add_mul, Nat.mul_assoc]; omega
  rw [e, Nat.add_mul_div_right _ _ (h.stp_pos p), Nat.div_eq_of_lt hlo]; omega
omit h in
theorem mk3_mod (hlo : lo < stp cs p) : mk3 cs p hi i lo % stp cs p = lo := by
  have e : mk3 cs p hi i lo = lo + (hi * mn cs p + i) * stp cs p := by
    unfold mk3; rw [Nat.add_mul, Nat.mul_assoc]; omega
  rw [e, Nat.add_mul_mod_self_right, Nat.mod_eq_of_lt hlo]
theorem dig_mk (hi' : i < mn cs p) (hlo : lo < stp cs p) : dig cs p (mk3 cs p hi i lo) = i := by
  unfold dig
  rw [mk3_div h hlo, Nat.add_comm, Nat.add_mul_mod_self_right, Nat.mod_eq_of_lt hi']
theorem swt_mk (hi' : i < mn cs p) (hlo : lo < stp cs p) (c : Nat) : swt cs p (mk3 cs p hi i lo) c = mk3 cs p hi c lo := by
  unfold swt
  rw [mk3_div h hlo, mk3_mod hlo, Nat.add_comm (hi * mn cs p) i, Nat.add_mul_div_right _ _ (by omega), Nat.div_eq_of_lt hi', Nat.zero_add]
  rfl
include hp
theorem dig_other {p' : Nat} (hne : p' ≠ p) (hp' : p' < cs.length) (hi' : i < mn cs p) (hlo : lo < stp cs p) : dig cs p' (mk3 cs p hi i lo) = dig cs p' (mk3 cs p hi 0 lo) := by
  have hs' := h.stp_pos p'
  by_cases c : p < p'
  · obtain ⟨X, eX⟩ := stp_split c hp'
    have key : ∀ j, dig cs p' (mk3 cs p hi j lo) = lo / stp cs p' % mn cs p' := fun j => by
      have e : mk3 cs p hi j lo = lo + ((hi * mn cs p + j) * X * mn cs p') * stp cs p' := by
        unfold mk3; rw [eX]; grind
      unfold dig
      rw [e, Nat.add_mul_div_right _ _ hs', Nat.add_mul_mod_self_right]
    rw [key, key]
  · obtain ⟨Y, eY⟩ := stp_split (show p' < p by omega) hp
    have hms : 0 < mn cs p * stp cs p := Nat.mul_pos (by omega) (h.stp_pos p)
    have key : ∀ j, j < mn cs p → dig cs p' (mk3 cs p hi j lo) = hi / Y % mn cs p' := fun j hj => by
      have lt : j * stp cs p + lo < mn cs p * stp cs p := by
        have : (j + 1) * stp cs p ≤ mn cs p * stp cs p := Nat.mul_le_mul_right _ hj
        rw [Nat.succ_mul] at this; omega
      have e : mk3 cs p hi j lo = (j * stp cs p + lo) + hi * (mn cs p * stp cs p) := by unfold mk3; omega
      unfold dig
      rw [eY, Nat.mul_comm Y, ← Nat.div_div_eq_div_mul, e, Nat.add_mul_div_right _ _ hms, Nat.div_eq_of_lt lt, Nat.zero_add]
    rw [key _ hi', key 0 (by omega)]
theorem o_mk (o : Nat) : o = mk3 cs p (o / stp cs p / mn cs p) (dig cs p o) (o % stp cs p) := o_split p o
theorem dig_swt {p' o c : Nat} (hp' : p' < cs.length) (hc : c < mn cs p) : dig cs p' (swt cs p o c) = if p' = p then c else dig cs p' o := by
  have hd := dig_lt h (o := o) hp
  have hr : o % stp cs p < stp cs p := Nat.mod_lt _ (h.stp_pos p)
  have e := o_mk h hp o
  by_cases q : p' = p
  · subst q
    rw [if_pos rfl, e, swt_mk h hd hr, dig_mk h hc hr]
  · rw [if_neg q, e, swt_mk h hd hr, dig_other h hp q hp' hc hr, dig_other h hp q hp' hd hr]
theorem sum_parts {f : Nat → Int} : sm f (prodL cs) = sm (fun hi => sm (fun i => sm (fun lo => f (mk3 cs p hi i lo)) (stp cs p)) (mn cs p)) (prodL (cs.take p)) := by
  rw [prod_split hp, sm_split]
  refine sm_congr fun hi _ => ?_
  rw [sm_split]
  refine sm_congr fun i _ => sm_congr fun lo _ => ?_
  unfold mk3
  congr 1; omega
end
/-! ### the mean of the gains is nought -/
def ra (w : List (List (List (Int × Int)))) (K : Int) (p i c : Nat) : Int := (we w p i c).1 * (K / (we w p i c).2)
section
variable {cs : List Nat} (h : Cs cs) {pays : List (List Int)} {w : List (List (List (Int × Int)))} {K : Int} {Hf : Nat → Nat → Int} (hb : ∀ p, p < cs.length → Bal (mn cs p) (ra w K p) (Hf p))
include h hb
theorem mean0p {p : Nat} (hp : p < cs.length) : sm (fun o => pr (fun q => Hf q (dig cs q o)) cs.length * sm (fun c => ra w K p (dig cs p o) c * dlt cs pays p o c) (mn cs p)) (prodL cs) = 0 := by
  rw [sum_parts h hp]
  have z : ∀ hi, hi < prodL (cs.take p) → sm (fun i => sm (fun lo => pr (fun q => Hf q (dig cs q (mk3 cs p hi i lo))) cs.length * sm (fun c => ra w K p (dig cs p (mk3 cs p hi i lo)) c * dlt cs pays p (mk3 cs p hi i lo) c) (mn cs p)) (stp cs p)) (mn cs p) = 0 := fun hi hhi => by
    rw [sm_swap]
    have z2 : ∀ lo, lo < stp cs p → sm (fun i => pr (fun q => Hf q (dig cs q (mk3 cs p hi i lo))) cs.length * sm (fun c => ra w K p (dig cs p (mk3 cs p hi i lo)) c * dlt cs pays p (mk3 cs p hi i lo) c) (mn cs p)) (mn cs p) = 0 := fun lo hlo => by
      have e : sm (fun i => pr (fun q => Hf q (dig cs q (mk3 cs p hi i lo))) cs.length * sm (fun c => ra w K p (dig cs p (mk3 cs p hi i lo)) c * dlt cs pays p (mk3 cs p hi i lo) c) (mn cs p)) (mn cs p) =
          sm (fun i => pr (fun q => if q = p then 1 else Hf q (dig cs q (mk3 cs p hi 0 lo))) cs.length * (Hf p i * sm (fun c => ra w K p i c * (pay pays p (mk3 cs p hi c lo) - pay pays p (mk3 cs p hi i lo))) (mn cs p))) (mn cs p) := sm_congr fun i hi' => by
        have e1 : pr (fun q => Hf q (dig cs q (mk3 cs p hi i lo))) cs.length = Hf p i * pr (fun q => if q = p then 1 else Hf q (dig cs q (mk3 cs p hi 0 lo))) cs.length := by
          rw [pr_out hp, dig_mk h hi' hlo]
          congr 1
          refine pr_congr fun q hq => ?_
          by_cases c : q = p
          · rw [if_pos c, if_pos c]
          · rw [if_neg c, if_neg c, dig_other h hp c hq hi' hlo]
        have e2 : sm (fun c => ra w K p (dig cs p (mk3 cs p hi i lo)) c * dlt cs pays p (mk3 cs p hi i lo) c) (mn cs p) = sm (fun c => ra w K p i c * (pay pays p (mk3 cs p hi c lo) - pay pays p (mk3 cs p hi i lo))) (mn cs p) := by
          rw [dig_mk h hi' hlo]
          refine sm_congr fun c _ => ?_
          unfold dlt
          rw [swt_mk h hi' hlo]
        rw [e1, e2]
        grind
      rw [e, sm_mul, flow (hb p hp), Int.mul_zero]
    rw [sm_congr z2, sm_zero]
  rw [sm_congr z, sm_zero]
theorem mean0 : sm (fun o => pr (fun q => Hf q (dig cs q o)) cs.length * totI cs pays w K o) (prodL cs) = 0 := by
  have e : sm (fun o => pr (fun q => Hf q (dig cs q o)) cs.length * totI cs pays w K o) (prodL cs) = sm (fun p => sm (fun o => pr (fun q => Hf q (dig cs q o)) cs.length * sm (fun c => ra w K p (dig cs p o) c * dlt cs pays p o c) (mn cs p)) (prodL cs)) cs.length := by
    rw [sm_swap]
    refine sm_congr fun o _ => ?_
    rw [sm_mul]; rfl
  rw [e]
  have z : ∀ p, p < cs.length → sm (fun o => pr (fun q => Hf q (dig cs q o)) cs.length * sm (fun c => ra w K p (dig cs p o) c * dlt cs pays p o c) (mn cs p)) (prodL cs) = 0 := fun p hp => mean0p h hb hp
  rw [sm_congr z, sm_zero]
end
section
variable {cs : List Nat} (h : Cs cs) {Hf : Nat → Nat → Int} (h0 : ∀ p i, p < cs.length → i < mn cs p → 0 ≤ Hf p i) (hs : ∀ p, p < cs.length → 0 < sm (Hf p) (mn cs p))
include h h0 hs
theorem some_out : ∃ o, o < prodL cs ∧ ∀ p, p < cs.length → 0 < Hf p (dig cs p o) := by
  have ex : ∀ p, p < cs.length → ∃ i, i < mn cs p ∧ 0 < Hf p i := fun p hp => by
    by_cases g : ∃ i, i < mn cs p ∧ 0 < Hf p i
    · exact g
    · have : sm (Hf p) (mn cs p) = sm (fun _ => 0) (mn cs p) := sm_congr fun i hi => by
        have := h0 p i hp hi
        by_cases c : 0 < Hf p i
        · exact absurd ⟨i, hi, c⟩ g
        · omega
      rw [sm_zero] at this
      have := hs p hp
      omega
  have key : ∀ n, n ≤ cs.length → ∃ o, o < prodL cs ∧ ∀ p, p < n → 0 < Hf p (dig cs p o) := fun n => by
    induction n with
    | zero => intro _; exact ⟨0, prodL_pos fun c hc => (h.c c hc).1, fun p hp => by omega⟩
    | succ n ih =>
      intro hn
      obtain ⟨o, o1, o2⟩ := ih (by omega)
      obtain ⟨i, i1, i2⟩ := ex n (by omega)
      refine ⟨swt cs n o i, swt_lt h (by omega) o1 i1, fun p hp => ?_⟩
      rw [dig_swt h (by omega) (by omega) i1]
      by_cases c : p = n
      · rw [if_pos c, c]; exact i2
      · rw [if_neg c]; exact o2 p (by omega)
  exact key _ (Nat.le_refl _)
theorem prods_nonneg : ∀ o, o < prodL cs → 0 ≤ pr (fun q => Hf q (dig cs q o)) cs.length := fun o _ => pr_nonneg fun q hq => h0 q _ hq (dig_lt h hq)
theorem prods_pos : 0 < sm (fun o => pr (fun q => Hf q (dig cs q o)) cs.length) (prodL cs) := by
  obtain ⟨o, o1, o2⟩ := some_out h h0 hs
  exact sm_ge0 (prods_nonneg h h0 hs) o1 (pr_pos o2)
theorem some_low {g : Nat → Int} (hz : sm (fun o => pr (fun q => Hf q (dig cs q o)) cs.length * g o) (prodL cs) = 0) : ∃ o, o < prodL cs ∧ g o ≤ 0 := by
  by_cases c : ∃ o, o < prodL cs ∧ g o ≤ 0
  · exact c
  · have pos : ∀ o, o < prodL cs → 0 < g o := fun o ho => by
      by_cases q : g o ≤ 0
      · exact absurd ⟨o, ho, q⟩ c
      · omega
    obtain ⟨o, o1, o2⟩ := some_out h h0 hs
    have := sm_ge0 (f := fun o => pr (fun q => Hf q (dig cs q o)) cs.length * g o) (fun i hi => Int.mul_nonneg (prods_nonneg h h0 hs i hi) (Int.le_of_lt (pos i hi))) o1 (Int.mul_pos (pr_pos o2) (pos o o1))
    omega
end
end Wk
end
section
set_option Elab.async false
set_option linter.all false
set_option maxRecDepth 100000
namespace Wk
open PySem L2
theorem pr_sz {f : Nat → Int} {c : Nat} : ∀ {n : Nat}, (∀ i, i < n → Sz c (f i)) → Sz (1 + n * c) (pr f n)
  | 0, _ => (show Sz 1 1 by decide).mono (by omega)
  | n + 1, h => by
    rw [pr]
    exact ((pr_sz fun i hi => h i (by omega)).mul (h n (by omega))).mono (by rw [Nat.succ_mul]; omega)
section
variable {cs : List Nat} {pays : List (List Int)} {w : List (List (List (Int × Int)))} (h : Cs cs) (hw : Ws cs w)
include h hw
theorem totI_sz (hp : Ps cs pays) {K : Int} (hK : Sz 4 K) {o : Nat} (ho : o < prodL cs) : Sz 216 (totI cs pays w K o) := by
  have h2 := h.l2
  unfold totI
  refine sm_sz (c := 214) (by omega) fun p hpl => sm_sz (c := 212) (h.mn_pos hpl).2 fun c hc => ?_
  have hdl := dig_lt h (o := o) hpl
  obtain ⟨table, row, e1, e2, e3, e4, e5⟩ := we_get hw hpl hdl
  obtain ⟨f1, f2, f3⟩ := e5 c hc
  exact (f2.ns.mul (hK.ediv (by have := f2.d0; omega))).mul (dlt_sz h hp hpl ho hc)
structure Person (cs : List Nat) (w : List (List (List (Int × Int)))) (K : Int) (p : Nat) (x : List (Int × Int)) : Prop where
  ex : ∃ table rows, w[p]? = some table ∧ m_law_rates table = .ok rows ∧ ∀ d, Dr [12, 12, 3, 4, 4] d → m_law_resting rows d = .ok (some x)
  nums : Nums 2302 x
  len : x.length = mn cs p
  bal : Bal (mn cs p) (ra w K p) (hld x)
  pos : ∀ i, i < mn cs p → 0 ≤ hld x i
  tot : 0 < sm (hld x) (mn cs p)
theorem person_ok {K : Int} (hK : 0 < K) (hd : ∀ x ∈ w.flatten.flatten, x.2 ∣ K) {p : Nat} (hp : p < cs.length) : ∃ x, Person cs w K p x := by
  have hm := h.mn_pos hp
  obtain ⟨table, rows, k, t1, t2, t3, t4, t5, t6, t7⟩ := rates_ok h hw hp
  obtain ⟨τ, hr⟩ := resting_ok t3 hm.1 hm.2 t6 t7
  obtain ⟨z1, z2, z3⟩ := shL_nums hr
  have sl : (shL (mn cs p) τ).length = mn cs p := by unfold shL; simp
  obtain ⟨q1, q2, q3, q4⟩ := lcmL_facts z1 (show (0 : Int) < 1 by decide) (show Sz 1 1 by decide)
  have ppos : ∀ i, i < mn cs p → 0 ≤ hld (shL (mn cs p) τ) i := fun i hi => by
    have hi' : i < (shL (mn cs p) τ).length := by omega
    have hm := List.getElem_mem hi'
    rw [hld_eq (List.getElem?_eq_getElem hi')]
    exact Int.mul_nonneg (z3 _ hm) (Int.ediv_nonneg (Int.le_of_lt q1) (by have := (z1 _ hm).2.2; omega))
  refine ⟨shL (mn cs p) τ, ⟨table, rows, t1, t2, fun d hd => law_resting_ok t3 hr hm.1 hm.2 t7 hd⟩, z1, sl, fun j hj => ?_, ppos, ?_⟩
  · have e : ∀ i c, i < mn cs p → c < mn cs p → k * ra w K p i c = K * rt w p k i c := fun i c hi hc => by
      obtain ⟨table', row, e1, e2, e3, e4, e5⟩ := we_get hw hp hi
      obtain ⟨f1, f2, f3⟩ := e5 c hc
      have d0 : 0 < (we w p i c).2 := by have := f2.d0; omega
      unfold ra rt
      apply Rat.intCast_inj.mp
      have := cast_ne d0
      rw [Rat.intCast_mul, Rat.intCast_mul, Rat.intCast_mul, Rat.intCast_mul, ediv_cast d0 (hd _ f3), ediv_cast d0 (t5 i c hi hc)]
      grind
    have b := bal_hld hr j hj
    have e1 : k * sm (fun i => hld (shL (mn cs p) τ) i * ra w K p i j) (mn cs p) = k * (hld (shL (mn cs p) τ) j * sm (ra w K p j) (mn cs p)) := by
      rw [← sm_mul]
      have a1 : sm (fun i => k * (hld (shL (mn cs p) τ) i * ra w K p i j)) (mn cs p) = sm (fun i => K * (hld (shL (mn cs p) τ) i * rt w p k i j)) (mn cs p) := sm_congr fun i hi => by
        have := e i j hi hj
        grind
      have a2 : k * sm (ra w K p j) (mn cs p) = K * sm (rt w p k j) (mn cs p) := by
        rw [← sm_mul, ← sm_mul]
        exact sm_congr fun c hc => e j c hj hc
      rw [a1, sm_mul, b]
      grind
    exact Int.eq_of_mul_eq_mul_left (by omega) e1
  · have e : sm (hld (shL (mn cs p) τ)) (mn cs p) * sm τ (mn cs p) = commonL (shL (mn cs p) τ) * sm τ (mn cs p) := by
      rw [← sm_mulr, ← sm_mul]
      exact sm_congr fun i hi => hld_shL hr hi
    have := Int.eq_of_mul_eq_mul_right (by have := hr.tot; omega) e
    rw [this]
    exact q1
end
/-! ### the law -/
theorem nf_low {t T : Int} (hT : 0 < T) (ht : t ≤ 0) : (nf ((t : Rat) / (T : Rat))).1 ≤ 0 := by
  have hg : 0 < Int.gcd t T := Int.gcd_pos_of_ne_zero_right _ (by omega)
  rw [nf_of hT]
  exact Int.ediv_le_of_le_mul (by omega) (by omega)
theorem map_range_get {α : Type} {f : Nat → α} {n k : Nat} (h : k < n) : ((List.range n).map f)[k]? = some (f k) := by
  rw [List.getElem?_map, List.getElem?_range h]; rfl
theorem law_ok (ns : List Int) : m_law ⟨ns⟩ = .ok true := by
  apply Rt.eq
  rw [m_law]
  refine Rt.bind game_ok fun b ⟨cs, eb, hC, hP⟩ => ?_
  rw [bok, bok, eb]
  generalize b.b = pays at *
  have hc12 := hC.p
  have hl1 := hC.l1
  have hl2 := hC.l2
  have epays : comp pays (fun (x4 : (List Int)) => (R.ok x4)) = .ok pays := by
    have := comp_ok (f := fun (x1 : (List Int)) => (R.ok x1)) (fun x => x) (xs := pays) (by rw [hP.1]; omega) fun x _ => rfl
    rw [this]; simp
  rw [epays, bok, init_ok hC hP, bok]
  refine Rt.bind (weights_ok hC) fun w hw => ?_
  refine Rt.bind (cell_draws (k := 6) (by omega) (by intro z hz; simp at hz; omega) (by simp)) fun d hd => ?_
  obtain ⟨v1, v2, v3, v4⟩ := every_ok hC hw
  obtain ⟨k1, k2, k3⟩ := common12 v2 v4
  rw [v1, bok, common_ok v2 (by decide) (by omega), bok, law_gains_ok hC hP hw, bok]
  generalize hK : commonL w.flatten.flatten = K at *
  have hKs : Sz 4 K := Sz.of_nat 12 (by omega)
  have hgl : ((List.range (prodL cs)).map fun o => totI cs pays w K o).length = prodL cs := by simp
  rw [comp_ok (fun x : Int => nf ((x : Rat) / (K : Rat))) (by rw [hgl]; omega) fun x _ => lowest_ok (b := 4) k1 hKs (by decide), bok, List.map_map]
  have hex : ∀ p, ∃ x, p < cs.length → Person cs w K p x := fun p => by
    by_cases hp : p < cs.length
    · obtain ⟨x, hx⟩ := person_ok hC hw k1 k3 hp
      exact ⟨x, fun _ => hx⟩
    · exact ⟨[], fun z => absurd z hp⟩
  obtain ⟨X, hX⟩ := Classical.axiomOfChoice hex
  have H0 : ∀ p i, p < cs.length → i < mn cs p → 0 ≤ hld (X p) i := fun p i hp hi => (hX p hp).pos i hi
  have HS : ∀ p, p < cs.length → 0 < sm (hld (X p)) (mn cs p) := fun p hp => (hX p hp).tot
  have M0 := mean0 (pays := pays) (w := w) (K := K) (Hf := fun p => hld (X p)) hC fun p hp => (hX p hp).bal
  have PP := prods_pos hC H0 HS
  have ga : m_law_gains_asked (gameOf cs pays) w ((List.range (prodL cs)).map ((fun x : Int => nf ((x : Rat) / (K : Rat))) ∘ fun o => totI cs pays w K o)) = .ok true := by
    refine gains_asked_ok ⟨by rw [hw.1]; omega, fun t ht => ?_⟩ ?_ (by simp; omega) ?_
    · obtain ⟨i, hi, e⟩ := List.mem_iff_getElem.mp ht
      rw [(hw.2 i t (by rw [List.getElem?_eq_getElem hi, e])).1]
      have := (hC.mn_pos (p := i) (by rw [← hw.1]; exact hi)).2
      omega
    · rw [gains_ok hC hP hw (check_weights_spec.1 (ws_ok hw))]
      congr 1
      refine List.map_congr_left fun o _ => ?_
      rw [tot_eq hC hw k1 k3]; rfl
    · obtain ⟨o, o1, o2⟩ := some_low hC H0 HS M0
      refine ⟨o, by simpa using o1, ?_⟩
      rw [List.getElem_map, List.getElem_range]
      exact nf_low k1 o2
  rw [ga, bok, bok, show (!true) = false from rfl, if_neg Bool.false_ne_true]
  rw [comp_ok (fun _ : Int => (1 : Int)) (by rw [hgl]; omega) fun x _ => rfl, bok, icast_length, rangeQ_ok (by omega), bok]
  have hz : ∀ p, p < cs.length → ∀ k, k < mn cs p → Sz 11511 (hld (X p) k) := fun p hp k hk => by
    have hm := (hC.mn_pos hp).2
    have hl := (hX p hp).len
    have := Sz.hld (hX p hp).nums (i := k) (by omega)
    refine this.mono ?_
    have : (X p).length * 2302 ≤ 4 * 2302 := Nat.mul_le_mul_right _ (by omega)
    omega
  refine Rt.forC (fun i s => s = (List.range (prodL cs)).map fun o => pr (fun q => hld (X q) (dig cs q o)) i) ?_ (fun i hi s hs kn hkn => ?_) fun s hs => ?_
  · rw [List.map_map]; rfl
  · have hp : i < cs.length := by simpa using hi
    have hm := hC.mn_pos hp
    obtain ⟨table, rows, t1, t2, t3⟩ := (hX i hp).ex
    have xl := (hX i hp).len
    have hll : (X i).length * 2302 ≤ 4 * 2302 := Nat.mul_le_mul_right _ (by omega)
    obtain ⟨q1, q2, q3, q4⟩ := lcmL_facts (hX i hp).nums (show (0 : Int) < 1 by decide) (show Sz 1 1 by decide)
    have hsl : s.length = prodL cs := by rw [hs]; simp
    rw [iota_get, ixQ_some t1, bok, t2, bok, t3 d hd, bok]
    show Rt (R.bind (R.bind (m_law_common (X i)) _) _) _
    rw [common_ok (hX i hp).nums (by decide) (by omega), bok, scaled_ok (k := commonL (X i)) (m := 9209) (hX i hp).nums (q2.mono (by omega)) (by omega) (by decide) (by decide), bok, hsl, rangeQ_ok (by omega), bok]
    refine Rt.forC (fun j t => t.length = prodL cs ∧ ∀ o, o < prodL cs → t[o]? = some (pr (fun q => hld (X q) (dig cs q o)) (if o < j then i + 1 else i))) ⟨hsl, fun o ho => ?_⟩ (fun j hj t ⟨ht1, ht2⟩ kn2 hkn2 => ?_) fun t ⟨ht1, ht2⟩ => ?_
    · rw [hs, map_range_get ho, if_neg (by omega)]
    · have hj' : j < prodL cs := by simpa using hj
      have hd := dig_lt hC (o := j) hp
      rw [iota_get, ixQ_some (ht2 j hj'), bok, lchosen_ok hC hp, bok, ixQ_some (hld_get (by omega)), bok, if_neg (by omega), mulQ_ok (n := 1 + i * 11511) (m := 11511) (pr_sz fun q hq => hz q (by omega) _ (dig_lt hC (by omega))) (hz i hp _ hd) (by have : i * 11511 ≤ 3 * 11511 := Nat.mul_le_mul_right _ (by omega); omega), bok, bok, setQ_ok (by omega), bok]
      refine hkn2 _ ⟨by rw [List.length_set]; exact ht1, fun o ho => ?_⟩
      by_cases e : o = j
      · subst e
        rw [List.getElem?_set_self (by omega), if_pos (by omega)]; rfl
      · rw [List.getElem?_set_ne (Ne.symm e), ht2 o ho]
        by_cases c : o < j
        · rw [if_pos c, if_pos (by omega)]
        · rw [if_neg c, if_neg (by omega)]
    · rw [iota_length] at ht2
      refine hkn _ ?_
      apply List.ext_getElem?
      intro o
      by_cases ho : o < prodL cs
      · rw [ht2 o ho, if_pos ho, map_range_get ho]
      · rw [List.getElem?_eq_none (by omega), List.getElem?_eq_none (by simp; omega)]
  · rw [iota_length] at hs
    rw [hgl, rangeQ_ok (by omega), bok]
    have ec : comp (iota (prodL cs)) (fun (x41 : Int) => (R.bind (ixQ s x41) fun r42 => (R.bind (ixQ ((List.range (prodL cs)).map fun o => totI cs pays w K o) x41) fun r43 => (mulQ r42 r43)))) = .ok ((List.range (prodL cs)).map fun o => pr (fun q => hld (X q) (dig cs q o)) cs.length * totI cs pays w K o) := by
      rw [comp_ok (fun x : Int => pr (fun q => hld (X q) (dig cs q x.toNat)) cs.length * totI cs pays w K x.toNat) (by rw [iota_length]; omega) fun x hx => ?_]
      · congr 1
        unfold iota
        rw [List.map_map]
        refine List.map_congr_left fun o _ => ?_
        simp
      · obtain ⟨j, hj, e⟩ := List.mem_iff_getElem.mp hx
        have hj' : j < prodL cs := by simpa using hj
        rw [iota_get] at e
        subst e
        have e1 : s[j]? = some (pr (fun q => hld (X q) (dig cs q j)) cs.length) := by rw [hs, map_range_get hj']
        rw [ixQ_some e1, bok, ixQ_some (map_range_get hj'), bok, mulQ_ok (n := 1 + cs.length * 11511) (m := 216) (pr_sz fun q hq => hz q hq _ (dig_lt hC hq)) (totI_sz hC hw hP hKs hj') (by have : cs.length * 11511 ≤ 3 * 11511 := Nat.mul_le_mul_right _ (by omega); omega)]
        simp
    rw [ec, bok, bok, sum_map_range, M0, decide_eq_true rfl, bok, show (!true) = false from rfl, if_neg Bool.false_ne_true, bok, hs, sum_map_range, decide_eq_false (show ¬ sm (fun o => pr (fun q => hld (X q) (dig cs q o)) cs.length) (prodL cs) ≤ 0 by omega), if_neg Bool.false_ne_true]
    exact Rt.of_eq (bad_asked_ok hC hw hd) rfl
end Wk
end
section
set_option Elab.async false
set_option linter.all false
set_option maxRecDepth 100000
set_option maxHeartbeats 0
namespace Wk
open PySem PySem.Spec PyProof.Rows L2
def d_m_ratio : He.DefD := ⟨("ratio", none), "ratio", "ratio", defArgs s_m_ratio, defBody s_m_ratio, defScope s_m_ratio, [], []⟩
def d_m_plus : He.DefD := ⟨("plus", none), "plus", "plus", defArgs s_m_plus, defBody s_m_plus, defScope s_m_plus, [], []⟩
def d_m_times : He.DefD := ⟨("times", none), "times", "times", defArgs s_m_times, defBody s_m_times, defScope s_m_times, [], []⟩
def d_m_whole : He.DefD := ⟨("whole", none), "whole", "whole", defArgs s_m_whole, defBody s_m_whole, defScope s_m_whole, [], []⟩
def d_m_is_shares : He.DefD := ⟨("is_shares", none), "is_shares", "is_shares", defArgs s_m_is_shares, defBody s_m_is_shares, defScope s_m_is_shares, [], []⟩
def d_m_check_player : He.DefD := ⟨("check_player", none), "check_player", "check_player", defArgs s_m_check_player, defBody s_m_check_player, defScope s_m_check_player, [], []⟩
def d_m_check_outcome : He.DefD := ⟨("check_outcome", none), "check_outcome", "check_outcome", defArgs s_m_check_outcome, defBody s_m_check_outcome, defScope s_m_check_outcome, [], []⟩
def d_m_Game_choices : He.DefD := ⟨("Game", some "choices"), "choices", "Game.choices", defArgs s_m_Game_choices, defBody s_m_Game_choices, defScope s_m_Game_choices, [], []⟩
def d_m_check_choice : He.DefD := ⟨("check_choice", none), "check_choice", "check_choice", defArgs s_m_check_choice, defBody s_m_check_choice, defScope s_m_check_choice, [], []⟩
def d_m_Game_chosen : He.DefD := ⟨("Game", some "chosen"), "chosen", "Game.chosen", defArgs s_m_Game_chosen, defBody s_m_Game_chosen, defScope s_m_Game_chosen, [], []⟩
def d_m_Game_pay : He.DefD := ⟨("Game", some "pay"), "pay", "Game.pay", defArgs s_m_Game_pay, defBody s_m_Game_pay, defScope s_m_Game_pay, [], []⟩
def d_m_Game_switched : He.DefD := ⟨("Game", some "switched"), "switched", "Game.switched", defArgs s_m_Game_switched, defBody s_m_Game_switched, defScope s_m_Game_switched, [], []⟩
def d_m_check_weights : He.DefD := ⟨("check_weights", none), "check_weights", "check_weights", defArgs s_m_check_weights, defBody s_m_check_weights, defScope s_m_check_weights, [], []⟩
def d_m_gains : He.DefD := ⟨("gains", none), "gains", "gains", defArgs s_m_gains, defBody s_m_gains, defScope s_m_gains, [], []⟩
def d_m_refuted : He.DefD := ⟨("refuted", none), "refuted", "refuted", defArgs s_m_refuted, defBody s_m_refuted, defScope s_m_refuted, [], []⟩
def d_m_left_out : He.DefD := ⟨("left_out", none), "left_out", "left_out", defArgs s_m_left_out, defBody s_m_left_out, defScope s_m_left_out, [], []⟩
def d_m_resting : He.DefD := ⟨("resting", none), "resting", "resting", defArgs s_m_resting, defBody s_m_resting, defScope s_m_resting, [], []⟩
def d_m_is_resting : He.DefD := ⟨("is_resting", none), "is_resting", "is_resting", defArgs s_m_is_resting, defBody s_m_is_resting, defScope s_m_is_resting, [], []⟩
def d_m_law_cell : He.DefD := ⟨("_law_cell", none), "_law_cell", "_law_cell", defArgs s_m_law_cell, defBody s_m_law_cell, defScope s_m_law_cell, [], []⟩
def d_m_law_draws : He.DefD := ⟨("_law_draws", none), "_law_draws", "_law_draws", defArgs s_m_law_draws, defBody s_m_law_draws, defScope s_m_law_draws, [], []⟩
def d_m_law_gcd : He.DefD := ⟨("_law_gcd", none), "_law_gcd", "_law_gcd", defArgs s_m_law_gcd, defBody s_m_law_gcd, defScope s_m_law_gcd, [], []⟩
def d_m_law_same : He.DefD := ⟨("_law_same", none), "_law_same", "_law_same", defArgs s_m_law_same, defBody s_m_law_same, defScope s_m_law_same, [], []⟩
def d_m_law_is_number : He.DefD := ⟨("_law_is_number", none), "_law_is_number", "_law_is_number", defArgs s_m_law_is_number, defBody s_m_law_is_number, defScope s_m_law_is_number, [], []⟩
def d_m_law_are_numbers : He.DefD := ⟨("_law_are_numbers", none), "_law_are_numbers", "_law_are_numbers", defArgs s_m_law_are_numbers, defBody s_m_law_are_numbers, defScope s_m_law_are_numbers, [], []⟩
def d_m_law_common : He.DefD := ⟨("_law_common", none), "_law_common", "_law_common", defArgs s_m_law_common, defBody s_m_law_common, defScope s_m_law_common, [], []⟩
def d_m_law_scaled : He.DefD := ⟨("_law_scaled", none), "_law_scaled", "_law_scaled", defArgs s_m_law_scaled, defBody s_m_law_scaled, defScope s_m_law_scaled, [], []⟩
def d_m_law_step : He.DefD := ⟨("_law_step", none), "_law_step", "_law_step", defArgs s_m_law_step, defBody s_m_law_step, defScope s_m_law_step, [], []⟩
def d_m_law_chosen : He.DefD := ⟨("_law_chosen", none), "_law_chosen", "_law_chosen", defArgs s_m_law_chosen, defBody s_m_law_chosen, defScope s_m_law_chosen, [], []⟩
def d_m_law_change : He.DefD := ⟨("_law_change", none), "_law_change", "_law_change", defArgs s_m_law_change, defBody s_m_law_change, defScope s_m_law_change, [], []⟩
def d_m_law_every : He.DefD := ⟨("_law_every", none), "_law_every", "_law_every", defArgs s_m_law_every, defBody s_m_law_every, defScope s_m_law_every, [], []⟩
def d_m_law_gains : He.DefD := ⟨("_law_gains", none), "_law_gains", "_law_gains", defArgs s_m_law_gains, defBody s_m_law_gains, defScope s_m_law_gains, [], []⟩
def d_m_law_lowest_terms : He.DefD := ⟨("_law_lowest_terms", none), "_law_lowest_terms", "_law_lowest_terms", defArgs s_m_law_lowest_terms, defBody s_m_law_lowest_terms, defScope s_m_law_lowest_terms, [], []⟩
def d_m_law_weights : He.DefD := ⟨("_law_weights", none), "_law_weights", "_law_weights", defArgs s_m_law_weights, defBody s_m_law_weights, defScope s_m_law_weights, [], []⟩
def d_m_law_rates : He.DefD := ⟨("_law_rates", none), "_law_rates", "_law_rates", defArgs s_m_law_rates, defBody s_m_law_rates, defScope s_m_law_rates, [], []⟩
def d_m_law_rests : He.DefD := ⟨("_law_rests", none), "_law_rests", "_law_rests", defArgs s_m_law_rests, defBody s_m_law_rests, defScope s_m_law_rests, [], []⟩
def d_m_law_judged : He.DefD := ⟨("_law_judged", none), "_law_judged", "_law_judged", defArgs s_m_law_judged, defBody s_m_law_judged, defScope s_m_law_judged, [], []⟩
def d_m_law_resting : He.DefD := ⟨("_law_resting", none), "_law_resting", "_law_resting", defArgs s_m_law_resting, defBody s_m_law_resting, defScope s_m_law_resting, [], []⟩
def d_m_law_copy : He.DefD := ⟨("_law_copy", none), "_law_copy", "_law_copy", defArgs s_m_law_copy, defBody s_m_law_copy, defScope s_m_law_copy, [], []⟩
def d_m_law_refused : He.DefD := ⟨("_law_refused", none), "_law_refused", "_law_refused", defArgs s_m_law_refused, defBody s_m_law_refused, defScope s_m_law_refused, [], []⟩
def d_m_law_gains_asked : He.DefD := ⟨("_law_gains_asked", none), "_law_gains_asked", "_law_gains_asked", defArgs s_m_law_gains_asked, defBody s_m_law_gains_asked, defScope s_m_law_gains_asked, [], []⟩
def d_m_law_bad_asked : He.DefD := ⟨("_law_bad_asked", none), "_law_bad_asked", "_law_bad_asked", defArgs s_m_law_bad_asked, defBody s_m_law_bad_asked, defScope s_m_law_bad_asked, [], []⟩
def d_m_counted : He.DefD := ⟨("counted", none), "counted", "counted", defArgs s_m_counted, defBody s_m_counted, defScope s_m_counted, [], []⟩
def d_m_check_pays : He.DefD := ⟨("check_pays", none), "check_pays", "check_pays", defArgs s_m_check_pays, defBody s_m_check_pays, defScope s_m_check_pays, [], []⟩
def d_m_law_game : He.DefD := ⟨("_law_game", none), "_law_game", "_law_game", defArgs s_m_law_game, defBody s_m_law_game, defScope s_m_law_game, [], []⟩
def d_m_Game_init : He.DefD := ⟨("Game", some "__init__"), "__init__", "Game.__init__", defArgs s_m_Game_init, defBody s_m_Game_init, defScope s_m_Game_init, [], []⟩
def d_m_law : He.DefD := ⟨("law", none), "law", "law", defArgs s_m_law, defBody s_m_law, defScope s_m_law, [], []⟩
def dfs : List He.DefD := [d_m_ratio, d_m_plus, d_m_times, d_m_whole, d_m_is_shares, d_m_check_player, d_m_check_outcome, d_m_Game_choices, d_m_check_choice, d_m_Game_chosen, d_m_Game_pay, d_m_Game_switched, d_m_check_weights, d_m_gains, d_m_refuted, d_m_left_out, d_m_resting, d_m_is_resting, d_m_law_cell, d_m_law_draws, d_m_law_gcd, d_m_law_same, d_m_law_is_number, d_m_law_are_numbers, d_m_law_common, d_m_law_scaled, d_m_law_step, d_m_law_chosen, d_m_law_change, d_m_law_every, d_m_law_gains, d_m_law_lowest_terms, d_m_law_weights, d_m_law_rates, d_m_law_rests, d_m_law_judged, d_m_law_resting, d_m_law_copy, d_m_law_refused, d_m_law_gains_asked, d_m_law_bad_asked, d_m_counted, d_m_check_pays, d_m_law_game, d_m_Game_init, d_m_law]
def fas : List He.Fa := [.glo "BadGame", .glo "BadRow", .exc "BadRow", .glo "Fault", .int "MOST_CHOICES" (4 : Int), .int "MOST_OUTCOMES" (12 : Int), .int "MOST_PAY" (99 : Int), .int "MOST_PLAYERS" (3 : Int), .glo "ONE", .free "ValueError", .glo "_law_are_numbers", .glo "_law_bad_asked", .glo "_law_cell", .glo "_law_change", .glo "_law_chosen", .glo "_law_common", .glo "_law_copy", .glo "_law_draws", .glo "_law_every", .glo "_law_gains", .glo "_law_gains_asked", .glo "_law_game", .glo "_law_gcd", .glo "_law_is_number", .glo "_law_judged", .glo "_law_lowest_terms", .glo "_law_rates", .glo "_law_refused", .glo "_law_resting", .glo "_law_rests", .glo "_law_same", .glo "_law_scaled", .glo "_law_step", .glo "_law_weights", .free "abs", .free "bool", .glo "check_choice", .glo "check_outcome", .glo "check_pays", .glo "check_player", .glo "check_weights", .glo "counted", .free "enumerate", .glo "gains", .free "int", .glo "is_resting", .glo "is_shares", .free "isinstance", .glo "law", .glo "left_out", .free "len", .free "list", .free "min", .glo "plus", .free "range", .glo "ratio", .glo "refuted", .glo "resting", .free "sum", .glo "times", .free "tuple", .glo "whole", .free "zip", .cls "Game", .noat "Game" "outcomes", .noat "Game" "people", .noat "Game" "_choices", .noat "Game" "_pays", .noat "Game" "_steps", .meth "Game" "choices", .meth "Game" "chosen", .meth "Game" "pay", .meth "Game" "switched", .exm "BadRow" "Fault" true, .glo "Game", .mkr "Game"]
def exs : List (Fg → Bool) := [fun K => He.tupB K "ONE" [.int 1, .int 1], fun K => He.eqO (PySem.W.nsIn K mainGlobals "gcd") (some (some (.builtin "math.gcd"))), fun K => He.eqO (PySem.W.nsIn K mainGlobals "lcm") (some (some (.builtin "math.lcm"))), fun K => excCB K (He.ga K "BadRow"), fun K => decide (PySem.W.kitOne K (.ref (He.ga K "BadRow")) (.ref (He.ga K "BadRow")) = some true), fun K => decide (PySem.W.kitOne K (.ref (He.ga K "BadRow")) (.ref (He.ga K "BadGame")) = some false), fun K => decide (PySem.W.kitOne K (.ref (He.ga K "BadRow")) (.type "ValueError") = some true)]
def exB (K : Fg) : Bool := exs.all fun f => f K
theorem exAt {w : World} {h : Heap} {K : Fg} (c : He.SaysX fas dfs [] [] exB w h K) (i : Nat) {f : Fg → Bool} (h : exs[i]? = some f) : f K = true := List.all_eq_true.mp c.more _ (List.mem_of_getElem? h)
theorem tx_of {w : World} {h : Heap} {K : Fg} {mg : Str → Option Value} (X : K.In h) (G : h.Ns mainGlobals mg) (c : He.SaysX fas dfs [] [] exB w h K) : Tx K mg :=
  ⟨(He.glo_ok X G (c.t.d.fact 0 (f := .glo "BadGame") rfl)),
   (He.glo_ok X G (c.t.d.fact 1 (f := .glo "BadRow") rfl)),
   (He.exc_ok (c.t.d.fact 2 (f := .exc "BadRow") rfl)).1,
   (He.exc_ok (c.t.d.fact 2 (f := .exc "BadRow") rfl)).2.1,
   (He.exc_ok (c.t.d.fact 2 (f := .exc "BadRow") rfl)).2.2.1,
   (He.exc_ok (c.t.d.fact 2 (f := .exc "BadRow") rfl)).2.2.2,
   (He.glo_ok X G (c.t.d.fact 3 (f := .glo "Fault") rfl)),
   (He.int_ok X G (c.t.d.fact 4 (f := .int "MOST_CHOICES" (4 : Int)) rfl)),
   (He.int_ok X G (c.t.d.fact 5 (f := .int "MOST_OUTCOMES" (12 : Int)) rfl)),
   (He.int_ok X G (c.t.d.fact 6 (f := .int "MOST_PAY" (99 : Int)) rfl)),
   (He.int_ok X G (c.t.d.fact 7 (f := .int "MOST_PLAYERS" (3 : Int)) rfl)),
   (He.glo_ok X G (c.t.d.fact 8 (f := .glo "ONE") rfl)),
   (fun F => ⟨_, _, _, rfl, He.tupB_ok (exAt c 0 (f := fun K => He.tupB K "ONE" [.int 1, .int 1]) rfl) F, rfl, rfl⟩),
   (He.free_ok X G (c.t.d.fact 9 (f := .free "ValueError") rfl)),
   (He.glo_ok X G (c.t.d.fact 10 (f := .glo "_law_are_numbers") rfl)),
   (He.glo_ok X G (c.t.d.fact 11 (f := .glo "_law_bad_asked") rfl)),
   (He.glo_ok X G (c.t.d.fact 12 (f := .glo "_law_cell") rfl)),
   (He.glo_ok X G (c.t.d.fact 13 (f := .glo "_law_change") rfl)),
   (He.glo_ok X G (c.t.d.fact 14 (f := .glo "_law_chosen") rfl)),
   (He.glo_ok X G (c.t.d.fact 15 (f := .glo "_law_common") rfl)),
   (He.glo_ok X G (c.t.d.fact 16 (f := .glo "_law_copy") rfl)),
   (He.glo_ok X G (c.t.d.fact 17 (f := .glo "_law_draws") rfl)),
   (He.glo_ok X G (c.t.d.fact 18 (f := .glo "_law_every") rfl)),
   (He.glo_ok X G (c.t.d.fact 19 (f := .glo "_law_gains") rfl)),
   (He.glo_ok X G (c.t.d.fact 20 (f := .glo "_law_gains_asked") rfl)),
   (He.glo_ok X G (c.t.d.fact 21 (f := .glo "_law_game") rfl)),
   (He.glo_ok X G (c.t.d.fact 22 (f := .glo "_law_gcd") rfl)),
   (He.glo_ok X G (c.t.d.fact 23 (f := .glo "_law_is_number") rfl)),
   (He.glo_ok X G (c.t.d.fact 24 (f := .glo "_law_judged") rfl)),
   (He.glo_ok X G (c.t.d.fact 25 (f := .glo "_law_lowest_terms") rfl)),
   (He.glo_ok X G (c.t.d.fact 26 (f := .glo "_law_rates") rfl)),
   (He.glo_ok X G (c.t.d.fact 27 (f := .glo "_law_refused") rfl)),
   (He.glo_ok X G (c.t.d.fact 28 (f := .glo "_law_resting") rfl)),
   (He.glo_ok X G (c.t.d.fact 29 (f := .glo "_law_rests") rfl)),
   (He.glo_ok X G (c.t.d.fact 30 (f := .glo "_law_same") rfl)),
   (He.glo_ok X G (c.t.d.fact 31 (f := .glo "_law_scaled") rfl)),
   (He.glo_ok X G (c.t.d.fact 32 (f := .glo "_law_step") rfl)),
   (He.glo_ok X G (c.t.d.fact 33 (f := .glo "_law_weights") rfl)),
   (He.free_ok X G (c.t.d.fact 34 (f := .free "abs") rfl)),
   (He.free_ok X G (c.t.d.fact 35 (f := .free "bool") rfl)),
   (He.glo_ok X G (c.t.d.fact 36 (f := .glo "check_choice") rfl)),
   (He.glo_ok X G (c.t.d.fact 37 (f := .glo "check_outcome") rfl)),
   (He.glo_ok X G (c.t.d.fact 38 (f := .glo "check_pays") rfl)),
   (He.glo_ok X G (c.t.d.fact 39 (f := .glo "check_player") rfl)),
   (He.glo_ok X G (c.t.d.fact 40 (f := .glo "check_weights") rfl)),
   (He.glo_ok X G (c.t.d.fact 41 (f := .glo "counted") rfl)),
   (He.free_ok X G (c.t.d.fact 42 (f := .free "enumerate") rfl)),
   (He.glo_ok X G (c.t.d.fact 43 (f := .glo "gains") rfl)),
   (PySem.W.mg_of X G (He.eqO_ok (exAt c 1 (f := fun K => He.eqO (PySem.W.nsIn K mainGlobals "gcd") (some (some (.builtin "math.gcd")))) rfl))),
   (He.free_ok X G (c.t.d.fact 44 (f := .free "int") rfl)),
   (He.glo_ok X G (c.t.d.fact 45 (f := .glo "is_resting") rfl)),
   (He.glo_ok X G (c.t.d.fact 46 (f := .glo "is_shares") rfl)),
   (He.free_ok X G (c.t.d.fact 47 (f := .free "isinstance") rfl)),
   (He.glo_ok X G (c.t.d.fact 48 (f := .glo "law") rfl)),
   (PySem.W.mg_of X G (He.eqO_ok (exAt c 2 (f := fun K => He.eqO (PySem.W.nsIn K mainGlobals "lcm") (some (some (.builtin "math.lcm")))) rfl))),
   (He.glo_ok X G (c.t.d.fact 49 (f := .glo "left_out") rfl)),
   (He.free_ok X G (c.t.d.fact 50 (f := .free "len") rfl)),
   (He.free_ok X G (c.t.d.fact 51 (f := .free "list") rfl)),
   (He.free_ok X G (c.t.d.fact 52 (f := .free "min") rfl)),
   (He.glo_ok X G (c.t.d.fact 53 (f := .glo "plus") rfl)),
   (He.free_ok X G (c.t.d.fact 54 (f := .free "range") rfl)),
   (He.glo_ok X G (c.t.d.fact 55 (f := .glo "ratio") rfl)),
   (He.glo_ok X G (c.t.d.fact 56 (f := .glo "refuted") rfl)),
   (He.glo_ok X G (c.t.d.fact 57 (f := .glo "resting") rfl)),
   (He.free_ok X G (c.t.d.fact 58 (f := .free "sum") rfl)),
   (He.glo_ok X G (c.t.d.fact 59 (f := .glo "times") rfl)),
   (He.free_ok X G (c.t.d.fact 60 (f := .free "tuple") rfl)),
   (He.glo_ok X G (c.t.d.fact 61 (f := .glo "whole") rfl)),
   (He.free_ok X G (c.t.d.fact 62 (f := .free "zip") rfl)),
   (He.cls_ok (c.t.d.fact 63 (f := .cls "Game") rfl)),
   (He.noat_ok (c.t.d.fact 64 (f := .noat "Game" "outcomes") rfl)),
   (He.noat_ok (c.t.d.fact 65 (f := .noat "Game" "people") rfl)),
   (He.noat_ok (c.t.d.fact 66 (f := .noat "Game" "_choices") rfl)),
   (He.noat_ok (c.t.d.fact 67 (f := .noat "Game" "_pays") rfl)),
   (He.noat_ok (c.t.d.fact 68 (f := .noat "Game" "_steps") rfl)),
   (He.meth_ok (c.t.d.fact 69 (f := .meth "Game" "choices") rfl)),
   (He.meth_ok (c.t.d.fact 70 (f := .meth "Game" "chosen") rfl)),
   (He.meth_ok (c.t.d.fact 71 (f := .meth "Game" "pay") rfl)),
   (He.meth_ok (c.t.d.fact 72 (f := .meth "Game" "switched") rfl)),
   (He.exm_ok (c.t.d.fact 73 (f := .exm "BadRow" "Fault" true) rfl)),
   (excCB_ok (exAt c 3 (f := fun K => excCB K (He.ga K "BadRow")) rfl)),
   (of_decide_eq_true (exAt c 4 (f := fun K => decide (PySem.W.kitOne K (.ref (He.ga K "BadRow")) (.ref (He.ga K "BadRow")) = some true)) rfl)),
   (of_decide_eq_true (exAt c 5 (f := fun K => decide (PySem.W.kitOne K (.ref (He.ga K "BadRow")) (.ref (He.ga K "BadGame")) = some false)) rfl)),
   (of_decide_eq_true (exAt c 6 (f := fun K => decide (PySem.W.kitOne K (.ref (He.ga K "BadRow")) (.type "ValueError") = some true)) rfl)),
   (He.glo_ok X G (c.t.d.fact 74 (f := .glo "Game") rfl)),
   (He.mkr_ok (c.t.d.fact 75 (f := .mkr "Game") rfl))⟩
abbrev RW : PySem.W.OpenRow := PySem.W.OpenLaw.row PySem.Challenge.rw_fairstart_k81_weights_that_rest
abbrev hk : PySem.W.Hook := He.hookX 4 fas dfs [] [] exB
def ob (s : PySem.W.SharedT) : He.AlX := He.obsX 4 fas dfs [] [] exB (HandSHeadRun.getT s)
theorem ob_eq (s : PySem.W.SharedT) : ob s = hk.obs s.abs := He.obsX_eq (HandSHeadRun.getT_eq s)
def loose0 : List Str := ["gcd", "lcm", "_wall", "Fault", "BadNumber", "NoPerson", "NoWorld", "BadRow", "BadGame", "NoChoice", "ONE", "ratio", "plus", "times", "whole", "is_shares", "MOST_PLAYERS", "MOST_CHOICES", "MOST_OUTCOMES", "MOST_PAY", "check_player", "check_outcome", "check_choice", "counted", "check_pays", "Game", "check_weights", "gains", "refuted", "left_out"]
def loose1 : List Str := ["resting", "is_resting", "_law_cell", "_law_draws", "_law_gcd", "_law_same", "_law_is_number", "_law_are_numbers", "_law_common", "_law_scaled", "_law_game", "_law_step", "_law_chosen", "_law_change", "_law_every", "_law_gains", "_law_lowest_terms", "_law_weights", "_law_rates", "_law_rests", "_law_judged", "_law_resting", "_law_refused", "_law_copy", "_law_gains_asked", "_law_bad_asked"]
def loose : List Str := loose0 ++ loose1
def vw : Program := PySem.W.view RW.prog [0, 62]
theorem run (w : World) : HandSHeadRun.RunEqI RW vw hk ob 6000 loose w := by
  unfold HandSHeadRun.RunEqI
  kernel_rfl
section
variable {P : Program} {w : World} {K : Fg} {mg : Str → Option Value} {base : Heap} {h : Heap}
theorem facts (X : K.In h) (G : h.Ns mainGlobals mg) (c : He.SaysX fas dfs [] [] exB w h K) : ∃ fd : FuncData, (∀ (s : Shared) (v : Value), BindsTo s fd ⟨[v], []⟩ [("script", v)]) ∧ ∀ base : Heap, K.In base → base.Ns mainGlobals mg → FnOk P w K mg base (L2.CX P w) 11 (He.ga K "law") fd ["script"] (Prm K (rv K) fun (a : Scr × Unit) => m_law a.1) := by
  have T := tx_of X G c
  obtain ⟨fd_m_ratio, D_m_ratio⟩ := c.t.d.def_ 0 (d := d_m_ratio) rfl
  obtain ⟨fd_m_plus, D_m_plus⟩ := c.t.d.def_ 1 (d := d_m_plus) rfl
  obtain ⟨fd_m_times, D_m_times⟩ := c.t.d.def_ 2 (d := d_m_times) rfl
  obtain ⟨fd_m_whole, D_m_whole⟩ := c.t.d.def_ 3 (d := d_m_whole) rfl
  obtain ⟨fd_m_is_shares, D_m_is_shares⟩ := c.t.d.def_ 4 (d := d_m_is_shares) rfl
  obtain ⟨fd_m_check_player, D_m_check_player⟩ := c.t.d.def_ 5 (d := d_m_check_player) rfl
  obtain ⟨fd_m_check_outcome, D_m_check_outcome⟩ := c.t.d.def_ 6 (d := d_m_check_outcome) rfl
  obtain ⟨fd_m_Game_choices, D_m_Game_choices⟩ := c.t.d.def_ 7 (d := d_m_Game_choices) rfl
  obtain ⟨fd_m_check_choice, D_m_check_choice⟩ := c.t.d.def_ 8 (d := d_m_check_choice) rfl
  obtain ⟨fd_m_Game_chosen, D_m_Game_chosen⟩ := c.t.d.def_ 9 (d := d_m_Game_chosen) rfl
  obtain ⟨fd_m_Game_pay, D_m_Game_pay⟩ := c.t.d.def_ 10 (d := d_m_Game_pay) rfl
  obtain ⟨fd_m_Game_switched, D_m_Game_switched⟩ := c.t.d.def_ 11 (d := d_m_Game_switched) rfl
  obtain ⟨fd_m_check_weights, D_m_check_weights⟩ := c.t.d.def_ 12 (d := d_m_check_weights) rfl
  obtain ⟨fd_m_gains, D_m_gains⟩ := c.t.d.def_ 13 (d := d_m_gains) rfl
  obtain ⟨fd_m_refuted, D_m_refuted⟩ := c.t.d.def_ 14 (d := d_m_refuted) rfl
  obtain ⟨fd_m_left_out, D_m_left_out⟩ := c.t.d.def_ 15 (d := d_m_left_out) rfl
  obtain ⟨fd_m_resting, D_m_resting⟩ := c.t.d.def_ 16 (d := d_m_resting) rfl
  obtain ⟨fd_m_is_resting, D_m_is_resting⟩ := c.t.d.def_ 17 (d := d_m_is_resting) rfl
  obtain ⟨fd_m_law_cell, D_m_law_cell⟩ := c.t.d.def_ 18 (d := d_m_law_cell) rfl
  obtain ⟨fd_m_law_draws, D_m_law_draws⟩ := c.t.d.def_ 19 (d := d_m_law_draws) rfl
  obtain ⟨fd_m_law_gcd, D_m_law_gcd⟩ := c.t.d.def_ 20 (d := d_m_law_gcd) rfl
  obtain ⟨fd_m_law_same, D_m_law_same⟩ := c.t.d.def_ 21 (d := d_m_law_same) rfl
  obtain ⟨fd_m_law_is_number, D_m_law_is_number⟩ := c.t.d.def_ 22 (d := d_m_law_is_number) rfl
  obtain ⟨fd_m_law_are_numbers, D_m_law_are_numbers⟩ := c.t.d.def_ 23 (d := d_m_law_are_numbers) rfl
  obtain ⟨fd_m_law_common, D_m_law_common⟩ := c.t.d.def_ 24 (d := d_m_law_common) rfl
  obtain ⟨fd_m_law_scaled, D_m_law_scaled⟩ := c.t.d.def_ 25 (d := d_m_law_scaled) rfl
  obtain ⟨fd_m_law_step, D_m_law_step⟩ := c.t.d.def_ 26 (d := d_m_law_step) rfl
  obtain ⟨fd_m_law_chosen, D_m_law_chosen⟩ := c.t.d.def_ 27 (d := d_m_law_chosen) rfl
  obtain ⟨fd_m_law_change, D_m_law_change⟩ := c.t.d.def_ 28 (d := d_m_law_change) rfl
  obtain ⟨fd_m_law_every, D_m_law_every⟩ := c.t.d.def_ 29 (d := d_m_law_every) rfl
  obtain ⟨fd_m_law_gains, D_m_law_gains⟩ := c.t.d.def_ 30 (d := d_m_law_gains) rfl
  obtain ⟨fd_m_law_lowest_terms, D_m_law_lowest_terms⟩ := c.t.d.def_ 31 (d := d_m_law_lowest_terms) rfl
  obtain ⟨fd_m_law_weights, D_m_law_weights⟩ := c.t.d.def_ 32 (d := d_m_law_weights) rfl
  obtain ⟨fd_m_law_rates, D_m_law_rates⟩ := c.t.d.def_ 33 (d := d_m_law_rates) rfl
  obtain ⟨fd_m_law_rests, D_m_law_rests⟩ := c.t.d.def_ 34 (d := d_m_law_rests) rfl
  obtain ⟨fd_m_law_judged, D_m_law_judged⟩ := c.t.d.def_ 35 (d := d_m_law_judged) rfl
  obtain ⟨fd_m_law_resting, D_m_law_resting⟩ := c.t.d.def_ 36 (d := d_m_law_resting) rfl
  obtain ⟨fd_m_law_copy, D_m_law_copy⟩ := c.t.d.def_ 37 (d := d_m_law_copy) rfl
  obtain ⟨fd_m_law_refused, D_m_law_refused⟩ := c.t.d.def_ 38 (d := d_m_law_refused) rfl
  obtain ⟨fd_m_law_gains_asked, D_m_law_gains_asked⟩ := c.t.d.def_ 39 (d := d_m_law_gains_asked) rfl
  obtain ⟨fd_m_law_bad_asked, D_m_law_bad_asked⟩ := c.t.d.def_ 40 (d := d_m_law_bad_asked) rfl
  obtain ⟨fd_m_counted, D_m_counted⟩ := c.t.d.def_ 41 (d := d_m_counted) rfl
  obtain ⟨fd_m_check_pays, D_m_check_pays⟩ := c.t.d.def_ 42 (d := d_m_check_pays) rfl
  obtain ⟨fd_m_law_game, D_m_law_game⟩ := c.t.d.def_ 43 (d := d_m_law_game) rfl
  obtain ⟨fd_m_Game_init, D_m_Game_init⟩ := c.t.d.def_ 44 (d := d_m_Game_init) rfl
  obtain ⟨fd_m_law, D_m_law⟩ := c.t.d.def_ 45 (d := d_m_law) rfl
  have b := FunD.bindsA (ps := ["script"]) D_m_law fun _ _ _ _ _ _ us hl => match us, hl with | [_], _ => rfl
  refine ⟨fd_m_law, fun s v => b s [v] rfl, fun base _ _ => ?_⟩
  have F_m_ratio := ok_m_ratio (P := P) (w := w) (base := base) T D_m_ratio
  have F_m_plus := ok_m_plus (P := P) (w := w) (base := base) T D_m_plus F_m_ratio
  have F_m_times := ok_m_times (P := P) (w := w) (base := base) T D_m_times F_m_ratio
  have F_m_whole := ok_m_whole (P := P) (w := w) (base := base) T D_m_whole
  have F_m_is_shares := ok_m_is_shares (P := P) (w := w) (base := base) T D_m_is_shares F_m_plus
  have F_m_check_player := ok_m_check_player (P := P) (w := w) (base := base) T D_m_check_player
  have F_m_check_outcome := ok_m_check_outcome (P := P) (w := w) (base := base) T D_m_check_outcome
  have F_m_Game_choices := MtX.mk (ok_m_Game_choices (P := P) (w := w) (base := base) T D_m_Game_choices) T.mt_Game_choices T.c_Game
  have F_m_check_choice := ok_m_check_choice (P := P) (w := w) (base := base) T D_m_check_choice F_m_Game_choices
  have F_m_Game_chosen := MtX.mk (ok_m_Game_chosen (P := P) (w := w) (base := base) T D_m_Game_chosen F_m_check_player F_m_check_outcome) T.mt_Game_chosen T.c_Game
  have F_m_Game_pay := MtX.mk (ok_m_Game_pay (P := P) (w := w) (base := base) T D_m_Game_pay F_m_check_player F_m_check_outcome) T.mt_Game_pay T.c_Game
  have F_m_Game_switched := MtX.mk (ok_m_Game_switched (P := P) (w := w) (base := base) T D_m_Game_switched F_m_Game_chosen F_m_check_choice) T.mt_Game_switched T.c_Game
  have F_m_check_weights := ok_m_check_weights (P := P) (w := w) (base := base) T D_m_check_weights F_m_Game_choices
  have F_m_gains := ok_m_gains (P := P) (w := w) (base := base) T D_m_gains F_m_check_weights F_m_Game_pay F_m_Game_chosen F_m_Game_switched F_m_times F_m_plus
  have F_m_refuted := ok_m_refuted (P := P) (w := w) (base := base) T D_m_refuted F_m_gains
  have F_m_left_out := ok_m_left_out (P := P) (w := w) (base := base) T D_m_left_out
  have F_m_resting := ok_m_resting (P := P) (w := w) (base := base) T D_m_resting F_m_left_out F_m_ratio
  have F_m_is_resting := ok_m_is_resting (P := P) (w := w) (base := base) T D_m_is_resting F_m_is_shares F_m_whole
  have F_m_law_cell := ok_m_law_cell (P := P) (w := w) (base := base) T D_m_law_cell
  have F_m_law_draws := ok_m_law_draws (P := P) (w := w) (base := base) T D_m_law_draws
  have F_m_law_gcd := ok_m_law_gcd (P := P) (w := w) (base := base) T D_m_law_gcd
  have F_m_law_same := ok_m_law_same (P := P) (w := w) (base := base) T D_m_law_same fuel_m_law_same
  have e_m_law_same : fuel_m_law_same + 1 = 9 := by rw [fuel_m_law_same]
  rw [e_m_law_same] at F_m_law_same
  have F_m_law_is_number := ok_m_law_is_number (P := P) (w := w) (base := base) T D_m_law_is_number F_m_law_gcd
  have F_m_law_are_numbers := ok_m_law_are_numbers (P := P) (w := w) (base := base) T D_m_law_are_numbers F_m_law_is_number
  have F_m_law_common := ok_m_law_common (P := P) (w := w) (base := base) T D_m_law_common F_m_law_gcd
  have F_m_law_scaled := ok_m_law_scaled (P := P) (w := w) (base := base) T D_m_law_scaled
  have F_m_law_step := ok_m_law_step (P := P) (w := w) (base := base) T D_m_law_step
  have F_m_law_chosen := ok_m_law_chosen (P := P) (w := w) (base := base) T D_m_law_chosen F_m_law_step
  have F_m_law_change := ok_m_law_change (P := P) (w := w) (base := base) T D_m_law_change F_m_law_chosen F_m_law_step
  have F_m_law_every := ok_m_law_every (P := P) (w := w) (base := base) T D_m_law_every
  have F_m_law_gains := ok_m_law_gains (P := P) (w := w) (base := base) T D_m_law_gains F_m_law_common F_m_law_every F_m_law_scaled F_m_law_chosen F_m_law_change
  have F_m_law_lowest_terms := ok_m_law_lowest_terms (P := P) (w := w) (base := base) T D_m_law_lowest_terms F_m_law_gcd
  have F_m_law_weights := ok_m_law_weights (P := P) (w := w) (base := base) T D_m_law_weights F_m_law_draws F_m_law_cell F_m_law_lowest_terms
  have F_m_law_rates := ok_m_law_rates (P := P) (w := w) (base := base) T D_m_law_rates F_m_law_common F_m_law_scaled
  have F_m_law_rests := ok_m_law_rests (P := P) (w := w) (base := base) T D_m_law_rests F_m_law_common F_m_law_scaled
  have F_m_law_judged := ok_m_law_judged (P := P) (w := w) (base := base) T D_m_law_judged F_m_is_resting F_m_law_rests
  have F_m_law_resting := ok_m_law_resting (P := P) (w := w) (base := base) T D_m_law_resting F_m_resting F_m_law_are_numbers F_m_law_rests F_m_law_judged F_m_is_resting
  have F_m_law_copy := ok_m_law_copy (P := P) (w := w) (base := base) T D_m_law_copy
  have F_m_law_refused := ok_m_law_refused (P := P) (w := w) (base := base) T D_m_law_refused F_m_gains F_m_refuted
  have F_m_law_gains_asked := ok_m_law_gains_asked (P := P) (w := w) (base := base) T D_m_law_gains_asked F_m_law_copy F_m_gains F_m_law_same F_m_refuted
  have F_m_law_bad_asked := ok_m_law_bad_asked (P := P) (w := w) (base := base) T D_m_law_bad_asked F_m_law_copy F_m_law_refused
  have F_m_counted := ok_m_counted (P := P) (w := w) (base := base) T D_m_counted
  have F_m_check_pays := ok_m_check_pays (P := P) (w := w) (base := base) T D_m_check_pays
  have F_m_law_game := ok_m_law_game (P := P) (w := w) (base := base) T D_m_law_game F_m_law_draws F_m_law_cell
  have F_m_Game_init := MkX.mk (ok_m_Game_init (P := P) (w := w) (base := base) T D_m_Game_init F_m_counted F_m_check_pays) T.mk_Game T.g_Game
  exact ok_m_law T D_m_law F_m_law_game F_m_Game_init F_m_law_weights F_m_law_draws F_m_law_cell F_m_law_common F_m_law_every F_m_law_gains F_m_law_gains_asked F_m_law_lowest_terms F_m_law_rates F_m_law_resting F_m_law_scaled F_m_law_chosen F_m_law_bad_asked
end
theorem lawHolds (hm : ∀ ns : List Int, ns.length ≤ 63 → m_law ⟨ns⟩ = .ok true) : (PySem.Challenge.rw_fairstart_k81_weights_that_rest).Holds := by
  w_on; o_law
  refine HandSHeadRun.head_imp (r := RW) (q := vw) (H := hk) (ob := ob) (M := 6000) (loose := loose) (d := HandSHeadRun.topDef RW.prog 62) (kwd := []) ob_eq
    run (by kernel_rfl) (by kernel_rfl) (by kernel_rfl) (by rfl) (by first | assumption | decide +kernel) (by decide +kernel) ⟨rfl, rfl, rfl, rfl, rfl, by decide +kernel⟩ ?hw ?hc
  case hw => w_witness2
  case hc =>
    refine LamX.walk_ofTsE (l := PySem.Challenge.rw_fairstart_k81_weights_that_rest) (n := 63) (k := 11) (x := "script") (CX := fun w => L2.CX (PySem.Challenge.rw_fairstart_k81_weights_that_rest).prog w) rfl (by decide) (by kernel_rfl) ⟨rfl, by decide, by decide⟩ ?F (fun w H s e s' q => ?E)
    case F =>
      intro w mg fa h Y G hmg0
      obtain ⟨K, KX, c⟩ := Y
      have hmg : mg ("law" : PySem.Str) = some (.ref fa) := by
        have e : (HandSHeadRun.topDef RW.prog 62).name = ("law" : PySem.Str) := by kernel_rfl
        rw [← e]
        exact hmg0
      obtain ⟨fd, hb, hF⟩ := facts (P := (PySem.Challenge.rw_fairstart_k81_weights_that_rest).prog) KX G c
      have e := hmg.symm.trans (tx_of KX G c).g_law
      cases e
      refine ⟨K, KX, fd, [], _, fun _ q => (nomatch q), fun _ q => (nomatch q), fun _ q => (nomatch q), hb, fun H a ns hl _ _ hS => ?_, fun base k1 k2 _ => hF base k1 k2⟩
      refine ⟨H, (⟨ns⟩, ()), Same.refl H, ⟨_, _, rfl, ⟨a, rfl, hS⟩, rfl⟩, ?_, ?_, ?_⟩
      · show m_law ⟨ns⟩ ≠ _
        rw [hm ns hl]
        exact fun z => nomatch z
      · intro r z v F' H' _ q
        have z2 : m_law ⟨ns⟩ = .ok r := z
        rw [hm ns hl] at z2
        cases z2
        exact q
      · intro r z
        have z2 : m_law ⟨ns⟩ = .ex r := z
        rw [hm ns hl] at z2
        cases z2
    case E =>
      obtain ⟨_, _, _, _, _, _, _, _, _, _, _, _, q⟩ := q
      exact q
end Wk
end
theorem PySem.Challenge.cw_fairstart_k81_weights_that_rest_holds : PySem.Challenge.rw_fairstart_k81_weights_that_rest.Holds := by
  exact Wk.lawHolds fun ns _ => Wk.law_ok ns
