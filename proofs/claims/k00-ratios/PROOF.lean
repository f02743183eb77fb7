import PyProof.Rows.All
import Wide.All
import OpenK.AllK
import Wide.FinOn
import HandS.ForMost
import HandS.TryOnly
import HandS.ExcOwn
import HandS.WordsExc
import HandS.Gcd
import HandS.Wide
import HandS.IsInst
import HandS.Flow
import HandS.Defaults
import HandS.EndBits
import HandS.Ends
import PySem.Challenge.RW_mitrehouse_k00_ratios
set_option Elab.async false
set_option linter.all false
set_option maxRecDepth 100000
namespace Eng
open PySem PySem.Spec L2
open PyProof.Rows hiding St
abbrev Fg := PySem.W.Frag

/-- values as trees; a list's, dict's, set's identity is no part of it -/
inductive PV where
  | non | bl (b : Bool) | int (i : Int) | str (s : Str)
  | tup (l : List PV) | lst (l : List PV) | dct (l : List (PV × PV)) | set (l : List PV)
  /-- a list that is read alone (the script) -/
  | scr (l : List PV)

mutual
/-- v holds p, read off the frozen part Z -/
inductive Rp (K : Fg) (Z : Hp) : PV → V → Prop
  | non : Rp K Z .non .non
  | bl (b : Bool) : Rp K Z (.bl b) (.bl b)
  | int (i : Int) : Rp K Z (.int i) (.int i)
  | str (s : Str) : Rp K Z (.str s) (.str s)
  | tup {a : Addr} {vs : List V} {ps : List PV} (h : SqT K Z a vs) (r : RpL K Z ps vs) : Rp K Z (.tup ps) (.ref a)
  | lst {a : Addr} {vs : List V} {ps : List PV} (h : Rd Z a (.lst vs)) (r : RpL K Z ps vs) : Rp K Z (.lst ps) (.ref a)
  | scr {a : Addr} {vs : List V} {ps : List PV} (h : SqL K Z a vs) (r : RpL K Z ps vs) : Rp K Z (.scr ps) (.ref a)
inductive RpL (K : Fg) (Z : Hp) : List PV → List V → Prop
  | nil : RpL K Z [] []
  | cons {p : PV} {v : V} {ps : List PV} {vs : List V} (h : Rp K Z p v) (t : RpL K Z ps vs) : RpL K Z (p :: ps) (v :: vs)
end

theorem rd_same {H H' : Hp} {a : Addr} {u : HO} (e : Same H H') (h : Rd H a u) : Rd H' a u := by
  rcases h with h | ⟨o, h⟩
  · exact .inl (e _ _ h)
  · exact .inr ⟨o, e _ _ h⟩
theorem sqT_same {K : Fg} {H H' : Hp} {a : Addr} {xs : List V} (e : Same H H') (h : SqT K H a xs) : SqT K H' a xs := by
  rcases h with (h | ⟨o, h⟩) | h
  · exact .inl (.inl (e _ _ h))
  · exact .inl (.inr ⟨o, e _ _ h⟩)
  · exact .inr h
mutual
theorem Rp.mono {K : Fg} {Z Z' : Hp} (e : Same Z Z') : ∀ {p : PV} {v : V}, Rp K Z p v → Rp K Z' p v
  | _, _, .non => .non
  | _, _, .bl b => .bl b
  | _, _, .int b => .int b
  | _, _, .str b => .str b
  | _, _, .tup h r => .tup (sqT_same e h) (RpL.mono e r)
  | _, _, .lst h r => .lst (rd_same e h) (RpL.mono e r)
  | _, _, .scr h r => .scr (e.seq h) (RpL.mono e r)
theorem RpL.mono {K : Fg} {Z Z' : Hp} (e : Same Z Z') : ∀ {p : List PV} {v : List V}, RpL K Z p v → RpL K Z' p v
  | _, _, .nil => .nil
  | _, _, .cons h t => .cons (Rp.mono e h) (RpL.mono e t)
end
theorem RpL.length {K : Fg} {Z : Hp} : ∀ {p : List PV} {v : List V}, RpL K Z p v → v.length = p.length
  | _, _, .nil => rfl
  | _, _, .cons h t => by rw [List.length_cons, List.length_cons, RpL.length t]
end Eng

namespace Eng
open PySem PySem.Spec L2
open PyProof.Rows hiding St

/-! ### lists of values -/
section
variable {K : Fg} {Z : Hp}
theorem RpL.get : ∀ {ps : List PV} {vs : List V} {i : Nat} {p : PV}, RpL K Z ps vs → ps[i]? = some p → ∃ v, vs[i]? = some v ∧ Rp K Z p v
  | _, _, _, _, .nil, e => by simp at e
  | _, _, 0, _, .cons h _, e => by simp at e; subst e; exact ⟨_, rfl, h⟩
  | _, _, i + 1, p, .cons _ t, e => by
    obtain ⟨v, h1, h2⟩ := RpL.get (i := i) (p := p) t (by simpa using e)
    exact ⟨v, by simpa using h1, h2⟩
theorem RpL.get' : ∀ {ps : List PV} {vs : List V} {i : Nat} {v : V}, RpL K Z ps vs → vs[i]? = some v → ∃ p, ps[i]? = some p ∧ Rp K Z p v
  | _, _, _, _, .nil, e => by simp at e
  | _, _, 0, _, .cons h _, e => by simp at e; subst e; exact ⟨_, rfl, h⟩
  | _, _, i + 1, v, .cons _ t, e => by
    obtain ⟨p, h1, h2⟩ := RpL.get' (i := i) (v := v) t (by simpa using e)
    exact ⟨p, by simpa using h1, h2⟩
theorem RpL.append : ∀ {ps qs : List PV} {vs ws : List V}, RpL K Z ps vs → RpL K Z qs ws → RpL K Z (ps ++ qs) (vs ++ ws)
  | _, _, _, _, .nil, s => s
  | _, _, _, _, .cons h t, s => .cons h (RpL.append t s)
theorem RpL.snoc {ps : List PV} {vs : List V} {p : PV} {v : V} (h : RpL K Z ps vs) (r : Rp K Z p v) : RpL K Z (ps ++ [p]) (vs ++ [v]) := h.append (.cons r .nil)
theorem RpL.take : ∀ {ps : List PV} {vs : List V} (n : Nat), RpL K Z ps vs → RpL K Z (ps.take n) (vs.take n)
  | _, _, 0, _ => .nil
  | _, _, _ + 1, .nil => .nil
  | _, _, n + 1, .cons h t => .cons h (RpL.take n t)
theorem RpL.drop : ∀ {ps : List PV} {vs : List V} (n : Nat), RpL K Z ps vs → RpL K Z (ps.drop n) (vs.drop n)
  | _, _, 0, h => h
  | _, _, _ + 1, .nil => .nil
  | _, _, n + 1, .cons _ t => RpL.drop n t
theorem RpL.set {p : PV} {v : V} (r : Rp K Z p v) : ∀ {ps : List PV} {vs : List V} (i : Nat), RpL K Z ps vs → RpL K Z (ps.set i p) (vs.set i v)
  | _, _, _, .nil => .nil
  | _, _, 0, .cons _ t => .cons r t
  | _, _, i + 1, .cons h t => .cons h (RpL.set r i t)
theorem RpL.erase : ∀ {ps : List PV} {vs : List V} (i : Nat), RpL K Z ps vs → RpL K Z (ps.eraseIdx i) (vs.eraseIdx i)
  | _, _, _, .nil => .nil
  | _, _, 0, .cons _ t => t
  | _, _, i + 1, .cons h t => .cons h (RpL.erase i t)
theorem RpL.reverse : ∀ {ps : List PV} {vs : List V}, RpL K Z ps vs → RpL K Z ps.reverse vs.reverse
  | _, _, .nil => .nil
  | _, _, .cons h t => by rw [List.reverse_cons, List.reverse_cons]; exact (RpL.reverse t).snoc h
theorem RpL.one {p : PV} {vs : List V} (h : RpL K Z [p] vs) : ∃ v, vs = [v] ∧ Rp K Z p v := by
  cases h with
  | cons h t => cases t; exact ⟨_, rfl, h⟩
theorem RpL.two {p q : PV} {vs : List V} (h : RpL K Z [p, q] vs) : ∃ v u, vs = [v, u] ∧ Rp K Z p v ∧ Rp K Z q u := by
  cases h with
  | cons h t =>
    obtain ⟨u, e, r⟩ := t.one
    subst e
    exact ⟨_, _, rfl, h, r⟩
end

/-! ### slots, entry, the state -/
inductive Slot where
  | none | val (p : PV) | own (k : Bool) (p : PV)
abbrev Sg := List Slot

def OwnR (K : Fg) (Z H : Hp) (a : Addr) : PV → Prop
  | .lst ps => ∃ vs, H a = some (.lst vs) ∧ RpL K Z ps vs
  | _ => False
theorem OwnR.alive {K : Fg} {Z H : Hp} {a : Addr} {p : PV} (h : OwnR K Z H a p) : H a ≠ Option.none := by
  cases p <;> first | exact h.elim | skip
  obtain ⟨vs, e, _⟩ := h
  rw [e]; exact fun z => nomatch z
theorem OwnR.mono {K : Fg} {Z H Z' H' : Hp} {a : Addr} {p : PV} (h : OwnR K Z H a p) (e : Same Z Z') (k : ∀ o, H a = some o → H' a = some o) : OwnR K Z' H' a p := by
  cases p <;> first | exact h.elim | skip
  obtain ⟨vs, e1, r⟩ := h
  exact ⟨vs, k _ e1, r.mono e⟩

/-- the entry of a def: its heap, its frozen part, the lists that are handed in to be changed (slot, address) -/
structure Ent where
  H0 : Hp
  Z0 : Hp
  io : List (Nat × Addr)
  /-- objects that are looked after elsewhere (a list that is being made) -/
  pr : List (Addr × HO)
def IsOwn (ε : Sg) (i : Nat) : Prop := ∃ k p, ε[i]? = some (.own k p)

def SlotR (K : Fg) (g : Ent) (Z H : Hp) (σ : St) (i : Nat) : Slot → Prop
  | .none => True
  | .val p => ∃ v, σ[i]? = some (some v) ∧ Rp K Z p v
  | .own k p => ∃ a, σ[i]? = some (some (V.ref a)) ∧ Z a = Option.none ∧ OwnR K Z H a p ∧ (k = true → g.H0 a = Option.none) ∧ (k = false → (i, a) ∈ g.io)

structure Good (K : Fg) (g : Ent) (σ : St) (ε : Sg) (Z H : Hp) : Prop where
  len : σ.length = ε.length
  slot : ∀ i s, ε[i]? = some s → SlotR K g Z H σ i s
  dis : ∀ i j a, IsOwn ε i → IsOwn ε j → σ[i]? = some (some (V.ref a)) → σ[j]? = some (some (V.ref a)) → i = j
  zh : Same Z H
  hh : ∀ b o, g.H0 b = some o → b ∉ g.io.map (·.2) → H b = some o
  al : ∀ b, H b = Option.none → g.H0 b = Option.none
  zf : ∀ b, Z b ≠ Option.none → g.Z0 b ≠ Option.none ∨ g.H0 b = Option.none
  zz : Same g.Z0 Z
  io : ∀ i a, (i, a) ∈ g.io → σ[i]? = some (some (V.ref a)) ∧ ∃ p, ε[i]? = some (.own false p)
  pr : ∀ q ∈ g.pr, H q.1 = some q.2 ∧ Z q.1 = Option.none ∧ ∀ i, IsOwn ε i → σ[i]? ≠ some (some (V.ref q.1))

/-- more objects, nothing changed -/
structure Ext (Z H Z' H' : Hp) : Prop where
  zz : Same Z Z'
  hh : Same H H'
  zh : Same Z' H'
  zf : ∀ b, Z' b ≠ Option.none → Z b ≠ Option.none ∨ H b = Option.none
theorem Ext.refl {Z H : Hp} (h : Same Z H) : Ext Z H Z H := ⟨Same.refl _, Same.refl _, h, fun _ z => .inl z⟩
theorem Ext.trans {Z H Z1 H1 Z2 H2 : Hp} (a : Ext Z H Z1 H1) (b : Ext Z1 H1 Z2 H2) : Ext Z H Z2 H2 :=
  ⟨a.zz.trans b.zz, a.hh.trans b.hh, b.zh, fun c z => (b.zf c z).elim (fun y => a.zf c y) fun y => .inr (a.hh.free y)⟩
/-- a new object, not frozen -/
theorem Ext.new {Z H : Hp} {a : Addr} {o : HO} (h : Same Z H) (n : H a = Option.none) : Ext Z H Z (upd H a o) :=
  ⟨Same.refl _, fun b u e => by rw [upd_ne (ne_of_none e n)]; exact e, fun b u e => by rw [upd_ne (ne_of_none (h _ _ e) n)]; exact h _ _ e, fun _ z => .inl z⟩
/-- a new object, frozen -/
theorem Ext.newF {Z H : Hp} {a : Addr} {o : HO} (h : Same Z H) (n : H a = Option.none) : Ext Z H (upd Z a o) (upd H a o) := by
  have nz : Z a = Option.none := h.free n
  refine ⟨fun b u e => by rw [upd_ne (ne_of_none e nz)]; exact e, fun b u e => by rw [upd_ne (ne_of_none e n)]; exact e, fun b u e => ?_, fun b z => ?_⟩
  · by_cases hb : b = a
    · subst hb; rw [upd_same] at e ⊢; exact e
    · rw [upd_ne hb] at e ⊢; exact h _ _ e
  · by_cases hb : b = a
    · subst hb; exact .inr n
    · rw [upd_ne hb] at z; exact .inl z

section
variable {K : Fg} {g : Ent} {σ : St} {ε : Sg} {Z H Z' H' : Hp}
theorem SlotR.ext {i : Nat} {s : Slot} (h : SlotR K g Z H σ i s) (e : Ext Z H Z' H') : SlotR K g Z' H' σ i s := by
  cases s with
  | none => trivial
  | val p => obtain ⟨v, h1, h2⟩ := h; exact ⟨v, h1, h2.mono e.zz⟩
  | own k p =>
    obtain ⟨a, h1, h2, h3, h4⟩ := h
    refine ⟨a, h1, ?_, h3.mono e.zz fun o q => e.hh _ _ q, h4⟩
    cases z : Z' a with
    | none => rfl
    | some u =>
      rcases e.zf a (by rw [z]; exact fun y => nomatch y) with y | y
      · exact absurd h2 y
      · exact absurd y h3.alive
theorem Good.ext (G : Good K g σ ε Z H) (e : Ext Z H Z' H') : Good K g σ ε Z' H' where
  len := G.len
  slot := fun i s h => (G.slot i s h).ext e
  dis := G.dis
  zh := e.zh
  hh := fun b o h n => e.hh _ _ (G.hh b o h n)
  al := fun b h => G.al b (e.hh.free h)
  zf := fun b z => (e.zf b z).elim (fun y => G.zf b y) fun y => .inr (G.al b y)
  zz := G.zz.trans e.zz
  io := G.io
  pr := fun q hq => by
    obtain ⟨h1, h2, h3⟩ := G.pr q hq
    refine ⟨e.hh _ _ h1, ?_, h3⟩
    cases z : Z' q.1 with
    | none => rfl
    | some u =>
      rcases e.zf q.1 (by rw [z]; exact fun y => nomatch y) with y | y
      · exact absurd h2 y
      · rw [h1] at y; cases y

/-! ### what an expression hands back -/
inductive Rv where
  | val (p : PV) | fresh (p : PV) | own (i : Nat)
def RvR (K : Fg) (g : Ent) (σ : St) (ε : Sg) (Z H : Hp) : Rv → V → Prop
  | .val p, v => Rp K Z p v
  | .fresh p, v => ∃ a, v = .ref a ∧ Z a = Option.none ∧ g.H0 a = Option.none ∧ OwnR K Z H a p ∧ (∀ i, IsOwn ε i → σ[i]? ≠ some (some (V.ref a))) ∧ ∀ q ∈ g.pr, q.1 ≠ a
  | .own i, v => σ[i]? = some (some v)
/-- an operand: not fresh -/
@[simp] def Rv.opd : Rv → Rv
  | .fresh p => .val p
  | r => r
/-- what is read at the top: frozen, or a list of one's own -/
def View (K : Fg) (Z H : Hp) (p : PV) (v : V) : Prop := Rp K Z p v ∨ ∃ a, v = .ref a ∧ OwnR K Z H a p
theorem View.ext {p : PV} {v : V} (h : View K Z H p v) (e : Ext Z H Z' H') : View K Z' H' p v := by
  rcases h with h | ⟨a, h1, h2⟩
  · exact .inl (h.mono e.zz)
  · exact .inr ⟨a, h1, h2.mono e.zz fun o q => e.hh _ _ q⟩
theorem View.int {i : Int} {v : V} (h : View K Z H (.int i) v) : v = .int i := by
  rcases h with h | ⟨a, _, h⟩
  · cases h; rfl
  · exact h.elim
theorem View.bl {i : Bool} {v : V} (h : View K Z H (.bl i) v) : v = .bl i := by
  rcases h with h | ⟨a, _, h⟩
  · cases h; rfl
  · exact h.elim
theorem View.str {i : Str} {v : V} (h : View K Z H (.str i) v) : v = .str i := by
  rcases h with h | ⟨a, _, h⟩
  · cases h; rfl
  · exact h.elim
theorem View.non {v : V} (h : View K Z H .non v) : v = .non := by
  rcases h with h | ⟨a, _, h⟩
  · cases h; rfl
  · exact h.elim
theorem View.tup {ps : List PV} {v : V} (e : Same Z H) (h : View K Z H (.tup ps) v) : ∃ a vs, v = .ref a ∧ SqT K H a vs ∧ RpL K Z ps vs := by
  rcases h with h | ⟨a, _, h⟩
  · cases h with
    | tup h r => exact ⟨_, _, rfl, sqT_same e h, r⟩
  · exact h.elim
theorem View.lst {ps : List PV} {v : V} (e : Same Z H) (h : View K Z H (.lst ps) v) : ∃ a vs, v = .ref a ∧ Rd H a (.lst vs) ∧ RpL K Z ps vs := by
  rcases h with h | ⟨a, rfl, vs, h1, h2⟩
  · cases h with
    | lst h r => exact ⟨_, _, rfl, rd_same e h, r⟩
  · exact ⟨a, vs, rfl, .inl h1, h2⟩

theorem View.scr {ps : List PV} {v : V} (e : Same Z H) (h : View K Z H (.scr ps) v) : ∃ a vs, v = .ref a ∧ SqL K H a vs ∧ RpL K Z ps vs := by
  rcases h with h | ⟨a, _, h⟩
  · cases h with
    | scr h r => exact ⟨_, _, rfl, e.seq h, r⟩
  · exact h.elim

/-- what stands at a slot -/
@[simp] def peekS (ε : Sg) (i : Nat) : Option PV := match ε[i]? with
  | some (.val p) => some p
  | some (.own _ p) => some p
  | _ => none
@[simp] def Rv.peek (ε : Sg) : Rv → Option PV
  | .val p => some p
  | .fresh p => some p
  | .own i => peekS ε i
theorem Good.peekS (G : Good K g σ ε Z H) {i : Nat} {p : PV} (h : peekS ε i = some p) : ∃ v, σ[i]? = some (some v) ∧ View K Z H p v := by
  unfold Eng.peekS at h
  split at h <;> cases h
  · rename_i e
    obtain ⟨v, h1, h2⟩ := G.slot _ _ e
    exact ⟨v, h1, .inl h2⟩
  · rename_i e
    obtain ⟨a, h1, _, h2, _⟩ := G.slot _ _ e
    exact ⟨_, h1, .inr ⟨a, rfl, h2⟩⟩
theorem Good.peek (G : Good K g σ ε Z H) {r : Rv} {p : PV} {v : V} (h : r.peek ε = some p) (hr : RvR K g σ ε Z H r v) : View K Z H p v := by
  cases r with
  | val q => cases h; exact .inl hr
  | fresh q =>
    cases h
    obtain ⟨a, e, _, _, o, _, _⟩ := hr
    exact .inr ⟨a, e, o⟩
  | own i =>
    obtain ⟨u, h1, h2⟩ := G.peekS h
    have e : σ[i]? = some (some v) := hr
    rw [e] at h1
    cases h1
    exact h2

/-! ### freezing -/
/-- the object at a, frozen from here on -/
theorem Ext.freeze {o : HO} {a : Addr} (h : Same Z H) (e : H a = some o) : Same Z (upd Z a o) ∧ Same (upd Z a o) H ∨ ∃ u, Z a = some u := by
  cases z : Z a with
  | some u => exact .inr ⟨u, rfl⟩
  | none =>
    refine .inl ⟨fun b u q => by rw [upd_ne (ne_of_none q z)]; exact q, fun b u q => ?_⟩
    by_cases hb : b = a
    · subst hb; rw [upd_same] at q; cases q; exact e
    · rw [upd_ne hb] at q; exact h _ _ q
theorem same_frz {o : HO} {a : Addr} (z : Z a = Option.none) : Same Z (upd Z a o) := fun b u q => by rw [upd_ne (ne_of_none q z)]; exact q
theorem frz_same {o : HO} {a : Addr} (h : Same Z H) (e : H a = some o) : Same (upd Z a o) H := fun b u q => by
  by_cases hb : b = a
  · subst hb; rw [upd_same] at q; cases q; exact e
  · rw [upd_ne hb] at q; exact h _ _ q
/-- a fresh list becomes a frozen value -/
theorem Good.frzFresh (G : Good K g σ ε Z H) {p : PV} {v : V} (h : RvR K g σ ε Z H (.fresh p) v) : ∃ Z', Same Z Z' ∧ Good K g σ ε Z' H ∧ Rp K Z' p v := by
  obtain ⟨a, rfl, h1, h2, h3, h4, h5⟩ := h
  cases p <;> first | exact h3.elim | skip
  rename_i ps
  obtain ⟨vs, e, r⟩ := h3
  refine ⟨upd Z a (.lst vs), same_frz h1, ⟨G.len, fun i s hs => ?_, G.dis, frz_same G.zh e, G.hh, G.al, fun b z => ?_, G.zz.trans (same_frz h1), G.io, fun q hq => ⟨(G.pr q hq).1, by rw [upd_ne (h5 q hq)]; exact (G.pr q hq).2.1, (G.pr q hq).2.2⟩⟩, .lst (.inl upd_same) (r.mono (same_frz h1))⟩
  · have q := G.slot i s hs
    cases s with
    | none => trivial
    | val p => obtain ⟨v, q1, q2⟩ := q; exact ⟨v, q1, q2.mono (same_frz h1)⟩
    | own k p =>
      obtain ⟨b, q1, q2, q3, q4⟩ := q
      have nb : b ≠ a := fun z => h4 i ⟨k, p, hs⟩ (by rw [q1, z])
      exact ⟨b, q1, by rw [upd_ne nb]; exact q2, q3.mono (same_frz h1) fun _ y => y, q4⟩
  · by_cases hb : b = a
    · subst hb; exact .inr h2
    · rw [upd_ne hb] at z; exact G.zf b z
/-- a slot's list becomes a frozen value -/
@[simp] def frzS (ε : Sg) (i : Nat) : Option (PV × Sg) := match ε[i]? with
  | some (.val p) => some (p, ε)
  | some (.own true p) => some (p, ε.set i (.val p))
  | _ => none
theorem getElem?_set_eq {α : Type} {l : List α} {i j : Nat} {x y : α} (h : (l.set i x)[j]? = some y) : (j = i ∧ y = x) ∨ (j ≠ i ∧ l[j]? = some y) := by
  by_cases e : j = i
  · subst e
    by_cases hl : j < l.length
    · rw [List.getElem?_set_self hl] at h; exact .inl ⟨rfl, (Option.some.inj h).symm⟩
    · rw [List.getElem?_eq_none (by simpa using hl)] at h; cases h
  · rw [List.getElem?_set_ne (Ne.symm e)] at h; exact .inr ⟨e, h⟩
theorem isOwn_set_val {i j : Nat} {p : PV} (h : IsOwn (ε.set i (.val p)) j) : j ≠ i ∧ IsOwn ε j := by
  obtain ⟨k, q, e⟩ := h
  rcases getElem?_set_eq e with ⟨_, z⟩ | ⟨n, z⟩
  · cases z
  · exact ⟨n, k, q, z⟩
theorem Good.frzS (G : Good K g σ ε Z H) {i : Nat} {p : PV} {ε' : Sg} (h : frzS ε i = some (p, ε')) : ∃ v Z', σ[i]? = some (some v) ∧ Same Z Z' ∧ Good K g σ ε' Z' H ∧ Rp K Z' p v := by
  unfold Eng.frzS at h
  split at h <;> cases h
  · rename_i e
    obtain ⟨v, h1, h2⟩ := G.slot _ _ e
    exact ⟨v, Z, h1, Same.refl _, G, h2⟩
  · rename_i e
    obtain ⟨a, h1, h2, h3, h4, _⟩ := G.slot _ _ e
    have h0 := h4 rfl
    cases p <;> first | exact h3.elim | skip
    rename_i ps
    obtain ⟨vs, ea, r⟩ := h3
    refine ⟨_, upd Z a (.lst vs), h1, same_frz h2, ⟨by rw [List.length_set]; exact G.len, fun j s hs => ?_, fun j l b oj ol ej el => ?_, frz_same G.zh ea, G.hh, G.al, fun b z => ?_, G.zz.trans (same_frz h2), fun j b hj => ?_, fun q hq => ?_⟩, .lst (.inl upd_same) (r.mono (same_frz h2))⟩
    · rcases getElem?_set_eq hs with ⟨rfl, rfl⟩ | ⟨nj, hs⟩
      · exact ⟨_, h1, .lst (.inl upd_same) (r.mono (same_frz h2))⟩
      · have q := G.slot j s hs
        cases s with
        | none => trivial
        | val p => obtain ⟨v, q1, q2⟩ := q; exact ⟨v, q1, q2.mono (same_frz h2)⟩
        | own k p =>
          obtain ⟨b, q1, q2, q3, q4⟩ := q
          have nb : b ≠ a := fun z => nj (G.dis j i a ⟨k, p, hs⟩ ⟨_, _, e⟩ (by rw [q1, z]) h1)
          exact ⟨b, q1, by rw [upd_ne nb]; exact q2, q3.mono (same_frz h2) fun _ y => y, q4⟩
    · exact G.dis j l b (isOwn_set_val oj).2 (isOwn_set_val ol).2 ej el
    · by_cases hb : b = a
      · subst hb; exact .inr h0
      · rw [upd_ne hb] at z; exact G.zf b z
    · obtain ⟨e1, q, e2⟩ := G.io j b hj
      refine ⟨e1, q, ?_⟩
      have nj : i ≠ j := fun z => by subst z; rw [e] at e2; cases e2
      rw [List.getElem?_set_ne nj]; exact e2
    · obtain ⟨q1, q2, q3⟩ := G.pr q hq
      have nq : q.1 ≠ a := fun z => q3 i ⟨_, _, e⟩ (by rw [h1, z])
      exact ⟨q1, by rw [upd_ne nq]; exact q2, fun j oj => q3 j (isOwn_set_val oj).2⟩

/-- an object that nobody here looks at is changed -/
theorem Good.away (G : Good K g σ ε Z H) {a : Addr} {o u : HO} (ha : H a = some u) (h0 : g.H0 a = Option.none) (hz : Z a = Option.none) (ho : ∀ i, IsOwn ε i → σ[i]? ≠ some (some (V.ref a))) (hp : ∀ q ∈ g.pr, q.1 ≠ a) :
    Good K g σ ε Z (upd H a o) where
  len := G.len
  slot := fun i s hs => by
    have q := G.slot i s hs
    cases s with
    | none => trivial
    | val p => exact q
    | own k p =>
      obtain ⟨b, q1, q2, q3, q4⟩ := q
      have nb : b ≠ a := fun z => ho i ⟨k, p, hs⟩ (by rw [q1, z])
      exact ⟨b, q1, q2, q3.mono (Same.refl _) fun _ y => by rw [upd_ne nb]; exact y, q4⟩
  dis := G.dis
  zh := fun b o e => by rw [upd_ne (ne_of_none e hz)]; exact G.zh b o e
  hh := fun b o e n => by rw [upd_ne (ne_of_none e h0)]; exact G.hh b o e n
  al := fun b e => by
    by_cases hb : b = a
    · subst hb; exact h0
    · rw [upd_ne hb] at e; exact G.al b e
  zf := G.zf
  zz := G.zz
  io := G.io
  pr := fun q hq => by
    obtain ⟨q1, q2, q3⟩ := G.pr q hq
    exact ⟨by rw [upd_ne (hp q hq)]; exact q1, q2, q3⟩
end
end Eng

namespace Eng
open PySem PySem.Spec L2
open PyProof.Rows hiding St

/-! ### the program as data -/
inductive Blt where
  | abs | len | int | all | gcd
  deriving DecidableEq
/-- changing methods -/
inductive Mu where
  | append | pop
inductive Tg where
  | nm (i : Nat) | tp (l : List Tg)
inductive IE where
  | var (i : Nat)
  | cst (p : PV)
  | glb (x : Str)
  | bin (op : Operator) (a b : IE)
  | neg (a : IE)
  | cmp (op : CmpOp) (a b : IE)
  | isN (a : IE) (not : Bool)
  | and (l : List IE) | or (l : List IE) | not (a : IE)
  | ite (c a b : IE)
  | tup (l : List IE) | lst (l : List IE)
  | sub (a i : IE)
  | slc (a : IE) (lo hi : Option IE)
  | call (f : Nat) (args : List IE)
  | blt (b : Blt) (args : List IE)
  | isi (a : IE) (ty : String)
  | cmpr (elt : IE) (tg : Tg) (it : IE) (cond : List IE) (own : List Nat)
  | mut (m : Mu) (i : Nat) (args : List IE)
inductive IS where
  | pass | brk | cont
  | expr (e : IE)
  | asg (i : Nat) (e : IE)
  | asgT (t : Tg) (e : IE)
  | ret (e : IE)
  | retN
  | ifs (c : IE) (a b : List IS)
  | raise (c : Nat) (msg : Str)
  | tryx (body : List IS) (c : Nat) (suite : List IS)
  | for_ (tg : Tg) (it : IE) (body : List IS)
  | whl (c : IE) (body : List IS)

/-! ### the interpreter's outcomes -/
inductive Out (α : Type) where
  | ok (a : α) (ε : Sg) | exc (c : Nat) (ε : Sg) | stuck
@[simp] def Out.bind {α β : Type} (x : Out α) (f : α → Sg → Out β) : Out β := match x with
  | .ok a ε => f a ε
  | .exc c ε => .exc c ε
  | .stuck => .stuck
inductive CO where
  | ok (r : PV) (fr : Bool) (outs : List PV) | exc (c : Nat) (outs : List PV) | stuck
inductive SO where
  | nx (ε : Sg) | rt (r : Rv) (ε : Sg) | bk (ε : Sg) | ct (ε : Sg) | exc (c : Nat) (ε : Sg) | stuck
@[simp] def lift (r : Option Rv) (ε : Sg) : Out Rv := match r with
  | some r => .ok r ε
  | none => .stuck

/-! ### values -/
mutual
/-- nothing in it can be changed -/
def imm : PV → Bool
  | .tup l => immL l
  | .lst _ => false
  | .dct _ => false
  | .set _ => false
  | .scr _ => false
  | _ => true
def immL : List PV → Bool
  | [] => true
  | p :: ps => imm p && immL ps
end
mutual
def toD : PV → Option PyData
  | .non => some .none
  | .bl b => some (.bool b)
  | .int i => some (.int i)
  | .str s => some (.str s)
  | .tup l => (toDL l).map .tuple
  | .lst l => (toDL l).map .list
  | _ => none
def toDL : List PV → Option (List PyData)
  | [] => some []
  | p :: ps => match toD p, toDL ps with
    | some d, some ds => some (d :: ds)
    | _, _ => none
end
def eqPV (p q : PV) : Option Bool := match toD p, toD q with
  | some d, some e => if SeqAt.shaped d = true ∧ SeqAt.shaped e = true then some (PyData.eqv d e) else none
  | _, _ => none
@[simp] def truth : PV → Option Bool
  | .non => some false
  | .bl b => some b
  | .int i => some (i != 0)
  | .str s => if s.length ≤ sizeLine then some ((s.length : Int) != 0) else none
  | .tup l => some (!l.isEmpty)
  | .lst l => some (!l.isEmpty)
  | .scr l => some (!l.isEmpty)
  | _ => none
def mulOk (i j : Int) : Bool := decide (i.natAbs.log2 + j.natAbs.log2 < 134217000)

@[simp] def opBin : Operator → PV → PV → Option Rv
  | .Add, .int i, .int j => some (.val (.int (i + j)))
  | .Sub, .int i, .int j => some (.val (.int (i - j)))
  | .Sub, .bl i, .bl j => some (.val (.int ((if i then 1 else 0) - (if j then 1 else 0))))
  | .Mult, .int i, .int j => if mulOk i j then some (.val (.int (i * j))) else none
  | .FloorDiv, .int i, .int j => if j ≠ 0 ∧ Builtin.divisionGoesByPylong i j = false then some (.val (.int (i.fdiv j))) else none
  | .Mod, .int i, .int j => if j ≠ 0 then some (.val (.int (i.fmod j))) else none
  | .Add, .str s, .str t => if s.length + t.length ≤ sizeLine then some (.val (.str (s ++ t))) else none
  | .Add, .lst a, .lst b => if a.length + b.length ≤ sizeLine then some (.fresh (.lst (a ++ b))) else none
  | _, _, _ => none
@[simp] def opCmp : CmpOp → PV → PV → Option Bool
  | .Eq, p, q => eqPV p q
  | .NotEq, p, q => (eqPV p q).map (! ·)
  | .Lt, .int i, .int j => some (decide (i < j))
  | .LtE, .int i, .int j => some (decide (i ≤ j))
  | .Gt, .int i, .int j => some (decide (j < i))
  | .GtE, .int i, .int j => some (decide (j ≤ i))
  | _, _, _ => none
@[simp] def opNeg : PV → Option PV
  | .int i => some (.int (-i))
  | _ => none
@[simp] def opIx : PV → PV → Option PV
  | .lst l, .int i => atI l i
  | .scr l, .int i => atI l i
  | .tup l, .int i => atI l i
  | .str s, .int i => if s.length ≤ sizeLine then (atI s.cps.toList i).map fun c => .str ⟨#[c]⟩ else none
  | _, _ => none
def cutP (xs : List PV) (lo hi : Option Int) : List PV := (xs.drop (HT.sIx xs.length 0 lo)).take (HT.sIx xs.length xs.length hi - HT.sIx xs.length 0 lo)
def opSlc (p : PV) (lo hi : Option Int) : Option Rv := match p with
  | .lst l => some (.fresh (.lst (cutP l lo hi)))
  | .scr l => some (.fresh (.lst (cutP l lo hi)))
  | .str s => if s.length ≤ sizeLine then some (.val (.str (cutS s lo hi))) else none
  | _ => none
@[simp] def allB : List PV → Option (List Bool)
  | [] => some []
  | .bl b :: l => (allB l).map (b :: ·)
  | _ => none
@[simp] def opBlt : Blt → List PV → Option Rv
  | .abs, [.int i] => some (.val (.int (if i < 0 then -i else i)))
  | .len, [.lst l] => some (.val (.int l.length))
  | .len, [.scr l] => some (.val (.int l.length))
  | .len, [.tup l] => some (.val (.int l.length))
  | .len, [.str s] => if s.length ≤ sizeLine then some (.val (.int s.length)) else none
  | .int, [.int i] => some (.val (.int i))
  | .int, [.bl b] => some (.val (.int (if b = true then 1 else 0)))
  | .all, [.lst l] => (allB l).map fun bs => .val (.bl (bs.all id))
  | .gcd, [.int i, .int j] => some (.val (.int (Nat.gcd i.natAbs j.natAbs : Nat)))
  | _, _ => none
def tyN : PV → String
  | .non => "NoneType"
  | .bl _ => "bool"
  | .int _ => "int"
  | .str _ => "str"
  | .tup _ => "tuple"
  | .lst _ => "list"
  | .dct _ => "dict"
  | .scr _ => "list"
  | .set _ => "set"
def opIsi (p : PV) (ty : String) : Option Bool := kitB (tyN p) ty
/-- a changing method on a list of one's own: the list behind it, what is handed back -/
def opMut : Mu → PV → List PV → Option (PV × PV)
  | .append, .lst l, [p] => if l.length < sizeLine then some (.lst (l ++ [p]), .non) else none
  | .pop, .lst l, [] => match l[l.length - 1]? with
    | some p => some (.lst l.dropLast, p)
    | none => none
  | _, _, _ => none

mutual
def tgS : Tg → List Nat
  | .nm i => [i]
  | .tp l => tgSs l
def tgSs : List Tg → List Nat
  | [] => []
  | t :: ts => tgS t ++ tgSs ts
end
/-- how many arguments -/
def muA : Mu → Nat
  | .append => 1
  | .pop => 0

/-! ### slots -/
@[simp] def peekL (ε : Sg) : List Rv → Option (List PV)
  | [] => some []
  | r :: rs => match r.peek ε, peekL ε rs with
    | some p, some ps => some (p :: ps)
    | _, _ => none
/-- as a value that is handed on -/
@[simp] def frz (r : Rv) (ε : Sg) : Option (PV × Sg) := match r with
  | .val p => some (p, ε)
  | .fresh p => some (p, ε)
  | .own i => frzS ε i
@[simp] def frzL : List Rv → Sg → Option (List PV × Sg)
  | [], ε => some ([], ε)
  | r :: rs, ε => match frz r ε with
    | some (p, ε1) => match frzL rs ε1 with
      | some (ps, ε2) => some (p :: ps, ε2)
      | none => none
    | none => none
/-- arguments by the def's mask: those that are changed are slots of one's own -/
@[simp] def argL : List Bool → List Rv → Sg → Option (List PV × List Nat × Sg)
  | [], [], ε => some ([], [], ε)
  | true :: ms, .own i :: rs, ε => match argL ms rs ε with
    | some (ps, is, ε1) => if i ∈ is then none else match ε1[i]? with
      | some (.own _ p) => some (p :: ps, i :: is, ε1)
      | _ => none
    | none => none
  | false :: ms, r :: rs, ε => match frz r ε with
    | some (p, ε1) => match argL ms rs ε1 with
      | some (ps, is, ε2) => some (p :: ps, is, ε2)
      | none => none
    | none => none
  | _, _, _ => none
@[simp] def setOuts : Sg → List Nat → List PV → Option Sg
  | ε, [], [] => some ε
  | ε, i :: is, p :: ps => match ε[i]? with
    | some (.own k _) => setOuts (ε.set i (.own k p)) is ps
    | _ => none
  | _, _, _ => none
@[simp] def doCall (Φ : Nat → List PV → CO) (mask : List Bool) (dfl : List PV) (np f : Nat) (rs : List Rv) (ε : Sg) : Out Rv :=
  match argL (mask.take rs.length) rs ε with
  | none => .stuck
  | some (ps, is, ε1) =>
    if mask.length = np ∧ (if ps.length < np then ps ++ dfl else ps).length = np ∧ (mask.drop rs.length).all (! ·) = true then
      match Φ f (if ps.length < np then ps ++ dfl else ps) with
      | .ok r fr outs => match setOuts ε1 is outs with
        | some ε2 => .ok (if fr then .fresh r else .val r) ε2
        | none => .stuck
      | .exc c outs => match setOuts ε1 is outs with
        | some ε2 => .exc c ε2
        | none => .stuck
      | .stuck => .stuck
    else .stuck

mutual
@[simp] def asgT : Tg → PV → Sg → Option Sg
  | .nm i, p, ε => match ε[i]? with
    | some (.own false _) => none
    | some _ => some (ε.set i (.val p))
    | none => none
  | .tp l, .tup ps, ε => asgTs l ps ε
  | .tp l, .lst ps, ε => asgTs l ps ε
  | _, _, _ => none
@[simp] def asgTs : List Tg → List PV → Sg → Option Sg
  | [], [], ε => some ε
  | t :: ts, p :: ps, ε => match asgT t p ε with
    | some ε1 => asgTs ts ps ε1
    | none => none
  | _, _, _ => none
end
/-- a comprehension's own names, forgotten -/
@[simp] def wipeS (ε : Sg) : List Nat → Option Sg
  | [] => some ε
  | i :: is => match wipeS ε is with
    | some ε1 => match ε1[i]? with
      | some (.own _ _) => none
      | _ => some (ε1.set i .none)
    | none => none
@[simp] def backS (ε₀ ε : Sg) : List Nat → Sg
  | [] => ε
  | i :: is => match ε₀[i]? with
    | some s => (backS ε₀ ε is).set i s
    | none => backS ε₀ ε is
/-- what is walked is no name of the comprehension's own -/
@[simp] def walkOk (r : Rv) (own : List Nat) : Bool := match r with
  | .own i => decide (i ∉ own)
  | _ => true
open Classical in
/-- the slot that is walked stays as it is -/
@[simp] noncomputable def stays (r : Rv) (ε ε' : Sg) : Bool := match r with
  | .own i => decide (peekS ε' i = peekS ε i)
  | _ => true
/-- a comprehension's turns -/
@[simp] noncomputable def cmpI (own : List Nat) (r : Rv) (turn : PV → Sg → Out (Option PV)) : List PV → List PV → Sg → Out (List PV)
  | [], acc, ε => .ok acc ε
  | p :: ps, acc, ε => match turn p ε with
    | .ok o ε1 => match wipeS ε1 own with
      | some ε2 => if stays r ε ε2 then match o with
          | some q => if acc.length < sizeLine then cmpI own r turn ps (acc ++ [q]) ε2 else .stuck
          | none => cmpI own r turn ps acc ε2
        else .stuck
      | none => .stuck
    | _ => .stuck
@[simp] def itemsOf : PV → Option (List PV)
  | .lst l => some l
  | .tup l => some l
  | .scr l => some l
  | _ => none
def isTupP : PV → Bool
  | .tup _ => true
  | _ => false

structure FnI where
  name : Str
  np : Nat
  mask : List Bool
  nsl : Nat
  dfl : List PV
  body : List IS
structure Eng where
  fns : List FnI
  glb : List (Str × PV)
  cls : List Str
  /-- the built-in functions and classes that stand in the text -/
  blts : List Blt
  tys : List String
  /-- sub c d: the class c is d or below it -/
  sub : Nat → Nat → Bool

section
variable (E : Eng) (Φ : Nat → List PV → CO)
mutual
@[simp] noncomputable def evE : IE → Sg → Out Rv
  | .var i, ε => match ε[i]? with
    | some (.val p) => .ok (.val p) ε
    | some (.own _ _) => .ok (.own i) ε
    | _ => .stuck
  | .cst p, ε => .ok (.val p) ε
  | .glb x, ε => match E.glb.lookup x with
    | some p => .ok (.val p) ε
    | none => .stuck
  | .bin op a b, ε => (evE a ε).bind fun ra ε1 => (evE b ε1).bind fun rb ε2 => match ra.opd.peek ε2, rb.opd.peek ε2 with
    | some p, some q => lift (opBin op p q) ε2
    | _, _ => .stuck
  | .neg a, ε => (evE a ε).bind fun ra ε1 => match ra.opd.peek ε1 with
    | some p => lift ((opNeg p).map .val) ε1
    | none => .stuck
  | .cmp op a b, ε => (evE a ε).bind fun ra ε1 => (evE b ε1).bind fun rb ε2 => match ra.opd.peek ε2, rb.opd.peek ε2 with
    | some p, some q => lift ((opCmp op p q).map fun b => .val (.bl b)) ε2
    | _, _ => .stuck
  | .isN a n, ε => (evE a ε).bind fun ra ε1 => match ra.opd.peek ε1 with
    | some .non => .ok (.val (.bl (!n))) ε1
    | some _ => .ok (.val (.bl n)) ε1
    | none => .stuck
  | .and l, ε => evAnd l ε
  | .or l, ε => evOr l ε
  | .not a, ε => (evE a ε).bind fun ra ε1 => match (ra.opd.peek ε1).bind truth with
    | some b => .ok (.val (.bl (!b))) ε1
    | none => .stuck
  | .ite c a b, ε => (evT c ε).bind fun t ε1 => if t then evE a ε1 else evE b ε1
  | .tup l, ε => (evA l ε).bind fun rs ε1 => match frzL rs ε1 with
    | some (ps, ε2) => if ps.length ≤ sizeLine then .ok (.val (.tup ps)) ε2 else .stuck
    | none => .stuck
  | .lst l, ε => (evA l ε).bind fun rs ε1 => match frzL rs ε1 with
    | some (ps, ε2) => if ps.length ≤ sizeLine then .ok (.fresh (.lst ps)) ε2 else .stuck
    | none => .stuck
  | .sub a i, ε => (evE a ε).bind fun ra ε1 => (evE i ε1).bind fun rb ε2 => match ra.opd.peek ε2, rb.opd.peek ε2 with
    | some p, some q => lift ((opIx p q).map .val) ε2
    | _, _ => .stuck
  | .slc a lo hi, ε => (evE a ε).bind fun ra ε1 => (evO lo ε1).bind fun l ε2 => (evO hi ε2).bind fun h ε3 => match ra.opd.peek ε3 with
    | some p => lift (opSlc p l h) ε3
    | none => .stuck
  | .call f as, ε => (evA as ε).bind fun rs ε1 => match E.fns[f]? with
    | some fi => doCall Φ fi.mask fi.dfl fi.np f rs ε1
    | none => .stuck
  | .blt b as, ε => (evA as ε).bind fun rs ε1 => match peekL ε1 rs with
    | some ps => lift (opBlt b ps) ε1
    | none => .stuck
  | .isi a ty, ε => (evE a ε).bind fun ra ε1 => match ra.opd.peek ε1 with
    | some p => lift ((opIsi p ty).map fun b => .val (.bl b)) ε1
    | none => .stuck
  | .cmpr elt tg it cond own, ε => (evE it ε).bind fun r ε1 => match (r.opd.peek ε1).bind itemsOf, wipeS ε1 own with
    | some ps, some ε2 => if walkOk r.opd own = true then match cmpI own r.opd (fun p ε => match asgT tg p ε with
        | some ε3 => (evC cond ε3).bind fun t ε4 => if t then (evE elt ε4).bind fun r ε5 => match frz r ε5 with
            | some (q, ε6) => .ok (some q) ε6
            | none => .stuck
          else .ok none ε4
        | none => .stuck) ps [] ε2 with
      | .ok acc ε7 => .ok (.fresh (.lst acc)) (backS ε1 ε7 own)
      | _ => .stuck
      else .stuck
    | _, _ => .stuck
  | .mut m i as, ε => if as.length = muA m then match peekS ε i with
    | some (.lst _) => (evA as ε).bind fun rs ε1 => match frzL rs ε1 with
      | some (ps, ε2) => match ε2[i]? with
        | some (.own k p) => match opMut m p ps with
          | some (p', r) => .ok (.val r) (ε2.set i (.own k p'))
          | none => .stuck
        | _ => .stuck
      | none => .stuck
    | _ => .stuck
    else .stuck
/-- as a test -/
@[simp] noncomputable def evT : IE → Sg → Out Bool
  | .and l, ε => evAndT l ε
  | .or l, ε => evOrT l ε
  | .not a, ε => (evT a ε).bind fun b ε1 => .ok (!b) ε1
  | .cst p, ε => match truth p with
    | some b => .ok b ε
    | none => .stuck
  | .var i, ε => match (peekS ε i).bind truth with
    | some b => .ok b ε
    | none => .stuck
  | .cmp op a b, ε => (evE a ε).bind fun ra ε1 => (evE b ε1).bind fun rb ε2 => match ra.opd.peek ε2, rb.opd.peek ε2 with
    | some p, some q => match opCmp op p q with
      | some b => .ok b ε2
      | none => .stuck
    | _, _ => .stuck
  | .isN a n, ε => (evE a ε).bind fun ra ε1 => match ra.opd.peek ε1 with
    | some .non => .ok (!n) ε1
    | some _ => .ok n ε1
    | none => .stuck
  | .call f as, ε => (evA as ε).bind fun rs ε1 => match E.fns[f]? with
    | some fi => (doCall Φ fi.mask fi.dfl fi.np f rs ε1).bind fun r ε2 => match (r.opd.peek ε2).bind truth with
      | some b => .ok b ε2
      | none => .stuck
    | none => .stuck
  | .blt b as, ε => (evA as ε).bind fun rs ε1 => match peekL ε1 rs with
    | some ps => (lift (opBlt b ps) ε1).bind fun r ε2 => match (r.opd.peek ε2).bind truth with
      | some b => .ok b ε2
      | none => .stuck
    | none => .stuck
  | .isi a ty, ε => (evE a ε).bind fun ra ε1 => match ra.opd.peek ε1 with
    | some p => match opIsi p ty with
      | some b => .ok b ε1
      | none => .stuck
    | none => .stuck
  | .sub a i, ε => (evE a ε).bind fun ra ε1 => (evE i ε1).bind fun rb ε2 => match ra.opd.peek ε2, rb.opd.peek ε2 with
    | some p, some q => match (opIx p q).bind truth with
      | some b => .ok b ε2
      | none => .stuck
    | _, _ => .stuck
  | _, _ => .stuck
@[simp] noncomputable def evA : List IE → Sg → Out (List Rv)
  | [], ε => .ok [] ε
  | e :: es, ε => (evE e ε).bind fun r ε1 => (evA es ε1).bind fun rs ε2 => .ok (r.opd :: rs) ε2
@[simp] noncomputable def evO : Option IE → Sg → Out (Option Int)
  | none, ε => .ok none ε
  | some e, ε => (evE e ε).bind fun r ε1 => match r.opd.peek ε1 with
    | some (.int i) => .ok (some i) ε1
    | _ => .stuck
@[simp] noncomputable def evAnd : List IE → Sg → Out Rv
  | [], _ => .stuck
  | [a], ε => evE a ε
  | a :: b :: l, ε => (evE a ε).bind fun ra ε1 => match (ra.opd.peek ε1).bind truth with
    | some true => evAnd (b :: l) ε1
    | some false => .ok ra.opd ε1
    | none => .stuck
@[simp] noncomputable def evOr : List IE → Sg → Out Rv
  | [], _ => .stuck
  | [a], ε => evE a ε
  | a :: b :: l, ε => (evE a ε).bind fun ra ε1 => match (ra.opd.peek ε1).bind truth with
    | some false => evOr (b :: l) ε1
    | some true => .ok ra.opd ε1
    | none => .stuck
@[simp] noncomputable def evAndT : List IE → Sg → Out Bool
  | [], _ => .stuck
  | [a], ε => evT a ε
  | a :: b :: l, ε => (evT a ε).bind fun t ε1 => if t then evAndT (b :: l) ε1 else .ok false ε1
@[simp] noncomputable def evOrT : List IE → Sg → Out Bool
  | [], _ => .stuck
  | [a], ε => evT a ε
  | a :: b :: l, ε => (evT a ε).bind fun t ε1 => if t then .ok true ε1 else evOrT (b :: l) ε1
/-- a comprehension's test, if there is one -/
@[simp] noncomputable def evC : List IE → Sg → Out Bool
  | [], ε => .ok true ε
  | [c], ε => evT c ε
  | _, _ => .stuck
end
end

/-! ### statements -/
/-- a slot takes what was handed back -/
@[simp] def putR (i : Nat) (r : Rv) (ε : Sg) : Option Sg := match ε[i]? with
  | some (.own false _) => none
  | none => none
  | some _ => match r with
    | .val p => some (ε.set i (.val p))
    | .fresh p => some (ε.set i (.own true p))
    | .own j => match frzS ε j with
      | some (p, ε1) => some (ε1.set i (.val p))
      | none => none
/-- what is handed back by return -/
@[simp] def retR (r : Rv) (ε : Sg) : Option (Rv × Sg) := match r with
  | .own j => match ε[j]? with
    | some (.own true p) => some (.fresh p, ε.set j .none)
    | some (.val p) => some (.val p, ε)
    | _ => none
  | r => some (r, ε)
@[simp] def SO.seq (x : SO) (f : Sg → SO) : SO := match x with
  | .nx ε => f ε
  | o => o
mutual
def asgsS : IS → List Nat
  | .asg i _ => [i]
  | .asgT t _ => tgS t
  | .ifs _ a b => asgsL a ++ asgsL b
  | .tryx b _ s => asgsL b ++ asgsL s
  | .for_ tg _ b => tgS tg ++ asgsL b
  | .whl _ b => asgsL b
  | _ => []
def asgsL : List IS → List Nat
  | [] => []
  | s :: l => asgsS s ++ asgsL l
end
noncomputable def forI (r : Rv) (set : PV → Sg → Option Sg) (body : Sg → SO) : List PV → Sg → SO
  | [], ε => .nx ε
  | p :: ps, ε => match set p ε with
    | none => .stuck
    | some ε1 => match body ε1 with
      | .nx ε2 => if stays r ε ε2 then forI r set body ps ε2 else .stuck
      | .ct ε2 => if stays r ε ε2 then forI r set body ps ε2 else .stuck
      | .bk ε2 => .nx ε2
      | o => o
def whlI (c : Sg → Out Bool) (body : Sg → SO) : Nat → Sg → SO
  | 0, _ => .stuck
  | n + 1, ε => match c ε with
    | .ok true ε1 => match body ε1 with
      | .nx ε2 => whlI c body n ε2
      | .ct ε2 => whlI c body n ε2
      | .bk ε2 => .nx ε2
      | o => o
    | .ok false ε1 => .nx ε1
    | .exc c ε1 => .exc c ε1
    | .stuck => .stuck
/-- the most turns of a while -/
def whlN : Nat := 1000000000
/-- an except suite: one short statement -/
@[simp] def suI : List IS → Sg → SO
  | [.ret (.cst p)], ε => .rt (.val p) ε
  | [.pass], ε => .nx ε
  | [.asg i (.cst p)], ε => match putR i (.val p) ε with
    | some ε1 => .nx ε1
    | none => .stuck
  | _, _ => .stuck
section
variable (E : Eng) (Φ : Nat → List PV → CO)
mutual
@[simp] noncomputable def exS : IS → Sg → SO
  | .pass, ε => .nx ε
  | .brk, ε => .bk ε
  | .cont, ε => .ct ε
  | .expr e, ε => match evE E Φ e ε with
    | .ok _ ε1 => .nx ε1
    | .exc c ε1 => .exc c ε1
    | .stuck => .stuck
  | .asg i e, ε => match evE E Φ e ε with
    | .ok r ε1 => match putR i r ε1 with
      | some ε2 => .nx ε2
      | none => .stuck
    | .exc c ε1 => .exc c ε1
    | .stuck => .stuck
  | .asgT t e, ε => match evE E Φ e ε with
    | .ok r ε1 => match frz r ε1 with
      | some (p, ε2) => match asgT t p ε2 with
        | some ε3 => .nx ε3
        | none => .stuck
      | none => .stuck
    | .exc c ε1 => .exc c ε1
    | .stuck => .stuck
  | .ret e, ε => match evE E Φ e ε with
    | .ok r ε1 => match retR r ε1 with
      | some (r', ε2) => .rt r' ε2
      | none => .stuck
    | .exc c ε1 => .exc c ε1
    | .stuck => .stuck
  | .retN, ε => .rt (.val .non) ε
  | .ifs c a b, ε => match evT E Φ c ε with
    | .ok t ε1 => if t then exL a ε1 else exL b ε1
    | .exc c ε1 => .exc c ε1
    | .stuck => .stuck
  | .raise c _, ε => .exc c ε
  | .tryx body c suite, ε => match exL body ε with
    | .exc c' ε1 => if E.sub c' c then suI suite ε1 else .exc c' ε1
    | o => o
  | .for_ tg it body, ε => match evE E Φ it ε with
    | .ok r ε1 => match (r.opd.peek ε1).bind itemsOf with
      | some ps => if walkOk r.opd (asgsS (.for_ tg it body)) = true then forI r.opd (fun p ε => asgT tg p ε) (fun ε => exL body ε) ps ε1 else .stuck
      | none => .stuck
    | .exc c ε1 => .exc c ε1
    | .stuck => .stuck
  | .whl c body, ε => whlI (fun ε => evT E Φ c ε) (fun ε => exL body ε) whlN ε
@[simp] noncomputable def exL : List IS → Sg → SO
  | [], ε => .nx ε
  | s :: l, ε => (exS s ε).seq fun ε1 => exL l ε1
end
end

/-! ### defs -/
/-- the slots at the entry -/
@[simp] def startS : List Bool → List PV → Sg
  | true :: ms, p :: ps => .own false p :: startS ms ps
  | false :: ms, p :: ps => .val p :: startS ms ps
  | _, _ => []
@[simp] def outsS : List Bool → Nat → Sg → Option (List PV)
  | [], _, _ => some []
  | true :: ms, i, ε => match ε[i]?, outsS ms (i + 1) ε with
    | some (.own _ p), some ps => some (p :: ps)
    | _, _ => none
  | false :: ms, i, ε => outsS ms (i + 1) ε
@[simp] noncomputable def callB (E : Eng) (Φ : Nat → List PV → CO) (fi : FnI) (ps : List PV) : CO :=
  if ps.length = fi.np ∧ fi.mask.length = fi.np ∧ fi.np ≤ fi.nsl then
    match exL E Φ fi.body (startS fi.mask ps ++ List.replicate (fi.nsl - fi.np) .none) with
    | .nx ε => match outsS fi.mask 0 ε with
      | some os => .ok .non false os
      | none => .stuck
    | .rt (.val p) ε => match outsS fi.mask 0 ε with
      | some os => .ok p false os
      | none => .stuck
    | .rt (.fresh p) ε => match outsS fi.mask 0 ε with
      | some os => .ok p true os
      | none => .stuck
    | .exc c ε => match outsS fi.mask 0 ε with
      | some os => .exc c os
      | none => .stuck
    | _ => .stuck
  else .stuck
/-- the program, calls nested at most k deep -/
noncomputable def callF (E : Eng) : Nat → Nat → List PV → CO
  | 0 => fun _ _ => .stuck
  | k + 1 => fun f ps => match E.fns[f]? with
    | some fi => callB E (callF E k) fi ps
    | none => .stuck
end Eng

namespace Eng
open PySem PySem.Spec L2
open PyProof.Rows hiding St

/-- what is wanted behind an operation that changes nothing -/
def Kont (K : Fg) (Z H : Hp) (Q : VK) : Rv → Prop
  | .val p => ∀ v Z' H', Ext Z H Z' H' → Rp K Z' p v → Q v H'
  | .fresh p => ∀ a Z' H', Ext Z H Z' H' → H a = Option.none → Z' a = Option.none → OwnR K Z' H' a p → Q (.ref a) H'
  | .own _ => True

section
variable {X : Cx}
def rBin (K : Fg) (op : Operator) : R2 := fun x y H Q => ∃ Z p q r, Same Z H ∧ View K Z H p x ∧ View K Z H q y ∧ opBin op p q = some r ∧ Kont K Z H Q r

theorem mulOk_ok {i j : Int} (h : mulOk i j = true) : IntMulOk i j := by
  have h3 := of_decide_eq_true h
  have b : ∀ x : Int, Builtin.Int.intBits x ≤ x.natAbs.log2 + 1 := fun x => by
    unfold Builtin.Int.intBits
    split <;> omega
  have h1 := b i
  have h2 := b j
  have e : bitsLine = 134217728 := by decide
  unfold IntMulOk
  intro z
  rw [Bool.and_eq_true] at z
  have z2 := z.2
  unfold Builtin.Int.intTooBig at z2
  have z3 := of_decide_eq_true z2
  rw [e] at z3
  omega
theorem op_mulA : OpR X (binaryOp .Mult) (rI IntMulOk fun i j => .int (i * j)) := opI fun _ _ _ _ _ _ _ hc q => mul_int q hc
theorem op_fdivA : OpR X (binaryOp .FloorDiv) (rI (fun i j => j ≠ 0 ∧ Builtin.divisionGoesByPylong i j = false) fun i j => .int (i.fdiv j)) := opI fun i j _ _ _ _ _ hc q => floordiv_int hc.1 q (.inl hc.2)
theorem op_subB : OpR X (binaryOp .Sub) (fun x y H Q => ∃ i j, x = .bl i ∧ y = .bl j ∧ Q (.int ((if i then 1 else 0) - (if j then 1 else 0))) H) := by
  intro pins s σ H x y v u Q I rx ry h
  obtain ⟨i, j, rfl, rfl, q⟩ := h
  cases rx
  cases ry
  exact sub_bool ⟨.int _, H, I.tok _, ⟨_, rfl⟩, q⟩
theorem op_catA : OpR X (binaryOp .Add) (fun x y H Q => ∃ l b xs zs, x = .ref l ∧ y = .ref b ∧ Rd H l (.lst xs) ∧ Rd H b (.lst zs) ∧ xs.length + zs.length ≤ sizeLine ∧ ∀ p, H p = none → Q (.ref p) (upd H p (.lst (xs ++ zs)))) := by
  intro pins s σ H x y v u Q I rx ry h
  obtain ⟨l, b, xs, zs, rfl, rfl, hH, hB, hz, q⟩ := h
  cases rx
  cases ry
  obtain ⟨z, its, n, r, e⟩ := hH.ok I.hok
  obtain ⟨z2, its2, n2, r2, e2⟩ := hB.ok I.hok
  have l1 := r.length
  have l2 := r2.length
  refine PySem.P.add_list e e2 ?_ (by rw [List.size_toArray, List.size_toArray]; omega)
  have ea : its.toArray ++ its2.toArray = (its ++ its2).toArray := by simp
  rw [ea]
  exact ⟨.ref _, _, I.lnew (t' := s.toks) (r.append r2) (by rw [List.length_append]; omega), rfl, q _ I.fresh⟩

theorem frE {K : Fg} {Z H : Hp} {Q : VK} {ps : List PV} {vs : List V} (zh : Same Z H) (k : Kont K Z H Q (.fresh (.lst ps))) (r : RpL K Z ps vs) : ∀ p, H p = none → Q (.ref p) (upd H p (.lst vs)) :=
  fun p hp => k p Z _ (.new zh hp) hp (zh.free hp) ⟨vs, upd_same, r⟩
theorem op_binE (op : Operator) : OpR X (binaryOp op) (rBin X.K op) := by
  intro pins s σ H x y v u Q I rx ry h
  obtain ⟨Z, p, q, r, zh, vp, vq, e, k⟩ := h
  unfold opBin at e
  split at e
  · cases e
    cases vp.int
    cases vq.int
    exact op_add pins s σ H _ _ v u Q I rx ry ⟨_, _, rfl, rfl, k _ _ _ (.refl zh) (.int _)⟩
  · cases e
    cases vp.int
    cases vq.int
    exact op_sub pins s σ H _ _ v u Q I rx ry ⟨_, _, rfl, rfl, k _ _ _ (.refl zh) (.int _)⟩
  · cases e
    cases vp.bl
    cases vq.bl
    exact op_subB pins s σ H _ _ v u Q I rx ry ⟨_, _, rfl, rfl, k _ _ _ (.refl zh) (.int _)⟩
  · split at e
    · rename_i hc
      cases e
      cases vp.int
      cases vq.int
      exact op_mulA pins s σ H _ _ v u Q I rx ry ⟨_, _, rfl, rfl, mulOk_ok hc, k _ _ _ (.refl zh) (.int _)⟩
    · cases e
  · split at e
    · rename_i hc
      cases e
      cases vp.int
      cases vq.int
      exact op_fdivA pins s σ H _ _ v u Q I rx ry ⟨_, _, rfl, rfl, hc, k _ _ _ (.refl zh) (.int _)⟩
    · cases e
  · split at e
    · rename_i hc
      cases e
      cases vp.int
      cases vq.int
      exact op_modN pins s σ H _ _ v u Q I rx ry ⟨_, _, rfl, rfl, hc, k _ _ _ (.refl zh) (.int _)⟩
    · cases e
  · split at e
    · rename_i hc
      cases e
      cases vp.str
      cases vq.str
      exact op_add_str pins s σ H _ _ v u Q I rx ry ⟨_, _, rfl, rfl, hc, k _ _ _ (.refl zh) (.str _)⟩
    · cases e
  · split at e
    · rename_i hc
      cases e
      obtain ⟨a, vs, rfl, h1, r1⟩ := vp.lst zh
      obtain ⟨b, ws, rfl, h2, r2⟩ := vq.lst zh
      exact op_catA pins s σ H _ _ v u Q I rx ry ⟨_, _, _, _, rfl, rfl, h1, h2, by rw [r1.length, r2.length]; exact hc, frE zh k (r1.append r2)⟩
    · cases e
  · cases e

/-! ### comparisons -/
def rCmp (K : Fg) (op : CmpOp) : R2 := fun x y H Q => ∃ Z p q b, Same Z H ∧ View K Z H p x ∧ View K Z H q y ∧ opCmp op p q = some b ∧ Q (.bl b) H
mutual
theorem dp_of {K : Fg} {Z H : Hp} (zh : Same Z H) : ∀ {p : PV} {d : PyData} {v : V}, toD p = some d → Rp K Z p v → Dp K H v d
  | .non, _, _, e, r => by cases e; cases r; exact .non
  | .bl b, _, _, e, r => by cases e; cases r; exact .bl b
  | .int b, _, _, e, r => by cases e; cases r; exact .int b
  | .str b, _, _, e, r => by cases e; cases r; exact .str b
  | .tup l, d, v, e, r => by
    cases r with
    | tup h r =>
      unfold toD at e
      cases el : toDL l with
      | none => rw [el] at e; cases e
      | some ds => rw [el] at e; cases e; exact .tup (sqT_same zh h) (dpL_of zh el r)
  | .lst l, d, v, e, r => by
    cases r with
    | lst h r =>
      unfold toD at e
      cases el : toDL l with
      | none => rw [el] at e; cases e
      | some ds => rw [el] at e; cases e; exact .lst (.inl (rd_same zh h)) (dpL_of zh el r)
  | .dct _, _, _, _, r => by cases r
  | .set _, _, _, _, r => by cases r
  | .scr _, _, _, e, _ => by cases e
theorem dpL_of {K : Fg} {Z H : Hp} (zh : Same Z H) : ∀ {ps : List PV} {ds : List PyData} {vs : List V}, toDL ps = some ds → RpL K Z ps vs → DpAll K H vs ds
  | [], _, _, e, r => by cases e; cases r; exact .nil
  | p :: ps, ds, _, e, r => by
    cases r with
    | cons h t =>
      unfold toDL at e
      cases e1 : toD p with
      | none => rw [e1] at e; cases e
      | some d =>
        cases e2 : toDL ps with
        | none => rw [e1, e2] at e; cases e
        | some ds' => rw [e1, e2] at e; cases e; exact .cons (dp_of zh e1 h) (dpL_of zh e2 t)
end
theorem dp_view {K : Fg} {Z H : Hp} {p : PV} {d : PyData} {v : V} (zh : Same Z H) (e : toD p = some d) (h : View K Z H p v) : Dp K H v d := by
  rcases h with h | ⟨a, rfl, h⟩
  · exact dp_of zh e h
  · cases p <;> first | exact h.elim | skip
    rename_i l
    obtain ⟨vs, h1, r⟩ := h
    unfold toD at e
    cases el : toDL l with
    | none => rw [el] at e; cases e
    | some ds => rw [el] at e; cases e; exact .lst (.inl (.inl h1)) (dpL_of zh el r)
theorem eqPV_some {p q : PV} {b : Bool} (e : eqPV p q = some b) : ∃ d f, toD p = some d ∧ toD q = some f ∧ SeqAt.shaped d = true ∧ SeqAt.shaped f = true ∧ b = PyData.eqv d f := by
  unfold eqPV at e
  split at e
  · split at e
    · rename_i hs
      cases e
      exact ⟨_, _, by assumption, by assumption, hs.1, hs.2, rfl⟩
    · cases e
  · cases e
theorem op_cmpE (hu : X.A.units + 64 < cLine) (op : CmpOp) : OpR X (compareOp op) (rCmp X.K op) := by
  intro pins s σ H x y v u Q I rx ry h
  obtain ⟨Z, p, q, b, zh, vp, vq, e, k⟩ := h
  unfold opCmp at e
  split at e
  · obtain ⟨d, f, e1, e2, s1, s2, rfl⟩ := eqPV_some e
    exact op_eqD hu pins s σ H _ _ v u Q I rx ry ⟨d, f, dp_view zh e1 vp, dp_view zh e2 vq, s1, s2, k⟩
  · cases e0 : eqPV p q with
    | none => rw [e0] at e; cases e
    | some b0 =>
      rw [e0] at e
      cases e
      obtain ⟨d, f, e1, e2, s1, s2, rfl⟩ := eqPV_some e0
      exact op_neD hu pins s σ H _ _ v u Q I rx ry ⟨d, f, dp_view zh e1 vp, dp_view zh e2 vq, s1, s2, k⟩
  · cases e
    cases vp.int
    cases vq.int
    exact op_lt pins s σ H _ _ v u Q I rx ry ⟨_, _, rfl, rfl, k⟩
  · cases e
    cases vp.int
    cases vq.int
    exact op_le pins s σ H _ _ v u Q I rx ry ⟨_, _, rfl, rfl, k⟩
  · cases e
    cases vp.int
    cases vq.int
    exact op_gt pins s σ H _ _ v u Q I rx ry ⟨_, _, rfl, rfl, k⟩
  · cases e
    cases vp.int
    cases vq.int
    exact op_ge pins s σ H _ _ v u Q I rx ry ⟨_, _, rfl, rfl, k⟩
  · cases e

/-! ### one place, subscripts, slices, truth -/
theorem op_negE : UnR X (unaryOp .USub) (fun x H Q => ∃ Z p q, Same Z H ∧ View X.K Z H p x ∧ opNeg p = some q ∧ Kont X.K Z H Q (.val q)) := by
  intro pins s σ H x v Q I rx h
  obtain ⟨Z, p, q, zh, vp, e, k⟩ := h
  unfold opNeg at e
  split at e
  · cases e
    cases vp.int
    exact un_neg pins s σ H _ v Q I rx ⟨_, rfl, k _ _ _ (.refl zh) (.int _)⟩
  · cases e
theorem atI_get {α : Type} {l : List α} {i : Int} {x : α} (h : atI l i = some x) : ∃ j, ixN l.length i = some j ∧ l[j]? = some x := by
  unfold atI at h
  cases e : ixN l.length i with
  | none => rw [e] at h; cases h
  | some j => rw [e] at h; exact ⟨j, rfl, h⟩
theorem atI_rp {K : Fg} {Z : Hp} {ps : List PV} {vs : List V} {i : Int} {p : PV} (r : RpL K Z ps vs) (h : atI ps i = some p) : ∃ v, atI vs i = some v ∧ Rp K Z p v := by
  obtain ⟨j, h1, h2⟩ := atI_get h
  obtain ⟨v, h3, h4⟩ := r.get h2
  refine ⟨v, ?_, h4⟩
  unfold atI
  rw [r.length, h1]
  exact h3
theorem ix_E : IxR X (fun x y H Q => ∃ Z p q r, Same Z H ∧ View X.K Z H p x ∧ View X.K Z H q y ∧ opIx p q = some r ∧ Kont X.K Z H Q (.val r)) := by
  intro value slice pins s σ H x y v u Q I rx ry h hs
  obtain ⟨Z, p, q, r, zh, vp, vq, e, k⟩ := h
  unfold opIx at e
  split at e
  · cases vq.int
    obtain ⟨a, vs, rfl, h1, r1⟩ := vp.lst zh
    obtain ⟨w, h2, h3⟩ := atI_rp r1 e
    exact ix_list value slice pins s σ H _ _ v u Q I rx ry ⟨_, _, _, _, rfl, rfl, .inl h1, h2, k _ _ _ (.refl zh) h3⟩ hs
  · cases vq.int
    obtain ⟨a, vs, rfl, h1, r1⟩ := vp.scr zh
    obtain ⟨w, h2, h3⟩ := atI_rp r1 e
    exact ix_list value slice pins s σ H _ _ v u Q I rx ry ⟨_, _, _, _, rfl, rfl, h1, h2, k _ _ _ (.refl zh) h3⟩ hs
  · cases vq.int
    obtain ⟨a, vs, rfl, h1, r1⟩ := vp.tup zh
    obtain ⟨w, h2, h3⟩ := atI_rp r1 e
    exact ix_tup value slice pins s σ H _ _ v u Q I rx ry ⟨_, _, _, _, rfl, rfl, h1, h2, k _ _ _ (.refl zh) h3⟩ hs
  · split at e
    · rename_i s' i hc
      cases vq.int
      cases vp.str
      cases e1 : atI s'.cps.toList i with
      | none => rw [e1] at e; cases e
      | some c =>
        rw [e1] at e
        cases e
        exact ix_str value slice pins s σ H _ _ v u Q I rx ry ⟨_, _, _, rfl, rfl, hc, e1, k _ _ _ (.refl zh) (.str _)⟩ hs
    · cases e
  · cases e
theorem cut_rp {K : Fg} {Z : Hp} {ps : List PV} {vs : List V} (r : RpL K Z ps vs) (lo hi : Option Int) : RpL K Z (cutP ps lo hi) (cutV vs lo hi) := by
  unfold cutP cutV
  rw [r.length]
  exact (r.drop _).take _
theorem sl_E : SlR X (fun x lo hi H Q => ∃ Z p r, Same Z H ∧ View X.K Z H p x ∧ opSlc p lo hi = some r ∧ Kont X.K Z H Q r) := by
  intro pins s σ H x v vl vu lo hi sl Q I rx hs pl pu h
  obtain ⟨Z, p, r, zh, vp, e, k⟩ := h
  unfold opSlc at e
  split at e
  · cases e
    obtain ⟨a, vs, rfl, h1, r1⟩ := vp.lst zh
    exact sl_list pins s σ H _ v vl vu lo hi sl Q I rx hs pl pu ⟨_, _, rfl, .inl h1, frE zh k (cut_rp r1 lo hi)⟩
  · cases e
    obtain ⟨a, vs, rfl, h1, r1⟩ := vp.scr zh
    exact sl_list pins s σ H _ v vl vu lo hi sl Q I rx hs pl pu ⟨_, _, rfl, h1, frE zh k (cut_rp r1 lo hi)⟩
  · split at e
    · rename_i hc
      cases e
      cases vp.str
      exact sl_str pins s σ H _ v vl vu lo hi sl Q I rx hs pl pu ⟨_, rfl, hc, k _ _ _ (.refl zh) (.str _)⟩
    · cases e
  · cases e
theorem isEmpty_rp {K : Fg} {Z : Hp} {ps : List PV} {vs : List V} (r : RpL K Z ps vs) : (!vs.isEmpty) = !ps.isEmpty := by
  cases r <;> rfl
theorem truth_ok {K : Fg} {Z H : Hp} {p : PV} {x : V} {b : Bool} (zh : Same Z H) (vp : View K Z H p x) (e : truth p = some b) : TruV K x H b := by
  unfold truth at e
  split at e
  · cases e; cases vp.non; rfl
  · cases e; cases vp.bl; rfl
  · cases e; cases vp.int; rfl
  · split at e
    · cases e; cases vp.str; exact ⟨by assumption, rfl⟩
    · cases e
  · cases e
    obtain ⟨a, vs, rfl, h1, r1⟩ := vp.tup zh
    exact .inr (.inl ⟨vs, h1, (isEmpty_rp r1).symm⟩)
  · cases e
    obtain ⟨a, vs, rfl, h1, r1⟩ := vp.lst zh
    exact .inl ⟨vs, .inl h1, (isEmpty_rp r1).symm⟩
  · cases e
    obtain ⟨a, vs, rfl, h1, r1⟩ := vp.scr zh
    exact .inl ⟨vs, h1, (isEmpty_rp r1).symm⟩
  · cases e
end

/-! ### built-in functions -/
abbrev ViewL (K : Fg) (Z H : Hp) : List PV → List V → Prop := Paired (View K Z H)
theorem ViewL.one {K : Fg} {Z H : Hp} {p : PV} {vs : List V} (h : ViewL K Z H [p] vs) : ∃ v, vs = [v] ∧ View K Z H p v := by
  cases h with
  | cons h t => cases t; exact ⟨_, rfl, h⟩
theorem ViewL.two {K : Fg} {Z H : Hp} {p q : PV} {vs : List V} (h : ViewL K Z H [p, q] vs) : ∃ v u, vs = [v, u] ∧ View K Z H p v ∧ View K Z H q u := by
  cases h with
  | cons h t => obtain ⟨u, e, h2⟩ := ViewL.one t; subst e; exact ⟨_, _, rfl, h, h2⟩
def bltV : Blt → Value
  | .abs => .builtin "abs"
  | .len => .builtin "len"
  | .int => .type "int"
  | .all => .builtin "all"
  | .gcd => .builtin "math.gcd"
theorem allB_vs {K : Fg} {Z : Hp} : ∀ {ps : List PV} {vs : List V} {bs : List Bool}, allB ps = some bs → RpL K Z ps vs → vs = bs.map V.bl
  | [], _, _, e, r => by cases e; cases r; rfl
  | p :: ps, _, bs, e, r => by
    cases r with
    | cons h t =>
      cases p <;> first | (unfold allB at e; cases e; done) | skip
      rename_i b
      unfold allB at e
      cases e1 : allB ps with
      | none => rw [e1] at e; cases e
      | some bs' =>
        rw [e1] at e
        cases e
        cases h
        rw [allB_vs e1 t]
        rfl
section
variable {X : Cx}
def rBlt (K : Fg) (b : Blt) : List V → Hp → VK → Prop := fun vs H Q => ∃ Z ps r, Same Z H ∧ ViewL K Z H ps vs ∧ opBlt b ps = some r ∧ Kont K Z H Q r
theorem call_blt (hc : X.calm = true) (b : Blt) : CallR X (bltV b) (rBlt X.K b) := by
  intro pins s σ H xs us Q I r h
  obtain ⟨Z, ps, r0, zh, vl, e, k⟩ := h
  unfold opBlt at e
  split at e
  · cases e
    obtain ⟨v, rfl, w⟩ := vl.one
    cases w.int
    exact call_abs pins s σ H _ us Q I r ⟨_, rfl, k _ _ _ (.refl zh) (.int _)⟩
  · cases e
    obtain ⟨v, rfl, w⟩ := vl.one
    obtain ⟨a, vs, rfl, h1, r1⟩ := w.lst zh
    exact call_len pins s σ H _ us Q I r ⟨_, _, rfl, .inl ⟨vs, .inl h1, rfl⟩, by rw [r1.length]; exact k _ _ _ (.refl zh) (.int _)⟩
  · cases e
    obtain ⟨v, rfl, w⟩ := vl.one
    obtain ⟨a, vs, rfl, h1, r1⟩ := w.scr zh
    exact call_len pins s σ H _ us Q I r ⟨_, _, rfl, .inl ⟨vs, h1, rfl⟩, by rw [r1.length]; exact k _ _ _ (.refl zh) (.int _)⟩
  · cases e
    obtain ⟨v, rfl, w⟩ := vl.one
    obtain ⟨a, vs, rfl, h1, r1⟩ := w.tup zh
    exact call_len pins s σ H _ us Q I r ⟨_, _, rfl, .inr ⟨vs, h1, rfl⟩, by rw [r1.length]; exact k _ _ _ (.refl zh) (.int _)⟩
  · split at e
    · cases e
      obtain ⟨v, rfl, w⟩ := vl.one
      cases w.str
      exact call_len pins s σ H _ us Q I r ⟨_, _, rfl, ⟨by assumption, rfl⟩, k _ _ _ (.refl zh) (.int _)⟩
    · cases e
  · cases e
    obtain ⟨v, rfl, w⟩ := vl.one
    cases w.int
    exact call_int1 pins s σ H _ us Q I r (.inl ⟨_, rfl, k _ _ _ (.refl zh) (.int _)⟩)
  · cases e
    obtain ⟨v, rfl, w⟩ := vl.one
    cases w.bl
    exact call_int1 pins s σ H _ us Q I r (.inr ⟨_, rfl, k _ _ _ (.refl zh) (.int _)⟩)
  · rename_i l
    cases e1 : allB l with
    | none => rw [e1] at e; cases e
    | some bs =>
      rw [e1] at e
      cases e
      obtain ⟨v, rfl, w⟩ := vl.one
      obtain ⟨a, vs, rfl, h1, r1⟩ := w.lst zh
      have q := allB_vs e1 r1
      subst q
      exact cr_all hc pins s σ H _ us Q I r ⟨_, _, rfl, .inl h1, k _ _ _ (.refl zh) (.bl _)⟩
  · cases e
    obtain ⟨v, u, rfl, w1, w2⟩ := vl.two
    cases w1.int
    cases w2.int
    exact cr_gcd pins s σ H _ us Q I r ⟨_, _, rfl, k _ _ _ (.refl zh) (.int _)⟩
  · cases e

/-! ### isinstance with a built-in class -/
theorem tyx_of {K : Fg} {Z H : Hp} {p : PV} {v : V} (zh : Same Z H) (h : View K Z H p v) : TyX K H v (.type (tyN p)) := by
  cases p with
  | non => cases h.non; exact .base .non
  | bl b => cases h.bl; exact .base (.bl b)
  | int b => cases h.int; exact .base (.int b)
  | str b => cases h.str; exact .base (.str b)
  | tup l =>
    obtain ⟨a, vs, rfl, h1, _⟩ := h.tup zh
    rcases h1 with (h1 | ⟨o, h1⟩) | ⟨o, its, n, h1, h2, _⟩
    · exact .base (.tup h1)
    · exact .fTuple h1
    · exact .kTuple h1 h2
  | lst l =>
    obtain ⟨a, vs, rfl, h1, _⟩ := h.lst zh
    rcases h1 with h1 | ⟨o, h1⟩
    · exact .base (.lst h1)
    · exact .base (.frz h1)
  | dct l =>
    rcases h with h | ⟨_, _, h⟩
    · cases h
    · exact h.elim
  | set l =>
    rcases h with h | ⟨_, _, h⟩
    · cases h
    · exact h.elim
  | scr l =>
    obtain ⟨a, vs, rfl, h1, _⟩ := h.scr zh
    rcases h1 with (h1 | ⟨o, h1⟩) | ⟨o, its, n, h1, h2, _⟩
    · exact .base (.lst h1)
    · exact .base (.frz h1)
    · exact .kList h1 h2
theorem call_isiE : CallR X (.builtin "isinstance") (fun vs H Q => ∃ Z p v ty b, vs = [v, .ty ty] ∧ Same Z H ∧ View X.K Z H p v ∧ opIsi p ty = some b ∧ Q (.bl b) H) := by
  intro pins s σ H xs us Q I r h
  obtain ⟨Z, p, v, ty, b, rfl, zh, w, e, k⟩ := h
  exact call_isi pins s σ H _ us Q I r ⟨v, .ty ty, _, _, b, rfl, .ty ty, tyx_of zh w, kit_ty e, k⟩
end
end Eng

namespace Eng
open PySem PySem.Spec L2
open PyProof.Rows hiding St

/-! ### what a def promises -/
def ArgR (K : Fg) (Z H : Hp) : List Bool → List PV → List V → List Addr → Prop
  | [], [], [], [] => True
  | true :: ms, p :: ps, v :: vs, a :: as => v = .ref a ∧ Z a = none ∧ OwnR K Z H a p ∧ ArgR K Z H ms ps vs as
  | false :: ms, p :: ps, v :: vs, as => Rp K Z p v ∧ ArgR K Z H ms ps vs as
  | _, _, _, _ => False
structure Aft (K : Fg) (Z H Z' H' : Hp) (as : List Addr) (outs : List PV) : Prop where
  zz : Same Z Z'
  zh : Same Z' H'
  hh : ∀ b o, H b = some o → b ∉ as → H' b = some o
  al : ∀ b, H' b = none → H b = none
  zf : ∀ b, Z' b ≠ none → Z b ≠ none ∨ H b = none
  out : Paired (fun a p => OwnR K Z' H' a p) as outs
def ResR (K : Fg) (Z' H H' : Hp) (fr : Bool) (r : PV) (v : V) : Prop :=
  if fr = true then ∃ a, v = .ref a ∧ Z' a = none ∧ H a = none ∧ OwnR K Z' H' a r else Rp K Z' r v
/-- the address of a class -/
def ClsA (E : Eng) (mg : Str → Option Value) (c : Nat) (C : Addr) : Prop := ∃ nm, E.cls[c]? = some nm ∧ mg nm = some (.ref C)
def PostC (E : Eng) (mg : Str → Option Value) (K : Fg) (Z H : Hp) (as : List Addr) (Q : VK) (E' : XK) : CO → Prop
  | .ok r fr outs => ∀ v Z' H', Aft K Z H Z' H' as outs → ResR K Z' H H' fr r v → Q v H'
  | .exc c outs => ∀ C Z' H', Aft K Z H Z' H' as outs → ClsA E mg c C → E' (.ref C) none H'
  | .stuck => False
def spF (E : Eng) (Φ : Nat → List PV → CO) (mg : Str → Option Value) (K : Fg) (fi : FnI) (f : Nat) : Sp := fun vs H Q E' =>
  ∃ Z ps as, Same Z H ∧ ps.length = fi.np ∧ ArgR K Z H fi.mask ps vs as ∧ as.Nodup ∧ PostC E mg K Z H as Q E' (Φ f ps)

/-! ### the text against the data -/
structure Stc where
  N : List Str
  sc : Scope
  so : Scope
def visB (sc : Scope) (x : Str) : Bool := match sc.names.lookup x with
  | some .local => true
  | some .cell => true
  | some .free => true
  | _ => false
theorem vis_of {sc : Scope} {x : Str} (h : visB sc x = true) : Vis sc x := by
  unfold visB at h
  split at h
  · exact .inl (by assumption)
  · exact .inr (.inl (by assumption))
  · exact .inr (.inr (by assumption))
  · cases h
def okN (x : Str) : Bool := x != "__debug__" && x != "__classdict__" && x != "__name__"
theorem okN_1 {x : Str} (h : okN x = true) : (x == ("__debug__" : Str)) = false := by
  unfold okN at h
  simp only [Bool.and_eq_true, bne, Bool.not_eq_true'] at h
  exact h.1.1
theorem okN_2 {x : Str} (h : okN x = true) : (x == ("__classdict__" : Str)) = false := by
  unfold okN at h
  simp only [Bool.and_eq_true, bne, Bool.not_eq_true'] at h
  exact h.1.2
theorem okN_3 {x : Str} (h : okN x = true) : x ≠ "__name__" := by
  unfold okN at h
  simp only [Bool.and_eq_true, bne, Bool.not_eq_true'] at h
  exact beq_eq_false_iff_ne.mp h.2
def glB (sc : Scope) (x : Str) : Bool := decide (sc.names.lookup x = some .globalImplicit) && okN x
def bltN : Blt → Str
  | .abs => "abs"
  | .len => "len"
  | .int => "int"
  | .all => "all"
  | .gcd => "gcd"
/-- bound by an import -/
def bltG : Blt → Bool
  | .gcd => true
  | _ => false
theorem blt_boot : ∀ b : Blt, bltG b = false → bootBuiltins (bltN b) = some (bltV b)
  | .abs, _ => by decide +kernel
  | .len, _ => by decide +kernel
  | .int, _ => by decide +kernel
  | .all, _ => by decide +kernel
  | .gcd, h => by cases h
def muN : Mu → Str
  | .append => "append"
  | .pop => "pop"
def ownL (N : List Str) (own : List Nat) : List (Str × Nat) := own.map fun i => (N.getD i "", i)
def noSlc : Expr → Bool
  | .Slice _ _ _ _ => false
  | _ => true
def noStar : Expr → Bool
  | .Starred _ _ => false
  | _ => true
def noSet : Expr → Bool
  | .Set _ _ _ => false
  | _ => true
theorem noSet_fold {e : Expr} {env : PySem.Env} (h : noSet e = true) : ∀ x, foldedSetIterable e env x = pure x := by
  intro x
  cases e <;> first | rfl | cases h
/-- a comprehension's block -/
def Stc.blk (S : Stc) (scope : Scope) : Stc := ⟨S.N, relS scope S.sc, scope⟩
def stB (so : Scope) (x : Str) : Bool := match so.names.lookup x with
  | some .local => true
  | some .cell => true
  | _ => false
mutual
def mtT (S : Stc) : Tg → Expr → Bool
  | .nm i, .Name x _ => decide (S.N[i]? = some x) && stB S.so x
  | .tp l, .Tuple es _ _ => mtTs S l es
  | _, _ => false
def mtTs (S : Stc) : List Tg → List Expr → Bool
  | [], [] => true
  | t :: ts, e :: es => mtT S t e && mtTs S ts es && noStar e
  | _, _ => false
end
mutual
def mtE (E : Eng) (S : Stc) : IE → Expr → Bool
  | .var i, .Name x _ => decide (S.N[i]? = some x) && visB S.sc x && okN x
  | .cst .non, .Constant .none _ _ => true
  | .cst (.bl b), .Constant (.bool c) _ _ => b == c
  | .cst (.int b), .Constant (.int c) _ _ => b == c
  | .cst (.str b), .Constant (.str c) _ _ => b == c
  | .glb x, .Name y _ => decide (x = y) && glB S.sc x
  | .bin op a b, .BinOp ea op' eb _ => decide (op = op') && mtE E S a ea && mtE E S b eb
  | .neg a, .UnaryOp .USub ea _ => mtE E S a ea
  | .cmp op a b, .Compare ea [op'] [eb] _ => decide (op = op') && decide (op ≠ .In ∧ op ≠ .NotIn) && mtE E S a ea && mtE E S b eb
  | .isN a n, .Compare ea [op'] [.Constant .none _ _] _ => decide (op' = if n then .IsNot else .Is) && mtE E S a ea
  | .and l, .BoolOp .And es _ => mtL E S l es
  | .or l, .BoolOp .Or es _ => mtL E S l es
  | .not a, .UnaryOp .Not ea _ => mtE E S a ea
  | .ite c a b, .IfExp ec ea eb _ => mtE E S c ec && mtE E S a ea && mtE E S b eb
  | .tup l, .Tuple es _ _ => mtL E S l es
  | .lst l, .List es _ => mtL E S l es
  | .sub a i, .Subscript ea ei _ => mtE E S a ea && mtE E S i ei && noSlc ei
  | .slc a lo hi, .Subscript ea (.Slice elo ehi none _) _ => mtE E S a ea && mtO E S lo elo && mtO E S hi ehi
  | .call f as, .Call (.Name x _) (e :: es) [] _ => (match E.fns[f]? with
      | some fi => decide (fi.name = x)
      | none => false) && glB S.sc x && mtL E S as (e :: es)
  | .blt b as, .Call (.Name x _) (e :: es) [] _ => decide (bltN b = x) && decide (b ∈ E.blts) && glB S.sc x && mtL E S as (e :: es)
  | .isi a ty, .Call (.Name x _) [e, .Name y _] [] _ => decide (x = "isinstance") && decide (Str.ofString ty = y) && decide (ty ∈ E.tys) && glB S.sc x && glB S.sc y && mtE E S a e && noStar e
  | .cmpr elt tg it cond own, .ListComp eelt [⟨etg, eit, eifs, ia⟩] scope _ => noSet eit && mtE E S it eit && blkC S.N S.sc scope (ownL S.N own) && mtT (S.blk scope) tg etg && mtL E (S.blk scope) cond eifs && mtE E (S.blk scope) elt eelt && decide (ia = 0) && decide (cond.length ≤ 1) && (tgS tg).all (fun i => decide (i ∈ own))
  | .mut m i as, .Call (.Attribute (.Name x _) nm apos) es [] cpos => decide (S.N[i]? = some x) && visB S.sc x && okN x && decide (nm = muN m) && (apos.endLine == cpos.line) && mtL E S as es && decide (es.length < 20)
  | _, _ => false
def mtL (E : Eng) (S : Stc) : List IE → List Expr → Bool
  | [], [] => true
  | a :: l, e :: es => mtE E S a e && mtL E S l es && noStar e
  | _, _ => false
def mtO (E : Eng) (S : Stc) : Option IE → Option Expr → Bool
  | none, none => true
  | some a, some e => mtE E S a e
  | _, _ => false
end

structure FnX (E : Eng) (Φ : Nat → List PV → CO) (k : Nat) (P : Program) (w : World) (K : Fg) (mg : Str → Option Value) (base : Heap) (f : Nat) (fi : FnI) (fa : Addr) (fd : FuncData) (ps : List Str) : Prop where
  gm : mg fi.name = some (.ref fa)
  kp : PySem.W.keepIn K (.ref fa) = true
  ok : FnOk P w K mg base (L2.CX P w) k fa fd ps (spF E Φ mg K fi f)
  b0 : Binds K fd ps []
  b1 : ∃ dvs dv, Binds K fd ps dv ∧ Vals dvs dv ∧ ∀ Z, RpL K Z fi.dfl dvs

structure Okx (E : Eng) (Φ : Nat → List PV → CO) (k : Nat) (S : Stc) (W : WX) (X : Cx) : Prop where
  calm : X.calm = true
  N : X.N = S.N
  sc : X.env.scope = S.sc
  nd : S.N.Nodup
  kind : X.env.scope.kind = .function
  st : ∀ x, (S.so.names.lookup x = some .local ∨ S.so.names.lookup x = some .cell) → Loc X.env.scope x ∧ (X.fn x = true ∨ X.env.scope.names.lookup x = some .local)
  room : Room k X.A
  tk : Takes X W
  fn : ∀ f fi, E.fns[f]? = some fi → ∃ fa fd ps, FnX E Φ k X.prog X.w X.K X.mg X.base f fi fa fd ps
  bl : ∀ b ∈ E.blts, if bltG b = true then X.mg (bltN b) = some (bltV b) else X.mg (bltN b) = none
  ty : ∀ t ∈ E.tys, X.mg (Str.ofString t) = none ∧ bootBuiltins (Str.ofString t) = some (.type t) ∧ X.mg "isinstance" = none
  gb : ∀ x p, E.glb.lookup x = some p → ∃ u v, X.mg x = some u ∧ RelV v u ∧ ∀ Z, Rp X.K Z p v

/-! ### what is wanted behind a step of the interpreter -/
def Post (E : Eng) (X : Cx) (W : WX) (g : Ent) (σ : St) (Z : Hp) {α : Type} (R : α → Sg → Hp → Hp → Prop) : Out α → Prop
  | .ok a ε' => ∀ Z' H', Same Z Z' → Good X.K g σ ε' Z' H' → R a ε' Z' H'
  | .exc c ε' => ∀ Z' H' C, Same Z Z' → Good X.K g σ ε' Z' H' → ClsA E X.mg c C → W (.ref C) none σ H'
  | .stuck => False
section
variable {E : Eng} {Φ : Nat → List PV → CO} {X : Cx} {W : WX} {g : Ent} {σ : St} {ε : Sg} {Z H : Hp}
theorem Post.mono {α : Type} {R : α → Sg → Hp → Hp → Prop} {Z1 : Hp} {o : Out α} (h : Post E X W g σ Z R o) (e : Same Z Z1) : Post E X W g σ Z1 R o := by
  cases o with
  | ok a ε' => exact fun Z' H' s G => h Z' H' (e.trans s) G
  | exc c ε' => exact fun Z' H' C s G => h Z' H' C (e.trans s) G
  | stuck => exact h
theorem Post.split {α β : Type} {R : β → Sg → Hp → Hp → Prop} {x : Out α} {f : α → Sg → Out β} (h : Post E X W g σ Z R (x.bind f)) : Post E X W g σ Z (fun a ε1 Z1 H1 => Post E X W g σ Z1 R (f a ε1)) x := by
  cases x with
  | ok a ε' => exact fun Z' H' s G => Post.mono (o := f a ε') h s
  | exc c ε' => exact h
  | stuck => exact h
theorem Post.imp {α : Type} {R R' : α → Sg → Hp → Hp → Prop} {o : Out α} (h : Post E X W g σ Z R o) (f : ∀ a ε' Z' H', Same Z Z' → Good X.K g σ ε' Z' H' → R a ε' Z' H' → R' a ε' Z' H') : Post E X W g σ Z R' o := by
  cases o with
  | ok a ε' => exact fun Z' H' s G => f _ _ _ _ s G (h Z' H' s G)
  | exc c ε' => exact h
  | stuck => exact h

/-- an operand -/
def OpdR (K : Fg) (σ : St) (Z : Hp) : Rv → V → Prop
  | .val p, v => Rp K Z p v
  | .fresh _, _ => False
  | .own i, v => σ[i]? = some (some v)
theorem OpdR.mono {K : Fg} {Z' : Hp} {r : Rv} {v : V} (h : OpdR K σ Z r v) (e : Same Z Z') : OpdR K σ Z' r v := by
  cases r with
  | val p => exact Rp.mono e h
  | fresh p => exact h
  | own i => exact h
theorem OpdR.rv {K : Fg} {r : Rv} {v : V} (h : OpdR K σ Z r v) : RvR K g σ ε Z H r v := by
  cases r with
  | val p => exact h
  | fresh p => exact h.elim
  | own i => exact h
theorem Good.opd {r : Rv} {v : V} (G : Good X.K g σ ε Z H) (h : RvR X.K g σ ε Z H r v) : ∃ Z', Same Z Z' ∧ Good X.K g σ ε Z' H ∧ OpdR X.K σ Z' r.opd v := by
  cases r with
  | val p => exact ⟨Z, .refl _, G, h⟩
  | own i => exact ⟨Z, .refl _, G, h⟩
  | fresh p =>
    obtain ⟨Z', s, G', r⟩ := G.frzFresh h
    exact ⟨Z', s, G', r⟩
theorem Good.frz {r : Rv} {v : V} {p : PV} {ε' : Sg} (G : Good X.K g σ ε Z H) (e : Eng.frz r ε = some (p, ε')) (h : RvR X.K g σ ε Z H r v) : ∃ Z', Same Z Z' ∧ Good X.K g σ ε' Z' H ∧ Rp X.K Z' p v := by
  cases r with
  | val q => cases e; exact ⟨Z, .refl _, G, h⟩
  | fresh q => cases e; exact G.frzFresh h
  | own i =>
    obtain ⟨u, Z', h1, s, G', r⟩ := G.frzS e
    have h : σ[i]? = some (some v) := h
    rw [h] at h1
    cases h1
    exact ⟨Z', s, G', r⟩
theorem Good.frzL : ∀ {rs : List Rv} {vs : List V} {ps : List PV} {ε ε' : Sg} {Z : Hp}, Good X.K g σ ε Z H → Eng.frzL rs ε = some (ps, ε') → Paired (OpdR X.K σ Z) rs vs → ∃ Z', Same Z Z' ∧ Good X.K g σ ε' Z' H ∧ RpL X.K Z' ps vs
  | [], _, _, _, _, Z, G, e, h => by cases e; cases h; exact ⟨Z, .refl _, G, .nil⟩
  | r :: rs, _, ps, ε, ε', Z, G, e, h => by
    cases h with
    | cons h t =>
      unfold Eng.frzL at e
      cases e1 : Eng.frz r ε with
      | none => rw [e1] at e; cases e
      | some q =>
        obtain ⟨p, ε1⟩ := q
        rw [e1] at e
        dsimp only at e
        obtain ⟨Z1, s1, G1, r1⟩ := G.frz e1 h.rv
        cases e2 : Eng.frzL rs ε1 with
        | none => rw [e2] at e; cases e
        | some q =>
          obtain ⟨ps', ε2⟩ := q
          rw [e2] at e
          cases e
          obtain ⟨Z2, s2, G2, r2⟩ := Good.frzL G1 e2 (Paired.mapP t fun _ _ q => q.mono s1)
          exact ⟨Z2, s1.trans s2, G2, .cons (r1.mono s2) r2⟩
theorem Good.peekL : ∀ {rs : List Rv} {vs : List V} {ps : List PV}, Good X.K g σ ε Z H → Eng.peekL ε rs = some ps → Paired (OpdR X.K σ Z) rs vs → ViewL X.K Z H ps vs
  | [], _, _, G, e, h => by cases e; cases h; exact .nil
  | r :: rs, _, ps, G, e, h => by
    cases h with
    | cons h t =>
      unfold Eng.peekL at e
      cases e1 : r.peek ε with
      | none => rw [e1] at e; cases e
      | some p =>
        cases e2 : Eng.peekL ε rs with
        | none => rw [e1, e2] at e; cases e
        | some ps' => rw [e1, e2] at e; cases e; exact .cons (G.peek e1 h.rv) (Good.peekL G e2 t)

/-! ### readings -/
def PR (X : Cx) (g : Ent) (σ : St) (Q : VK) : Rv → Sg → Hp → Hp → Prop := fun r ε' Z' H' => ∀ v, RvR X.K g σ ε' Z' H' r v → Q v H'
def PB (Q : Bool → Hp → Prop) : Bool → Sg → Hp → Hp → Prop := fun b _ _ H' => Q b H'
def PL (X : Cx) (σ : St) (Q : List V → Hp → Prop) : List Rv → Sg → Hp → Hp → Prop := fun rs _ Z' H' => ∀ vs, Paired (OpdR X.K σ Z') rs vs → Q vs H'
def PI' (Q : Option Int → Hp → Prop) : Option Int → Sg → Hp → Hp → Prop := fun o _ _ H' => Q o H'
def tE (E : Eng) (Φ : Nat → List PV → CO) (X : Cx) (W : WX) (e : IE) : TE := fun σ H Q => ∃ g ε Z, Good X.K g σ ε Z H ∧ Post E X W g σ Z (PR X g σ Q) (evE E Φ e ε)
def tT (E : Eng) (Φ : Nat → List PV → CO) (X : Cx) (W : WX) (e : IE) : TT := fun σ H Q => ∃ g ε Z, Good X.K g σ ε Z H ∧ Post E X W g σ Z (PB Q) (evT E Φ e ε)
def tA (E : Eng) (Φ : Nat → List PV → CO) (X : Cx) (W : WX) (l : List IE) : TA := fun σ H Q => ∃ g ε Z, Good X.K g σ ε Z H ∧ Post E X W g σ Z (PL X σ Q) (evA E Φ l ε)
def tO (E : Eng) (Φ : Nat → List PV → CO) (X : Cx) (W : WX) (l : Option IE) : TO := fun σ H Q => ∃ g ε Z, Good X.K g σ ε Z H ∧ Post E X W g σ Z (PI' Q) (evO E Φ l ε)

theorem tE_bind {α : Type} {R : α → Sg → Hp → Hp → Prop} {e : IE} {f : Rv → Sg → Out α} {Ψ : VK} (G : Good X.K g σ ε Z H) (h : Post E X W g σ Z R ((evE E Φ e ε).bind f))
    (k : ∀ r ε1 Z1 H1 v, Same Z Z1 → Good X.K g σ ε1 Z1 H1 → OpdR X.K σ Z1 r.opd v → Post E X W g σ Z1 R (f r ε1) → Ψ v H1) : tE E Φ X W e σ H Ψ := by
  refine ⟨g, ε, Z, G, h.split.imp fun r ε1 Z1 H1 s1 G1 h1 v rv => ?_⟩
  obtain ⟨Z2, s2, G2, o⟩ := G1.opd rv
  exact k r ε1 Z2 H1 v (s1.trans s2) G2 o (h1.mono s2)
theorem tT_bind {α : Type} {R : α → Sg → Hp → Hp → Prop} {e : IE} {f : Bool → Sg → Out α} {Ψ : Bool → Hp → Prop} (G : Good X.K g σ ε Z H) (h : Post E X W g σ Z R ((evT E Φ e ε).bind f))
    (k : ∀ b ε1 Z1 H1, Same Z Z1 → Good X.K g σ ε1 Z1 H1 → Post E X W g σ Z1 R (f b ε1) → Ψ b H1) : tT E Φ X W e σ H Ψ :=
  ⟨g, ε, Z, G, h.split.imp fun b ε1 Z1 H1 s1 G1 h1 => k b ε1 Z1 H1 s1 G1 h1⟩
theorem tA_bind {α : Type} {R : α → Sg → Hp → Hp → Prop} {l : List IE} {f : List Rv → Sg → Out α} {Ψ : List V → Hp → Prop} (G : Good X.K g σ ε Z H) (h : Post E X W g σ Z R ((evA E Φ l ε).bind f))
    (k : ∀ rs ε1 Z1 H1 vs, Same Z Z1 → Good X.K g σ ε1 Z1 H1 → Paired (OpdR X.K σ Z1) rs vs → Post E X W g σ Z1 R (f rs ε1) → Ψ vs H1) : tA E Φ X W l σ H Ψ :=
  ⟨g, ε, Z, G, h.split.imp fun b ε1 Z1 H1 s1 G1 h1 vs r => k b ε1 Z1 H1 vs s1 G1 r h1⟩
theorem tO_bind {α : Type} {R : α → Sg → Hp → Hp → Prop} {l : Option IE} {f : Option Int → Sg → Out α} {Ψ : Option Int → Hp → Prop} (G : Good X.K g σ ε Z H) (h : Post E X W g σ Z R ((evO E Φ l ε).bind f))
    (k : ∀ b ε1 Z1 H1, Same Z Z1 → Good X.K g σ ε1 Z1 H1 → Post E X W g σ Z1 R (f b ε1) → Ψ b H1) : tO E Φ X W l σ H Ψ :=
  ⟨g, ε, Z, G, h.split.imp fun b ε1 Z1 H1 s1 G1 h1 => k b ε1 Z1 H1 s1 G1 h1⟩

theorem Good.new (G : Good X.K g σ ε Z H) {a : Addr} (ha : H a = none) : (∀ i, IsOwn ε i → σ[i]? ≠ some (some (V.ref a))) ∧ ∀ q ∈ g.pr, q.1 ≠ a := by
  refine ⟨fun i ⟨k, p, e⟩ z => ?_, fun q hq z => ?_⟩
  · obtain ⟨b, h1, _, h2, _⟩ := G.slot _ _ e
    rw [h1] at z
    cases z
    exact h2.alive ha
  · have := (G.pr q hq).1
    rw [z, ha] at this
    cases this
/-- behind an operation that changes nothing -/
theorem Kont.of {Q : VK} {r : Rv} (G : Good X.K g σ ε Z H) (h : Post E X W g σ Z (PR X g σ Q) (.ok r ε)) : Kont X.K Z H Q r := by
  cases r with
  | val p => exact fun v Z' H' e rp => h Z' H' e.zz (G.ext e) v rp
  | fresh p => exact fun a Z' H' e ha hz o => h Z' H' e.zz (G.ext e) (.ref a) ⟨a, rfl, hz, G.al a ha, o, (G.new ha).1, (G.new ha).2⟩
  | own i => trivial
theorem Post.lift {Q : VK} {o : Option Rv} (h : Post E X W g σ Z (PR X g σ Q) (lift o ε)) : ∃ r, o = some r ∧ Post E X W g σ Z (PR X g σ Q) (.ok r ε) := by
  cases o with
  | none => exact h.elim
  | some r => exact ⟨r, rfl, h⟩
end
end Eng

namespace Eng
open PySem PySem.Spec L2
open PyProof.Rows hiding St

section
variable {E : Eng} {Φ : Nat → List PV → CO} {X : Cx} {W : WX} {g : Ent} {σ : St} {ε : Sg} {Z H : Hp}

/-! ### the call of a def -/
theorem run_fnX {CX : CXT} {k : Nat} {f : Addr} {fd : FuncData} {ps : List Str} {sp : Sp} {dvs : List V} {ds : List Value} {E' : St → XK} {pins : List (Addr × Obj)} {s : Shared} {Q : VK} {us : List Value} {vs : List V}
    (F : FnOk X.prog X.w X.K X.mg X.base CX k f fd ps sp) (hr : Room k X.A) (hb : Binds X.K fd ps ds) (hd : Vals dvs ds) (hx : PassesAt CX X σ (E' σ))
    (I : Inv X pins σ H s) (r : Vals vs us) (h : sp (vs ++ dvs) H Q (E' σ)) : wpAny (model X.prog X.w) X.A (call (.ref f) us) (EP X pins σ Q) X.xe s := by
  have r2 : Vals (vs ++ dvs) (us ++ ds) := r.append hd
  have hl : (us ++ ds).length = ps.length := by rw [← r2.length]; exact F.len _ _ _ _ h
  refine wpAny_call (codeAny_mono (F.run X.A X.stack s H ⟨us, []⟩ (us ++ ds) (vs ++ dvs) Q (E' σ) hr I.env0 (hb s us I.kIn hl) r2 h) fun r s' hq => ?_)
  cases r with
  | error e => exact hx pins H s e s' I hq
  | ok fl =>
    cases fl with
    | ret u => exact I.after hq
    | next => exact False.elim hq
    | brk => exact False.elim hq
    | cont => exact False.elim hq
def tCallX (sp : Sp) (n : Nat) (dvs : List V) (E' : St → XK) (t : TA) : TE := fun σ H Q => t σ H fun vs H1 => (vs.length < n ∧ sp (vs ++ dvs) H1 Q (E' σ)) ∨ (¬ vs.length < n ∧ sp vs H1 Q (E' σ))
theorem starEach_no {e : Expr} {es : List Expr} {env : Env} (h : noStar e = true) : starEach (e :: es) env = (false, eval e env) :: starEach es env := by
  cases e <;> first | rfl | cases h
theorem mtL_star {S : Stc} : ∀ {l : List IE} {es : List Expr}, mtL E S l es = true → ∀ e ∈ es, noStar e = true
  | [], [], _ => fun e he => absurd he (by simp)
  | [], _ :: _, h => by cases h
  | _ :: _, [], h => by cases h
  | a :: l, e :: es, h => by
    unfold mtL at h
    simp only [Bool.and_eq_true] at h
    intro x hx
    rcases List.mem_cons.mp hx with rfl | hx
    · exact h.2
    · exact mtL_star h.1.2 x hx
theorem star_any {env : Env} {pos : Pos} : ∀ {es : List Expr}, (∀ e ∈ es, noStar e = true) → (backTo pos (starEach es env)).any (·.1) = false
  | [], _ => rfl
  | e :: es, h => by
    rw [starEach_no (h e List.mem_cons_self)]
    have := star_any (env := env) (pos := pos) (es := es) fun x hx => h x (List.mem_cons_of_mem _ hx)
    simpa [backTo] using this
theorem pe_callX {CX : CXT} {k : Nat} {f : Addr} {fd : FuncData} {ps : List Str} {sp : Sp} {dvs : List V} {ds : List Value} {E' : St → XK} {n : Nat} {x : Str} {p pos : Pos} {e : Expr} {es : List Expr} {t : TA}
    (F : FnOk X.prog X.w X.K X.mg X.base CX k f fd ps sp) (hr : Room k X.A) (hg : Gl X x) (hm : X.mg x = some (.ref f)) (hk : PySem.W.keepIn X.K (.ref f) = true) (hb0 : Binds X.K fd ps []) (hb : Binds X.K fd ps ds) (hd : Vals dvs ds)
    (hx : ∀ σ, PassesAt CX X σ (E' σ)) (ha : PA X (e :: es) t) (hdb : (x == ("__debug__" : Str)) = false) (hs : ∀ y ∈ e :: es, noStar y = true) : PE X (.Call (.Name x p) (e :: es) [] pos) (tCallX sp n dvs E' t) := by
  refine ⟨fun pins s σ H Q I h => ?_⟩
  refine wpAny_Call_Name_kw (ld_glob I hg hm ?_ hdb)
  refine PySem.W.callWith_K (h₀ := X.base) I.ok.mod.kin hk (thn (ha.run pos pins s σ H _ I h) fun us s1 ⟨vs, H1, I1, r, q⟩ => ⟨I1.kIn, ?_⟩) (starEach_no (hs e List.mem_cons_self)) (star_any fun y hy => hs y (List.mem_cons_of_mem _ hy))
  rcases q with ⟨_, q⟩ | ⟨_, q⟩
  · exact run_fnX F hr hb hd (hx σ) I1 r q
  · exact run_fnX F hr hb0 .nil (hx σ) I1 r (by rw [List.append_nil]; exact q)

/-! ### slots that a callee changes -/
theorem Good.argL : ∀ {ms : List Bool} {rs : List Rv} {vs : List V} {ps : List PV} {is : List Nat} {ε ε' : Sg} {Z : Hp}, Good X.K g σ ε Z H → Eng.argL ms rs ε = some (ps, is, ε') → Paired (OpdR X.K σ Z) rs vs →
    ∃ Z' as, Same Z Z' ∧ Good X.K g σ ε' Z' H ∧ ArgR X.K Z' H ms ps vs as ∧ Paired (fun i a => σ[i]? = some (some (V.ref a)) ∧ ∃ k p, ε'[i]? = some (.own k p)) is as ∧ is.Nodup
  | [], [], _, _, _, _, _, Z, G, e, h => by cases e; cases h; exact ⟨Z, [], .refl _, G, trivial, .nil, List.nodup_nil⟩
  | [], _ :: _, _, _, _, _, _, _, _, e, _ => by cases e
  | true :: _, [], _, _, _, _, _, _, _, e, _ => by cases e
  | false :: _, [], _, _, _, _, _, _, _, e, _ => by cases e
  | true :: _, .val _ :: _, _, _, _, _, _, _, _, e, _ => by cases e
  | true :: _, .fresh _ :: _, _, _, _, _, _, _, _, e, _ => by cases e
  | true :: ms, .own i :: rs, _, ps, is, ε, ε', Z, G, e, h => by
    cases h with
    | cons h t =>
      unfold Eng.argL at e
      cases e1 : Eng.argL ms rs ε with
      | none => rw [e1] at e; cases e
      | some q =>
        obtain ⟨ps', is', ε1⟩ := q
        rw [e1] at e
        dsimp only at e
        split at e
        · cases e
        · rename_i hni
          split at e
          · rename_i k p hi
            cases e
            obtain ⟨Z', as, s, G', ar, pr, nd⟩ := Good.argL G e1 t
            obtain ⟨a, h1, h2, h3, _⟩ := G'.slot _ _ hi
            have h : σ[i]? = some (some _) := h
            rw [h1] at h
            cases h
            exact ⟨Z', a :: as, s, G', ⟨rfl, h2, h3, ar⟩, .cons ⟨h1, _, _, hi⟩ pr, List.nodup_cons.mpr ⟨hni, nd⟩⟩
          · cases e
  | false :: ms, r :: rs, _, ps, is, ε, ε', Z, G, e, h => by
    cases h with
    | cons h t =>
      unfold Eng.argL at e
      cases e1 : Eng.frz r ε with
      | none => rw [e1] at e; cases e
      | some q =>
        obtain ⟨p, ε1⟩ := q
        rw [e1] at e
        dsimp only at e
        obtain ⟨Z1, s1, G1, r1⟩ := G.frz e1 h.rv
        cases e2 : Eng.argL ms rs ε1 with
        | none => rw [e2] at e; cases e
        | some q =>
          obtain ⟨ps', is', ε2⟩ := q
          rw [e2] at e
          cases e
          obtain ⟨Z2, as, s2, G2, ar, pr, nd⟩ := Good.argL G1 e2 (Paired.mapP t fun _ _ q => q.mono s1)
          exact ⟨Z2, as, s1.trans s2, G2, ⟨r1.mono s2, ar⟩, pr, nd⟩
theorem setOuts_get : ∀ {is : List Nat} {ps : List PV} {ε ε' : Sg}, is.Nodup → setOuts ε is ps = some ε' → ε'.length = ε.length ∧ is.length = ps.length ∧ (∀ j, j ∉ is → ε'[j]? = ε[j]?) ∧
    ∀ (n : Nat) (i : Nat) (p : PV), is[n]? = some i → ps[n]? = some p → ∃ k q, ε[i]? = some (.own k q) ∧ ε'[i]? = some (.own k p)
  | [], [], ε, ε', _, e => by cases e; exact ⟨rfl, rfl, fun _ _ => rfl, fun n i p h _ => by simp at h⟩
  | [], _ :: _, _, _, _, e => by cases e
  | _ :: _, [], _, _, _, e => by cases e
  | i :: is, p :: ps, ε, ε', nd, e => by
    unfold setOuts at e
    split at e
    · rename_i k q hi
      obtain ⟨h1, h0, h2, h3⟩ := setOuts_get (List.nodup_cons.mp nd).2 e
      have nin := (List.nodup_cons.mp nd).1
      have il : i < ε.length := (List.getElem?_eq_some_iff.mp hi).1
      refine ⟨by rw [h1, List.length_set], by simp [h0], fun j hj => ?_, fun n j r e1 e2 => ?_⟩
      · rw [List.mem_cons, not_or] at hj
        rw [h2 j hj.2, List.getElem?_set_ne (Ne.symm hj.1)]
      · cases n with
        | zero =>
          simp at e1 e2
          subst e1; subst e2
          exact ⟨k, q, hi, by rw [h2 _ nin, List.getElem?_set_self il]⟩
        | succ n =>
          simp at e1 e2
          obtain ⟨k', q', h4, h5⟩ := h3 n j r e1 e2
          have ne : i ≠ j := fun z => nin (by rw [z]; exact List.mem_of_getElem? e1)
          rw [List.getElem?_set_ne ne] at h4
          exact ⟨k', q', h4, h5⟩
    · cases e
theorem Paired.getP {α β : Type} {F : α → β → Prop} : ∀ {l : List α} {m : List β} {n : Nat} {x : α}, Paired F l m → l[n]? = some x → ∃ y, m[n]? = some y ∧ F x y
  | _, _, _, _, .nil, e => by simp at e
  | _, _, 0, _, .cons h _, e => by simp at e; subst e; exact ⟨_, rfl, h⟩
  | _, _, n + 1, x, .cons _ t, e => by
    obtain ⟨y, h1, h2⟩ := Paired.getP (n := n) (x := x) t (by simpa using e)
    exact ⟨y, by simpa using h1, h2⟩
theorem Paired.getP' {α β : Type} {F : α → β → Prop} : ∀ {l : List α} {m : List β} {n : Nat} {y : β}, Paired F l m → m[n]? = some y → ∃ x, l[n]? = some x ∧ F x y
  | _, _, _, _, .nil, e => by simp at e
  | _, _, 0, _, .cons h _, e => by simp at e; subst e; exact ⟨_, rfl, h⟩
  | _, _, n + 1, x, .cons _ t, e => by
    obtain ⟨y, h1, h2⟩ := Paired.getP' (n := n) (y := x) t (by simpa using e)
    exact ⟨y, by simpa using h1, h2⟩
/-- behind a call -/
theorem Good.call {Z' H' : Hp} {as : List Addr} {is : List Nat} {outs : List PV} {ε' : Sg} (G : Good X.K g σ ε Z H) (ia : Paired (fun i a => σ[i]? = some (some (V.ref a)) ∧ ∃ k p, ε[i]? = some (.own k p)) is as) (nd : is.Nodup)
    (e : setOuts ε is outs = some ε') (A : Aft X.K Z H Z' H' as outs) : Good X.K g σ ε' Z' H' := by
  obtain ⟨l1, l0, l2, l3⟩ := setOuts_get nd e
  have back : ∀ {b : Addr}, b ∈ as → ∃ i ∈ is, σ[i]? = some (some (V.ref b)) ∧ IsOwn ε i := fun {b} hb => by
    obtain ⟨n, hn⟩ := List.mem_iff_getElem?.mp hb
    obtain ⟨i, h1, h2, k, p, h3⟩ := Paired.getP' ia hn
    exact ⟨i, List.mem_of_getElem? h1, h2, k, p, h3⟩
  have own' : ∀ {j}, IsOwn ε' j → IsOwn ε j := fun {j} ⟨k, p, h⟩ => by
    by_cases hj : j ∈ is
    · obtain ⟨n, hn⟩ := List.mem_iff_getElem?.mp hj
      obtain ⟨a, _, _, q⟩ := Paired.getP ia hn
      exact q
    · rw [l2 j hj] at h; exact ⟨k, p, h⟩
  have alive : ∀ {b : Addr}, H b ≠ none → H' b ≠ none := fun {b} h z => h (A.al b z)
  have zn : ∀ {b : Addr}, Z b = none → H b ≠ none → Z' b = none := fun {b} z h => by
    cases q : Z' b with
    | none => rfl
    | some u =>
      rcases A.zf b (by rw [q]; exact fun y => nomatch y) with y | y
      · exact absurd z y
      · exact absurd y h
  refine ⟨by rw [l1]; exact G.len, fun j s hs => ?_, fun j l a oj ol => G.dis j l a (own' oj) (own' ol), A.zh, fun b o h n => ?_, fun b h => G.al b (A.al b h), fun b z => ?_, G.zz.trans A.zz, fun j a hj => ?_, fun q hq => ?_⟩
  · by_cases hj : j ∈ is
    · obtain ⟨n, hn⟩ := List.mem_iff_getElem?.mp hj
      obtain ⟨a, ha, h1, k, p, h2⟩ := Paired.getP ia hn
      obtain ⟨p', hp⟩ := Paired.getP A.out ha
      obtain ⟨k', q', h3, h4⟩ := l3 n j p' hn hp.1
      rw [h4] at hs
      cases hs
      obtain ⟨b, g1, g2, g3, g4⟩ := G.slot _ _ h3
      rw [h1] at g1
      cases g1
      exact ⟨a, h1, zn g2 g3.alive, hp.2, g4⟩
    · rw [l2 j hj] at hs
      have q := G.slot j s hs
      cases s with
      | none => trivial
      | val p => obtain ⟨v, q1, q2⟩ := q; exact ⟨v, q1, q2.mono A.zz⟩
      | own k p =>
        obtain ⟨b, q1, q2, q3, q4⟩ := q
        have nb : b ∉ as := fun hb => by
          obtain ⟨i, hi, e1, oi⟩ := back hb
          exact hj (G.dis i j b oi ⟨k, p, hs⟩ e1 q1 ▸ hi)
        exact ⟨b, q1, zn q2 q3.alive, q3.mono A.zz fun o h => A.hh _ _ h nb, q4⟩
  · by_cases hb : b ∈ as
    · obtain ⟨i, hi, e1, k, p, e2⟩ := back hb
      obtain ⟨c, g1, _, _, g4, g5⟩ := G.slot _ _ e2
      rw [e1] at g1
      cases g1
      cases k with
      | true => rw [g4 rfl] at h; cases h
      | false => exact absurd (List.mem_map.mpr ⟨_, g5 rfl, rfl⟩) n
    · exact A.hh _ _ (G.hh b o h n) hb
  · rcases A.zf b z with y | y
    · exact G.zf b y
    · exact .inr (G.al b y)
  · obtain ⟨h1, p, h2⟩ := G.io j a hj
    refine ⟨h1, ?_⟩
    by_cases hm : j ∈ is
    · obtain ⟨n, hn⟩ := List.mem_iff_getElem?.mp hm
      obtain ⟨a', ha, _⟩ := Paired.getP ia hn
      obtain ⟨p', hp⟩ := Paired.getP A.out ha
      obtain ⟨k', q', h3, h4⟩ := l3 n j p' hn hp.1
      rw [h2] at h3
      cases h3
      exact ⟨_, h4⟩
    · exact ⟨p, by rw [l2 j hm]; exact h2⟩
  · obtain ⟨q1, q2, q3⟩ := G.pr q hq
    have nq : q.1 ∉ as := fun hb => by
      obtain ⟨i, _, e1, oi⟩ := back hb
      exact q3 i oi e1
    exact ⟨A.hh _ _ q1 nq, zn q2 (by rw [q1]; exact fun y => nomatch y), fun j oj => q3 j (own' oj)⟩
end
end Eng

namespace Eng
open PySem PySem.Spec L2
open PyProof.Rows hiding St

section
variable {E : Eng} {Φ : Nat → List PV → CO} {k : Nat} {S : Stc} {X : Cx} {W : WX}
theorem Okx.vis (ok : Okx E Φ k S W X) {i : Nat} {x : Str} {pos : Pos} (h : (decide (S.N[i]? = some x) && visB S.sc x && okN x) = true) : PE X (.Name x pos) (tVar i) := by
  simp only [Bool.and_eq_true, decide_eq_true_eq] at h
  exact pe_var (by rw [ok.N]; exact h.1.1) (by rw [ok.sc]; exact vis_of h.1.2) (okN_1 h.2) (okN_2 h.2)
theorem Okx.gl (ok : Okx E Φ k S W X) {x : Str} (h : glB S.sc x = true) : Gl X x ∧ okN x = true := by
  unfold glB at h
  simp only [Bool.and_eq_true, decide_eq_true_eq] at h
  refine ⟨?_, h.2⟩
  show X.env.scope.names.lookup x = _
  rw [ok.sc]; exact h.1
theorem Okx.hu (ok : Okx E Φ k S W X) : X.A.units + 64 < cLine := ok.room.units

/-! ### names, constants -/
theorem s_var (ok : Okx E Φ k S W X) {i : Nat} {x : Str} {pos : Pos} (h : (decide (S.N[i]? = some x) && visB S.sc x && okN x) = true) : PE X (.Name x pos) (tE E Φ X W (.var i)) := by
  refine ⟨fun pins s σ H Q I hq => ?_⟩
  obtain ⟨g, ε, Z, G, h1⟩ := hq
  refine (ok.vis h).run pins s σ H Q I ?_
  have h1 : Post E X W g σ Z (PR X g σ Q) (match ε[i]? with | some (.val p) => .ok (.val p) ε | some (.own _ _) => .ok (.own i) ε | _ => .stuck) := h1
  cases e : ε[i]? with
  | none => rw [e] at h1; exact h1.elim
  | some sl =>
    rw [e] at h1
    cases sl with
    | none => exact h1.elim
    | val p =>
      obtain ⟨v, q1, q2⟩ := G.slot _ _ e
      exact ⟨v, q1, h1 Z H (.refl _) G v q2⟩
    | own k p =>
      obtain ⟨a, q1, _⟩ := G.slot _ _ e
      exact ⟨_, q1, h1 Z H (.refl _) G _ q1⟩
theorem s_cst {p : PV} {v : V} {ex : Expr} (he : PE X ex (tC v)) (r : ∀ Z, Rp X.K Z p v) : PE X ex (tE E Φ X W (.cst p)) := by
  refine ⟨fun pins s σ H Q I hq => ?_⟩
  obtain ⟨g, ε, Z, G, h1⟩ := hq
  exact he.run pins s σ H Q I (h1 Z H (.refl _) G v (r Z))
theorem s_glb (ok : Okx E Φ k S W X) {x : Str} {pos : Pos} (h : glB S.sc x = true) : PE X (.Name x pos) (tE E Φ X W (.glb x)) := by
  refine ⟨fun pins s σ H Q I hq => ?_⟩
  obtain ⟨g, ε, Z, G, h1⟩ := hq
  have h1 : Post E X W g σ Z (PR X g σ Q) (match E.glb.lookup x with | some p => .ok (.val p) ε | none => .stuck) := h1
  cases e : E.glb.lookup x with
  | none => rw [e] at h1; exact h1.elim
  | some p =>
    rw [e] at h1
    obtain ⟨u, v, m, r, rp⟩ := ok.gb x p e
    exact (pe_glob (ok.gl h).1 m r (okN_1 (ok.gl h).2)).run pins s σ H Q I (h1 Z H (.refl _) G v (rp Z))

/-! ### operators -/
theorem s_bin {op : Operator} {a b : IE} {ea eb : Expr} {pos : Pos} (ha : PE X ea (tE E Φ X W a)) (hb : PE X eb (tE E Φ X W b)) : PE X (.BinOp ea op eb pos) (tE E Φ X W (.bin op a b)) := by
  refine ⟨fun pins s σ H Q I hq => ?_⟩
  obtain ⟨g, ε, Z, G, h1⟩ := hq
  refine (pe_op (op_binE op) ha hb).run pins s σ H Q I ?_
  refine tE_bind G h1 fun ra ε1 Z1 H1 x s1 G1 rx h2 => tE_bind G1 h2 fun rb ε2 Z2 H2 y s2 G2 ry h3 => ?_
  split at h3
  · rename_i p q ep eq
    obtain ⟨r, er, h4⟩ := h3.lift
    exact ⟨Z2, p, q, r, G2.zh, G2.peek ep (rx.mono s2).rv, G2.peek eq ry.rv, er, Kont.of G2 h4⟩
  · exact h3.elim
theorem s_neg {a : IE} {ea : Expr} {pos : Pos} (ha : PE X ea (tE E Φ X W a)) : PE X (.UnaryOp .USub ea pos) (tE E Φ X W (.neg a)) := by
  refine ⟨fun pins s σ H Q I hq => ?_⟩
  obtain ⟨g, ε, Z, G, h1⟩ := hq
  refine (pe_un op_negE ha).run pins s σ H Q I ?_
  refine tE_bind G h1 fun ra ε1 Z1 H1 x s1 G1 rx h2 => ?_
  split at h2
  · rename_i p ep
    obtain ⟨r, er, h4⟩ := h2.lift
    cases eo : opNeg p with
    | none => rw [eo] at er; cases er
    | some q => rw [eo] at er; cases er; exact ⟨Z1, p, q, G1.zh, G1.peek ep rx.rv, eo, Kont.of G1 h4⟩
  · exact h2.elim
theorem s_cmp (ok : Okx E Φ k S W X) {op : CmpOp} {a b : IE} {ea eb : Expr} {pos : Pos} (hop : op ≠ .In ∧ op ≠ .NotIn) (ha : PE X ea (tE E Φ X W a)) (hb : PE X eb (tE E Φ X W b)) : PE X (.Compare ea [op] [eb] pos) (tE E Φ X W (.cmp op a b)) := by
  refine ⟨fun pins s σ H Q I hq => ?_⟩
  obtain ⟨g, ε, Z, G, h1⟩ := hq
  refine (pe_cmpR (op_cmpE ok.hu op) ha hb (nomark _ hop.1 hop.2)).run pins s σ H Q I ?_
  refine tE_bind G h1 fun ra ε1 Z1 H1 x s1 G1 rx h2 => tE_bind G1 h2 fun rb ε2 Z2 H2 y s2 G2 ry h3 => ?_
  split at h3
  · rename_i p q ep eq
    cases eo : opCmp op p q with
    | none => rw [eo] at h3; exact h3.elim
    | some b => rw [eo] at h3; exact ⟨Z2, p, q, b, G2.zh, G2.peek ep (rx.mono s2).rv, G2.peek eq ry.rv, eo, h3 Z2 H2 (.refl _) G2 _ (.bl b)⟩
  · exact h3.elim
theorem t_cmp (ok : Okx E Φ k S W X) {op : CmpOp} {a b : IE} {ea eb : Expr} {pos : Pos} (hop : op ≠ .In ∧ op ≠ .NotIn) (ha : PE X ea (tE E Φ X W a)) (hb : PE X eb (tE E Φ X W b)) : PT X (.Compare ea [op] [eb] pos) (tT E Φ X W (.cmp op a b)) := by
  refine ⟨fun pins s σ H Q I hq => ?_⟩
  obtain ⟨g, ε, Z, G, h1⟩ := hq
  refine (pt_cmpR (op_cmpE ok.hu op) ha hb (nomark _ hop.1 hop.2)).run pins s σ H Q I ?_
  refine tE_bind G h1 fun ra ε1 Z1 H1 x s1 G1 rx h2 => tE_bind G1 h2 fun rb ε2 Z2 H2 y s2 G2 ry h3 => ?_
  split at h3
  · rename_i p q ep eq
    cases eo : opCmp op p q with
    | none => rw [eo] at h3; exact h3.elim
    | some b => rw [eo] at h3; exact ⟨Z2, p, q, b, G2.zh, G2.peek ep (rx.mono s2).rv, G2.peek eq ry.rv, eo, b, rfl, h3 Z2 H2 (.refl _) G2⟩
  · exact h3.elim
theorem rp_nn {K : Fg} {Z : Hp} {p : PV} {v : V} (h : Rp K Z p v) (hp : p ≠ .non) : v ≠ .non := by
  intro e
  subst e
  cases h
  exact hp rfl
theorem view_nn {K : Fg} {Z H : Hp} {p : PV} {v : V} (h : View K Z H p v) (hp : p ≠ .non) : v ≠ .non := by
  rcases h with h | ⟨a, rfl, _⟩
  · exact rp_nn h hp
  · exact fun z => nomatch z
theorem s_isN {a : IE} {n : Bool} {op : CmpOp} {ea : Expr} {j : Nat} {pos pos' : Pos} (hop : op = if n = true then .IsNot else .Is) (ha : PE X ea (tE E Φ X W a)) : PE X (.Compare ea [op] [.Constant .none j pos'] pos) (tE E Φ X W (.isN a n)) := by
  refine ⟨fun pins s σ H Q I hq => ?_⟩
  obtain ⟨g, ε, Z, G, h1⟩ := hq
  have key : ∀ (Q : VK), Post E X W g σ Z (PR X g σ Q) (evE E Φ (.isN a n) ε) → tE E Φ X W a σ H (fun x H1 => Q (.bl (if n = true then !decide (x = .non) else decide (x = .non))) H1) := fun Q h1 => by
    refine tE_bind G h1 fun ra ε1 Z1 H1 x s1 G1 rx h2 => ?_
    split at h2
    · rename_i ep
      have w := (G1.peek ep rx.rv).non
      subst w
      have := h2 Z1 H1 (.refl _) G1 _ (.bl _)
      cases n <;> simpa using this
    · rename_i p hn ep
      have w := view_nn (G1.peek ep rx.rv) hn
      have := h2 Z1 H1 (.refl _) G1 _ (.bl _)
      cases n <;> simpa [w] using this
    · exact h2.elim
  cases n with
  | true =>
    cases hop
    exact (pe_cmp (pc_notN ha) rfl).run pins s σ H Q I (key Q h1)
  | false =>
    cases hop
    exact (pe_cmp (pc_isN ha) rfl).run pins s σ H Q I (key Q h1)
theorem t_isN {a : IE} {n : Bool} {op : CmpOp} {ea : Expr} {j : Nat} {pos pos' : Pos} (hop : op = if n = true then .IsNot else .Is) (ha : PE X ea (tE E Φ X W a)) : PT X (.Compare ea [op] [.Constant .none j pos'] pos) (tT E Φ X W (.isN a n)) := by
  refine ⟨fun pins s σ H Q I hq => ?_⟩
  obtain ⟨g, ε, Z, G, h1⟩ := hq
  have key : ∀ (Q : Bool → Hp → Prop), Post E X W g σ Z (PB Q) (evT E Φ (.isN a n) ε) → tE E Φ X W a σ H (fun x H1 => Q (if n = true then !decide (x = .non) else decide (x = .non)) H1) := fun Q h1 => by
    refine tE_bind G h1 fun ra ε1 Z1 H1 x s1 G1 rx h2 => ?_
    split at h2
    · rename_i ep
      have w := (G1.peek ep rx.rv).non
      subst w
      have := h2 Z1 H1 (.refl _) G1
      cases n <;> simpa [PB] using this
    · rename_i p hn ep
      have w := view_nn (G1.peek ep rx.rv) hn
      have := h2 Z1 H1 (.refl _) G1
      cases n <;> simpa [w, PB] using this
    · exact h2.elim
  have wrap : ∀ (t : TE), (∀ Q : VK, tE E Φ X W a σ H (fun x H1 => Q (.bl (if n = true then !decide (x = .non) else decide (x = .non))) H1) → t σ H Q) → tB t σ H Q := fun t f =>
    f _ (by
      obtain ⟨g', ε', Z', G', p⟩ := key Q h1
      exact ⟨g', ε', Z', G', p.imp fun r ε1 Z1 H1 _ _ h v rv => ⟨_, rfl, h v rv⟩⟩)
  cases n with
  | true =>
    cases hop
    exact (pt_cmp (pc_notN ha) rfl).run pins s σ H Q I (wrap _ fun Q h => h)
  | false =>
    cases hop
    exact (pt_cmp (pc_isN ha) rfl).run pins s σ H Q I (wrap _ fun Q h => h)

/-! ### and, or, not, if -/
theorem truth_some {ε : Sg} {r : Rv} {b : Bool} (e : (r.peek ε).bind truth = some b) : ∃ p, r.peek ε = some p ∧ truth p = some b := by
  cases h : r.peek ε with
  | none => rw [h] at e; cases e
  | some p => rw [h] at e; exact ⟨p, rfl, e⟩
def tAndL (E : Eng) (Φ : Nat → List PV → CO) (X : Cx) (W : WX) (l : List IE) : TE := fun σ H Q => ∃ g ε Z, Good X.K g σ ε Z H ∧ Post E X W g σ Z (PR X g σ Q) (evAnd E Φ l ε)
def tOrL (E : Eng) (Φ : Nat → List PV → CO) (X : Cx) (W : WX) (l : List IE) : TE := fun σ H Q => ∃ g ε Z, Good X.K g σ ε Z H ∧ Post E X W g σ Z (PR X g σ Q) (evOr E Φ l ε)
def tAndLT (E : Eng) (Φ : Nat → List PV → CO) (X : Cx) (W : WX) (l : List IE) : TT := fun σ H Q => ∃ g ε Z, Good X.K g σ ε Z H ∧ Post E X W g σ Z (PB Q) (evAndT E Φ l ε)
def tOrLT (E : Eng) (Φ : Nat → List PV → CO) (X : Cx) (W : WX) (l : List IE) : TT := fun σ H Q => ∃ g ε Z, Good X.K g σ ε Z H ∧ Post E X W g σ Z (PB Q) (evOrT E Φ l ε)
theorem s_and1 {a : IE} {ea : Expr} {pos : Pos} (ha : PE X ea (tE E Φ X W a)) : PE X (.BoolOp .And [ea] pos) (tAndL E Φ X W [a]) := by
  refine ⟨fun pins s σ H Q I hq => ?_⟩
  obtain ⟨g, ε, Z, G, h1⟩ := hq
  exact (pe_one ha).run pins s σ H Q I ⟨g, ε, Z, G, h1⟩
theorem s_or1 {a : IE} {ea : Expr} {pos : Pos} (ha : PE X ea (tE E Φ X W a)) : PE X (.BoolOp .Or [ea] pos) (tOrL E Φ X W [a]) := by
  refine ⟨fun pins s σ H Q I hq => ?_⟩
  obtain ⟨g, ε, Z, G, h1⟩ := hq
  exact (pe_one ha).run pins s σ H Q I ⟨g, ε, Z, G, h1⟩
theorem s_and2 {a b : IE} {l : List IE} {ea eb : Expr} {es : List Expr} {pos : Pos} (ha : PE X ea (tE E Φ X W a)) (hb : PE X (.BoolOp .And (eb :: es) pos) (tAndL E Φ X W (b :: l))) : PE X (.BoolOp .And (ea :: eb :: es) pos) (tAndL E Φ X W (a :: b :: l)) := by
  refine ⟨fun pins s σ H Q I hq => ?_⟩
  obtain ⟨g, ε, Z, G, h1⟩ := hq
  refine (pe_andT ha hb).run pins s σ H Q I ?_
  refine tE_bind G h1 fun ra ε1 Z1 H1 x s1 G1 rx h2 => ?_
  split at h2
  · rename_i et
    obtain ⟨p, ep, et⟩ := truth_some et
    exact ⟨true, truth_ok G1.zh (G1.peek ep rx.rv) et, by rw [if_pos rfl]; exact ⟨g, ε1, Z1, G1, h2⟩⟩
  · rename_i et
    obtain ⟨p, ep, et⟩ := truth_some et
    exact ⟨false, truth_ok G1.zh (G1.peek ep rx.rv) et, by rw [if_neg Bool.false_ne_true]; exact h2 Z1 H1 (.refl _) G1 _ rx.rv⟩
  · exact h2.elim
theorem s_or2 {a b : IE} {l : List IE} {ea eb : Expr} {es : List Expr} {pos : Pos} (ha : PE X ea (tE E Φ X W a)) (hb : PE X (.BoolOp .Or (eb :: es) pos) (tOrL E Φ X W (b :: l))) : PE X (.BoolOp .Or (ea :: eb :: es) pos) (tOrL E Φ X W (a :: b :: l)) := by
  refine ⟨fun pins s σ H Q I hq => ?_⟩
  obtain ⟨g, ε, Z, G, h1⟩ := hq
  refine (pe_orT ha hb).run pins s σ H Q I ?_
  refine tE_bind G h1 fun ra ε1 Z1 H1 x s1 G1 rx h2 => ?_
  split at h2
  · rename_i et
    obtain ⟨p, ep, et⟩ := truth_some et
    exact ⟨false, truth_ok G1.zh (G1.peek ep rx.rv) et, by rw [if_neg Bool.false_ne_true]; exact ⟨g, ε1, Z1, G1, h2⟩⟩
  · rename_i et
    obtain ⟨p, ep, et⟩ := truth_some et
    exact ⟨true, truth_ok G1.zh (G1.peek ep rx.rv) et, by rw [if_pos rfl]; exact h2 Z1 H1 (.refl _) G1 _ rx.rv⟩
  · exact h2.elim
theorem t_and1 {a : IE} {ea : Expr} {pos : Pos} (ha : PT X ea (tT E Φ X W a)) : PW X (.BoolOp .And [ea] pos) (tAndLT E Φ X W [a]) := by
  refine ⟨fun wh pins s σ H Q I hq => ?_⟩
  obtain ⟨g, ε, Z, G, h1⟩ := hq
  exact (pw_and1 ha).run wh pins s σ H Q I ⟨g, ε, Z, G, h1⟩
theorem t_or1 {a : IE} {ea : Expr} {pos : Pos} (ha : PT X ea (tT E Φ X W a)) : PW X (.BoolOp .Or [ea] pos) (tOrLT E Φ X W [a]) := by
  refine ⟨fun wh pins s σ H Q I hq => ?_⟩
  obtain ⟨g, ε, Z, G, h1⟩ := hq
  exact (pw_or1 ha).run wh pins s σ H Q I ⟨g, ε, Z, G, h1⟩
theorem t_and2 {a b : IE} {l : List IE} {ea eb : Expr} {es : List Expr} {pos : Pos} (ha : PT X ea (tT E Φ X W a)) (hb : PW X (.BoolOp .And (eb :: es) pos) (tAndLT E Φ X W (b :: l))) : PW X (.BoolOp .And (ea :: eb :: es) pos) (tAndLT E Φ X W (a :: b :: l)) := by
  refine ⟨fun wh pins s σ H Q I hq => ?_⟩
  obtain ⟨g, ε, Z, G, h1⟩ := hq
  refine (pw_and ha hb).run wh pins s σ H Q I ?_
  refine tT_bind G h1 fun t ε1 Z1 H1 s1 G1 h2 => ?_
  cases t with
  | true => rw [if_pos rfl]; exact ⟨g, ε1, Z1, G1, h2⟩
  | false => rw [if_neg Bool.false_ne_true]; exact h2 Z1 H1 (.refl _) G1
theorem t_or2 {a b : IE} {l : List IE} {ea eb : Expr} {es : List Expr} {pos : Pos} (ha : PT X ea (tT E Φ X W a)) (hb : PW X (.BoolOp .Or (eb :: es) pos) (tOrLT E Φ X W (b :: l))) : PW X (.BoolOp .Or (ea :: eb :: es) pos) (tOrLT E Φ X W (a :: b :: l)) := by
  refine ⟨fun wh pins s σ H Q I hq => ?_⟩
  obtain ⟨g, ε, Z, G, h1⟩ := hq
  refine (pw_or ha hb).run wh pins s σ H Q I ?_
  refine tT_bind G h1 fun t ε1 Z1 H1 s1 G1 h2 => ?_
  cases t with
  | true => rw [if_pos rfl]; exact h2 Z1 H1 (.refl _) G1
  | false => rw [if_neg Bool.false_ne_true]; exact ⟨g, ε1, Z1, G1, h2⟩
theorem s_not {a : IE} {ea : Expr} {pos : Pos} (ha : PE X ea (tE E Φ X W a)) : PE X (.UnaryOp .Not ea pos) (tE E Φ X W (.not a)) := by
  refine ⟨fun pins s σ H Q I hq => ?_⟩
  obtain ⟨g, ε, Z, G, h1⟩ := hq
  refine (pe_notT ha).run pins s σ H Q I ?_
  refine tE_bind G h1 fun ra ε1 Z1 H1 x s1 G1 rx h2 => ?_
  split at h2
  · rename_i b et
    obtain ⟨p, ep, et⟩ := truth_some et
    exact ⟨b, truth_ok G1.zh (G1.peek ep rx.rv) et, h2 Z1 H1 (.refl _) G1 _ (.bl _)⟩
  · exact h2.elim
theorem t_not {a : IE} {ea : Expr} {pos : Pos} (ha : PT X ea (tT E Φ X W a)) : PT X (.UnaryOp .Not ea pos) (tT E Φ X W (.not a)) := by
  refine ⟨fun pins s σ H Q I hq => ?_⟩
  obtain ⟨g, ε, Z, G, h1⟩ := hq
  exact (pt_not ha).run pins s σ H Q I (tT_bind G h1 fun t ε1 Z1 H1 s1 G1 h2 => h2 Z1 H1 (.refl _) G1)
theorem s_ite {c a b : IE} {ec ea eb : Expr} {pos : Pos} (hc : PT X ec (tT E Φ X W c)) (ha : PE X ea (tE E Φ X W a)) (hb : PE X eb (tE E Φ X W b)) : PE X (.IfExp ec ea eb pos) (tE E Φ X W (.ite c a b)) := by
  refine ⟨fun pins s σ H Q I hq => ?_⟩
  obtain ⟨g, ε, Z, G, h1⟩ := hq
  refine (pe_ifExp hc ha hb).run pins s σ H Q I ?_
  refine tT_bind G h1 fun t ε1 Z1 H1 s1 G1 h2 => ?_
  cases t with
  | true => rw [if_pos rfl]; exact ⟨g, ε1, Z1, G1, h2⟩
  | false => rw [if_neg Bool.false_ne_true]; exact ⟨g, ε1, Z1, G1, h2⟩

/-! ### displays, argument lists -/
theorem s_nil : PA X [] (tA E Φ X W []) := by
  refine ⟨fun pos pins s σ H Q I hq => ?_⟩
  obtain ⟨g, ε, Z, G, h1⟩ := hq
  exact pa_nil.run pos pins s σ H Q I (h1 Z H (.refl _) G [] .nil)
theorem s_cons {a : IE} {l : List IE} {ea : Expr} {es : List Expr} (hn : noStar ea = true) (ha : PE X ea (tE E Φ X W a)) (hl : PA X es (tA E Φ X W l)) : PA X (ea :: es) (tA E Φ X W (a :: l)) := by
  refine ⟨fun pos pins s σ H Q I hq => ?_⟩
  obtain ⟨g, ε, Z, G, h1⟩ := hq
  refine (pa_cons ha hl (starEach_no hn)).run pos pins s σ H Q I ?_
  refine tE_bind G h1 fun ra ε1 Z1 H1 x s1 G1 rx h2 => tA_bind G1 h2 fun rs ε2 Z2 H2 vs s2 G2 rl h3 => ?_
  exact h3 Z2 H2 (.refl _) G2 _ (.cons (rx.mono s2) rl)
theorem s_tup {l : List IE} {es : List Expr} {n : Nat} {pos : Pos} (hl : PA X es (tA E Φ X W l)) : PE X (.Tuple es n pos) (tE E Φ X W (.tup l)) := by
  refine ⟨fun pins s σ H Q I hq => ?_⟩
  obtain ⟨g, ε, Z, G, h1⟩ := hq
  refine (pe_tup hl).run pins s σ H Q I ?_
  refine tA_bind G h1 fun rs ε1 Z1 H1 vs s1 G1 rl h2 => ?_
  split at h2
  · rename_i ps ε2 ef
    obtain ⟨Z2, s2, G2, r2⟩ := G1.frzL ef rl
    split at h2
    · rename_i hz
      refine ⟨by rw [r2.length]; exact hz, fun p hp => ?_⟩
      have e := Ext.newF (o := .tup vs) G2.zh hp
      exact h2 _ _ (s2.trans e.zz) (G2.ext e) _ (.tup (.inl (.inl upd_same)) (r2.mono e.zz))
    · exact h2.elim
  · exact h2.elim
theorem s_lst {l : List IE} {es : List Expr} {pos : Pos} (hl : PA X es (tA E Φ X W l)) : PE X (.List es pos) (tE E Φ X W (.lst l)) := by
  refine ⟨fun pins s σ H Q I hq => ?_⟩
  obtain ⟨g, ε, Z, G, h1⟩ := hq
  refine (pe_lst hl).run pins s σ H Q I ?_
  refine tA_bind G h1 fun rs ε1 Z1 H1 vs s1 G1 rl h2 => ?_
  split at h2
  · rename_i ps ε2 ef
    obtain ⟨Z2, s2, G2, r2⟩ := G1.frzL ef rl
    split at h2
    · rename_i hz
      refine ⟨by rw [r2.length]; exact hz, fun p hp => ?_⟩
      have e := Ext.new (o := .lst vs) G2.zh hp
      exact h2 _ _ s2 (G2.ext e) _ ⟨p, rfl, G2.zh.free hp, G2.al p hp, ⟨vs, upd_same, r2⟩, (G2.new hp).1, (G2.new hp).2⟩
    · exact h2.elim
  · exact h2.elim

/-! ### subscripts, slices -/
theorem plainIx {ei : Expr} (h : noSlc ei = true) : PlainIx ei := by
  intro o i
  cases ei <;> first | rfl | cases h
theorem s_sub {a i : IE} {ea ei : Expr} {pos : Pos} (hn : noSlc ei = true) (ha : PE X ea (tE E Φ X W a)) (hi : PE X ei (tE E Φ X W i)) : PE X (.Subscript ea ei pos) (tE E Φ X W (.sub a i)) := by
  refine ⟨fun pins s σ H Q I hq => ?_⟩
  obtain ⟨g, ε, Z, G, h1⟩ := hq
  refine (pe_ix ix_E ha hi (plainIx hn)).run pins s σ H Q I ?_
  refine tE_bind G h1 fun ra ε1 Z1 H1 x s1 G1 rx h2 => tE_bind G1 h2 fun rb ε2 Z2 H2 y s2 G2 ry h3 => ?_
  split at h3
  · rename_i p q ep eq
    obtain ⟨r, er, h4⟩ := h3.lift
    cases eo : opIx p q with
    | none => rw [eo] at er; cases er
    | some r' => rw [eo] at er; cases er; exact ⟨Z2, p, q, r', G2.zh, G2.peek ep (rx.mono s2).rv, G2.peek eq ry.rv, eo, Kont.of G2 h4⟩
  · exact h3.elim
theorem s_none : PO X none (tO E Φ X W none) := by
  refine ⟨fun pins s σ H Q I hq => ?_⟩
  obtain ⟨g, ε, Z, G, h1⟩ := hq
  exact po_none.run pins s σ H Q I (h1 Z H (.refl _) G)
theorem s_some {a : IE} {ea : Expr} (ha : PE X ea (tE E Φ X W a)) : PO X (some ea) (tO E Φ X W (some a)) := by
  refine ⟨fun pins s σ H Q I hq => ?_⟩
  obtain ⟨g, ε, Z, G, h1⟩ := hq
  refine (po_some ha).run pins s σ H Q I ?_
  refine tE_bind G h1 fun ra ε1 Z1 H1 x s1 G1 rx h2 => ?_
  split at h2
  · rename_i i ep
    exact ⟨i, (G1.peek ep rx.rv).int, h2 Z1 H1 (.refl _) G1⟩
  · exact h2.elim
theorem s_slc {a : IE} {lo hi : Option IE} {ea : Expr} {elo ehi : Option Expr} {pos p2 : Pos} (ha : PE X ea (tE E Φ X W a)) (hl : PO X elo (tO E Φ X W lo)) (hh : PO X ehi (tO E Φ X W hi)) : PE X (.Subscript ea (.Slice elo ehi none p2) pos) (tE E Φ X W (.slc a lo hi)) := by
  refine ⟨fun pins s σ H Q I hq => ?_⟩
  obtain ⟨g, ε, Z, G, h1⟩ := hq
  refine (pe_slice sl_E ha hl hh).run pins s σ H Q I ?_
  refine tE_bind G h1 fun ra ε1 Z1 H1 x s1 G1 rx h2 => tO_bind G1 h2 fun l ε2 Z2 H2 s2 G2 h3 => tO_bind G2 h3 fun u ε3 Z3 H3 s3 G3 h4 => ?_
  split at h4
  · rename_i p ep
    obtain ⟨r, er, h5⟩ := h4.lift
    exact ⟨Z3, p, r, G3.zh, G3.peek ep ((rx.mono s2).mono s3).rv, er, Kont.of G3 h5⟩
  · exact h4.elim

/-! ### calls -/
theorem argR_len {K : Fg} {Z H : Hp} : ∀ {ms : List Bool} {ps : List PV} {vs : List V} {as : List Addr}, ArgR K Z H ms ps vs as → ps.length = ms.length ∧ vs.length = ms.length
  | [], [], [], [], _ => ⟨rfl, rfl⟩
  | [], [], [], _ :: _, h => h.elim
  | [], [], _ :: _, _, h => h.elim
  | [], _ :: _, _, _, h => h.elim
  | true :: _, [], _, _, h => h.elim
  | true :: _, _ :: _, [], _, h => h.elim
  | true :: _, _ :: _, _ :: _, [], h => h.elim
  | true :: ms, p :: ps, v :: vs, a :: as, h => by
    obtain ⟨h1, h2⟩ := argR_len h.2.2.2
    simp [h1, h2]
  | false :: _, [], _, _, h => h.elim
  | false :: _, _ :: _, [], _, h => h.elim
  | false :: ms, p :: ps, v :: vs, as, h => by
    obtain ⟨h1, h2⟩ := argR_len h.2
    simp [h1, h2]
theorem argR_more {K : Fg} {Z H : Hp} {qs : List PV} {ws : List V} : ∀ {m2 : List Bool}, m2.all (! ·) = true → m2.length = qs.length → RpL K Z qs ws → ∀ {ms : List Bool} {ps : List PV} {vs : List V} {as : List Addr}, ArgR K Z H ms ps vs as → ArgR K Z H (ms ++ m2) (ps ++ qs) (vs ++ ws) as := by
  intro m2 hm hl r
  have base : ∀ {m2 : List Bool} {qs : List PV} {ws : List V}, m2.all (! ·) = true → m2.length = qs.length → RpL K Z qs ws → ArgR K Z H m2 qs ws [] := by
    intro m2
    induction m2 with
    | nil => intro qs ws _ hl r; cases r with | nil => trivial | cons _ _ => simp at hl
    | cons b m ih =>
      intro qs ws hm hl r
      cases r with
      | nil => simp at hl
      | cons h t =>
        rw [List.all_cons, Bool.and_eq_true] at hm
        cases b with
        | true => exact absurd hm.1 (by decide)
        | false => exact ⟨h, ih hm.2 (by simpa using hl) t⟩
  intro ms
  induction ms with
  | nil =>
    intro ps vs as h
    have hl' := argR_len h
    cases ps with
    | cons _ _ => simp at hl'
    | nil =>
      cases vs with
      | cons _ _ => simp at hl'
      | nil =>
        cases as with
        | cons _ _ => exact h.elim
        | nil => exact base hm hl r
  | cons b ms ih =>
    intro ps vs as h
    have hl' := argR_len h
    cases ps with
    | nil => simp at hl'
    | cons p ps =>
      cases vs with
      | nil => simp at hl'
      | cons v vs =>
        cases b with
        | false => exact ⟨h.1, ih h.2⟩
        | true =>
          cases as with
          | nil => exact h.elim
          | cons a as => exact ⟨h.1, h.2.1, h.2.2.1, ih h.2.2.2⟩
theorem setOuts_own {is : List Nat} {outs : List PV} {ε ε' : Sg} (nd : is.Nodup) (e : setOuts ε is outs = some ε') {j : Nat} (h : IsOwn ε' j) : IsOwn ε j := by
  obtain ⟨_, l0, l2, l3⟩ := setOuts_get nd e
  by_cases hj : j ∈ is
  · obtain ⟨n, hn⟩ := List.mem_iff_getElem?.mp hj
    have hlt := (List.getElem?_eq_some_iff.mp hn).1
    obtain ⟨k, q, h1, _⟩ := l3 n j (outs[n]'(by omega)) hn (List.getElem?_eq_getElem _)
    exact ⟨k, q, h1⟩
  · obtain ⟨k, p, q⟩ := h
    exact ⟨k, p, by rw [← l2 j hj]; exact q⟩
theorem addr_nodup {σ : St} : ∀ {is : List Nat} {as : List Addr} {ε : Sg}, (∀ i j a, i ∈ is → j ∈ is → σ[i]? = some (some (V.ref a)) → σ[j]? = some (some (V.ref a)) → i = j) → Paired (fun i a => σ[i]? = some (some (V.ref a)) ∧ ∃ k p, ε[i]? = some (Slot.own k p)) is as → is.Nodup → as.Nodup
  | [], _, _, _, h, _ => by cases h; exact List.nodup_nil
  | i :: is, _, ε, d, h, nd => by
    cases h with
    | @cons _ a _ as h t =>
      have nd' := List.nodup_cons.mp nd
      refine List.nodup_cons.mpr ⟨fun ha => ?_, addr_nodup (fun j l b hj hl => d j l b (List.mem_cons_of_mem _ hj) (List.mem_cons_of_mem _ hl)) t nd'.2⟩
      obtain ⟨n, hn⟩ := List.mem_iff_getElem?.mp ha
      obtain ⟨j, hj, e, _⟩ := Paired.getP' t hn
      have hj := List.mem_of_getElem? hj
      exact nd'.1 (d i j a List.mem_cons_self (List.mem_cons_of_mem _ hj) h.1 e ▸ hj)
/-- the promise at the call, from what the interpreter says -/
theorem call_ok {g : Ent} {σ : St} {ε1 : Sg} {Z1 H1 : Hp} {Q : VK} {f : Nat} {fi : FnI} {rs : List Rv} {vs dvs : List V} (G1 : Good X.K g σ ε1 Z1 H1)
    (rl : Paired (OpdR X.K σ Z1) rs vs) (rd : ∀ Z, RpL X.K Z fi.dfl dvs) (h : Post E X W g σ Z1 (PR X g σ Q) (doCall Φ fi.mask fi.dfl fi.np f rs ε1)) :
    (vs.length < fi.np ∧ spF E Φ X.mg X.K fi f (vs ++ dvs) H1 Q (WE W σ)) ∨ (¬ vs.length < fi.np ∧ spF E Φ X.mg X.K fi f vs H1 Q (WE W σ)) := by
  have hvl : vs.length = rs.length := (Paired.length rl).symm
  unfold doCall at h
  split at h
  · exact h.elim
  · rename_i ps is ε2 ea
    obtain ⟨Z2, as, s2, G2, ar, ia, nd⟩ := G1.argL ea rl
    have hpl := argR_len ar
    by_cases hc : fi.mask.length = fi.np ∧ (if ps.length < fi.np then ps ++ fi.dfl else ps).length = fi.np ∧ (fi.mask.drop rs.length).all (! ·) = true
    · rw [if_pos hc] at h
      obtain ⟨hm, hl, hall⟩ := hc
      have ndA : as.Nodup := addr_nodup (fun i j a hi hj => G2.dis i j a (by
        obtain ⟨n, hn⟩ := List.mem_iff_getElem?.mp hi
        obtain ⟨_, _, _, q⟩ := Paired.getP ia hn
        exact q) (by
        obtain ⟨n, hn⟩ := List.mem_iff_getElem?.mp hj
        obtain ⟨_, _, _, q⟩ := Paired.getP ia hn
        exact q)) ia nd
      have post : PostC E X.mg X.K Z2 H1 as Q (WE W σ) (Φ f (if ps.length < fi.np then ps ++ fi.dfl else ps)) := by
        cases eo : Φ f (if ps.length < fi.np then ps ++ fi.dfl else ps) with
        | stuck => rw [eo] at h; exact h.elim
        | ok r fr outs =>
          rw [eo] at h
          dsimp only at h
          intro v Z' H' A rr
          split at h
          · rename_i ε3 es
            have G3 := G2.call ia nd es A
            refine h Z' H' (s2.trans A.zz) G3 v ?_
            unfold ResR at rr
            cases fr with
            | false => exact rr
            | true =>
              obtain ⟨a, e, z, hn, o⟩ := rr
              exact ⟨a, e, z, G2.al a hn, o, fun i oi => (G2.new hn).1 i (setOuts_own nd es oi), (G2.new hn).2⟩
          · exact h.elim
        | exc c outs =>
          rw [eo] at h
          dsimp only at h
          intro C Z' H' A cl
          split at h
          · rename_i ε3 es
            exact h Z' H' C (s2.trans A.zz) (G2.call ia nd es A) cl
          · exact h.elim
      by_cases hlt : vs.length < fi.np
      · left
        have hlp : ps.length < fi.np := by rw [hpl.1, ← hpl.2]; exact hlt
        rw [if_pos hlp] at post hl
        refine ⟨hlt, Z2, ps ++ fi.dfl, as, G2.zh, hl, ?_, ndA, post⟩
        have e : fi.mask = fi.mask.take rs.length ++ fi.mask.drop rs.length := (List.take_append_drop _ _).symm
        rw [e]
        refine argR_more hall ?_ (rd Z2) ar
        rw [List.length_append] at hl
        have h1 := hpl.1
        rw [List.length_take] at h1
        rw [List.length_drop]
        omega
      · right
        have hlp : ¬ ps.length < fi.np := by rw [hpl.1, ← hpl.2]; exact hlt
        rw [if_neg hlp] at post hl
        refine ⟨hlt, Z2, ps, as, G2.zh, hl, ?_, ndA, post⟩
        have e : fi.mask.take rs.length = fi.mask := by
          rw [List.take_of_length_le]
          omega
        rw [e] at ar
        exact ar
    · rw [if_neg hc] at h
      exact h.elim
theorem s_call (ok : Okx E Φ k S W X) {f : Nat} {fi : FnI} {as : List IE} {e : Expr} {es : List Expr} {x : Str} {p pos : Pos} (hf : E.fns[f]? = some fi) (hx : fi.name = x) (hg : glB S.sc x = true) (hs : ∀ y ∈ e :: es, noStar y = true)
    (ha : PA X (e :: es) (tA E Φ X W as)) : PE X (.Call (.Name x p) (e :: es) [] pos) (tE E Φ X W (.call f as)) := by
  subst hx
  obtain ⟨fa, fd, ps, F⟩ := ok.fn f fi hf
  obtain ⟨dvs, dv, b1, hv, hd⟩ := F.b1
  refine ⟨fun pins s σ H Q I hq => ?_⟩
  obtain ⟨g, ε, Z, G, h1⟩ := hq
  refine (pe_callX (n := fi.np) (E' := WE W) F.ok ok.room (ok.gl hg).1 F.gm F.kp F.b0 b1 hv (fun σ => passAt ok.tk σ) ha (okN_1 (ok.gl hg).2) hs).run pins s σ H Q I ?_
  refine tA_bind G h1 fun rs ε1 Z1 H1 vs s1 G1 rl h2 => ?_
  rw [hf] at h2
  exact call_ok G1 rl hd h2
end
end Eng

namespace Eng
open PySem PySem.Spec L2
open PyProof.Rows hiding St

section
variable {E : Eng} {Φ : Nat → List PV → CO} {k : Nat} {S : Stc} {X : Cx} {W : WX}

/-! ### other tests: by the value's truth -/
def truthK (r : Rv) (ε : Sg) : Out Bool := match (r.opd.peek ε).bind truth with
  | some b => .ok b ε
  | none => .stuck
theorem bind_assoc {α β γ : Type} (x : Out α) (f : α → Sg → Out β) (h : β → Sg → Out γ) : (x.bind f).bind h = x.bind fun a ε => (f a ε).bind h := by
  cases x <;> rfl
theorem t_val {e : IE} {ex : Expr} (he : PE X ex (tE E Φ X W e)) (hv : ∀ ε, evT E Φ e ε = (evE E Φ e ε).bind truthK) (hi : ∀ whole, isTrue ex X.env whole = (do let v ← whole; standAt ex.pos; holding [v] (truthy v))) : PT X ex (tT E Φ X W e) := by
  refine ⟨fun pins s σ H Q I hq => ?_⟩
  obtain ⟨g, ε, Z, G, h1⟩ := hq
  rw [hv] at h1
  refine (pt_truth he hi).run pins s σ H Q I ?_
  refine tE_bind G h1 fun ra ε1 Z1 H1 x s1 G1 rx h2 => ?_
  unfold truthK at h2
  split at h2
  · rename_i b et
    obtain ⟨p, ep, et⟩ := truth_some et
    exact ⟨b, truth_ok G1.zh (G1.peek ep rx.rv) et, h2 Z1 H1 (.refl _) G1⟩
  · exact h2.elim
theorem v_var (i : Nat) (ε : Sg) : evT E Φ (.var i) ε = (evE E Φ (.var i) ε).bind truthK := by
  show (match (peekS ε i).bind truth with | some b => Out.ok b ε | none => .stuck) = (match ε[i]? with | some (.val p) => Out.ok (Rv.val p) ε | some (.own _ _) => .ok (Rv.own i) ε | _ => .stuck).bind truthK
  cases e : ε[i]? with
  | none => simp [peekS, e, Out.bind]
  | some s => cases s <;> simp [peekS, e, Out.bind, truthK, Rv.opd, Rv.peek]
theorem v_cst (p : PV) (ε : Sg) : evT E Φ (.cst p) ε = (evE E Φ (.cst p) ε).bind truthK := rfl
theorem v_call (f : Nat) (as : List IE) (ε : Sg) : evT E Φ (.call f as) ε = (evE E Φ (.call f as) ε).bind truthK := by
  show _ = ((evA E Φ as ε).bind fun rs ε1 => match E.fns[f]? with | some fi => doCall Φ fi.mask fi.dfl fi.np f rs ε1 | none => .stuck).bind truthK
  rw [bind_assoc]
  show (evA E Φ as ε).bind _ = _
  congr 1
  funext rs ε1
  cases E.fns[f]? <;> rfl
theorem v_blt (b : Blt) (as : List IE) (ε : Sg) : evT E Φ (.blt b as) ε = (evE E Φ (.blt b as) ε).bind truthK := by
  show _ = ((evA E Φ as ε).bind fun rs ε1 => match peekL ε1 rs with | some ps => lift (opBlt b ps) ε1 | none => .stuck).bind truthK
  rw [bind_assoc]
  show (evA E Φ as ε).bind _ = _
  congr 1
  funext rs ε1
  cases peekL ε1 rs <;> rfl
theorem v_isi (a : IE) (ty : String) (ε : Sg) : evT E Φ (.isi a ty) ε = (evE E Φ (.isi a ty) ε).bind truthK := by
  show _ = ((evE E Φ a ε).bind fun ra ε1 => match ra.opd.peek ε1 with | some p => lift ((opIsi p ty).map fun b => Rv.val (.bl b)) ε1 | none => .stuck).bind truthK
  rw [bind_assoc]
  show (evE E Φ a ε).bind _ = _
  congr 1
  funext ra ε1
  cases ra.opd.peek ε1 with
  | none => rfl
  | some p =>
    show (match opIsi p ty with | some b => Out.ok b ε1 | none => .stuck) = (lift ((opIsi p ty).map fun b => Rv.val (.bl b)) ε1).bind truthK
    cases opIsi p ty <;> rfl
theorem v_sub (a i : IE) (ε : Sg) : evT E Φ (.sub a i) ε = (evE E Φ (.sub a i) ε).bind truthK := by
  show _ = ((evE E Φ a ε).bind fun ra ε1 => (evE E Φ i ε1).bind fun rb ε2 => match ra.opd.peek ε2, rb.opd.peek ε2 with | some p, some q => lift ((opIx p q).map Rv.val) ε2 | _, _ => .stuck).bind truthK
  rw [bind_assoc]
  show (evE E Φ a ε).bind _ = _
  congr 1
  funext ra ε1
  rw [bind_assoc]
  congr 1
  funext rb ε2
  cases ra.opd.peek ε2 with
  | none => rfl
  | some p =>
    cases rb.opd.peek ε2 with
    | none => rfl
    | some q =>
      show (match (opIx p q).bind truth with | some b => Out.ok b ε2 | none => .stuck) = (lift ((opIx p q).map Rv.val) ε2).bind truthK
      cases opIx p q <;> rfl

/-! ### built-in functions, isinstance -/
theorem s_blt (ok : Okx E Φ k S W X) {b : Blt} {as : List IE} {e : Expr} {es : List Expr} {x : Str} {p pos : Pos} (hx : bltN b = x) (hb : b ∈ E.blts) (hg : glB S.sc x = true) (hs : ∀ y ∈ e :: es, noStar y = true)
    (ha : PA X (e :: es) (tA E Φ X W as)) : PE X (.Call (.Name x p) (e :: es) [] pos) (tE E Φ X W (.blt b as)) := by
  subst hx
  obtain ⟨gl, on⟩ := ok.gl hg
  have m := ok.bl b hb
  refine ⟨fun pins s σ H Q I hq => ?_⟩
  obtain ⟨g, ε, Z, G, h1⟩ := hq
  have rd : tCB (rBlt X.K b) (tA E Φ X W as) σ H Q := by
    refine tA_bind G h1 fun rs ε1 Z1 H1 vs s1 G1 rl h2 => ?_
    split at h2
    · rename_i ps ep
      obtain ⟨r, er, h4⟩ := h2.lift
      exact ⟨Z1, ps, r, G1.zh, G1.peekL ep rl, er, Kont.of G1 h4⟩
    · exact h2.elim
  have he := starEach_no (env := X.env) (es := es) (hs e List.mem_cons_self)
  have hp := star_any (env := X.env) (pos := pos) fun y hy => hs y (List.mem_cons_of_mem e hy)
  have c := call_blt (X := X) ok.calm b
  cases hbg : bltG b with
  | true =>
    rw [if_pos hbg] at m
    cases b <;> first | cases hbg | skip
    exact (pe_callBfun c gl m ha (okN_1 on) he hp).run pins s σ H Q I rd
  | false =>
    rw [if_neg (by rw [hbg]; exact Bool.false_ne_true)] at m
    have bo := blt_boot b hbg
    cases b with
    | gcd => cases hbg
    | int => exact (pe_callTy c gl m bo ha (okN_3 on) (okN_1 on) he hp).run pins s σ H Q I rd
    | abs => exact (pe_callB c gl m bo ha (okN_3 on) (okN_1 on) he hp).run pins s σ H Q I rd
    | len => exact (pe_callB c gl m bo ha (okN_3 on) (okN_1 on) he hp).run pins s σ H Q I rd
    | all => exact (pe_callB c gl m bo ha (okN_3 on) (okN_1 on) he hp).run pins s σ H Q I rd
theorem s_isi (ok : Okx E Φ k S W X) {a : IE} {ty : String} {e : Expr} {y : Str} {p p2 pos : Pos} (hy : Str.ofString ty = y) (ht : ty ∈ E.tys) (hg : glB S.sc "isinstance" = true) (hgy : glB S.sc y = true) (hs : noStar e = true)
    (ha : PE X e (tE E Φ X W a)) : PE X (.Call (.Name "isinstance" p) [e, .Name y p2] [] pos) (tE E Φ X W (.isi a ty)) := by
  subst hy
  obtain ⟨gl, on⟩ := ok.gl hg
  obtain ⟨gy, ony⟩ := ok.gl hgy
  obtain ⟨m1, m2, m3⟩ := ok.ty ty ht
  refine ⟨fun pins s σ H Q I hq => ?_⟩
  obtain ⟨g, ε, Z, G, h1⟩ := hq
  have pe2 : PE X (.Name (Str.ofString ty) p2) (tC (.ty ty)) := pe_bltn gy m1 m2 rfl (okN_3 ony) (okN_1 ony)
  refine (pe_callB call_isiE gl m3 (by decide +kernel) (pa_cons ha (pa_cons pe2 pa_nil rfl) (starEach_no hs)) (by decide) (by decide) (starEach_no hs) rfl).run pins s σ H Q I ?_
  refine tE_bind G h1 fun ra ε1 Z1 H1 x s1 G1 rx h2 => ?_
  split at h2
  · rename_i q ep
    cases eo : opIsi q ty with
    | none => rw [eo] at h2; exact h2.elim
    | some b => rw [eo] at h2; exact ⟨Z1, q, x, ty, b, rfl, G1.zh, G1.peek ep rx.rv, eo, h2 Z1 H1 (.refl _) G1 _ (.bl b)⟩
  · exact h2.elim

/-! ### a list of one's own is changed -/
theorem Good.setOwn {g : Ent} {σ : St} {ε : Sg} {Z H : Hp} {i : Nat} {a : Addr} {kk : Bool} {p p' : PV} {o : HO} (G : Good X.K g σ ε Z H) (e : ε[i]? = some (.own kk p)) (es : σ[i]? = some (some (V.ref a))) (r : OwnR X.K Z (upd H a o) a p') :
    Good X.K g σ (ε.set i (.own kk p')) Z (upd H a o) := by
  obtain ⟨b, h1, h2, h3, _⟩ := G.slot _ _ e
  rw [es] at h1
  cases h1
  refine G.call (as := [a]) (is := [i]) (outs := [p']) (.cons ⟨es, _, _, e⟩ .nil) (by simp) (by unfold setOuts; rw [e]; rfl) ⟨.refl _, fun b u q => ?_, fun b u q hb => ?_, fun b q => ?_, fun b z => .inl z, .cons r .nil⟩
  · rw [upd_ne (ne_of_none q h2)]; exact G.zh _ _ q
  · rw [upd_ne (by simpa using hb)]; exact q
  · by_cases hb : b = a
    · subst hb; rw [upd_same] at q; cases q
    · rw [upd_ne hb] at q; exact q
theorem mu_start (ok : Okx E Φ k S W X) {g : Ent} {σ : St} {ε : Sg} {Z H : Hp} {i : Nat} {l : List PV} (G : Good X.K g σ ε Z H) (e : peekS ε i = some (.lst l)) : ∃ a, σ[i]? = some (some (V.ref a)) ∧ tyV X.K "list" (.ref a) H := by
  obtain ⟨v, h1, h2⟩ := G.peekS e
  obtain ⟨a, vs, rfl, h3, _⟩ := h2.lst G.zh
  exact ⟨a, h1, .inl ⟨rfl, vs, .inl h3⟩⟩
theorem opMut_pop {p p' r : PV} (e : opMut .pop p [] = some (p', r)) : ∃ l, p = .lst l ∧ l[l.length - 1]? = some r ∧ p' = .lst l.dropLast := by
  cases p with
  | lst l =>
    refine ⟨l, rfl, ?_⟩
    have e : (match l[l.length - 1]? with | some p => some (PV.lst l.dropLast, p) | none => none) = some (p', r) := e
    cases h : l[l.length - 1]? with
    | none => rw [h] at e; cases e
    | some q => rw [h] at e; cases e; exact ⟨rfl, rfl⟩
  | _ => cases e
theorem s_append (ok : Okx E Φ k S W X) {i : Nat} {a : IE} {x : Str} {e : Expr} {px apos cpos : Pos} (hv : (decide (S.N[i]? = some x) && visB S.sc x && okN x) = true) (hline : (apos.endLine == cpos.line) = true) (hs : noStar e = true)
    (ha : PA X [e] (tA E Φ X W [a])) : PE X (.Call (.Attribute (.Name x px) "append" apos) [e] [] cpos) (tE E Φ X W (.mut .append i [a])) := by
  refine ⟨fun pins s σ H Q I hq => ?_⟩
  obtain ⟨g, ε, Z, G, h1⟩ := hq
  refine (pe_bm PySem.F.plainAttrs_list PySem.F.slot_list_append PySem.F.type_list_append mt_append (ok.vis hv) ha rfl (by rw [starEach_no hs]; rfl) hline (starEach_no hs) rfl).run pins s σ H Q I ?_
  have h1 : Post E X W g σ Z (PR X g σ Q) (if 1 = 1 then match peekS ε i with
    | some (.lst _) => (evA E Φ [a] ε).bind fun rs ε1 => match Eng.frzL rs ε1 with
      | some (ps, ε2) => match ε2[i]? with
        | some (.own k p) => match opMut .append p ps with
          | some (p', r) => .ok (.val r) (ε2.set i (.own k p'))
          | none => .stuck
        | _ => .stuck
      | none => .stuck
    | _ => .stuck else .stuck) := h1
  rw [if_pos rfl] at h1
  split at h1
  · rename_i l el
    obtain ⟨b, hb, ty⟩ := mu_start ok G el
    refine ⟨.ref b, hb, ty, tA_bind G h1 fun rs ε1 Z1 H1 vs s1 G1 rl h2 => ?_⟩
    split at h2
    · rename_i ps ε2 ef
      obtain ⟨Z2, s2, G2, r2⟩ := G1.frzL ef rl
      split at h2
      · rename_i kk p ei
        obtain ⟨b', e1, e2, e3, _⟩ := G2.slot _ _ ei
        rw [hb] at e1
        cases e1
        cases eo : opMut .append p ps with
        | none => rw [eo] at h2; exact h2.elim
        | some q =>
          obtain ⟨p', r⟩ := q
          rw [eo] at h2
          unfold opMut at eo
          split at eo <;> first | (cases eo; done) | skip
          · rename_i l' p1 _
            split at eo
            · rename_i hz
              cases eo
              obtain ⟨xs, e4, r4⟩ := e3
              obtain ⟨y, rfl, r5⟩ := r2.one
              refine ⟨b, xs, y, rfl, rfl, e4, by rw [r4.length]; exact hz, ?_⟩
              exact h2 Z2 _ s2 (G2.setOwn ei hb ⟨_, upd_same, r4.snoc r5⟩) _ .non
            · cases eo
          · rename_i hh
            cases hh
      · exact h2.elim
    · exact h2.elim
  · exact h1.elim
theorem s_pop (ok : Okx E Φ k S W X) {i : Nat} {x : Str} {px apos cpos : Pos} (hv : (decide (S.N[i]? = some x) && visB S.sc x && okN x) = true) (hline : (apos.endLine == cpos.line) = true) :
    PE X (.Call (.Attribute (.Name x px) "pop" apos) [] [] cpos) (tE E Φ X W (.mut .pop i [])) := by
  refine ⟨fun pins s σ H Q I hq => ?_⟩
  obtain ⟨g, ε, Z, G, h1⟩ := hq
  refine (pe_bm0 PySem.F.plainAttrs_list PySem.F.slot_list_pop PySem.F.type_list_pop mt_pop (ok.vis hv) rfl hline).run pins s σ H Q I ?_
  have h1 : Post E X W g σ Z (PR X g σ Q) (if 0 = 0 then match peekS ε i with
    | some (.lst _) => match ε[i]? with
        | some (.own k p) => match opMut .pop p [] with
          | some (p', r) => .ok (.val r) (ε.set i (.own k p'))
          | none => .stuck
        | _ => .stuck
    | _ => .stuck else .stuck) := h1
  rw [if_pos rfl] at h1
  split at h1
  · rename_i l el
    obtain ⟨b, hb, ty⟩ := mu_start ok G el
    refine ⟨.ref b, hb, ty, ?_⟩
    split at h1
    · rename_i kk p ei
      obtain ⟨b', e1, e2, e3, _⟩ := G.slot _ _ ei
      rw [hb] at e1
      cases e1
      cases eo : opMut .pop p [] with
      | none => rw [eo] at h1; exact h1.elim
      | some q =>
        obtain ⟨p', r⟩ := q
        rw [eo] at h1
        obtain ⟨l', rfl, hy, rfl⟩ := opMut_pop eo
        obtain ⟨xs, e4, r4⟩ := e3
        obtain ⟨w, h5, r5⟩ := r4.get hy
        refine ⟨b, xs, w, rfl, rfl, e4, by rw [r4.length]; exact h5, ?_⟩
        refine h1 Z _ (.refl _) (G.setOwn ei hb ⟨_, upd_same, ?_⟩) _ r5
        rw [List.dropLast_eq_take, List.dropLast_eq_take, r4.length]
        exact r4.take _
    · exact h1.elim
  · exact h1.elim
end
end Eng

namespace Eng
open PySem PySem.Spec L2
open PyProof.Rows hiding St

section
variable {E : Eng} {Φ : Nat → List PV → CO} {k : Nat} {S : Stc} {X : Cx} {W : WX}

/-! ### targets -/
theorem Good.setVal {g : Ent} {σ : St} {ε : Sg} {Z H : Hp} {i : Nat} {p : PV} {v : V} (G : Good X.K g σ ε Z H) (hi : i < ε.length) (hn : ∀ q, ε[i]? ≠ some (.own false q)) (r : Rp X.K Z p v) : Good X.K g (σ.set i (some v)) (ε.set i (.val p)) Z H where
  len := by rw [List.length_set, List.length_set]; exact G.len
  slot := fun j s hs => by
    rcases getElem?_set_eq hs with ⟨rfl, rfl⟩ | ⟨nj, hs⟩
    · exact ⟨v, by rw [List.getElem?_set_self (by rw [G.len]; exact hi)], r⟩
    · have q := G.slot j s hs
      cases s with
      | none => trivial
      | val p => obtain ⟨u, q1, q2⟩ := q; exact ⟨u, by rw [List.getElem?_set_ne (Ne.symm nj)]; exact q1, q2⟩
      | own k p => obtain ⟨b, q1, q2⟩ := q; exact ⟨b, by rw [List.getElem?_set_ne (Ne.symm nj)]; exact q1, q2⟩
  dis := fun j l a oj ol ej el => by
    obtain ⟨nj, oj⟩ := isOwn_set_val oj
    obtain ⟨nl, ol⟩ := isOwn_set_val ol
    rw [List.getElem?_set_ne (Ne.symm nj)] at ej
    rw [List.getElem?_set_ne (Ne.symm nl)] at el
    exact G.dis j l a oj ol ej el
  zh := G.zh
  hh := G.hh
  al := G.al
  zf := G.zf
  zz := G.zz
  io := fun j a hj => by
    obtain ⟨h1, p', h2⟩ := G.io j a hj
    have nj : i ≠ j := fun z => by subst z; exact hn _ h2
    exact ⟨by rw [List.getElem?_set_ne nj]; exact h1, p', by rw [List.getElem?_set_ne nj]; exact h2⟩
  pr := fun q hq => by
    obtain ⟨q1, q2, q3⟩ := G.pr q hq
    refine ⟨q1, q2, fun j oj => ?_⟩
    obtain ⟨nj, oj⟩ := isOwn_set_val oj
    rw [List.getElem?_set_ne (Ne.symm nj)]
    exact q3 j oj
/-- what is wanted of a target -/
def gT (X : Cx) (t : Tg) : TG := fun v σ H Q => ∃ g ε Z p ε', Good X.K g σ ε Z H ∧ Rp X.K Z p v ∧ asgT t p ε = some ε' ∧ ∀ σ', Good X.K g σ' ε' Z H → (∀ j, j ∉ tgS t → σ'[j]? = σ[j]?) → Q σ' H
def gTs (X : Cx) (ts : List Tg) : TGs := fun vs σ H Q => ∃ g ε Z ps ε', Good X.K g σ ε Z H ∧ RpL X.K Z ps vs ∧ asgTs ts ps ε = some ε' ∧ ∀ σ', Good X.K g σ' ε' Z H → (∀ j, j ∉ tgSs ts → σ'[j]? = σ[j]?) → Q σ' H
theorem assignEach_no : ∀ {es : List Expr} {env : Env}, (∀ e ∈ es, noStar e = true) → (assignEach es env).length = es.length ∧ (assignEach es env).findIdx? (·.1) = none
  | [], _, _ => ⟨rfl, rfl⟩
  | e :: es, env, h => by
    obtain ⟨h1, h2⟩ := assignEach_no (es := es) (env := env) fun x hx => h x (List.mem_cons_of_mem _ hx)
    have e1 : assignEach (e :: es) env = (false, assign e env) :: assignEach es env := by
      have := h e List.mem_cons_self
      cases e <;> first | rfl | cases this
    rw [e1]
    refine ⟨by rw [List.length_cons, h1, List.length_cons], ?_⟩
    rw [List.findIdx?_cons, h2]
    rfl
theorem stB_of {so : Scope} {x : Str} (h : stB so x = true) : so.names.lookup x = some .local ∨ so.names.lookup x = some .cell := by
  unfold stB at h
  split at h
  · exact .inl (by assumption)
  · exact .inr (by assumption)
  · cases h
theorem mtTs_star : ∀ {l : List Tg} {es : List Expr}, mtTs S l es = true → es.length = l.length ∧ ∀ e ∈ es, noStar e = true
  | [], [], _ => ⟨rfl, fun e he => absurd he (by simp)⟩
  | [], _ :: _, h => by cases h
  | _ :: _, [], h => by cases h
  | a :: l, e :: es, h => by
    unfold mtTs at h
    simp only [Bool.and_eq_true] at h
    obtain ⟨h1, h2⟩ := mtTs_star h.1.2
    refine ⟨by simp [h1], fun x hx => ?_⟩
    rcases List.mem_cons.mp hx with rfl | hx
    · exact h.2
    · exact h2 x hx
theorem asgTs_len : ∀ {ts : List Tg} {ps : List PV} {ε ε' : Sg}, asgTs ts ps ε = some ε' → ps.length = ts.length
  | [], [], _, _, _ => rfl
  | [], _ :: _, _, _, e => by cases e
  | _ :: _, [], _, _, e => by cases e
  | t :: ts, p :: ps, ε, ε', e => by
    unfold asgTs at e
    split at e
    · rw [List.length_cons, List.length_cons, asgTs_len e]
    · cases e
mutual
theorem s_tg (ok : Okx E Φ k S W X) : ∀ {t : Tg} {ex : Expr}, mtT S t ex = true → PG X ex (gT X t)
  | .nm i, ex, m => by
    cases ex <;> first | (exact absurd m Bool.false_ne_true) | skip
    rename_i x pos
    have m : (decide (S.N[i]? = some x) && stB S.so x) = true := m
    simp only [Bool.and_eq_true, decide_eq_true_eq] at m
    obtain ⟨lo, fn⟩ := ok.st x (stB_of m.2)
    refine ⟨fun pins s σ H v u Q I r hq => ?_⟩
    obtain ⟨g, ε, Z, p, ε', G, rp, e, q⟩ := hq
    have hi : X.N[i]? = some x := by rw [ok.N]; exact m.1
    refine (pg_name (by rw [ok.N]; exact ok.nd) hi lo fn).run pins s σ H v u Q I r ?_
    have e : (match ε[i]? with | some (.own false _) => none | some _ => some (ε.set i (.val p)) | none => none) = some ε' := e
    split at e
    · cases e
    · rename_i s' hno hs
      cases e
      refine q _ (G.setVal (List.getElem?_eq_some_iff.mp hs).1 (fun q z => by rw [hs] at z; cases z; exact hno _ rfl) rp) fun j hj => ?_
      have hj : j ∉ [i] := hj
      rw [List.getElem?_set_ne]
      intro z
      exact hj (by simp [z])
    · cases e
  | .tp l, ex, m => by
    cases ex <;> first | (exact absurd m Bool.false_ne_true) | skip
    rename_i es n pos
    have m : mtTs S l es = true := m
    obtain ⟨hlen, hst⟩ := mtTs_star m
    obtain ⟨a1, a2⟩ := assignEach_no (env := X.env) hst
    refine ⟨fun pins s σ H v u Q I r hq => ?_⟩
    obtain ⟨g, ε, Z, p, ε', G, rp, e, q⟩ := hq
    cases p <;> first | (cases e; done) | skip
    · rename_i ps
      have e : asgTs l ps ε = some ε' := e
      obtain ⟨a, vs, rfl, h1, h2⟩ := View.tup G.zh (.inl rp)
      refine (pg_tup ok.calm (s_tgs ok m) a1 a2).run pins s σ H _ u Q I r ?_
      exact ⟨a, vs, rfl, h1, by rw [h2.length, asgTs_len e, hlen], g, ε, Z, ps, ε', G, h2, e, q⟩
    · rename_i ps
      have e : asgTs l ps ε = some ε' := e
      obtain ⟨a, vs, rfl, h1, h2⟩ := View.lst G.zh (.inl rp)
      refine (pg_lst ok.calm (s_tgs ok m) a1 a2).run pins s σ H _ u Q I r ?_
      exact ⟨a, vs, rfl, .inl h1, by rw [h2.length, asgTs_len e, hlen], g, ε, Z, ps, ε', G, h2, e, q⟩
theorem s_tgs (ok : Okx E Φ k S W X) : ∀ {ts : List Tg} {es : List Expr}, mtTs S ts es = true → PGs X es (gTs X ts)
  | [], es, m => by
    cases es <;> first | (exact absurd m Bool.false_ne_true) | skip
    refine ⟨fun pins s σ H vs us Q I r hq => ?_⟩
    obtain ⟨g, ε, Z, ps, ε', G, rp, e, q⟩ := hq
    cases ps <;> first | (cases e; done) | skip
    cases e
    cases rp
    exact pgs_nil.run pins s σ H _ us Q I r ⟨rfl, q σ G fun _ _ => rfl⟩
  | t :: ts, es, m => by
    cases es with
    | nil => exact absurd m Bool.false_ne_true
    | cons e0 es =>
    have m : (mtT S t e0 && mtTs S ts es && noStar e0) = true := m
    simp only [Bool.and_eq_true] at m
    have ea : assignEach (e0 :: es) X.env = (false, assign e0 X.env) :: assignEach es X.env := by
      have := m.2
      cases e0 <;> first | rfl | cases this
    refine ⟨fun pins s σ H vs us Q I r hq => ?_⟩
    obtain ⟨g, ε, Z, ps, ε', G, rp, e, q⟩ := hq
    cases ps with
    | nil => cases e
    | cons p ps =>
    cases rp with
    | @cons _ v _ vs h t' =>
    unfold asgTs at e
    split at e
    · rename_i ε1 e1
      refine (pgs_cons (s_tg ok m.1.1) (s_tgs ok m.1.2) (by rw [ea]; rfl)).run pins s σ H _ us Q I r ?_
      refine ⟨v, vs, rfl, g, ε, Z, p, ε1, G, h, e1, fun σ1 G1 k1 => ?_⟩
      refine ⟨g, ε1, Z, ps, ε', G1, t', e, fun σ2 G2 k2 => q σ2 G2 fun j hj => ?_⟩
      have hj : j ∉ tgS t ++ tgSs ts := hj
      rw [List.mem_append, not_or] at hj
      rw [k2 j hj.2, k1 j hj.1]
    · cases e
end
end
end Eng

namespace Eng
open PySem PySem.Spec L2
open PyProof.Rows hiding St

section
variable {E : Eng} {Φ : Nat → List PV → CO} {k : Nat} {S : Stc} {X : Cx} {W : WX}

/-! ### a comprehension's own names -/
theorem wipeS_get : ∀ {own : List Nat} {ε ε2 : Sg}, wipeS ε own = some ε2 → ε2.length = ε.length ∧ (∀ j, j ∉ own → ε2[j]? = ε[j]?) ∧ (∀ j, j ∈ own → ∀ s, ε2[j]? = some s → s = .none) ∧ ∀ j, j ∈ own → ¬ IsOwn ε j
  | [], ε, ε2, e => by cases e; exact ⟨rfl, fun _ _ => rfl, fun j h => absurd h (by simp), fun j h => absurd h (by simp)⟩
  | i :: is, ε, ε2, e => by
    unfold wipeS at e
    split at e
    · rename_i ε1 e1
      obtain ⟨h1, h2, h3, h4⟩ := wipeS_get e1
      split at e
      · cases e
      · rename_i hno
        cases e
        refine ⟨by rw [List.length_set, h1], fun j hj => ?_, fun j hj s hs => ?_, fun j hj oj => ?_⟩
        · rw [List.mem_cons, not_or] at hj
          rw [List.getElem?_set_ne (Ne.symm hj.1), h2 j hj.2]
        · rcases getElem?_set_eq hs with ⟨_, z⟩ | ⟨nj, hs⟩
          · exact z
          · rcases List.mem_cons.mp hj with z | z
            · exact absurd z nj
            · exact h3 j z s hs
        · rcases List.mem_cons.mp hj with rfl | z
          · by_cases hm : j ∈ is
            · exact h4 j hm oj
            · obtain ⟨kk, p, e⟩ := oj
              exact hno kk p (by rw [h2 j hm]; exact e)
          · exact h4 j z oj
    · cases e
theorem wipe_in {σ : St} : ∀ {own : List Nat} {j : Nat} {v : V}, j ∈ own → (wipe σ own)[j]? ≠ some (some v) := fun {own j v} hj h => (wipe_some h).2 hj
theorem Good.wipe {g : Ent} {σ : St} {ε ε2 : Sg} {Z H : Hp} {own : List Nat} (G : Good X.K g σ ε Z H) (e : wipeS ε own = some ε2) : Good X.K g (L2.wipe σ own) ε2 Z H := by
  obtain ⟨h1, h2, h3, h4⟩ := wipeS_get e
  have io : ∀ {j}, IsOwn ε2 j → j ∉ own ∧ IsOwn ε j := fun {j} oj => by
    obtain ⟨kk, p, q⟩ := oj
    have nj : j ∉ own := fun z => by have := h3 j z _ q; cases this
    exact ⟨nj, kk, p, by rw [← h2 j nj]; exact q⟩
  refine ⟨by rw [wipe_length, h1]; exact G.len, fun j s hs => ?_, fun j l a oj ol ej el => ?_, G.zh, G.hh, G.al, G.zf, G.zz, fun j a hj => ?_, fun q hq => ?_⟩
  · by_cases hj : j ∈ own
    · rw [h3 j hj s hs]; trivial
    · rw [h2 j hj] at hs
      have q := G.slot j s hs
      cases s with
      | none => trivial
      | val p => obtain ⟨v, q1, q2⟩ := q; exact ⟨v, by rw [wipe_out hj]; exact q1, q2⟩
      | own kk p => obtain ⟨b, q1, q2⟩ := q; exact ⟨b, by rw [wipe_out hj]; exact q1, q2⟩
  · obtain ⟨nj, oj⟩ := io oj
    obtain ⟨nl, ol⟩ := io ol
    rw [wipe_out nj] at ej
    rw [wipe_out nl] at el
    exact G.dis j l a oj ol ej el
  · obtain ⟨q1, p, q2⟩ := G.io j a hj
    have nj : j ∉ own := fun z => h4 j z ⟨_, _, q2⟩
    exact ⟨by rw [wipe_out nj]; exact q1, p, by rw [h2 j nj]; exact q2⟩
  · obtain ⟨q1, q2, q3⟩ := G.pr q hq
    refine ⟨q1, q2, fun j oj => ?_⟩
    obtain ⟨nj, oj⟩ := io oj
    rw [wipe_out nj]
    exact q3 j oj
theorem backS_get {ε0 : Sg} {ε : Sg} : ∀ {own : List Nat}, ε.length = ε0.length → (backS ε0 ε own).length = ε.length ∧ (∀ j, j ∉ own → (backS ε0 ε own)[j]? = ε[j]?) ∧ ∀ j, j ∈ own → (backS ε0 ε own)[j]? = ε0[j]?
  | [], _ => ⟨rfl, fun _ _ => rfl, fun j h => absurd h (by simp)⟩
  | i :: is, hl => by
    obtain ⟨h1, h2, h3⟩ := backS_get (own := is) hl
    cases e : ε0[i]? with
    | none =>
      have eb : backS ε0 ε (i :: is) = backS ε0 ε is := by rw [backS, e]
      rw [eb]
      refine ⟨h1, fun j hj => h2 j fun z => hj (List.mem_cons_of_mem _ z), fun j hj => ?_⟩
      rcases List.mem_cons.mp hj with rfl | z
      · rw [e]
        apply List.getElem?_eq_none
        rw [h1, hl]
        exact List.getElem?_eq_none_iff.mp e
      · exact h3 j z
    | some s =>
      have eb : backS ε0 ε (i :: is) = (backS ε0 ε is).set i s := by rw [backS, e]
      rw [eb]
      refine ⟨by rw [List.length_set, h1], fun j hj => ?_, fun j hj => ?_⟩
      · rw [List.mem_cons, not_or] at hj
        rw [List.getElem?_set_ne (Ne.symm hj.1), h2 j hj.2]
      · by_cases hji : j = i
        · subst hji
          rw [List.getElem?_set_self (by rw [h1, hl]; exact (List.getElem?_eq_some_iff.mp e).1), e]
        · rw [List.getElem?_set_ne (Ne.symm hji)]
          rcases List.mem_cons.mp hj with z | z
          · exact absurd z hji
          · exact h3 j z
/-- the names that the comprehension hid are there again -/
theorem Good.back {g : Ent} {σ : St} {ε1 ε7 : Sg} {Z1 H1 Z H : Hp} {own : List Nat} (G1 : Good X.K g σ ε1 Z1 H1) (hn : ∀ j, j ∈ own → ¬ IsOwn ε1 j) (G : Good X.K g (L2.wipe σ own) ε7 Z H) (s : Same Z1 Z) : Good X.K g σ (backS ε1 ε7 own) Z H := by
  have hl : ε7.length = ε1.length := by rw [← G.len, wipe_length, G1.len]
  obtain ⟨h1, h2, h3⟩ := backS_get (own := own) hl
  have io : ∀ {j}, IsOwn (backS ε1 ε7 own) j → j ∉ own ∧ IsOwn ε7 j := fun {j} oj => by
    obtain ⟨kk, p, q⟩ := oj
    have nj : j ∉ own := fun z => hn j z ⟨kk, p, by rw [← h3 j z]; exact q⟩
    exact ⟨nj, kk, p, by rw [← h2 j nj]; exact q⟩
  refine ⟨by rw [h1, hl]; exact G1.len, fun j s' hs => ?_, fun j l a oj ol ej el => ?_, G.zh, G.hh, G.al, G.zf, G.zz, fun j a hj => ?_, fun q hq => ?_⟩
  · by_cases hj : j ∈ own
    · rw [h3 j hj] at hs
      have q := G1.slot j s' hs
      cases s' with
      | none => trivial
      | val p => obtain ⟨v, q1, q2⟩ := q; exact ⟨v, q1, q2.mono s⟩
      | own kk p => exact absurd ⟨kk, p, hs⟩ (hn j hj)
    · rw [h2 j hj] at hs
      have q := G.slot j s' hs
      cases s' with
      | none => trivial
      | val p => obtain ⟨v, q1, q2⟩ := q; exact ⟨v, by rw [← wipe_out hj]; exact q1, q2⟩
      | own kk p => obtain ⟨b, q1, q2⟩ := q; exact ⟨b, by rw [← wipe_out hj]; exact q1, q2⟩
  · obtain ⟨nj, oj⟩ := io oj
    obtain ⟨nl, ol⟩ := io ol
    exact G.dis j l a oj ol (by rw [wipe_out nj]; exact ej) (by rw [wipe_out nl]; exact el)
  · obtain ⟨q1, p, q2⟩ := G.io j a hj
    have nj : j ∉ own := fun z => wipe_in z q1
    exact ⟨by rw [← wipe_out nj]; exact q1, p, by rw [h2 j nj]; exact q2⟩
  · obtain ⟨q1, q2, q3⟩ := G.pr q hq
    refine ⟨q1, q2, fun j oj => ?_⟩
    obtain ⟨nj, oj⟩ := io oj
    rw [← wipe_out nj]
    exact q3 j oj
/-- an object is looked after, from here on -/
theorem Good.prAdd {g : Ent} {σ : St} {ε : Sg} {Z H : Hp} {D : Addr} {o : HO} (G : Good X.K g σ ε Z H) (h : H D = some o) (hz : Z D = none) (hn : ∀ j, IsOwn ε j → σ[j]? ≠ some (some (V.ref D))) : Good X.K { g with pr := (D, o) :: g.pr } σ ε Z H :=
  ⟨G.len, G.slot, G.dis, G.zh, G.hh, G.al, G.zf, G.zz, G.io, fun q hq => by
    rcases List.mem_cons.mp hq with rfl | hq
    · exact ⟨h, hz, hn⟩
    · exact G.pr q hq⟩
theorem Good.prDrop {g : Ent} {σ : St} {ε : Sg} {Z H : Hp} {D : Addr} {o : HO} (G : Good X.K { g with pr := (D, o) :: g.pr } σ ε Z H) : Good X.K g σ ε Z H ∧ H D = some o ∧ Z D = none ∧ ∀ j, IsOwn ε j → σ[j]? ≠ some (some (V.ref D)) :=
  ⟨⟨G.len, G.slot, G.dis, G.zh, G.hh, G.al, G.zf, G.zz, G.io, fun q hq => G.pr q (List.mem_cons_of_mem _ hq)⟩, G.pr (D, o) List.mem_cons_self⟩

/-! ### the block -/
def W0 : WX := fun _ _ _ _ => False
theorem Okx.blk (ok : Okx E Φ k S W X) {scope : Scope} {own : List Nat} (bo : BlkOk S.N S.sc scope (ownL S.N own)) (s : Shared) (H : Hp) (C : Addr) (cl : List (Str × Addr)) (fp : List Addr) :
    Okx E Φ k (S.blk scope) W0 (X.blk s H scope (compEnvC scope cl C X.env) fp) where
  calm := ok.calm
  N := ok.N
  sc := by
    show relS scope X.env.scope = relS scope S.sc
    rw [ok.sc]
  nd := ok.nd
  kind := bo.kind
  st := fun x hx => by
    have hx : scope.names.lookup x = some .local ∨ scope.names.lookup x = some .cell := hx
    rcases hx with hx | hx
    · have q : (relS scope X.env.scope).names.lookup x = some .local := lookup_relS_keep (fun z => nomatch z) hx
      exact ⟨.inl q, .inr q⟩
    · have q : (relS scope X.env.scope).names.lookup x = some .cell := lookup_relS_keep (fun z => nomatch z) hx
      refine ⟨.inr q, .inl ?_⟩
      show (scope.names.lookup x == some .cell) = true
      rw [hx]; rfl
  room := ok.room
  tk := takes0
  fn := ok.fn
  bl := ok.bl
  ty := ok.ty
  gb := ok.gb

/-! ### a comprehension -/
def tC1 (E : Eng) (Φ : Nat → List PV → CO) (X : Cx) (W : WX) (l : List IE) : TT := fun σ H Q => ∃ g ε Z, Good X.K g σ ε Z H ∧ Post E X W g σ Z (PB Q) (evC E Φ l ε)
noncomputable def turnI (E : Eng) (Φ : Nat → List PV → CO) (elt : IE) (tg : Tg) (cond : List IE) : PV → Sg → Out (Option PV) := fun p ε => match asgT tg p ε with
  | some ε3 => (evC E Φ cond ε3).bind fun t ε4 => if t then (evE E Φ elt ε4).bind fun r ε5 => match frz r ε5 with
      | some (q, ε6) => .ok (some q) ε6
      | none => .stuck
    else .ok none ε4
  | none => .stuck
theorem items_view {K : Fg} {Z H : Hp} {p0 : PV} {ps : List PV} {v : V} (zh : Same Z H) (e : itemsOf p0 = some ps) (h : View K Z H p0 v) : ∃ a xs, v = .ref a ∧ RpL K Z ps xs ∧ ((isTupP p0 = false ∧ SqL K H a xs) ∨ (isTupP p0 = true ∧ SqT K H a xs)) := by
  unfold itemsOf at e
  split at e
  · cases e
    obtain ⟨a, vs, rfl, h1, h2⟩ := h.lst zh
    exact ⟨a, vs, rfl, h2, .inl ⟨rfl, .inl h1⟩⟩
  · cases e
    obtain ⟨a, vs, rfl, h1, h2⟩ := h.tup zh
    exact ⟨a, vs, rfl, h2, .inr ⟨rfl, h1⟩⟩
  · cases e
    obtain ⟨a, vs, rfl, h1, h2⟩ := h.scr zh
    exact ⟨a, vs, rfl, h2, .inl ⟨rfl, h1⟩⟩
  · cases e
theorem wipe_eq {σ σ2 : St} {own : List Nat} (hl : σ2.length = (L2.wipe σ own).length) (h : ∀ j, j ∉ own → σ2[j]? = (L2.wipe σ own)[j]?) : L2.wipe σ2 own = L2.wipe σ own := by
  apply List.ext_getElem?
  intro j
  by_cases hj : j ∈ own
  · have key : ∀ τ : St, j < τ.length → (L2.wipe τ own)[j]? = some none := fun τ hlt => by
      have hw : j < (L2.wipe τ own).length := by rw [wipe_length]; exact hlt
      cases e : (L2.wipe τ own)[j]? with
      | none => rw [List.getElem?_eq_none_iff] at e; omega
      | some o =>
        cases o with
        | none => rfl
        | some v => exact absurd e (wipe_in hj)
    by_cases hlt : j < σ.length
    · rw [key σ hlt, key σ2 (by rw [hl, wipe_length]; exact hlt)]
    · rw [List.getElem?_eq_none, List.getElem?_eq_none]
      · rw [wipe_length]; omega
      · rw [wipe_length, hl, wipe_length]; omega
  · rw [wipe_out hj, h j hj]
theorem stays_peek {r : Rv} {ε ε' : Sg} {p : PV} (h : stays r ε ε' = true) (e : r.peek ε = some p) : r.peek ε' = some p := by
  cases r with
  | val q => exact e
  | fresh q => exact e
  | own i =>
    classical
    have h : peekS ε' i = peekS ε i := of_decide_eq_true (p := peekS ε' i = peekS ε i) (by simpa only [stays] using h)
    show peekS ε' i = some p
    rw [h]; exact e
mutual
theorem asgT_len : ∀ {t : Tg} {p : PV} {ε ε' : Sg}, asgT t p ε = some ε' → ε'.length = ε.length
  | .nm i, p, ε, ε', e => by
    have e : (match ε[i]? with | some (.own false _) => none | some _ => some (ε.set i (.val p)) | none => none) = some ε' := e
    split at e
    · cases e
    · cases e; rw [List.length_set]
    · cases e
  | .tp l, .tup ps, ε, ε', e => asgTs_len' (show asgTs l ps ε = some ε' from e)
  | .tp l, .lst ps, ε, ε', e => asgTs_len' (show asgTs l ps ε = some ε' from e)
  | .tp _, .non, _, _, e => nomatch e
  | .tp _, .bl _, _, _, e => nomatch e
  | .tp _, .int _, _, _, e => nomatch e
  | .tp _, .str _, _, _, e => nomatch e
  | .tp _, .dct _, _, _, e => nomatch e
  | .tp _, .set _, _, _, e => nomatch e
  | .tp _, .scr _, _, _, e => nomatch e
theorem asgTs_len' : ∀ {ts : List Tg} {ps : List PV} {ε ε' : Sg}, asgTs ts ps ε = some ε' → ε'.length = ε.length
  | [], [], _, _, e => by cases e; rfl
  | [], _ :: _, _, _, e => by cases e
  | _ :: _, [], _, _, e => by cases e
  | t :: ts, p :: ps, ε, ε', e => by
    unfold asgTs at e
    split at e
    · rename_i ε1 e1
      rw [asgTs_len' e, asgT_len e1]
    · cases e
end
theorem cmp_ok {g : Ent} {σ : St} {ε1 : Sg} {Z1 H1 : Hp} {Q : VK} {elt : IE} {tg : Tg} {cond : List IE} {own : List Nat} {r : Rv} {p0 : PV} {items : List PV} {a : Addr}
    (G1 : Good X.K g σ ε1 Z1 H1) (hr : OpdR X.K σ Z1 r (.ref a)) (ep : r.peek ε1 = some p0) (ei : itemsOf p0 = some items) (hw : walkOk r own = true) (hto : ∀ i ∈ tgS tg, i ∈ own) {ε2 : Sg} (ew : wipeS ε1 own = some ε2)
    (h : Post E X W g σ Z1 (PR X g σ Q) (match cmpI own r (turnI E Φ elt tg cond) items [] ε2 with | .ok acc ε7 => .ok (.fresh (.lst acc)) (backS ε1 ε7 own) | _ => .stuck)) (D : Addr) (hD : H1 D = none)
    (J : It) (hstop : ∀ i H xs, ((isTupP p0 = false ∧ SqL X.K H a xs) ∨ (isTupP p0 = true ∧ SqT X.K H a xs)) → xs.length ≤ i → J.stop i H) (hgo : ∀ i H xs x, ((isTupP p0 = false ∧ SqL X.K H a xs) ∨ (isTupP p0 = true ∧ SqT X.K H a xs)) → xs[i]? = some x → J.go i H)
    (hy : ∀ i H xs x H', ((isTupP p0 = false ∧ SqL X.K H a xs) ∨ (isTupP p0 = true ∧ SqT X.K H a xs)) → J.yld i H x H' → H' = H ∧ xs[i]? = some x) :
    ∃ W' : Nat → Nat → Hp → Prop, (∃ m, W' 0 m (upd H1 D (.lst []))) ∧ ∀ i m H, W' i m H →
      (J.stop i H ∧ Q (.ref D) H) ∨ (J.go i H ∧ ∃ Nx : Hp → Prop, (∀ H', Nx H' → ∃ m', m' < m ∧ W' (i + 1) m' H') ∧ ∀ x H', J.yld i H x H' → gT X tg x (L2.wipe σ own) H' fun σ2 H2 => L2.wipe σ2 own = L2.wipe σ own ∧ tC1 E Φ X W0 cond σ2 H2 fun b H3 =>
        if b = true then tE E Φ X W0 elt σ2 H3 fun y H4 => ∃ acc, H4 D = some (.lst acc) ∧ acc.length < sizeLine ∧ Nx (upd H4 D (.lst (acc ++ [y]))) else Nx H3) := by
  obtain ⟨w1, w2, w3, w4⟩ := wipeS_get ew
  have hD0 : g.H0 D = none := G1.al D hD
  have hDp := (G1.new hD).2
  let Wx : Nat → Nat → Hp → Prop := fun i m Hc => ∃ ε Z acc vs, m = items.length - i ∧ i ≤ items.length ∧ Same Z1 Z ∧ Good X.K g (L2.wipe σ own) ε Z Hc ∧ Hc D = some (.lst vs) ∧ RpL X.K Z acc vs ∧ Z D = none ∧
    (∀ j, IsOwn ε j → (L2.wipe σ own)[j]? ≠ some (some (V.ref D))) ∧ r.peek ε = some p0 ∧ OpdR X.K (L2.wipe σ own) Z r (.ref a) ∧
    Post E X W g σ Z1 (PR X g σ Q) (match cmpI own r (turnI E Φ elt tg cond) (items.drop i) acc ε with | .ok acc ε7 => .ok (.fresh (.lst acc)) (backS ε1 ε7 own) | _ => .stuck)
  have hrw : ∀ Z, OpdR X.K σ Z r (.ref a) → OpdR X.K (L2.wipe σ own) Z r (.ref a) := fun Z hr => by
    cases r with
    | val q => exact hr
    | fresh q => exact hr
    | own i =>
      have hni : i ∉ own := of_decide_eq_true (p := i ∉ own) hw
      show (L2.wipe σ own)[i]? = _
      rw [wipe_out hni]; exact hr
  have hpk : r.peek ε2 = some p0 := by
    cases r with
    | val q => exact ep
    | fresh q => exact ep
    | own i =>
      have hni : i ∉ own := of_decide_eq_true (p := i ∉ own) hw
      have ep : peekS ε1 i = some p0 := ep
      show peekS ε2 i = some p0
      unfold peekS at ep ⊢
      rw [w2 i hni]; exact ep
  refine ⟨Wx, ⟨items.length, ε2, Z1, [], [], rfl, Nat.zero_le _, .refl _, (G1.ext (Ext.new (o := .lst []) G1.zh hD)).wipe ew, upd_same, .nil, G1.zh.free hD, fun j oj z => ?_, hpk, hrw _ hr, h⟩, ?_⟩
  · by_cases hj : j ∈ own
    · exact wipe_in hj z
    · rw [wipe_out hj] at z
      obtain ⟨kk, p, e⟩ := oj
      exact (G1.new hD).1 j ⟨kk, p, by rw [← w2 j hj]; exact e⟩ z
  · rintro i m Hc ⟨ε, Z, acc, vs, rfl, hi, s1, G, d1, d2, d3, d4, pk, ro, rest⟩
    obtain ⟨a', xs, ea, rx, src⟩ := items_view G.zh ei (G.peek pk ro.rv)
    cases ea
    by_cases hlt : i < items.length
    · right
      have hdrop : items.drop i = items[i] :: items.drop (i + 1) := List.drop_eq_getElem_cons hlt
      obtain ⟨x0, hx0, rp0⟩ := rx.get (List.getElem?_eq_getElem hlt)
      refine ⟨hgo i Hc xs x0 src hx0, Wx (i + 1) (items.length - (i + 1)), fun H' w => ⟨_, by omega, w⟩, fun x H' y => ?_⟩
      obtain ⟨rfl, hx⟩ := hy i _ xs x _ src y
      rw [hx0] at hx
      cases hx
      rw [hdrop] at rest
      unfold cmpI at rest
      cases et : turnI E Φ elt tg cond items[i] ε with
      | stuck => rw [et] at rest; exact rest.elim
      | exc c e' => rw [et] at rest; exact rest.elim
      | ok o ε6 =>
        rw [et] at rest
        dsimp only at rest
        cases ew6 : wipeS ε6 own with
        | none => rw [ew6] at rest; exact rest.elim
        | some ε8 =>
          rw [ew6] at rest
          dsimp only at rest
          cases est : stays r ε ε8 with
          | false => rw [est, if_neg Bool.false_ne_true] at rest; exact rest.elim
          | true =>
            rw [est, if_pos rfl] at rest
            unfold turnI at et
            cases ea : asgT tg items[i] ε with
            | none => rw [ea] at et; cases et
            | some ε3 =>
              rw [ea] at et
              dsimp only at et
              have GD := G.prAdd (D := D) (o := .lst vs) d1 d3 d4
              refine ⟨_, ε, Z, items[i], ε3, GD, rp0, ea, fun σ2 G3 k3 => ?_⟩
              have hl2 : σ2.length = (L2.wipe σ own).length := by
                rw [G3.len, GD.len]
                exact asgT_len ea
              have hwe : L2.wipe σ2 own = L2.wipe σ own := wipe_eq hl2 fun j hj => k3 j fun z => hj (hto j z)
              refine ⟨hwe, ?_⟩
              cases ec : evC E Φ cond ε3 with
              | stuck => rw [ec] at et; cases et
              | exc c e' => rw [ec] at et; cases et
              | ok t ε4 =>
                rw [ec] at et
                have et : (if t then (evE E Φ elt ε4).bind fun r ε5 => match frz r ε5 with
                  | some (q, ε6) => Out.ok (some q) ε6
                  | none => .stuck
                  else Out.ok none ε4) = .ok o ε6 := et
                refine ⟨_, ε3, Z, G3, ?_⟩
                rw [ec]
                intro Z4 H4 s4 G4
                -- the next state
                have next : ∀ {Z5 H5 : Hp} {acc' : List PV} {vs' : List V} {ε5 : Sg}, Same Z Z5 → Good X.K g σ2 ε5 Z5 H5 → wipeS ε5 own = some ε8 → H5 D = some (.lst vs') → RpL X.K Z5 acc' vs' → Z5 D = none → (∀ j, IsOwn ε5 j → σ2[j]? ≠ some (some (V.ref D))) →
                    Post E X W g σ Z1 (PR X g σ Q) (match cmpI own r (turnI E Φ elt tg cond) (items.drop (i + 1)) acc' ε8 with | .ok acc ε7 => .ok (.fresh (.lst acc)) (backS ε1 ε7 own) | _ => .stuck) → Wx (i + 1) (items.length - (i + 1)) H5 := fun {Z5 H5 acc' vs' ε5} s5 G5 e5 h1 h2 h3 h4 h5 => by
                  have G5' := G5.wipe e5
                  rw [hwe] at G5'
                  obtain ⟨v1, v2, v3, v4⟩ := wipeS_get e5
                  refine ⟨ε8, Z5, acc', vs', rfl, hlt, s1.trans s5, G5', h1, h2, h3, fun j oj z => ?_, stays_peek est pk, ro.mono s5, h5⟩
                  by_cases hj : j ∈ own
                  · exact wipe_in hj z
                  · obtain ⟨kk, p, e⟩ := oj
                    rw [← hwe, wipe_out hj] at z
                    exact h4 j ⟨kk, p, by rw [← v2 j hj]; exact e⟩ z
                cases t with
                | false =>
                  rw [if_neg Bool.false_ne_true] at et
                  cases et
                  show Wx (i + 1) (items.length - (i + 1)) H4
                  obtain ⟨G5, q1, q2, q3⟩ := G4.prDrop
                  exact next s4 G5 ew6 q1 (d2.mono s4) q2 q3 rest
                | true =>
                  rw [if_pos rfl] at et
                  show tE E Φ X W0 elt σ2 H4 _
                  cases ee : evE E Φ elt ε4 with
                  | stuck => rw [ee] at et; cases et
                  | exc c e' => rw [ee] at et; cases et
                  | ok r5 ε5 =>
                    rw [ee] at et
                    have et : (match frz r5 ε5 with | some (q, ε6) => Out.ok (some q) ε6 | none => .stuck) = .ok o ε6 := et
                    refine ⟨_, ε4, Z4, G4, ?_⟩
                    rw [ee]
                    intro Z5 H5 s5 G5 v rv
                    split at et
                    · rename_i q ε6' ef
                      cases et
                      obtain ⟨Z6, s6, G6, rq⟩ := G5.frz ef rv
                      obtain ⟨G7, q1, q2, q3⟩ := G6.prDrop
                      dsimp only at rest
                      have hls := d2.length
                      by_cases hz : acc.length < sizeLine
                      · rw [if_pos hz] at rest
                        refine ⟨vs, q1, by rw [hls]; exact hz, ?_⟩
                        have s46 := (s4.trans s5).trans s6
                        exact next s46 (G7.away q1 hD0 q2 q3 hDp) ew6 upd_same ((d2.mono s46).snoc rq) q2 q3 rest
                      · rw [if_neg hz] at rest
                        exact rest.elim
                    · cases et
    · left
      have e : i = items.length := by omega
      subst e
      rw [List.drop_length] at rest
      have rest : Post E X W g σ Z1 (PR X g σ Q) (.ok (.fresh (.lst acc)) (backS ε1 ε own)) := rest
      refine ⟨hstop _ Hc xs src (by rw [rx.length]; exact Nat.le_refl _), ?_⟩
      have hl : ε.length = ε1.length := by rw [← G.len, wipe_length, G1.len]
      obtain ⟨b1, b2, b3⟩ := backS_get (own := own) hl
      refine rest Z Hc s1 (G1.back w4 G s1) _ ⟨D, rfl, d3, hD0, ⟨vs, d1, d2⟩, fun j oj z => ?_, hDp⟩
      obtain ⟨kk, p, e⟩ := oj
      by_cases hj : j ∈ own
      · rw [b3 j hj] at e
        exact w4 j hj ⟨kk, p, e⟩
      · rw [b2 j hj] at e
        exact d4 j ⟨kk, p, e⟩ (by rw [wipe_out hj]; exact z)
theorem ownL_map {N : List Str} {own : List Nat} : (ownL N own).map (·.2) = own := by
  unfold ownL
  rw [List.map_map]
  exact List.map_id _
theorem cmp_read {elt : IE} {tg : Tg} {it : IE} {cond : List IE} {own : List Nat} (hto : ∀ i ∈ tgS tg, i ∈ own) {σ : St} {H : Hp} {Q : VK} (hq : tE E Φ X W (.cmpr elt tg it cond own) σ H Q) :
    tLc (iTup X.K (tE E Φ X W it)) (gT X tg) (tC1 E Φ X W0 cond) (tE E Φ X W0 elt) own σ H Q ∨ tLc (iList X.K (tE E Φ X W it)) (gT X tg) (tC1 E Φ X W0 cond) (tE E Φ X W0 elt) own σ H Q := by
  obtain ⟨g, ε, Z, G, h1⟩ := hq
  -- which walk: a list's or a tuple's
  have main : ∀ (r : Rv) (ε1 : Sg), Post E X W g σ Z (PR X g σ Q) (match (r.opd.peek ε1).bind itemsOf, wipeS ε1 own with
        | some ps, some ε2 => if walkOk r.opd own = true then match cmpI own r.opd (turnI E Φ elt tg cond) ps [] ε2 with
            | .ok acc ε7 => .ok (.fresh (.lst acc)) (backS ε1 ε7 own)
            | _ => .stuck
          else .stuck
        | _, _ => .stuck) →
      ∃ p0 items ε2, r.opd.peek ε1 = some p0 ∧ itemsOf p0 = some items ∧ wipeS ε1 own = some ε2 ∧ walkOk r.opd own = true ∧
        Post E X W g σ Z (PR X g σ Q) (match cmpI own r.opd (turnI E Φ elt tg cond) items [] ε2 with | .ok acc ε7 => .ok (.fresh (.lst acc)) (backS ε1 ε7 own) | _ => .stuck) := fun r ε1 h2 => by
    cases ep : r.opd.peek ε1 with
    | none => rw [ep] at h2; exact h2.elim
    | some p0 =>
      rw [ep] at h2
      have h2 : Post E X W g σ Z (PR X g σ Q) (match itemsOf p0, wipeS ε1 own with
        | some ps, some ε2 => if walkOk r.opd own = true then match cmpI own r.opd (turnI E Φ elt tg cond) ps [] ε2 with
            | .ok acc ε7 => .ok (.fresh (.lst acc)) (backS ε1 ε7 own)
            | _ => .stuck
          else .stuck
        | _, _ => .stuck) := h2
      cases ei : itemsOf p0 with
      | none => rw [ei] at h2; exact h2.elim
      | some items =>
        rw [ei] at h2
        cases ew : wipeS ε1 own with
        | none => rw [ew] at h2; exact h2.elim
        | some ε2 =>
          rw [ew] at h2
          dsimp only at h2
          by_cases hw : walkOk r.opd own = true
          · rw [if_pos hw] at h2
            exact ⟨p0, items, ε2, rfl, ei, rfl, hw, h2⟩
          · rw [if_neg hw] at h2
            exact h2.elim
  have h1 : Post E X W g σ Z (PR X g σ Q) ((evE E Φ it ε).bind fun r ε1 => match (r.opd.peek ε1).bind itemsOf, wipeS ε1 own with
        | some ps, some ε2 => if walkOk r.opd own = true then match cmpI own r.opd (turnI E Φ elt tg cond) ps [] ε2 with
            | .ok acc ε7 => .ok (.fresh (.lst acc)) (backS ε1 ε7 own)
            | _ => .stuck
          else .stuck
        | _, _ => .stuck) := h1
  cases hev : evE E Φ it ε with
  | stuck => rw [hev] at h1; exact h1.elim
  | exc c e' =>
    rw [hev] at h1
    exact .inr ⟨g, ε, Z, G, by rw [hev]; exact h1⟩
  | ok r ε1 =>
    rw [hev] at h1
    obtain ⟨p0, items, ε2, ep, ei, ew, hw, h3⟩ := main r ε1 h1
    cases p0 <;> first | (cases ei; done) | skip
    · -- a tuple
      rename_i l
      refine .inl ⟨g, ε, Z, G, ?_⟩
      rw [hev]
      intro Z1 H1 s1 G1 v rv
      obtain ⟨Z2, s2, G2, ro⟩ := G1.opd rv
      obtain ⟨a, vs, rfl, h4, h5⟩ := (G2.peek ep ro.rv).tup G2.zh
      refine ⟨a, rfl, ⟨vs, h4⟩, fun D hD => ?_⟩
      refine cmp_ok G2 ro ep ei hw hto ew (h3.mono (s1.trans s2)) D hD (Itt X.K a) (fun i H xs src hl => ?_) (fun i H xs x src hx => ?_) (fun i H xs x H' src y => ?_)
      · rcases src with ⟨z, _⟩ | ⟨_, z⟩
        · cases z
        · exact ⟨xs, z, hl⟩
      · rcases src with ⟨z, _⟩ | ⟨_, z⟩
        · cases z
        · exact ⟨xs, x, z, hx⟩
      · rcases src with ⟨z, _⟩ | ⟨_, z⟩
        · cases z
        · exact ⟨y.1, y.2 xs z⟩
    · -- a list
      rename_i l
      refine .inr ⟨g, ε, Z, G, ?_⟩
      rw [hev]
      intro Z1 H1 s1 G1 v rv
      obtain ⟨Z2, s2, G2, ro⟩ := G1.opd rv
      obtain ⟨a, vs, rfl, h4, h5⟩ := (G2.peek ep ro.rv).lst G2.zh
      refine ⟨a, rfl, ⟨vs, .inl h4⟩, fun D hD => ?_⟩
      refine cmp_ok G2 ro ep ei hw hto ew (h3.mono (s1.trans s2)) D hD (Itl X.K a) (fun i H xs src hl => ?_) (fun i H xs x src hx => ?_) (fun i H xs x H' src y => ?_)
      · rcases src with ⟨_, z⟩ | ⟨z, _⟩
        · exact ⟨xs, z, hl⟩
        · cases z
      · rcases src with ⟨_, z⟩ | ⟨z, _⟩
        · exact ⟨xs, x, z, hx⟩
        · cases z
      · rcases src with ⟨_, z⟩ | ⟨z, _⟩
        · exact ⟨y.1, y.2 xs z⟩
        · cases z
    · -- a list that is read alone
      rename_i l
      refine .inr ⟨g, ε, Z, G, ?_⟩
      rw [hev]
      intro Z1 H1 s1 G1 v rv
      obtain ⟨Z2, s2, G2, ro⟩ := G1.opd rv
      obtain ⟨a, vs, rfl, h4, h5⟩ := (G2.peek ep ro.rv).scr G2.zh
      refine ⟨a, rfl, ⟨vs, h4⟩, fun D hD => ?_⟩
      refine cmp_ok G2 ro ep ei hw hto ew (h3.mono (s1.trans s2)) D hD (Itl X.K a) (fun i H xs src hl => ?_) (fun i H xs x src hx => ?_) (fun i H xs x H' src y => ?_)
      · rcases src with ⟨_, z⟩ | ⟨z, _⟩
        · exact ⟨xs, z, hl⟩
        · cases z
      · rcases src with ⟨_, z⟩ | ⟨z, _⟩
        · exact ⟨xs, x, z, hx⟩
        · cases z
      · rcases src with ⟨_, z⟩ | ⟨z, _⟩
        · exact ⟨y.1, y.2 xs z⟩
        · cases z
theorem s_cmpr (ok : Okx E Φ k S W X) {elt : IE} {tg : Tg} {it : IE} {cond : List IE} {own : List Nat} {eelt etg eit : Expr} {eifs : List Expr} {scope : Scope} {pos : Pos} (hit : PE X eit (tE E Φ X W it)) (hns : ∀ x, foldedSetIterable eit X.env x = pure x)
    (bo : BlkOk S.N S.sc scope (ownL S.N own)) (hto : ∀ i ∈ tgS tg, i ∈ own)
    (hg : ∀ (s : Shared) (H : Hp) (C : Addr) (cl : List (Str × Addr)) (fp : List Addr), PG (X.blk s H scope (compEnvC scope cl C X.env) fp) etg (gT X tg))
    (ht : ∀ (s : Shared) (H : Hp) (C : Addr) (cl : List (Str × Addr)) (fp : List Addr), PTs (X.blk s H scope (compEnvC scope cl C X.env) fp) eifs (tC1 E Φ X W0 cond))
    (he : ∀ (s : Shared) (H : Hp) (C : Addr) (cl : List (Str × Addr)) (fp : List Addr), PE (X.blk s H scope (compEnvC scope cl C X.env) fp) eelt (tE E Φ X W0 elt)) :
    PE X (.ListComp eelt [⟨etg, eit, eifs, 0⟩] scope pos) (tE E Φ X W (.cmpr elt tg it cond own)) := by
  have bo' : BlkOk X.N X.env.scope scope (ownL S.N own) := by rw [ok.N, ok.sc]; exact bo
  have hnd : X.N.Nodup := by rw [ok.N]; exact ok.nd
  refine ⟨fun pins s σ H Q I hq => ?_⟩
  rcases cmp_read hto hq with h | h
  · exact (pe_lc ok.calm hnd (pi_tup hit) bo' hg ht he hns).run pins s σ H Q I (by rw [ownL_map]; exact h)
  · exact (pe_lc ok.calm hnd (pi_list hit) bo' hg ht he hns).run pins s σ H Q I (by rw [ownL_map]; exact h)
/-- x = [..] on one line -/
theorem s_setLc (ok : Okx E Φ k S W X) {i : Nat} {y : Str} {py spos : Pos} {elt : IE} {tg : Tg} {it : IE} {cond : List IE} {own : List Nat} {eelt etg eit : Expr} {eifs : List Expr} {scope : Scope} {pos : Pos} (hy : S.N[i]? = some y) (hyl : X.env.scope.names.lookup y = some .local)
    (hsw : swapsWith (.ListComp eelt [⟨etg, eit, eifs, 0⟩] scope pos) (some (.Name y py)) spos.line X.env = pure true) (hit : PE X eit (tE E Φ X W it)) (hns : ∀ x, foldedSetIterable eit X.env x = pure x)
    (bo : BlkOk S.N S.sc scope (ownL S.N own)) (hto : ∀ i ∈ tgS tg, i ∈ own)
    (hg : ∀ (s : Shared) (H : Hp) (C : Addr) (cl : List (Str × Addr)) (fp : List Addr), PG (X.blk s H scope (compEnvC scope cl C X.env) fp) etg (gT X tg))
    (ht : ∀ (s : Shared) (H : Hp) (C : Addr) (cl : List (Str × Addr)) (fp : List Addr), PTs (X.blk s H scope (compEnvC scope cl C X.env) fp) eifs (tC1 E Φ X W0 cond))
    (he : ∀ (s : Shared) (H : Hp) (C : Addr) (cl : List (Str × Addr)) (fp : List Addr), PE (X.blk s H scope (compEnvC scope cl C X.env) fp) eelt (tE E Φ X W0 elt)) :
    PS X (.Assign [.Name y py] (.ListComp eelt [⟨etg, eit, eifs, 0⟩] scope pos) spos) (tAsg (tE E Φ X W (.cmpr elt tg it cond own)) (gName i)) := by
  have bo' : BlkOk X.N X.env.scope scope (ownL S.N own) := by rw [ok.N, ok.sc]; exact bo
  have hnd : X.N.Nodup := by rw [ok.N]; exact ok.nd
  have hy' : X.N[i]? = some y := by rw [ok.N]; exact hy
  refine ⟨fun pins s σ H D I hq => ?_⟩
  have hq : tE E Φ X W (.cmpr elt tg it cond own) σ H (fun x H1 => gName i x σ H1 D.nx) := hq
  rcases cmp_read hto hq with h | h
  · refine (ps_setLc ok.calm hnd hy' hyl hsw (pi_tup hit) bo' hg ht he hns).run pins s σ H D I ?_
    show tLc _ _ _ _ _ _ _ _
    rw [ownL_map]; exact h
  · refine (ps_setLc ok.calm hnd hy' hyl hsw (pi_list hit) bo' hg ht he hns).run pins s σ H D I ?_
    show tLc _ _ _ _ _ _ _ _
    rw [ownL_map]; exact h
end
end Eng

set_option maxHeartbeats 4000000
namespace Eng
open PySem PySem.Spec L2
open PyProof.Rows hiding St

section
variable {E : Eng} {Φ : Nat → List PV → CO} {k : Nat}

/-- what a comprehension's parts give -/
structure CmpOk (E : Eng) (Φ : Nat → List PV → CO) (X : Cx) (W : WX) (S : Stc) (elt : IE) (tg : Tg) (it : IE) (cond : List IE) (own : List Nat) (eelt etg eit : Expr) (eifs : List Expr) (scope : Scope) : Prop where
  hit : PE X eit (tE E Φ X W it)
  hns : ∀ x, foldedSetIterable eit X.env x = pure x
  bo : BlkOk S.N S.sc scope (ownL S.N own)
  hto : ∀ i ∈ tgS tg, i ∈ own
  hg : ∀ (s : Shared) (H : Hp) (C : Addr) (cl : List (Str × Addr)) (fp : List Addr), PG (X.blk s H scope (compEnvC scope cl C X.env) fp) etg (gT X tg)
  ht : ∀ (s : Shared) (H : Hp) (C : Addr) (cl : List (Str × Addr)) (fp : List Addr), PTs (X.blk s H scope (compEnvC scope cl C X.env) fp) eifs (tC1 E Φ X W0 cond)
  he : ∀ (s : Shared) (H : Hp) (C : Addr) (cl : List (Str × Addr)) (fp : List Addr), PE (X.blk s H scope (compEnvC scope cl C X.env) fp) eelt (tE E Φ X W0 elt)

theorem sc_nil {X : Cx} : PTs X [] (tC1 E Φ X W0 []) := by
  refine ⟨fun pins s σ H Q I hq => ?_⟩
  obtain ⟨g, ε, Z, G, h1⟩ := hq
  exact pts_nil.run pins s σ H Q I (h1 Z H (.refl _) G)
theorem sc_one {X : Cx} {c : IE} {ec : Expr} (h : PT X ec (tT E Φ X W0 c)) : PTs X [ec] (tC1 E Φ X W0 [c]) := by
  refine ⟨fun pins s σ H Q I hq => ?_⟩
  obtain ⟨g, ε, Z, G, h1⟩ := hq
  exact (pts_one h).run pins s σ H Q I ⟨g, ε, Z, G, h1⟩

theorem t_stuck {X : Cx} {W : WX} {e : IE} {ex : Expr} (h : ∀ ε, evT E Φ e ε = .stuck) : PT X ex (tT E Φ X W e) := by
  refine ⟨fun pins s σ H Q I hq => ?_⟩
  obtain ⟨g, ε, Z, G, h1⟩ := hq
  rw [h] at h1
  exact h1.elim
section
variable {S : Stc} {ex : Expr}
theorem soundCst (p : PV) {X : Cx} {W : WX} (ok : Okx E Φ k S W X) (m : mtE E S (.cst p) ex = true) : PE X ex (tE E Φ X W (.cst p)) := by
  cases p <;> cases ex <;> first | (exact absurd m Bool.false_ne_true) | skip
  all_goals
    rename_i c _ _
    cases c <;> first | (exact absurd m Bool.false_ne_true) | skip
  · exact s_cst pe_non fun _ => .non
  · rename_i b _ _ c
    have e := beq_iff_eq.mp (show (b == c) = true from m)
    subst e
    exact s_cst pe_bl fun _ => .bl _
  · rename_i b _ _ c
    have e := beq_iff_eq.mp (show (b == c) = true from m)
    subst e
    exact s_cst pe_int fun _ => .int _
  · rename_i b _ _ c
    have e := beq_iff_eq.mp (show (b == c) = true from m)
    subst e
    exact s_cst pe_str fun _ => .str _
theorem mt_cmp {op : CmpOp} {a b : IE} (m : mtE E S (.cmp op a b) ex = true) : ∃ ea eb pos, ex = .Compare ea [op] [eb] pos ∧ (op ≠ .In ∧ op ≠ .NotIn) ∧ mtE E S a ea = true ∧ mtE E S b eb = true := by
  cases ex <;> first | (exact absurd m Bool.false_ne_true) | skip
  rename_i ea ops es pos
  match ops, es, m with
  | [op'], [eb], m =>
    have m1 : (decide (op = op') && decide (op ≠ .In ∧ op ≠ .NotIn) && mtE E S a ea && mtE E S b eb) = true := m
    simp only [Bool.and_eq_true, decide_eq_true_eq] at m1
    obtain ⟨⟨⟨h1, h2⟩, h3⟩, h4⟩ := m1
    subst h1
    exact ⟨_, _, _, rfl, h2, h3, h4⟩
  | [], _, m => exact absurd m Bool.false_ne_true
  | _ :: _ :: _, _, m => exact absurd m Bool.false_ne_true
  | [_], [], m => exact absurd m Bool.false_ne_true
  | [_], _ :: _ :: _, m => exact absurd m Bool.false_ne_true
theorem mt_isN {a : IE} {n : Bool} (m : mtE E S (.isN a n) ex = true) : ∃ ea op j pos pos', ex = .Compare ea [op] [.Constant .none j pos'] pos ∧ (op = if n = true then .IsNot else .Is) ∧ mtE E S a ea = true := by
  cases ex <;> first | (exact absurd m Bool.false_ne_true) | skip
  rename_i ea ops es pos
  match ops, es, m with
  | [op'], [eb], m =>
    cases eb <;> first | (exact absurd m Bool.false_ne_true) | skip
    rename_i c j pos'
    cases c <;> first | (exact absurd m Bool.false_ne_true) | skip
    have m1 : (decide (op' = if n then .IsNot else .Is) && mtE E S a ea) = true := m
    simp only [Bool.and_eq_true, decide_eq_true_eq] at m1
    exact ⟨_, _, _, _, _, rfl, m1.1, m1.2⟩
  | [], _, m => exact absurd m Bool.false_ne_true
  | _ :: _ :: _, _, m => exact absurd m Bool.false_ne_true
  | [_], [], m => exact absurd m Bool.false_ne_true
  | [_], e1 :: _ :: _, m =>
    cases e1 <;> first | (exact absurd m Bool.false_ne_true) | skip
    rename_i c _ _
    cases c <;> exact absurd m Bool.false_ne_true
theorem mt_slc {a : IE} {lo hi : Option IE} (m : mtE E S (.slc a lo hi) ex = true) : ∃ ea elo ehi pos p2, ex = .Subscript ea (.Slice elo ehi none p2) pos ∧ mtE E S a ea = true ∧ mtO E S lo elo = true ∧ mtO E S hi ehi = true := by
  cases ex <;> first | (exact absurd m Bool.false_ne_true) | skip
  rename_i ea es pos
  cases es <;> first | (exact absurd m Bool.false_ne_true) | skip
  rename_i l u st p2
  cases st <;> first | (exact absurd m Bool.false_ne_true) | skip
  have m1 : (mtE E S a ea && mtO E S lo l && mtO E S hi u) = true := m
  simp only [Bool.and_eq_true] at m1
  exact ⟨_, _, _, _, _, rfl, m1.1.1, m1.1.2, m1.2⟩
theorem mt_call {f : Nat} {as : List IE} (m : mtE E S (.call f as) ex = true) : ∃ fi x e es p pos, ex = .Call (.Name x p) (e :: es) [] pos ∧ E.fns[f]? = some fi ∧ fi.name = x ∧ glB S.sc x = true ∧ mtL E S as (e :: es) = true := by
  cases ex <;> first | (exact absurd m Bool.false_ne_true) | skip
  rename_i fn es ks pos
  cases fn <;> first | (exact absurd m Bool.false_ne_true) | skip
  rename_i x p
  match es, ks, m with
  | e :: es, [], m =>
    have m1 : ((match E.fns[f]? with
      | some fi => decide (fi.name = x)
      | none => false) && glB S.sc x && mtL E S as (e :: es)) = true := m
    rw [Bool.and_eq_true, Bool.and_eq_true] at m1
    obtain ⟨⟨h1, h2⟩, h3⟩ := m1
    cases hf : E.fns[f]? with
    | none => rw [hf] at h1; exact absurd h1 Bool.false_ne_true
    | some fi =>
      rw [hf] at h1
      exact ⟨fi, x, e, es, p, pos, rfl, rfl, of_decide_eq_true h1, h2, h3⟩
  | [], _, m => exact absurd m Bool.false_ne_true
  | _ :: _, _ :: _, m => exact absurd m Bool.false_ne_true
theorem mt_blt {b : Blt} {as : List IE} (m : mtE E S (.blt b as) ex = true) : ∃ x e es p pos, ex = .Call (.Name x p) (e :: es) [] pos ∧ bltN b = x ∧ b ∈ E.blts ∧ glB S.sc x = true ∧ mtL E S as (e :: es) = true := by
  cases ex <;> first | (exact absurd m Bool.false_ne_true) | skip
  rename_i fn es ks pos
  cases fn <;> first | (exact absurd m Bool.false_ne_true) | skip
  rename_i x p
  match es, ks, m with
  | e :: es, [], m =>
    have m1 : (decide (bltN b = x) && decide (b ∈ E.blts) && glB S.sc x && mtL E S as (e :: es)) = true := m
    simp only [Bool.and_eq_true, decide_eq_true_eq] at m1
    exact ⟨x, e, es, p, pos, rfl, m1.1.1.1, m1.1.1.2, m1.1.2, m1.2⟩
  | [], _, m => exact absurd m Bool.false_ne_true
  | _ :: _, _ :: _, m => exact absurd m Bool.false_ne_true
theorem mt_isi {a : IE} {ty : String} (m : mtE E S (.isi a ty) ex = true) : ∃ e y p p2 pos, ex = .Call (.Name "isinstance" p) [e, .Name y p2] [] pos ∧ Str.ofString ty = y ∧ ty ∈ E.tys ∧ glB S.sc "isinstance" = true ∧ glB S.sc y = true ∧ mtE E S a e = true ∧ noStar e = true := by
  cases ex <;> first | (exact absurd m Bool.false_ne_true) | skip
  rename_i fn es ks pos
  cases fn <;> first | (exact absurd m Bool.false_ne_true) | skip
  rename_i x p
  match es, ks, m with
  | [e, e2], [], m =>
    cases e2 <;> first | (exact absurd m Bool.false_ne_true) | skip
    rename_i y p2
    have m1 : (decide (x = "isinstance") && decide (Str.ofString ty = y) && decide (ty ∈ E.tys) && glB S.sc x && glB S.sc y && mtE E S a e && noStar e) = true := m
    simp only [Bool.and_eq_true, decide_eq_true_eq] at m1
    obtain ⟨⟨⟨⟨⟨⟨h1, h2⟩, h3⟩, h4⟩, h5⟩, h6⟩, h7⟩ := m1
    subst h1
    exact ⟨e, y, p, p2, pos, rfl, h2, h3, h4, h5, h6, h7⟩
  | [], _, m => exact absurd m Bool.false_ne_true
  | [_], _, m => exact absurd m Bool.false_ne_true
  | _ :: e2 :: _ :: _, _, m => cases e2 <;> exact absurd m Bool.false_ne_true
  | [_, e2], _ :: _, m => cases e2 <;> exact absurd m Bool.false_ne_true
theorem mt_cmpr {elt : IE} {tg : Tg} {it : IE} {cond : List IE} {own : List Nat} (m : mtE E S (.cmpr elt tg it cond own) ex = true) : ∃ eelt etg eit eifs scope pos, ex = .ListComp eelt [⟨etg, eit, eifs, 0⟩] scope pos ∧ noSet eit = true ∧ mtE E S it eit = true ∧
    blkC S.N S.sc scope (ownL S.N own) = true ∧ mtT (S.blk scope) tg etg = true ∧ mtL E (S.blk scope) cond eifs = true ∧ mtE E (S.blk scope) elt eelt = true ∧ cond.length ≤ 1 ∧ ∀ i ∈ tgS tg, i ∈ own := by
  cases ex <;> first | (exact absurd m Bool.false_ne_true) | skip
  rename_i eelt gs scope pos
  match gs, m with
  | [⟨etg, eit, eifs, ia⟩], m =>
    have m1 : (noSet eit && mtE E S it eit && blkC S.N S.sc scope (ownL S.N own) && mtT (S.blk scope) tg etg && mtL E (S.blk scope) cond eifs && mtE E (S.blk scope) elt eelt && decide (ia = 0) && decide (cond.length ≤ 1) && (tgS tg).all (fun i => decide (i ∈ own))) = true := m
    simp only [Bool.and_eq_true, decide_eq_true_eq, List.all_eq_true] at m1
    obtain ⟨⟨⟨⟨⟨⟨⟨⟨h1, h2⟩, h3⟩, h4⟩, h5⟩, h6⟩, h7⟩, h8⟩, h9⟩ := m1
    subst h7
    exact ⟨_, _, _, _, _, _, rfl, h1, h2, h3, h4, h5, h6, h8, h9⟩
  | [], m => exact absurd m Bool.false_ne_true
  | ⟨_, _, _, _⟩ :: _ :: _, m => exact absurd m Bool.false_ne_true
theorem mt_mut {mm : Mu} {i : Nat} {as : List IE} (m : mtE E S (.mut mm i as) ex = true) : ∃ x px apos es cpos, ex = .Call (.Attribute (.Name x px) (muN mm) apos) es [] cpos ∧ (decide (S.N[i]? = some x) && visB S.sc x && okN x) = true ∧ (apos.endLine == cpos.line) = true ∧ mtL E S as es = true := by
  cases ex <;> first | (exact absurd m Bool.false_ne_true) | skip
  rename_i fn es ks cpos
  cases fn <;> first | (exact absurd m Bool.false_ne_true) | skip
  rename_i o nm apos
  cases o <;> first | (exact absurd m Bool.false_ne_true) | skip
  rename_i x px
  cases ks with
  | cons _ _ => exact absurd m Bool.false_ne_true
  | nil =>
    have m1 : (decide (S.N[i]? = some x) && visB S.sc x && okN x && decide (nm = muN mm) && (apos.endLine == cpos.line) && mtL E S as es && decide (es.length < 20)) = true := m
    rw [Bool.and_eq_true, Bool.and_eq_true, Bool.and_eq_true, Bool.and_eq_true] at m1
    obtain ⟨⟨⟨⟨h1, h2⟩, h3⟩, h4⟩, h5⟩ := m1
    have h2 := of_decide_eq_true h2
    subst h2
    exact ⟨x, px, apos, es, cpos, rfl, h1, h3, h4⟩
end

mutual
theorem soundE : (e : IE) → ∀ {S : Stc} {X : Cx} {W : WX} {ex : Expr}, Okx E Φ k S W X → mtE E S e ex = true → PE X ex (tE E Φ X W e)
  | .var i, S, X, W, ex, ok, m => by
    cases ex <;> first | (exact absurd m Bool.false_ne_true) | skip
    exact s_var ok m
  | .cst p, S, X, W, ex, ok, m => soundCst p ok m
  | .glb x, S, X, W, ex, ok, m => by
    cases ex <;> first | (exact absurd m Bool.false_ne_true) | skip
    rename_i y _
    have m1 : (decide (x = y) && glB S.sc x) = true := m
    simp only [Bool.and_eq_true, decide_eq_true_eq] at m1
    obtain ⟨e, m2⟩ := m1
    subst e
    exact s_glb ok m2
  | .bin op a b, S, X, W, ex, ok, m => by
    cases ex <;> first | (exact absurd m Bool.false_ne_true) | skip
    rename_i ea op' eb _
    have m : (decide (op = op') && mtE E S a ea && mtE E S b eb) = true := m
    simp only [Bool.and_eq_true, decide_eq_true_eq] at m
    obtain ⟨⟨rfl, m1⟩, m2⟩ := m
    exact s_bin (soundE a ok m1) (soundE b ok m2)
  | .neg a, S, X, W, ex, ok, m => by
    cases ex <;> first | (exact absurd m Bool.false_ne_true) | skip
    rename_i op ea _
    cases op <;> first | (exact absurd m Bool.false_ne_true) | skip
    exact s_neg (soundE a ok m)
  | .cmp op a b, S, X, W, ex, ok, m => by
    obtain ⟨ea, eb, pos, rfl, hop, m1, m2⟩ := mt_cmp m
    exact s_cmp ok hop (soundE a ok m1) (soundE b ok m2)
  | .isN a n, S, X, W, ex, ok, m => by
    obtain ⟨ea, op, j, pos, pos', rfl, hop, m1⟩ := mt_isN m
    exact s_isN hop (soundE a ok m1)
  | .and l, S, X, W, ex, ok, m => by
    cases ex <;> first | (exact absurd m Bool.false_ne_true) | skip
    rename_i op es _
    cases op <;> first | (exact absurd m Bool.false_ne_true) | skip
    exact soundAnd l ok m
  | .or l, S, X, W, ex, ok, m => by
    cases ex <;> first | (exact absurd m Bool.false_ne_true) | skip
    rename_i op es _
    cases op <;> first | (exact absurd m Bool.false_ne_true) | skip
    exact soundOr l ok m
  | .not a, S, X, W, ex, ok, m => by
    cases ex <;> first | (exact absurd m Bool.false_ne_true) | skip
    rename_i op ea _
    cases op <;> first | (exact absurd m Bool.false_ne_true) | skip
    exact s_not (soundE a ok m)
  | .ite c a b, S, X, W, ex, ok, m => by
    cases ex <;> first | (exact absurd m Bool.false_ne_true) | skip
    rename_i ec ea eb _
    have m : (mtE E S c ec && mtE E S a ea && mtE E S b eb) = true := m
    simp only [Bool.and_eq_true] at m
    exact s_ite (soundT c ok m.1.1) (soundE a ok m.1.2) (soundE b ok m.2)
  | .tup l, S, X, W, ex, ok, m => by
    cases ex <;> first | (exact absurd m Bool.false_ne_true) | skip
    exact s_tup (soundA l ok m)
  | .lst l, S, X, W, ex, ok, m => by
    cases ex <;> first | (exact absurd m Bool.false_ne_true) | skip
    exact s_lst (soundA l ok m)
  | .sub a i, S, X, W, ex, ok, m => by
    cases ex <;> first | (exact absurd m Bool.false_ne_true) | skip
    rename_i ea ei _
    have m : (mtE E S a ea && mtE E S i ei && noSlc ei) = true := m
    simp only [Bool.and_eq_true] at m
    exact s_sub m.2 (soundE a ok m.1.1) (soundE i ok m.1.2)
  | .slc a lo hi, S, X, W, ex, ok, m => by
    obtain ⟨ea, elo, ehi, pos, p2, rfl, m1, m2, m3⟩ := mt_slc m
    exact s_slc (soundE a ok m1) (soundO lo ok m2) (soundO hi ok m3)
  | .call f as, S, X, W, ex, ok, m => by
    obtain ⟨fi, x, e, es, p, pos, rfl, hf, hx, hg, m1⟩ := mt_call m
    exact s_call ok hf hx hg (mtL_star m1) (soundA as ok m1)
  | .blt b as, S, X, W, ex, ok, m => by
    obtain ⟨x, e, es, p, pos, rfl, hx, hb, hg, m1⟩ := mt_blt m
    exact s_blt ok hx hb hg (mtL_star m1) (soundA as ok m1)
  | .isi a ty, S, X, W, ex, ok, m => by
    obtain ⟨e, y, p, p2, pos, rfl, hy, ht, hg, hgy, m1, hs⟩ := mt_isi m
    exact s_isi ok hy ht hg hgy hs (soundE a ok m1)
  | .cmpr elt tg it cond own, S, X, W, ex, ok, m => by
    obtain ⟨eelt, etg, eit, eifs, scope, pos, rfl, m1, m2, m3, m4, m5, m6, m7, m8⟩ := mt_cmpr m
    have hcond : ∀ (Y : Cx), Okx E Φ k (S.blk scope) W0 Y → PTs Y eifs (tC1 E Φ Y W0 cond) := fun Y okY => soundC cond okY m5 m7
    have C : CmpOk E Φ X W S elt tg it cond own eelt etg eit eifs scope := by
      refine ⟨soundE it ok m2, noSet_fold m1, blkOk_by m3, m8, fun s H C cl fp => ?_, fun s H C cl fp => ?_, fun s H C cl fp => ?_⟩
      · exact s_tg (ok.blk (blkOk_by m3) s H C cl fp) m4
      · exact hcond _ (ok.blk (blkOk_by m3) s H C cl fp)
      · exact soundE elt (ok.blk (blkOk_by m3) s H C cl fp) m6
    exact s_cmpr ok C.hit C.hns C.bo C.hto C.hg C.ht C.he
  | .mut mm i as, S, X, W, ex, ok, m => by
    obtain ⟨x, px, apos, es, cpos, rfl, hv, hl, ml⟩ := mt_mut m
    by_cases hn : as.length = muA mm
    · cases mm with
      | append =>
        match as, es, ml, hn with
        | [a], [e], ml, _ => exact s_append ok hv hl (mtL_star ml e List.mem_cons_self) (soundA [a] ok ml)
        | [a], [], ml, _ => exact absurd ml Bool.false_ne_true
        | [a], e :: e2 :: es, ml, _ => exact absurd (show (mtE E S a e && false && noStar e) = true from ml) (by simp)
      | pop =>
        match as, es, ml, hn with
        | [], [], ml, _ => exact s_pop ok hv hl
        | [], _ :: _, ml, _ => exact absurd ml Bool.false_ne_true
    · refine ⟨fun pins s σ H Q I hq => ?_⟩
      obtain ⟨g, ε, Z, G, h1⟩ := hq
      have h1 : Post E X W g σ Z (PR X g σ Q) (if as.length = muA mm then _ else .stuck) := h1
      rw [if_neg hn] at h1
      exact h1.elim
theorem soundT : (e : IE) → ∀ {S : Stc} {X : Cx} {W : WX} {ex : Expr}, Okx E Φ k S W X → mtE E S e ex = true → PT X ex (tT E Φ X W e)
  | .var i, S, X, W, ex, ok, m => by
    cases ex <;> first | (exact absurd m Bool.false_ne_true) | skip
    exact t_val (s_var ok m) (v_var i) fun _ => rfl
  | .cst p, S, X, W, ex, ok, m => by
    have h := soundCst p ok m
    cases p <;> cases ex <;> first | (exact absurd m Bool.false_ne_true) | skip
    all_goals exact t_val h (v_cst _) fun _ => rfl
  | .cmp op a b, S, X, W, ex, ok, m => by
    obtain ⟨ea, eb, pos, rfl, hop, m1, m2⟩ := mt_cmp m
    exact t_cmp ok hop (soundE a ok m1) (soundE b ok m2)
  | .isN a n, S, X, W, ex, ok, m => by
    obtain ⟨ea, op, j, pos, pos', rfl, hop, m1⟩ := mt_isN m
    exact t_isN hop (soundE a ok m1)
  | .and l, S, X, W, ex, ok, m => by
    cases ex <;> first | (exact absurd m Bool.false_ne_true) | skip
    rename_i op es _
    cases op <;> first | (exact absurd m Bool.false_ne_true) | skip
    exact (soundAndT l ok m).pt
  | .or l, S, X, W, ex, ok, m => by
    cases ex <;> first | (exact absurd m Bool.false_ne_true) | skip
    rename_i op es _
    cases op <;> first | (exact absurd m Bool.false_ne_true) | skip
    exact (soundOrT l ok m).pt
  | .not a, S, X, W, ex, ok, m => by
    cases ex <;> first | (exact absurd m Bool.false_ne_true) | skip
    rename_i op ea _
    cases op <;> first | (exact absurd m Bool.false_ne_true) | skip
    exact t_not (soundT a ok m)
  | .sub a i, S, X, W, ex, ok, m => by
    cases ex <;> first | (exact absurd m Bool.false_ne_true) | skip
    rename_i ea ei _
    have m' : (mtE E S a ea && mtE E S i ei && noSlc ei) = true := m
    simp only [Bool.and_eq_true] at m'
    exact t_val (s_sub m'.2 (soundE a ok m'.1.1) (soundE i ok m'.1.2)) (v_sub a i) fun _ => rfl
  | .call f as, S, X, W, ex, ok, m => by
    obtain ⟨fi, x, e, es, p, pos, rfl, hf, hx, hg, m1⟩ := mt_call m
    exact t_val (s_call ok hf hx hg (mtL_star m1) (soundA as ok m1)) (v_call f as) fun _ => rfl
  | .blt b as, S, X, W, ex, ok, m => by
    obtain ⟨x, e, es, p, pos, rfl, hx, hb, hg, m1⟩ := mt_blt m
    exact t_val (s_blt ok hx hb hg (mtL_star m1) (soundA as ok m1)) (v_blt b as) fun _ => rfl
  | .isi a ty, S, X, W, ex, ok, m => by
    obtain ⟨e, y, p, p2, pos, rfl, hy, ht, hg, hgy, m1, hs⟩ := mt_isi m
    exact t_val (s_isi ok hy ht hg hgy hs (soundE a ok m1)) (v_isi a ty) fun _ => rfl
  | .glb _, _, _, _, _, _, _ => t_stuck fun _ => rfl
  | .bin _ _ _, _, _, _, _, _, _ => t_stuck fun _ => rfl
  | .neg _, _, _, _, _, _, _ => t_stuck fun _ => rfl
  | .ite _ _ _, _, _, _, _, _, _ => t_stuck fun _ => rfl
  | .tup _, _, _, _, _, _, _ => t_stuck fun _ => rfl
  | .lst _, _, _, _, _, _, _ => t_stuck fun _ => rfl
  | .slc _ _ _, _, _, _, _, _, _ => t_stuck fun _ => rfl
  | .cmpr _ _ _ _ _, _, _, _, _, _, _ => t_stuck fun _ => rfl
  | .mut _ _ _, _, _, _, _, _, _ => t_stuck fun _ => rfl
theorem soundA : (l : List IE) → ∀ {S : Stc} {X : Cx} {W : WX} {es : List Expr}, Okx E Φ k S W X → mtL E S l es = true → PA X es (tA E Φ X W l)
  | [], S, X, W, es, ok, m => by
    cases es with
    | nil => exact s_nil
    | cons _ _ => exact absurd m Bool.false_ne_true
  | a :: l, S, X, W, es, ok, m => by
    cases es with
    | nil => exact absurd m Bool.false_ne_true
    | cons e es =>
      have m : (mtE E S a e && mtL E S l es && noStar e) = true := m
      simp only [Bool.and_eq_true] at m
      exact s_cons m.2 (soundE a ok m.1.1) (soundA l ok m.1.2)
theorem soundO : (o : Option IE) → ∀ {S : Stc} {X : Cx} {W : WX} {eo : Option Expr}, Okx E Φ k S W X → mtO E S o eo = true → PO X eo (tO E Φ X W o)
  | none, S, X, W, eo, ok, m => by
    cases eo with
    | none => exact s_none
    | some _ => exact absurd m Bool.false_ne_true
  | some a, S, X, W, eo, ok, m => by
    cases eo with
    | none => exact absurd m Bool.false_ne_true
    | some e => exact s_some (soundE a ok m)
theorem soundAnd : (l : List IE) → ∀ {S : Stc} {X : Cx} {W : WX} {es : List Expr} {pos : Pos}, Okx E Φ k S W X → mtL E S l es = true → PE X (.BoolOp .And es pos) (tAndL E Φ X W l)
  | [], S, X, W, es, pos, ok, m => ⟨fun pins s σ H Q I ⟨g, ε, Z, G, h⟩ => h.elim⟩
  | [a], S, X, W, es, pos, ok, m => by
    cases es with
    | nil => exact absurd m Bool.false_ne_true
    | cons e es =>
      have m : (mtE E S a e && mtL E S [] es && noStar e) = true := m
      simp only [Bool.and_eq_true] at m
      cases es with
      | nil => exact s_and1 (soundE a ok m.1.1)
      | cons _ _ => exact absurd m.1.2 Bool.false_ne_true
  | a :: b :: l, S, X, W, es, pos, ok, m => by
    cases es with
    | nil => exact absurd m Bool.false_ne_true
    | cons e es =>
      have m : (mtE E S a e && mtL E S (b :: l) es && noStar e) = true := m
      simp only [Bool.and_eq_true] at m
      have h := soundAnd (b :: l) (pos := pos) ok m.1.2
      cases es with
      | nil => exact absurd m.1.2 Bool.false_ne_true
      | cons e2 es => exact s_and2 (soundE a ok m.1.1) h
theorem soundOr : (l : List IE) → ∀ {S : Stc} {X : Cx} {W : WX} {es : List Expr} {pos : Pos}, Okx E Φ k S W X → mtL E S l es = true → PE X (.BoolOp .Or es pos) (tOrL E Φ X W l)
  | [], S, X, W, es, pos, ok, m => ⟨fun pins s σ H Q I ⟨g, ε, Z, G, h⟩ => h.elim⟩
  | [a], S, X, W, es, pos, ok, m => by
    cases es with
    | nil => exact absurd m Bool.false_ne_true
    | cons e es =>
      have m : (mtE E S a e && mtL E S [] es && noStar e) = true := m
      simp only [Bool.and_eq_true] at m
      cases es with
      | nil => exact s_or1 (soundE a ok m.1.1)
      | cons _ _ => exact absurd m.1.2 Bool.false_ne_true
  | a :: b :: l, S, X, W, es, pos, ok, m => by
    cases es with
    | nil => exact absurd m Bool.false_ne_true
    | cons e es =>
      have m : (mtE E S a e && mtL E S (b :: l) es && noStar e) = true := m
      simp only [Bool.and_eq_true] at m
      have h := soundOr (b :: l) (pos := pos) ok m.1.2
      cases es with
      | nil => exact absurd m.1.2 Bool.false_ne_true
      | cons e2 es => exact s_or2 (soundE a ok m.1.1) h
theorem soundAndT : (l : List IE) → ∀ {S : Stc} {X : Cx} {W : WX} {es : List Expr} {pos : Pos}, Okx E Φ k S W X → mtL E S l es = true → PW X (.BoolOp .And es pos) (tAndLT E Φ X W l)
  | [], S, X, W, es, pos, ok, m => ⟨fun wh pins s σ H Q I ⟨g, ε, Z, G, h⟩ => h.elim⟩
  | [a], S, X, W, es, pos, ok, m => by
    cases es with
    | nil => exact absurd m Bool.false_ne_true
    | cons e es =>
      have m : (mtE E S a e && mtL E S [] es && noStar e) = true := m
      simp only [Bool.and_eq_true] at m
      cases es with
      | nil => exact t_and1 (soundT a ok m.1.1)
      | cons _ _ => exact absurd m.1.2 Bool.false_ne_true
  | a :: b :: l, S, X, W, es, pos, ok, m => by
    cases es with
    | nil => exact absurd m Bool.false_ne_true
    | cons e es =>
      have m : (mtE E S a e && mtL E S (b :: l) es && noStar e) = true := m
      simp only [Bool.and_eq_true] at m
      have h := soundAndT (b :: l) (pos := pos) ok m.1.2
      cases es with
      | nil => exact absurd m.1.2 Bool.false_ne_true
      | cons e2 es => exact t_and2 (soundT a ok m.1.1) h
theorem soundOrT : (l : List IE) → ∀ {S : Stc} {X : Cx} {W : WX} {es : List Expr} {pos : Pos}, Okx E Φ k S W X → mtL E S l es = true → PW X (.BoolOp .Or es pos) (tOrLT E Φ X W l)
  | [], S, X, W, es, pos, ok, m => ⟨fun wh pins s σ H Q I ⟨g, ε, Z, G, h⟩ => h.elim⟩
  | [a], S, X, W, es, pos, ok, m => by
    cases es with
    | nil => exact absurd m Bool.false_ne_true
    | cons e es =>
      have m : (mtE E S a e && mtL E S [] es && noStar e) = true := m
      simp only [Bool.and_eq_true] at m
      cases es with
      | nil => exact t_or1 (soundT a ok m.1.1)
      | cons _ _ => exact absurd m.1.2 Bool.false_ne_true
  | a :: b :: l, S, X, W, es, pos, ok, m => by
    cases es with
    | nil => exact absurd m Bool.false_ne_true
    | cons e es =>
      have m : (mtE E S a e && mtL E S (b :: l) es && noStar e) = true := m
      simp only [Bool.and_eq_true] at m
      have h := soundOrT (b :: l) (pos := pos) ok m.1.2
      cases es with
      | nil => exact absurd m.1.2 Bool.false_ne_true
      | cons e2 es => exact t_or2 (soundT a ok m.1.1) h
theorem soundC : (l : List IE) → ∀ {S : Stc} {X : Cx} {es : List Expr}, Okx E Φ k S W0 X → mtL E S l es = true → l.length ≤ 1 → PTs X es (tC1 E Φ X W0 l)
  | [], S, X, es, ok, m, _ => by
    cases es with
    | nil => exact sc_nil
    | cons _ _ => exact absurd m Bool.false_ne_true
  | [a], S, X, es, ok, m, _ => by
    cases es with
    | nil => exact absurd m Bool.false_ne_true
    | cons e es =>
      have m : (mtE E S a e && mtL E S [] es && noStar e) = true := m
      simp only [Bool.and_eq_true] at m
      cases es with
      | nil => exact sc_one (soundT a ok m.1.1)
      | cons _ _ => exact absurd m.1.2 Bool.false_ne_true
  | _ :: _ :: _, S, X, es, ok, m, h => absurd h (by simp)
end
end
end Eng

set_option maxHeartbeats 4000000
namespace Eng
open PySem PySem.Spec L2
open PyProof.Rows hiding St

/-! ### statements against the text -/
def noComp : Expr → Bool
  | .ListComp _ _ _ _ => false
  | .SetComp _ _ _ _ => false
  | .DictComp _ _ _ _ _ => false
  | _ => true
def noTup : Expr → Bool
  | .Tuple _ _ _ => false
  | _ => true
/-- y = [..]: the name is swapped with the comprehension's -/
def swB (sc : Scope) (y : Str) (py : Pos) (e : Expr) : Bool := match e with
  | .ListComp _ _ scope pos => decide (sc.names.lookup y = some .local) && (py.line == pos.line) && !(scope.names.any fun (n, k) => n == y && (k == .local || k == .cell))
  | _ => false
mutual
def mtS (E : Eng) (S : Stc) : IS → Stmt → Bool
  | .pass, .Pass _ => true
  | .brk, .Break _ => true
  | .cont, .Continue _ => true
  | .expr e, .Expr ex _ => mtE E S e ex && noComp ex
  | .asg i e, .Assign [.Name y _] ex _ => decide (S.N[i]? = some y) && stB S.so y && mtE E S e ex
  | .asgT t e, .Assign [.Tuple es n pos'] ex _ => mtT S t (.Tuple es n pos') && mtE E S e ex && noTup ex
  | .ret e, .Return (some ex) _ => mtE E S e ex
  | .retN, .Return none _ => true
  | .ifs c a b, .If ec ea eb _ => mtE E S c ec && mtSs E S a ea && mtSs E S b eb
  | .raise c msg, .Raise (some (.Call (.Name x _) [.Constant (.str m) _ _] [] _)) none _ => decide (E.cls[c]? = some x) && decide (m = msg) && glB S.sc x
  | .tryx body c suite, .Try ebody [.ExceptHandler (some (.Name x _)) none esuite _] [] [] _ => mtSs E S body ebody && decide (E.cls[c]? = some x) && glB S.sc x && mtSs E S suite esuite && !esuite.isEmpty
  | .for_ tg it body, .For etg eit ebody [] _ => mtT S tg etg && mtE E S it eit && mtSs E S body ebody && noSet eit
  | .whl c body, .While ec ebody [] _ => mtE E S c ec && mtSs E S body ebody
  | _, _ => false
def mtSs (E : Eng) (S : Stc) : List IS → List Stmt → Bool
  | [], [] => true
  | s :: l, st :: sts => mtS E S s st && mtSs E S l sts
  | _, _ => false
end

/-- an exception class of the text -/
structure ExF (X : Cx) (C : Addr) : Prop where
  inn : PySem.W.excIn X.K C HandSPX.veTail "ValueError.__new__" = true
  kp : PySem.W.keepIn X.K (.ref C) = true
  rs : Raises X (.ref C)
structure OkS (E : Eng) (Φ : Nat → List PV → CO) (k : Nat) (S : Stc) (W : WX) (X : Cx) : Prop where
  x : Okx E Φ k S W X
  hs : X.stack = X.env :: X.outer
  hf : X.env.frame = some X.env.locals
  po : PassesOwn (model X.prog X.w) X.A X.env X.xe
  ex : ∀ (c : Nat) (nm : Str), E.cls[c]? = some nm → ∃ C, X.mg nm = some (.ref C) ∧ ExF X C
  sb : ∀ (c d : Nat) (nc nd : Str) (C D : Addr), E.cls[c]? = some nc → E.cls[d]? = some nd → X.mg nc = some (.ref C) → X.mg nd = some (.ref D) → PySem.W.exmOne X.K (.ref C) (.ref D) = some (E.sub c d)

def SPost (E : Eng) (X : Cx) (W : WX) (g : Ent) (σ : St) (Z : Hp) (A : List Nat) (D : Ends) : SO → Prop
  | .nx ε' => ∀ σ' Z' H', Same Z Z' → Good X.K g σ' ε' Z' H' → (∀ j, j ∉ A → σ'[j]? = σ[j]?) → D.nx σ' H'
  | .bk ε' => ∀ σ' Z' H', Same Z Z' → Good X.K g σ' ε' Z' H' → (∀ j, j ∉ A → σ'[j]? = σ[j]?) → D.bk σ' H'
  | .ct ε' => ∀ σ' Z' H', Same Z Z' → Good X.K g σ' ε' Z' H' → (∀ j, j ∉ A → σ'[j]? = σ[j]?) → D.ct σ' H'
  | .rt r ε' => ∀ σ' v Z' H', Same Z Z' → Good X.K g σ' ε' Z' H' → RvR X.K g σ' ε' Z' H' r v → D.rt v H'
  | .exc c ε' => ∀ σ' Z' H' C, Same Z Z' → Good X.K g σ' ε' Z' H' → (∀ j, j ∉ A → σ'[j]? = σ[j]?) → ClsA E X.mg c C → W (.ref C) none σ' H'
  | .stuck => False
def tS (E : Eng) (Φ : Nat → List PV → CO) (X : Cx) (W : WX) (s : IS) : TS := fun D σ H => ∃ g ε Z, Good X.K g σ ε Z H ∧ SPost E X W g σ Z (asgsS s) D (exS E Φ s ε)
def tL (E : Eng) (Φ : Nat → List PV → CO) (X : Cx) (W : WX) (l : List IS) : TS := fun D σ H => ∃ g ε Z, Good X.K g σ ε Z H ∧ SPost E X W g σ Z (asgsL l) D (exL E Φ l ε)
section
variable {E : Eng} {Φ : Nat → List PV → CO} {k : Nat} {S : Stc} {X : Cx} {W : WX} {g : Ent} {σ : St} {ε : Sg} {Z H : Hp}
/-- from a later state -/
theorem SPost.from {A B : List Nat} {D : Ends} {o : SO} {σ1 : St} {Z1 : Hp} (h : SPost E X W g σ Z A D o) (s : Same Z Z1) (kp : ∀ j, j ∉ A → σ1[j]? = σ[j]?) (hb : ∀ j, j ∈ B → j ∈ A) : SPost E X W g σ1 Z1 B D o := by
  have kk : ∀ {σ' : St}, (∀ j, j ∉ B → σ'[j]? = σ1[j]?) → ∀ j, j ∉ A → σ'[j]? = σ[j]? := fun {σ'} q j hj => (q j fun z => hj (hb j z)).trans (kp j hj)
  cases o with
  | nx ε' => exact fun σ' Z' H' s' G q => h σ' Z' H' (s.trans s') G (kk q)
  | bk ε' => exact fun σ' Z' H' s' G q => h σ' Z' H' (s.trans s') G (kk q)
  | ct ε' => exact fun σ' Z' H' s' G q => h σ' Z' H' (s.trans s') G (kk q)
  | rt r ε' => exact fun σ' v Z' H' s' G q => h σ' v Z' H' (s.trans s') G q
  | exc c ε' => exact fun σ' Z' H' C s' G q cl => h σ' Z' H' C (s.trans s') G (kk q) cl
  | stuck => exact h
/-- an expression ahead of a statement's rest -/
theorem tE_s {A : List Nat} {D : Ends} {e : IE} {f : Rv → Sg → SO} {Ψ : VK} (G : Good X.K g σ ε Z H) (h : SPost E X W g σ Z A D (match evE E Φ e ε with | .ok r ε1 => f r ε1 | .exc c ε1 => .exc c ε1 | .stuck => .stuck))
    (k : ∀ r ε1 Z1 H1 v, Same Z Z1 → Good X.K g σ ε1 Z1 H1 → RvR X.K g σ ε1 Z1 H1 r v → SPost E X W g σ Z1 A D (f r ε1) → Ψ v H1) : tE E Φ X W e σ H Ψ := by
  refine ⟨g, ε, Z, G, ?_⟩
  cases hev : evE E Φ e ε with
  | ok r ε1 =>
    rw [hev] at h
    exact fun Z1 H1 s1 G1 v rv => k r ε1 Z1 H1 v s1 G1 rv (h.from s1 (fun _ _ => rfl) fun _ z => z)
  | exc c ε1 =>
    rw [hev] at h
    exact fun Z1 H1 C s1 G1 cl => h σ Z1 H1 C s1 G1 (fun _ _ => rfl) cl
  | stuck => rw [hev] at h; exact h.elim
theorem tT_s {A : List Nat} {D : Ends} {e : IE} {f : Bool → Sg → SO} {Ψ : Bool → Hp → Prop} (G : Good X.K g σ ε Z H) (h : SPost E X W g σ Z A D (match evT E Φ e ε with | .ok r ε1 => f r ε1 | .exc c ε1 => .exc c ε1 | .stuck => .stuck))
    (k : ∀ r ε1 Z1 H1, Same Z Z1 → Good X.K g σ ε1 Z1 H1 → SPost E X W g σ Z1 A D (f r ε1) → Ψ r H1) : tT E Φ X W e σ H Ψ := by
  refine ⟨g, ε, Z, G, ?_⟩
  cases hev : evT E Φ e ε with
  | ok r ε1 =>
    rw [hev] at h
    exact fun Z1 H1 s1 G1 => k r ε1 Z1 H1 s1 G1 (h.from s1 (fun _ _ => rfl) fun _ z => z)
  | exc c ε1 =>
    rw [hev] at h
    exact fun Z1 H1 C s1 G1 cl => h σ Z1 H1 C s1 G1 (fun _ _ => rfl) cl
  | stuck => rw [hev] at h; exact h.elim

/-! ### slots -/
theorem isOwn_set {i j : Nat} {s : Slot} (h : IsOwn (ε.set i s) j) : (j = i ∧ ∃ k p, s = .own k p) ∨ (j ≠ i ∧ IsOwn ε j) := by
  obtain ⟨k, q, e⟩ := h
  rcases getElem?_set_eq e with ⟨z, y⟩ | ⟨n, z⟩
  · exact .inl ⟨z, k, q, y.symm⟩
  · exact .inr ⟨n, k, q, z⟩
theorem Good.setFresh {i : Nat} {p : PV} {a : Addr} (G : Good X.K g σ ε Z H) (hi : i < ε.length) (hn : ∀ q, ε[i]? ≠ some (.own false q)) (r : RvR X.K g σ ε Z H (.fresh p) (.ref a)) : Good X.K g (σ.set i (some (.ref a))) (ε.set i (.own true p)) Z H := by
  obtain ⟨b, e, z0, h0, o, no, np⟩ := r
  cases e
  refine ⟨by rw [List.length_set, List.length_set]; exact G.len, fun j s hs => ?_, fun j l b oj ol ej el => ?_, G.zh, G.hh, G.al, G.zf, G.zz, fun j b hj => ?_, fun q hq => ?_⟩
  · rcases getElem?_set_eq hs with ⟨rfl, rfl⟩ | ⟨nj, hs⟩
    · exact ⟨a, by rw [List.getElem?_set_self (by rw [G.len]; exact hi)], z0, o, fun _ => h0, fun z => nomatch z⟩
    · have q := G.slot j s hs
      cases s with
      | none => trivial
      | val p => obtain ⟨u, q1, q2⟩ := q; exact ⟨u, by rw [List.getElem?_set_ne (Ne.symm nj)]; exact q1, q2⟩
      | own k p => obtain ⟨b, q1, q2⟩ := q; exact ⟨b, by rw [List.getElem?_set_ne (Ne.symm nj)]; exact q1, q2⟩
  · have hiσ : i < σ.length := by rw [G.len]; exact hi
    rcases isOwn_set oj with ⟨rfl, _⟩ | ⟨nj, oj'⟩ <;> rcases isOwn_set ol with ⟨rfl, _⟩ | ⟨nl, ol'⟩
    · rfl
    · rw [List.getElem?_set_self hiσ] at ej
      cases ej
      rw [List.getElem?_set_ne (Ne.symm nl)] at el
      exact absurd el (no l ol')
    · rw [List.getElem?_set_self hiσ] at el
      cases el
      rw [List.getElem?_set_ne (Ne.symm nj)] at ej
      exact absurd ej (no j oj')
    · rw [List.getElem?_set_ne (Ne.symm nj)] at ej
      rw [List.getElem?_set_ne (Ne.symm nl)] at el
      exact G.dis j l b oj' ol' ej el
  · obtain ⟨h1, p', h2⟩ := G.io j b hj
    have nj : i ≠ j := fun z => by subst z; exact hn _ h2
    exact ⟨by rw [List.getElem?_set_ne nj]; exact h1, p', by rw [List.getElem?_set_ne nj]; exact h2⟩
  · obtain ⟨q1, q2, q3⟩ := G.pr q hq
    refine ⟨q1, q2, fun j oj => ?_⟩
    rcases isOwn_set oj with ⟨rfl, _⟩ | ⟨nj, oj⟩
    · rw [List.getElem?_set_self (by rw [G.len]; exact hi)]
      intro z
      cases z
      exact np q hq rfl
    · rw [List.getElem?_set_ne (Ne.symm nj)]
      exact q3 j oj
theorem frzS_len {i : Nat} {p : PV} {ε' : Sg} (e : frzS ε i = some (p, ε')) : ε'.length = ε.length := by
  unfold Eng.frzS at e
  split at e <;> cases e <;> simp
theorem Good.put {i : Nat} {r : Rv} {v : V} {ε2 : Sg} (G : Good X.K g σ ε Z H) (e : putR i r ε = some ε2) (rv : RvR X.K g σ ε Z H r v) : ∃ Z2, Same Z Z2 ∧ Good X.K g (σ.set i (some v)) ε2 Z2 H := by
  unfold putR at e
  split at e
  · cases e
  · cases e
  · rename_i s hno hs
    have hi := (List.getElem?_eq_some_iff.mp hs).1
    have hn : ∀ q, ε[i]? ≠ some (.own false q) := fun q z => by rw [hs] at z; cases z; exact hno _ rfl
    cases r with
    | val p => cases e; exact ⟨Z, .refl _, G.setVal hi hn rv⟩
    | fresh p =>
      cases e
      obtain ⟨a, rfl, q⟩ := id rv
      exact ⟨Z, .refl _, G.setFresh hi hn rv⟩
    | own j =>
      dsimp only at e
      split at e
      · rename_i p ε1 ef
        cases e
        obtain ⟨u, Z2, h1, s2, G2, rp⟩ := G.frzS ef
        have rv : σ[j]? = some (some v) := rv
        rw [rv] at h1
        cases h1
        refine ⟨Z2, s2, G2.setVal (by rw [frzS_len ef]; exact hi) (fun q z => ?_) rp⟩
        unfold Eng.frzS at ef
        split at ef <;> cases ef
        · exact hn q z
        · rcases getElem?_set_eq z with ⟨_, y⟩ | ⟨_, y⟩
          · cases y
          · exact hn q y
      · cases e
theorem Good.drop {i : Nat} (G : Good X.K g σ ε Z H) (hn : ∀ q, ε[i]? ≠ some (.own false q)) : Good X.K g σ (ε.set i .none) Z H where
  len := by rw [List.length_set]; exact G.len
  slot := fun j s hs => by
    rcases getElem?_set_eq hs with ⟨rfl, rfl⟩ | ⟨nj, hs⟩
    · trivial
    · exact G.slot j s hs
  dis := fun j l a oj ol ej el => by
    rcases isOwn_set oj with ⟨_, _, _, z⟩ | ⟨nj, oj⟩
    · cases z
    · rcases isOwn_set ol with ⟨_, _, _, z⟩ | ⟨nl, ol⟩
      · cases z
      · exact G.dis j l a oj ol ej el
  zh := G.zh
  hh := G.hh
  al := G.al
  zf := G.zf
  zz := G.zz
  io := fun j a hj => by
    obtain ⟨h1, p, h2⟩ := G.io j a hj
    have nj : i ≠ j := fun z => by subst z; exact hn _ h2
    exact ⟨h1, p, by rw [List.getElem?_set_ne nj]; exact h2⟩
  pr := fun q hq => by
    obtain ⟨q1, q2, q3⟩ := G.pr q hq
    refine ⟨q1, q2, fun j oj => ?_⟩
    rcases isOwn_set oj with ⟨_, _, _, z⟩ | ⟨nj, oj⟩
    · cases z
    · exact q3 j oj
theorem Good.ret {r r' : Rv} {v : V} {ε2 : Sg} (G : Good X.K g σ ε Z H) (e : retR r ε = some (r', ε2)) (rv : RvR X.K g σ ε Z H r v) : Good X.K g σ ε2 Z H ∧ RvR X.K g σ ε2 Z H r' v := by
  cases r with
  | val p => cases e; exact ⟨G, rv⟩
  | fresh p => cases e; exact ⟨G, rv⟩
  | own j =>
    have e : (match ε[j]? with | some (.own true p) => some (Rv.fresh p, ε.set j .none) | some (.val p) => some (.val p, ε) | _ => none) = some (r', ε2) := e
    have rv : σ[j]? = some (some v) := rv
    split at e
    · rename_i p hs
      cases e
      obtain ⟨a, h1, h2, h3, h4, _⟩ := G.slot _ _ hs
      rw [rv] at h1
      cases h1
      refine ⟨G.drop fun q z => (by rw [hs] at z; cases z), a, rfl, h2, h4 rfl, h3, fun i oi z => ?_, fun q hq z => ?_⟩
      · rcases isOwn_set oi with ⟨_, _, _, y⟩ | ⟨nj, oi⟩
        · cases y
        · exact nj (G.dis i j a oi ⟨_, _, hs⟩ z rv)
      · exact (G.pr q hq).2.2 j ⟨_, _, hs⟩ (by rw [z]; exact rv)
    · rename_i p hs
      cases e
      obtain ⟨u, h1, h2⟩ := G.slot _ _ hs
      rw [rv] at h1
      cases h1
      exact ⟨G, h2⟩
    · cases e
end
end Eng

set_option maxHeartbeats 4000000
namespace Eng
open PySem PySem.Spec L2
open PyProof.Rows hiding St

section
variable {E : Eng} {Φ : Nat → List PV → CO} {k : Nat} {S : Stc} {X : Cx} {W : WX}

theorem swaps_no {e : Expr} {t : Option Expr} {l : Nat} {env : PySem.Env} (h : noComp e = true) : swapsWith e t l env = pure false := by
  cases e <;> first | rfl | cases h
theorem swaps_tup {e : Expr} {es : List Expr} {n : Nat} {p : Pos} {l : Nat} {env : PySem.Env} : swapsWithSole [.Tuple es n p] e l env = pure false := by
  cases e <;> rfl
theorem swapped_no {es : List Expr} {n : Nat} {p : Pos} {e : Expr} {env : PySem.Env} (h : noTup e = true) : swappedStores [.Tuple es n p] e env = pure none := by
  cases e <;> first | rfl | cases h
theorem mt_asg {i : Nat} {e : IE} {st : Stmt} (m : mtS E S (.asg i e) st = true) : ∃ y py ex pos, st = .Assign [.Name y py] ex pos ∧ S.N[i]? = some y ∧ stB S.so y = true ∧ mtE E S e ex = true := by
  cases st <;> first | (exact absurd m Bool.false_ne_true) | skip
  rename_i ts ex pos
  match ts, m with
  | [], m => exact absurd m Bool.false_ne_true
  | t :: t2 :: ts, m => cases t <;> exact absurd m Bool.false_ne_true
  | [t], m =>
    cases t <;> first | (exact absurd m Bool.false_ne_true) | skip
    rename_i y py
    have m : (decide (S.N[i]? = some y) && stB S.so y && mtE E S e ex) = true := m
    simp only [Bool.and_eq_true, decide_eq_true_eq] at m
    exact ⟨y, py, ex, pos, rfl, m.1.1, m.1.2, m.2⟩
theorem mt_asgT {t : Tg} {e : IE} {st : Stmt} (m : mtS E S (.asgT t e) st = true) : ∃ es n p ex pos, st = .Assign [.Tuple es n p] ex pos ∧ mtT S t (.Tuple es n p) = true ∧ mtE E S e ex = true ∧ noTup ex = true := by
  cases st <;> first | (exact absurd m Bool.false_ne_true) | skip
  rename_i ts ex pos
  match ts, m with
  | [], m => exact absurd m Bool.false_ne_true
  | t1 :: t2 :: ts, m => cases t1 <;> exact absurd m Bool.false_ne_true
  | [t1], m =>
    cases t1 <;> first | (exact absurd m Bool.false_ne_true) | skip
    rename_i es n p
    have m : (mtT S t (.Tuple es n p) && mtE E S e ex && noTup ex) = true := m
    simp only [Bool.and_eq_true] at m
    exact ⟨es, n, p, ex, pos, rfl, m.1.1, m.1.2, m.2⟩

theorem s_expr {e : IE} {ex : Expr} {pos : Pos} (he : PE X ex (tE E Φ X W e)) (hn : noComp ex = true) : PS X (.Expr ex pos) (tS E Φ X W (.expr e)) := by
  refine ⟨fun pins s σ H D I hq => ?_⟩
  obtain ⟨g, ε, Z, G, h⟩ := hq
  exact (ps_expr he (swaps_no hn)).run pins s σ H D I (tE_s G h fun r ε1 Z1 H1 v s1 G1 rv h1 => h1 σ Z1 H1 (.refl _) G1 fun _ _ => rfl)
theorem asg_read {i : Nat} {e : IE} {D : Ends} {σ : St} {H : Hp} (hq : tS E Φ X W (.asg i e) D σ H) : tAsg (tE E Φ X W e) (gName i) D σ H := by
  obtain ⟨g, ε, Z, G, h⟩ := hq
  refine tE_s (A := asgsS (.asg i e)) (D := D) (f := fun r ε1 => match putR i r ε1 with | some ε2 => .nx ε2 | none => .stuck) G h fun r ε1 Z1 H1 v s1 G1 rv h1 => ?_
  split at h1
  · rename_i ε2 ep
    obtain ⟨Z2, s2, G2⟩ := G1.put ep rv
    refine h1 _ Z2 H1 s2 G2 fun j hj => ?_
    have hj : j ∉ [i] := hj
    rw [List.getElem?_set_ne]
    intro z
    exact hj (by simp [z])
  · exact h1.elim
theorem mt_lc {e : IE} {a : Expr} {gs : List Comprehension} {sc : Scope} {p : Pos} (m : mtE E S e (.ListComp a gs sc p) = true) : ∃ elt tg it cond own, e = .cmpr elt tg it cond own := by
  cases e <;> first | (exact absurd m Bool.false_ne_true) | skip
  · rename_i q
    cases q <;> exact absurd m Bool.false_ne_true
  · exact ⟨_, _, _, _, _, rfl⟩
theorem mt_sc {e : IE} {a : Expr} {gs : List Comprehension} {sc : Scope} {p : Pos} : ¬ mtE E S e (.SetComp a gs sc p) = true := fun m => by
  cases e <;> first | (exact absurd m Bool.false_ne_true) | skip
  rename_i q
  cases q <;> exact absurd m Bool.false_ne_true
theorem mt_dc {e : IE} {a b : Expr} {gs : List Comprehension} {sc : Scope} {p : Pos} : ¬ mtE E S e (.DictComp a b gs sc p) = true := fun m => by
  cases e <;> first | (exact absurd m Bool.false_ne_true) | skip
  rename_i q
  cases q <;> exact absurd m Bool.false_ne_true
theorem s_asg (ok : Okx E Φ k S W X) {i : Nat} {e : IE} {y : Str} {py : Pos} {ex : Expr} {pos : Pos} (hy : S.N[i]? = some y) (hst : stB S.so y = true) (m : mtE E S e ex = true) : PS X (.Assign [.Name y py] ex pos) (tS E Φ X W (.asg i e)) := by
  obtain ⟨lo, fn⟩ := ok.st y (stB_of hst)
  have hy' : X.N[i]? = some y := by rw [ok.N]; exact hy
  have hnd : X.N.Nodup := by rw [ok.N]; exact ok.nd
  by_cases hsw : swapsWith ex (some (.Name y py)) pos.line X.env = pure false
  · refine ⟨fun pins s σ H D I hq => ?_⟩
    exact (ps_set hnd hy' lo (soundE e ok m) hsw fn).run pins s σ H D I (asg_read hq)
  · -- a comprehension that is swapped with the name
    cases ex with
    | ListComp eelt gs scope cpos =>
      obtain ⟨elt, tg, it, cond, own, rfl⟩ := mt_lc m
      obtain ⟨eelt', etg, eit, eifs, scope', pos', heq, m1, m2, m3, m4, m5, m6, m7, m8⟩ := mt_cmpr m
      cases heq
      have hb : X.env.blockKind = .function := by unfold Env.blockKind; rw [ok.kind]; rfl
      have key : swapsWith (.ListComp eelt [⟨etg, eit, eifs, 0⟩] scope cpos) (some (.Name y py)) pos.line X.env = pure (X.env.blockKind == .function && X.env.kindOf y == some .local && py.line == cpos.line && !(scope.names.any fun (n, k) => n == y && (k == .local || k == .cell))) := rfl
      rw [key] at hsw
      cases hc : (X.env.blockKind == .function && X.env.kindOf y == some .local && py.line == cpos.line && !(scope.names.any fun (n, k) => n == y && (k == .local || k == .cell))) with
      | false => rw [hc] at hsw; exact absurd rfl hsw
      | true =>
        have hyl : X.env.scope.names.lookup y = some .local := by
          simp only [Bool.and_eq_true] at hc
          exact beq_iff_eq.mp hc.1.1.2
        rw [hc] at key
        refine ⟨fun pins s σ H D I hq => ?_⟩
        refine (s_setLc ok hy hyl key (soundE it ok m2) (noSet_fold m1) (blkOk_by m3) m8 (fun s H C cl fp => s_tg (ok.blk (blkOk_by m3) s H C cl fp) m4) (fun s H C cl fp => soundC cond (ok.blk (blkOk_by m3) s H C cl fp) m5 m7) (fun s H C cl fp => soundE elt (ok.blk (blkOk_by m3) s H C cl fp) m6)).run pins s σ H D I (asg_read hq)
    | SetComp _ _ _ _ => exact absurd m mt_sc
    | DictComp _ _ _ _ _ => exact absurd m mt_dc
    | _ => exact absurd (swaps_no rfl) hsw
theorem s_asgT (ok : Okx E Φ k S W X) {t : Tg} {e : IE} {es : List Expr} {n : Nat} {p : Pos} {ex : Expr} {pos : Pos} (mt : mtT S t (.Tuple es n p) = true) (m : mtE E S e ex = true) (hn : noTup ex = true) : PS X (.Assign [.Tuple es n p] ex pos) (tS E Φ X W (.asgT t e)) := by
  refine ⟨fun pins s σ H D I hq => ?_⟩
  obtain ⟨g, ε, Z, G, h⟩ := hq
  refine (ps_asg (soundE e ok m) (s_tg ok mt) swaps_tup (swapped_no hn)).run pins s σ H D I ?_
  refine tE_s (A := asgsS (.asgT t e)) (D := D) (f := fun r ε1 => match Eng.frz r ε1 with | some (p, ε2) => (match asgT t p ε2 with | some ε3 => .nx ε3 | none => .stuck) | none => .stuck) G h fun r ε1 Z1 H1 v s1 G1 rv h1 => ?_
  split at h1
  · rename_i p ε2 ef
    obtain ⟨Z2, s2, G2, rp⟩ := G1.frz ef rv
    split at h1
    · rename_i ε3 ea
      exact ⟨g, ε2, Z2, p, ε3, G2, rp, ea, fun σ' G' kp => h1 σ' Z2 H1 s2 G' kp⟩
    · exact h1.elim
  · exact h1.elim
theorem s_ret {e : IE} {ex : Expr} {pos : Pos} (he : PE X ex (tE E Φ X W e)) : PS X (.Return (some ex) pos) (tS E Φ X W (.ret e)) := by
  refine ⟨fun pins s σ H D I hq => ?_⟩
  obtain ⟨g, ε, Z, G, h⟩ := hq
  refine (ps_ret he).run pins s σ H D I ?_
  refine tE_s (A := asgsS (.ret e)) (D := D) (f := fun r ε1 => match retR r ε1 with | some (r', ε2) => .rt r' ε2 | none => .stuck) G h fun r ε1 Z1 H1 v s1 G1 rv h1 => ?_
  split at h1
  · rename_i r' ε2 er
    obtain ⟨G2, rv2⟩ := G1.ret er rv
    exact h1 σ v Z1 H1 (.refl _) G2 rv2
  · exact h1.elim
theorem s_retN {pos : Pos} : PS X (.Return none pos) (tS E Φ X W .retN) := by
  refine ⟨fun pins s σ H D I hq => ?_⟩
  obtain ⟨g, ε, Z, G, h⟩ := hq
  exact ps_retN.run pins s σ H D I (h σ .non Z H (.refl _) G .non)
theorem s_if {c : IE} {a b : List IS} {ec : Expr} {ea eb : List Stmt} {pos : Pos} (hc : PT X ec (tT E Φ X W c)) (ha : PSs X ea (tL E Φ X W a)) (hb : PSs X eb (tL E Φ X W b)) : PS X (.If ec ea eb pos) (tS E Φ X W (.ifs c a b)) := by
  refine ⟨fun pins s σ H D I hq => ?_⟩
  obtain ⟨g, ε, Z, G, h⟩ := hq
  refine (ps_if hc ha hb).run pins s σ H D I ?_
  refine tT_s (A := asgsS (.ifs c a b)) (D := D) (f := fun t ε1 => if t = true then exL E Φ a ε1 else exL E Φ b ε1) G h fun t ε1 Z1 H1 s1 G1 h1 => ?_
  cases t with
  | true =>
    rw [if_pos rfl] at h1
    rw [if_pos rfl]
    exact ⟨g, ε1, Z1, G1, h1.from (.refl _) (fun _ _ => rfl) fun j hj => List.mem_append_left _ hj⟩
  | false =>
    rw [if_neg Bool.false_ne_true] at h1
    rw [if_neg Bool.false_ne_true]
    exact ⟨g, ε1, Z1, G1, h1.from (.refl _) (fun _ _ => rfl) fun j hj => List.mem_append_right _ hj⟩
theorem s_raise (ok : OkS E Φ k S W X) {c : Nat} {msg x : Str} {j : Nat} {p p2 p3 pos : Pos} (hx : E.cls[c]? = some x) (hg : glB S.sc x = true) : PS X (.Raise (some (.Call (.Name x p) [.Constant (.str msg) j p2] [] p3)) none pos) (tS E Φ X W (.raise c msg)) := by
  obtain ⟨C, m, F⟩ := ok.ex c x hx
  refine ⟨fun pins s σ H D I hq => ?_⟩
  obtain ⟨g, ε, Z, G, h⟩ := hq
  refine (ps_raise ok.x.calm ok.x.tk (pmk_own PySem.F.excBase_ValueError F.inn m F.kp F.rs (ok.x.gl hg).1 (okN_1 (ok.x.gl hg).2))).run pins s σ H D I ?_
  exact h σ Z H C (.refl _) G (fun _ _ => rfl) ⟨x, hx, m⟩

/-! ### try -/
def tSu (E : Eng) (X : Cx) (W : WX) (suite : List IS) : TS := fun D σ H => ∃ g ε Z, Good X.K g σ ε Z H ∧ SPost E X W g σ Z (asgsL suite) D (suI suite ε)
theorem s_suite (ok : Okx E Φ k S W X) {suite : List IS} {b0 : Stmt} {es : List Stmt} (m : mtSs E S suite (b0 :: es) = true) {W' : WX} (a : Addr) (pn : List (Addr × Obj)) : PSs (X.suite a pn) (b0 :: es) (tSu E X W' suite) := by
  have stuck : (∀ ε, suI suite ε = .stuck) → PSs (X.suite a pn) (b0 :: es) (tSu E X W' suite) := fun h => ⟨fun pins s σ H D I ⟨g, ε, Z, G, q⟩ => by rw [h] at q; exact q.elim⟩
  have hst : ∀ x, stB S.so x = true → Loc X.env.scope x ∧ (X.fn x = true ∨ X.env.scope.names.lookup x = some .local) := fun x hx => ok.st x (stB_of hx)
  have cst : ∀ {p : PV} {ex : Expr}, mtE E S (.cst p) ex = true → ∃ v, PE (X.suite a pn) ex (tC v) ∧ (∀ Z, Rp X.K Z p v) ∧ noComp ex = true := fun {p ex} m => by
    cases p <;> cases ex <;> first | (exact absurd m Bool.false_ne_true) | skip
    all_goals
      rename_i c _ _
      cases c <;> first | (exact absurd m Bool.false_ne_true) | skip
    · exact ⟨_, pe_non, fun _ => .non, rfl⟩
    · rename_i b _ _ c
      have e := beq_iff_eq.mp (show (b == c) = true from m)
      subst e
      exact ⟨_, pe_bl, fun _ => .bl _, rfl⟩
    · rename_i b _ _ c
      have e := beq_iff_eq.mp (show (b == c) = true from m)
      subst e
      exact ⟨_, pe_int, fun _ => .int _, rfl⟩
    · rename_i b _ _ c
      have e := beq_iff_eq.mp (show (b == c) = true from m)
      subst e
      exact ⟨_, pe_str, fun _ => .str _, rfl⟩
  rcases suite with _ | ⟨s1, _ | ⟨s2, t⟩⟩
  · exact stuck fun _ => rfl
  · have m1 : (mtS E S s1 b0 && mtSs E S [] es) = true := m
    simp only [Bool.and_eq_true] at m1
    cases s1 <;> first | (exact stuck fun _ => rfl) | skip
    · cases b0 <;> first | (exact absurd m1.1 Bool.false_ne_true) | skip
      cases es with
      | cons _ _ => exact absurd m1.2 Bool.false_ne_true
      | nil => exact ⟨fun pins s σ H D I ⟨g, ε, Z, G, q⟩ => (pss_one ps_pass).run pins s σ H D I (q σ Z H (.refl _) G fun _ _ => rfl)⟩
    · rename_i i e
      cases e <;> first | (exact stuck fun _ => rfl) | skip
      rename_i p
      obtain ⟨y, py, ex, pos, rfl, h1, h2, h3⟩ := mt_asg m1.1
      obtain ⟨v, pe, rp, hnc⟩ := cst h3
      obtain ⟨lo, fn⟩ := hst y h2
      cases es with
      | cons _ _ => exact absurd m1.2 Bool.false_ne_true
      | nil =>
        refine ⟨fun pins s σ H D I ⟨g, ε, Z, G, q⟩ => ?_⟩
        have hnd : X.N.Nodup := by rw [ok.N]; exact ok.nd
        refine (pss_one (ps_set (X := X.suite a pn) hnd (by rw [← ok.N] at h1; exact h1) lo pe (swaps_no hnc) fn)).run pins s σ H D I ?_
        have q : SPost E X W' g σ Z (asgsL [.asg i (.cst p)]) D (match putR i (.val p) ε with | some ε1 => .nx ε1 | none => .stuck) := q
        split at q
        · rename_i ε1 ep
          obtain ⟨Z2, s2, G2⟩ := G.put ep (v := v) (rp Z)
          refine q _ Z2 H s2 G2 fun j hj => ?_
          have hj : j ∉ [i] ++ [] := hj
          rw [List.getElem?_set_ne]
          intro z
          exact hj (by simp [z])
        · exact q.elim
    · rename_i e
      cases e <;> first | (exact stuck fun _ => rfl) | skip
      rename_i p
      cases b0 <;> first | (exact absurd m1.1 Bool.false_ne_true) | skip
      rename_i o pos
      cases o with
      | none => exact absurd m1.1 Bool.false_ne_true
      | some ex =>
        obtain ⟨v, pe, rp, _⟩ := cst (show mtE E S (.cst p) ex = true from m1.1)
        cases es with
        | cons _ _ => exact absurd m1.2 Bool.false_ne_true
        | nil => exact ⟨fun pins s σ H D I ⟨g, ε, Z, G, q⟩ => (pss_one (ps_ret pe)).run pins s σ H D I (q σ v Z H (.refl _) G (rp Z))⟩
  · exact stuck fun ε => by
      cases s1 <;> first | rfl | (rename_i e; cases e <;> rfl)
theorem s_try (ok : OkS E Φ k S W X) {body suite : List IS} {c : Nat} {ebody esuite : List Stmt} {x : Str} {b0 : Stmt} {np pos pos' : Pos} (hx : E.cls[c]? = some x) (hg : glB S.sc x = true)
    (hb : ∀ (W' : WX) (pn : List (Addr × Obj)) (xe : Value → Shared → Prop), OkS E Φ k S W' (X.tr pn xe) → PSs (X.tr pn xe) ebody (tL E Φ X W' body)) (ms : mtSs E S suite (b0 :: esuite) = true) :
    PS X (.Try ebody [.ExceptHandler (some (.Name x np)) none (b0 :: esuite) pos'] [] [] pos) (tS E Φ X W (.tryx body c suite)) := by
  obtain ⟨C, m, F⟩ := ok.ex c x hx
  have nm : Names X x (.ref C) := ⟨(ok.x.gl hg).1, okN_1 (ok.x.gl hg).2, .inl m⟩
  refine ⟨fun pins s σ H D I hq => ?_⟩
  obtain ⟨g, ε, Z, G, h⟩ := hq
  refine (ps_try_only (tb := fun W' => tL E Φ X W' body) (ts := fun _ _ _ => tSu E X W suite) ok.hs ok.hf nm ok.x.tk (fun W' pn xe tk po => hb W' pn xe ?_) (fun a oe cls d pn _ _ => s_suite ok.x ms a _)).run pins s σ H D I ?_
  · exact ⟨⟨ok.x.calm, ok.x.N, ok.x.sc, ok.x.nd, ok.x.kind, ok.x.st, ok.x.room, tk, ok.x.fn, ok.x.bl, ok.x.ty, ok.x.gb⟩, ok.hs, ok.hf, po, fun c nm h => (by
      obtain ⟨C, m, F⟩ := ok.ex c nm h
      exact ⟨C, m, F.inn, F.kp, F.rs⟩), ok.sb⟩
  · refine ⟨g, ε, Z, G, ?_⟩
    have h : SPost E X W g σ Z (asgsL body ++ asgsL suite) D (match exL E Φ body ε with | .exc c' ε1 => if E.sub c' c then suI suite ε1 else .exc c' ε1 | o => o) := h
    have mono : ∀ {σ' : St}, (∀ j, j ∉ asgsL body → σ'[j]? = σ[j]?) → ∀ j, j ∉ asgsL body ++ asgsL suite → σ'[j]? = σ[j]? := fun q j hj => q j fun z => hj (List.mem_append_left _ z)
    cases he : exL E Φ body ε with
    | stuck => rw [he] at h; exact h.elim
    | nx ε1 => rw [he] at h; exact fun σ' Z' H' s' G' q => h σ' Z' H' s' G' (mono q)
    | bk ε1 => rw [he] at h; exact fun σ' Z' H' s' G' q => h σ' Z' H' s' G' (mono q)
    | ct ε1 => rw [he] at h; exact fun σ' Z' H' s' G' q => h σ' Z' H' s' G' (mono q)
    | rt r ε1 => rw [he] at h; exact fun σ' v Z' H' s' G' q => h σ' v Z' H' s' G' q
    | exc c' ε1 =>
      rw [he] at h
      dsimp only at h
      intro σ' Z' H' C' s' G' q ⟨nm', hc', m'⟩
      refine ⟨E.sub c' c, ok.sb c' c nm' x C' C hc' hx m' m, fun hy a _ => ?_, fun hn => ?_⟩
      · rw [if_pos hy] at h
        exact ⟨g, ε1, Z', G', h.from s' (mono q) fun j hj => List.mem_append_right _ hj⟩
      · rw [hn, if_neg Bool.false_ne_true] at h
        exact h σ' Z' H' C' s' G' (mono q) ⟨nm', hc', m'⟩
end
end Eng

set_option maxHeartbeats 4000000
namespace Eng
open PySem PySem.Spec L2
open PyProof.Rows hiding St

section
variable {E : Eng} {Φ : Nat → List PV → CO} {k : Nat} {S : Stc} {X : Cx} {W : WX}

theorem for_ok {g : Ent} {σ : St} {ε1 : Sg} {Z1 H1 : Hp} {D : Ends} {tg : Tg} {A : List Nat} {body : List IS} {r : Rv} {p0 : PV} {items : List PV} {a : Addr} (hA1 : ∀ j ∈ tgS tg, j ∈ A) (hA2 : ∀ j ∈ asgsL body, j ∈ A)
    (G1 : Good X.K g σ ε1 Z1 H1) (hr : OpdR X.K σ Z1 r (.ref a)) (ep : r.peek ε1 = some p0) (ei : itemsOf p0 = some items) (hw : walkOk r A = true)
    (h : SPost E X W g σ Z1 A D (forI r (fun p ε => asgT tg p ε) (fun ε => exL E Φ body ε) items ε1))
    (J : It) (hstop : ∀ i H xs, ((isTupP p0 = false ∧ SqL X.K H a xs) ∨ (isTupP p0 = true ∧ SqT X.K H a xs)) → xs.length ≤ i → J.stop i H) (hgo : ∀ i H xs x, ((isTupP p0 = false ∧ SqL X.K H a xs) ∨ (isTupP p0 = true ∧ SqT X.K H a xs)) → xs[i]? = some x → J.go i H)
    (hy : ∀ i H xs x H', ((isTupP p0 = false ∧ SqL X.K H a xs) ∨ (isTupP p0 = true ∧ SqT X.K H a xs)) → J.yld i H x H' → H' = H ∧ xs[i]? = some x) :
    ∃ W' : Nat → Nat → St → Hp → Prop, (∃ m, W' 0 m σ H1) ∧ ∀ i m σ H, W' i m σ H →
      (J.stop i H ∧ D.nx σ H) ∨ (J.go i H ∧ ∃ N : St → Hp → Prop, (∀ σ' H', N σ' H' → ∃ m', m' < m ∧ W' (i + 1) m' σ' H') ∧ ∀ x H', J.yld i H x H' → gT X tg x σ H' fun σ2 H2 => tL E Φ X W body { D with nx := N, ct := N, bk := D.nx } σ2 H2) := by
  let Wx : Nat → Nat → St → Hp → Prop := fun i m τ Hc => ∃ ε Z, m = items.length - i ∧ i ≤ items.length ∧ Same Z1 Z ∧ Good X.K g τ ε Z Hc ∧ (∀ j, j ∉ A → τ[j]? = σ[j]?) ∧ r.peek ε = some p0 ∧ OpdR X.K τ Z r (.ref a) ∧
    SPost E X W g σ Z1 A D (forI r (fun p ε => asgT tg p ε) (fun ε => exL E Φ body ε) (items.drop i) ε)
  have hro : ∀ {τ : St} {Z Z' : Hp} {τ' : St}, OpdR X.K τ Z r (.ref a) → Same Z Z' → (∀ j, j ∉ A → τ[j]? = σ[j]?) → (∀ j, j ∉ A → τ'[j]? = σ[j]?) → OpdR X.K τ' Z' r (.ref a) := fun {τ Z Z' τ'} ro s k1 k2 => by
    cases r with
    | val q => exact Rp.mono s ro
    | fresh q => exact ro
    | own i =>
      have hni : i ∉ A := of_decide_eq_true (p := i ∉ A) hw
      have ro : τ[i]? = some (some (V.ref a)) := ro
      show τ'[i]? = _
      rw [k2 i hni, ← k1 i hni]; exact ro
  refine ⟨Wx, ⟨items.length, ε1, Z1, rfl, Nat.zero_le _, .refl _, G1, fun _ _ => rfl, ep, hr, h⟩, ?_⟩
  rintro i m τ Hc ⟨ε, Z, rfl, hi, s1, G, kp, pk, ro, rest⟩
  obtain ⟨a', xs, ea, rx, src⟩ := items_view G.zh ei (G.peek pk ro.rv)
  cases ea
  by_cases hlt : i < items.length
  · right
    have hdrop : items.drop i = items[i] :: items.drop (i + 1) := List.drop_eq_getElem_cons hlt
    obtain ⟨x0, hx0, rp0⟩ := rx.get (List.getElem?_eq_getElem hlt)
    refine ⟨hgo i Hc xs x0 src hx0, Wx (i + 1) (items.length - (i + 1)), fun τ' H' w => ⟨_, by omega, w⟩, fun x H' y => ?_⟩
    obtain ⟨rfl, hx⟩ := hy i _ xs x _ src y
    rw [hx0] at hx
    cases hx
    rw [hdrop] at rest
    unfold forI at rest
    cases ea : asgT tg items[i] ε with
    | none => rw [ea] at rest; exact rest.elim
    | some ε2 =>
      rw [ea] at rest
      dsimp only at rest
      refine ⟨g, ε, Z, items[i], ε2, G, rp0, ea, fun τ2 G2 k2 => ?_⟩
      have kp2 : ∀ j, j ∉ A → τ2[j]? = σ[j]? := fun j hj => (k2 j fun z => hj (hA1 j z)).trans (kp j hj)
      refine ⟨g, ε2, Z, G2, ?_⟩
      have mono : ∀ {τ3 : St}, (∀ j, j ∉ asgsL body → τ3[j]? = τ2[j]?) → ∀ j, j ∉ A → τ3[j]? = σ[j]? := fun {τ3} q j hj => (q j fun z => hj (hA2 j z)).trans (kp2 j hj)
      have next : ∀ {ε3 : Sg} {τ3 : St} {Z3 H3 : Hp}, SPost E X W g σ Z1 A D (if stays r ε ε3 = true then forI r (fun p ε => asgT tg p ε) (fun ε => exL E Φ body ε) (items.drop (i + 1)) ε3 else .stuck) → Same Z Z3 → Good X.K g τ3 ε3 Z3 H3 → (∀ j, j ∉ asgsL body → τ3[j]? = τ2[j]?) → Wx (i + 1) (items.length - (i + 1)) τ3 H3 := fun {ε3 τ3 Z3 H3} hh s3 G3 q => by
        by_cases hst : stays r ε ε3 = true
        · rw [if_pos hst] at hh
          exact ⟨ε3, Z3, rfl, hlt, s1.trans s3, G3, mono q, stays_peek hst pk, hro ro s3 kp (mono q), hh⟩
        · rw [if_neg hst] at hh
          exact hh.elim
      cases he : exL E Φ body ε2 with
      | stuck => rw [he] at rest; exact rest.elim
      | nx ε3 => rw [he] at rest; exact fun τ3 Z3 H3 s3 G3 q => next rest s3 G3 q
      | ct ε3 => rw [he] at rest; exact fun τ3 Z3 H3 s3 G3 q => next rest s3 G3 q
      | bk ε3 => rw [he] at rest; exact fun τ3 Z3 H3 s3 G3 q => rest τ3 Z3 H3 (s1.trans s3) G3 (mono q)
      | rt r3 ε3 => rw [he] at rest; exact fun τ3 v Z3 H3 s3 G3 q => rest τ3 v Z3 H3 (s1.trans s3) G3 q
      | exc c ε3 => rw [he] at rest; exact fun τ3 Z3 H3 C s3 G3 q cl => rest τ3 Z3 H3 C (s1.trans s3) G3 (mono q) cl
  · left
    have e : i = items.length := by omega
    subst e
    rw [List.drop_length] at rest
    have rest : SPost E X W g σ Z1 A D (.nx ε) := rest
    exact ⟨hstop _ Hc xs src (by rw [rx.length]; exact Nat.le_refl _), rest τ Z Hc s1 G kp⟩
theorem s_for (ok : OkS E Φ k S W X) {tg : Tg} {it : IE} {body : List IS} {etg eit : Expr} {ebody : List Stmt} {pos : Pos} (mt : mtT S tg etg = true) (mi : mtE E S it eit = true) (hb : PSs X ebody (tL E Φ X W body)) (hn : noSet eit = true) :
    PS X (.For etg eit ebody [] pos) (tS E Φ X W (.for_ tg it body)) := by
  refine ⟨fun pins s σ H D I hq => ?_⟩
  obtain ⟨g, ε, Z, G, h⟩ := hq
  have h : SPost E X W g σ Z (asgsS (.for_ tg it body)) D (match evE E Φ it ε with
    | .ok r ε1 => match (r.opd.peek ε1).bind itemsOf with
      | some ps => if walkOk r.opd (asgsS (.for_ tg it body)) = true then forI r.opd (fun p ε => asgT tg p ε) (fun ε => exL E Φ body ε) ps ε1 else .stuck
      | none => .stuck
    | .exc c ε1 => .exc c ε1
    | .stuck => .stuck) := h
  have hA1 : ∀ j ∈ tgS tg, j ∈ asgsS (.for_ tg it body) := fun j hj => List.mem_append_left _ hj
  have hA2 : ∀ j ∈ asgsL body, j ∈ asgsS (.for_ tg it body) := fun j hj => List.mem_append_right _ hj
  cases hev : evE E Φ it ε with
  | stuck => rw [hev] at h; exact h.elim
  | exc c ε1 =>
    rw [hev] at h
    refine (ps_for ok.po ok.x.calm (pi_list (soundE it ok.x mi)) (s_tg ok.x mt) hb (noSet_fold hn)).run pins s σ H D I ⟨g, ε, Z, G, ?_⟩
    rw [hev]
    exact fun Z1 H1 C s1 G1 cl => h σ Z1 H1 C s1 G1 (fun _ _ => rfl) cl
  | ok r ε1 =>
    rw [hev] at h
    dsimp only at h
    cases ep : r.opd.peek ε1 with
    | none => rw [ep] at h; exact h.elim
    | some p0 =>
      rw [ep] at h
      have h : SPost E X W g σ Z (asgsS (.for_ tg it body)) D (match itemsOf p0 with
        | some ps => if walkOk r.opd (asgsS (.for_ tg it body)) = true then forI r.opd (fun p ε => asgT tg p ε) (fun ε => exL E Φ body ε) ps ε1 else .stuck
        | none => .stuck) := h
      cases ei : itemsOf p0 with
      | none => rw [ei] at h; exact h.elim
      | some items =>
        rw [ei] at h
        dsimp only at h
        by_cases hw : walkOk r.opd (asgsS (.for_ tg it body)) = true
        · rw [if_pos hw] at h
          have hF : SPost E X W g σ Z (asgsS (.for_ tg it body)) D (forI r.opd (fun p ε => asgT tg p ε) (fun ε => exL E Φ body ε) items ε1) := h
          clear h
          cases p0 <;> first | (cases ei; done) | skip
          · rename_i l
            refine (ps_for ok.po ok.x.calm (pi_tup (soundE it ok.x mi)) (s_tg ok.x mt) hb (noSet_fold hn)).run pins s σ H D I ⟨g, ε, Z, G, ?_⟩
            rw [hev]
            intro Z1 H1 s1 G1 v rv
            obtain ⟨Z2, s2, G2, ro⟩ := G1.opd rv
            obtain ⟨a, vs, rfl, h4, h5⟩ := (G2.peek ep ro.rv).tup G2.zh
            refine ⟨a, rfl, ⟨vs, h4⟩, ?_⟩
            refine for_ok hA1 hA2 G2 ro ep ei hw (hF.from (s1.trans s2) (fun _ _ => rfl) fun _ z => z) (Itt X.K a) (fun i H xs src hl => ?_) (fun i H xs x src hx => ?_) (fun i H xs x H' src y => ?_)
            · rcases src with ⟨z, _⟩ | ⟨_, z⟩
              · cases z
              · exact ⟨xs, z, hl⟩
            · rcases src with ⟨z, _⟩ | ⟨_, z⟩
              · cases z
              · exact ⟨xs, x, z, hx⟩
            · rcases src with ⟨z, _⟩ | ⟨_, z⟩
              · cases z
              · exact ⟨y.1, y.2 xs z⟩
          · rename_i l
            refine (ps_for ok.po ok.x.calm (pi_list (soundE it ok.x mi)) (s_tg ok.x mt) hb (noSet_fold hn)).run pins s σ H D I ⟨g, ε, Z, G, ?_⟩
            rw [hev]
            intro Z1 H1 s1 G1 v rv
            obtain ⟨Z2, s2, G2, ro⟩ := G1.opd rv
            obtain ⟨a, vs, rfl, h4, h5⟩ := (G2.peek ep ro.rv).lst G2.zh
            refine ⟨a, rfl, ⟨vs, .inl h4⟩, ?_⟩
            refine for_ok hA1 hA2 G2 ro ep ei hw (hF.from (s1.trans s2) (fun _ _ => rfl) fun _ z => z) (Itl X.K a) (fun i H xs src hl => ?_) (fun i H xs x src hx => ?_) (fun i H xs x H' src y => ?_)
            · rcases src with ⟨_, z⟩ | ⟨z, _⟩
              · exact ⟨xs, z, hl⟩
              · cases z
            · rcases src with ⟨_, z⟩ | ⟨z, _⟩
              · exact ⟨xs, x, z, hx⟩
              · cases z
            · rcases src with ⟨_, z⟩ | ⟨z, _⟩
              · exact ⟨y.1, y.2 xs z⟩
              · cases z
          · rename_i l
            refine (ps_for ok.po ok.x.calm (pi_list (soundE it ok.x mi)) (s_tg ok.x mt) hb (noSet_fold hn)).run pins s σ H D I ⟨g, ε, Z, G, ?_⟩
            rw [hev]
            intro Z1 H1 s1 G1 v rv
            obtain ⟨Z2, s2, G2, ro⟩ := G1.opd rv
            obtain ⟨a, vs, rfl, h4, h5⟩ := (G2.peek ep ro.rv).scr G2.zh
            refine ⟨a, rfl, ⟨vs, h4⟩, ?_⟩
            refine for_ok hA1 hA2 G2 ro ep ei hw (hF.from (s1.trans s2) (fun _ _ => rfl) fun _ z => z) (Itl X.K a) (fun i H xs src hl => ?_) (fun i H xs x src hx => ?_) (fun i H xs x H' src y => ?_)
            · rcases src with ⟨_, z⟩ | ⟨z, _⟩
              · exact ⟨xs, z, hl⟩
              · cases z
            · rcases src with ⟨_, z⟩ | ⟨z, _⟩
              · exact ⟨xs, x, z, hx⟩
              · cases z
            · rcases src with ⟨_, z⟩ | ⟨z, _⟩
              · exact ⟨y.1, y.2 xs z⟩
              · cases z
        · rw [if_neg hw] at h
          exact h.elim
theorem s_whl (ok : OkS E Φ k S W X) {c : IE} {body : List IS} {ec : Expr} {ebody : List Stmt} {pos : Pos} (mc : mtE E S c ec = true) (hb : PSs X ebody (tL E Φ X W body)) : PS X (.While ec ebody [] pos) (tS E Φ X W (.whl c body)) := by
  refine ⟨fun pins s σ H D I hq => ?_⟩
  obtain ⟨g, ε, Z, G, h⟩ := hq
  have h : SPost E X W g σ Z (asgsL body) D (whlI (fun ε => evT E Φ c ε) (fun ε => exL E Φ body ε) whlN ε) := h
  refine (ps_while ok.po (soundT c ok.x mc) hb).run pins s σ H D I ⟨fun n τ Hc => ∃ ε Zc, Same Z Zc ∧ Good X.K g τ ε Zc Hc ∧ (∀ j, j ∉ asgsL body → τ[j]? = σ[j]?) ∧ SPost E X W g σ Z (asgsL body) D (whlI (fun ε => evT E Φ c ε) (fun ε => exL E Φ body ε) n ε), ⟨whlN, ε, Z, .refl _, G, fun _ _ => rfl, h⟩, ?_⟩
  rintro n τ Hc ⟨ε, Zc, s1, G, kp, rest⟩
  cases n with
  | zero => exact rest.elim
  | succ n =>
    unfold whlI at rest
    refine ⟨g, ε, Zc, G, ?_⟩
    have mono : ∀ {τ3 : St}, (∀ j, j ∉ asgsL body → τ3[j]? = τ[j]?) → ∀ j, j ∉ asgsL body → τ3[j]? = σ[j]? := fun {τ3} q j hj => (q j hj).trans (kp j hj)
    cases hc : evT E Φ c ε with
    | stuck => rw [hc] at rest; exact rest.elim
    | exc c' ε1 =>
      rw [hc] at rest
      exact fun Z1 H1 C s2 G1 cl => rest τ Z1 H1 C (s1.trans s2) G1 kp cl
    | ok t ε1 =>
      rw [hc] at rest
      intro Z1 H1 s2 G1
      cases t with
      | false =>
        show D.nx τ H1
        exact rest τ Z1 H1 (s1.trans s2) G1 kp
      | true =>
        show ∃ N : St → Hp → Prop, _ ∧ tL E Φ X W body _ τ H1
        dsimp only at rest
        refine ⟨fun τ' H' => ∃ ε Zc, Same Z Zc ∧ Good X.K g τ' ε Zc H' ∧ (∀ j, j ∉ asgsL body → τ'[j]? = σ[j]?) ∧ SPost E X W g σ Z (asgsL body) D (whlI (fun ε => evT E Φ c ε) (fun ε => exL E Φ body ε) n ε), fun τ' H' w => ⟨n, Nat.lt_succ_self n, w⟩, g, ε1, Z1, G1, ?_⟩
        cases he : exL E Φ body ε1 with
        | stuck => rw [he] at rest; exact rest.elim
        | nx ε3 => rw [he] at rest; exact fun τ3 Z3 H3 s3 G3 q => ⟨ε3, Z3, (s1.trans s2).trans s3, G3, mono q, rest⟩
        | ct ε3 => rw [he] at rest; exact fun τ3 Z3 H3 s3 G3 q => ⟨ε3, Z3, (s1.trans s2).trans s3, G3, mono q, rest⟩
        | bk ε3 => rw [he] at rest; exact fun τ3 Z3 H3 s3 G3 q => rest τ3 Z3 H3 ((s1.trans s2).trans s3) G3 (mono q)
        | rt r3 ε3 => rw [he] at rest; exact fun τ3 v Z3 H3 s3 G3 q => rest τ3 v Z3 H3 ((s1.trans s2).trans s3) G3 q
        | exc c ε3 => rw [he] at rest; exact fun τ3 Z3 H3 C s3 G3 q cl => rest τ3 Z3 H3 C ((s1.trans s2).trans s3) G3 (mono q) cl

theorem s_nilS : PSs X [] (tL E Φ X W []) := by
  refine ⟨fun pins s σ H D I hq => ?_⟩
  obtain ⟨g, ε, Z, G, h⟩ := hq
  exact pss_nil.run pins s σ H D I (h σ Z H (.refl _) G fun _ _ => rfl)
theorem s_consS {s0 : IS} {l : List IS} {st : Stmt} {sts : List Stmt} (h1 : PS X st (tS E Φ X W s0)) (h2 : PSs X sts (tL E Φ X W l)) : PSs X (st :: sts) (tL E Φ X W (s0 :: l)) := by
  refine ⟨fun pins s σ H D I hq => ?_⟩
  obtain ⟨g, ε, Z, G, h⟩ := hq
  refine (pss_cons h1 h2).run pins s σ H D I ⟨g, ε, Z, G, ?_⟩
  have h : SPost E X W g σ Z (asgsS s0 ++ asgsL l) D ((exS E Φ s0 ε).seq fun ε1 => exL E Φ l ε1) := h
  have mono : ∀ {τ3 : St}, (∀ j, j ∉ asgsS s0 → τ3[j]? = σ[j]?) → ∀ j, j ∉ asgsS s0 ++ asgsL l → τ3[j]? = σ[j]? := fun {τ3} q j hj => q j fun z => hj (List.mem_append_left _ z)
  cases he : exS E Φ s0 ε with
  | stuck => rw [he] at h; exact h.elim
  | nx ε1 =>
    rw [he] at h
    have h : SPost E X W g σ Z (asgsS s0 ++ asgsL l) D (exL E Φ l ε1) := h
    exact fun τ Z1 H1 s1 G1 q => ⟨g, ε1, Z1, G1, h.from s1 (mono q) fun j hj => List.mem_append_right _ hj⟩
  | ct ε3 => rw [he] at h; exact fun τ3 Z3 H3 s3 G3 q => h τ3 Z3 H3 s3 G3 (mono q)
  | bk ε3 => rw [he] at h; exact fun τ3 Z3 H3 s3 G3 q => h τ3 Z3 H3 s3 G3 (mono q)
  | rt r3 ε3 => rw [he] at h; exact fun τ3 v Z3 H3 s3 G3 q => h τ3 v Z3 H3 s3 G3 q
  | exc c ε3 => rw [he] at h; exact fun τ3 Z3 H3 C s3 G3 q cl => h τ3 Z3 H3 C s3 G3 (mono q) cl
end
section
variable {E : Eng} {S : Stc} {st : Stmt}
theorem mt_raise {c : Nat} {msg : Str} (m : mtS E S (.raise c msg) st = true) : ∃ x j p p2 p3 pos, st = .Raise (some (.Call (.Name x p) [.Constant (.str msg) j p2] [] p3)) none pos ∧ E.cls[c]? = some x ∧ glB S.sc x = true := by
  cases st <;> first | (exact absurd m Bool.false_ne_true) | skip
  rename_i o o2 pos
  cases o with
  | none => exact absurd m Bool.false_ne_true
  | some ex =>
    cases ex <;> first | (exact absurd m Bool.false_ne_true) | skip
    rename_i fn es ks p3
    cases fn <;> first | (exact absurd m Bool.false_ne_true) | skip
    rename_i x p
    match es, m with
    | [], m => exact absurd m Bool.false_ne_true
    | e :: e2 :: es, m =>
      cases e <;> first | (exact absurd m Bool.false_ne_true) | skip
      rename_i cc _ _
      cases cc <;> exact absurd m Bool.false_ne_true
    | [e], m =>
      cases e <;> first | (exact absurd m Bool.false_ne_true) | skip
      rename_i cc j p2
      cases cc <;> first | (exact absurd m Bool.false_ne_true) | skip
      rename_i m0
      cases ks with
      | cons _ _ => exact absurd m Bool.false_ne_true
      | nil =>
        cases o2 with
        | some _ => exact absurd m Bool.false_ne_true
        | none =>
          have m : (decide (E.cls[c]? = some x) && decide (m0 = msg) && glB S.sc x) = true := m
          simp only [Bool.and_eq_true, decide_eq_true_eq] at m
          obtain ⟨⟨h1, h2⟩, h3⟩ := m
          subst h2
          exact ⟨x, j, p, p2, p3, pos, rfl, h1, h3⟩
theorem mt_try {body suite : List IS} {c : Nat} (m : mtS E S (.tryx body c suite) st = true) : ∃ ebody x np b0 esuite pos' pos, st = .Try ebody [.ExceptHandler (some (.Name x np)) none (b0 :: esuite) pos'] [] [] pos ∧ mtSs E S body ebody = true ∧ E.cls[c]? = some x ∧ glB S.sc x = true ∧ mtSs E S suite (b0 :: esuite) = true := by
  cases st <;> first | (exact absurd m Bool.false_ne_true) | skip
  rename_i ebody hs oe fb pos
  match hs, m with
  | [], m => exact absurd m Bool.false_ne_true
  | ⟨ty, nm, es, p⟩ :: h2 :: hs, m =>
    cases ty with
    | none => exact absurd m Bool.false_ne_true
    | some t =>
      cases t <;> first | (exact absurd m Bool.false_ne_true) | skip
      cases nm <;> exact absurd m Bool.false_ne_true
  | [⟨ty, nm, es, p⟩], m =>
    cases ty with
    | none => exact absurd m Bool.false_ne_true
    | some t =>
      cases t <;> first | (exact absurd m Bool.false_ne_true) | skip
      rename_i x np
      cases nm with
      | some _ => exact absurd m Bool.false_ne_true
      | none =>
        cases oe with
        | cons _ _ => exact absurd m Bool.false_ne_true
        | nil =>
          cases fb with
          | cons _ _ => exact absurd m Bool.false_ne_true
          | nil =>
            have m : (mtSs E S body ebody && decide (E.cls[c]? = some x) && glB S.sc x && mtSs E S suite es && !es.isEmpty) = true := m
            simp only [Bool.and_eq_true, decide_eq_true_eq] at m
            obtain ⟨⟨⟨⟨h1, h2⟩, h3⟩, h4⟩, h5⟩ := m
            cases es with
            | nil => exact absurd h5 (by decide)
            | cons b0 es => exact ⟨_, _, _, _, _, _, _, rfl, h1, h2, h3, h4⟩
theorem mt_for {tg : Tg} {it : IE} {body : List IS} (m : mtS E S (.for_ tg it body) st = true) : ∃ etg eit ebody pos, st = .For etg eit ebody [] pos ∧ mtT S tg etg = true ∧ mtE E S it eit = true ∧ mtSs E S body ebody = true ∧ noSet eit = true := by
  cases st <;> first | (exact absurd m Bool.false_ne_true) | skip
  rename_i etg eit ebody oe pos
  cases oe with
  | cons _ _ => exact absurd m Bool.false_ne_true
  | nil =>
    have m : (mtT S tg etg && mtE E S it eit && mtSs E S body ebody && noSet eit) = true := m
    simp only [Bool.and_eq_true] at m
    exact ⟨_, _, _, _, rfl, m.1.1.1, m.1.1.2, m.1.2, m.2⟩
theorem mt_whl {c : IE} {body : List IS} (m : mtS E S (.whl c body) st = true) : ∃ ec ebody pos, st = .While ec ebody [] pos ∧ mtE E S c ec = true ∧ mtSs E S body ebody = true := by
  cases st <;> first | (exact absurd m Bool.false_ne_true) | skip
  rename_i ec ebody oe pos
  cases oe with
  | cons _ _ => exact absurd m Bool.false_ne_true
  | nil =>
    have m : (mtE E S c ec && mtSs E S body ebody) = true := m
    simp only [Bool.and_eq_true] at m
    exact ⟨_, _, _, rfl, m.1, m.2⟩
end
section
variable {E : Eng} {Φ : Nat → List PV → CO} {k : Nat}
mutual
theorem soundS : (s : IS) → ∀ {S : Stc} {X : Cx} {W : WX} {st : Stmt}, OkS E Φ k S W X → mtS E S s st = true → PS X st (tS E Φ X W s)
  | .pass, S, X, W, st, ok, m => by
    cases st <;> first | (exact absurd m Bool.false_ne_true) | skip
    exact ⟨fun pins s σ H D I ⟨g, ε, Z, G, h⟩ => ps_pass.run pins s σ H D I (h σ Z H (.refl _) G fun _ _ => rfl)⟩
  | .brk, S, X, W, st, ok, m => by
    cases st <;> first | (exact absurd m Bool.false_ne_true) | skip
    exact ⟨fun pins s σ H D I ⟨g, ε, Z, G, h⟩ => ps_break.run pins s σ H D I (h σ Z H (.refl _) G fun _ _ => rfl)⟩
  | .cont, S, X, W, st, ok, m => by
    cases st <;> first | (exact absurd m Bool.false_ne_true) | skip
    exact ⟨fun pins s σ H D I ⟨g, ε, Z, G, h⟩ => ps_continue.run pins s σ H D I (h σ Z H (.refl _) G fun _ _ => rfl)⟩
  | .expr e, S, X, W, st, ok, m => by
    cases st <;> first | (exact absurd m Bool.false_ne_true) | skip
    rename_i ex pos
    have m : (mtE E S e ex && noComp ex) = true := m
    simp only [Bool.and_eq_true] at m
    exact s_expr (soundE e ok.x m.1) m.2
  | .asg i e, S, X, W, st, ok, m => by
    obtain ⟨y, py, ex, pos, rfl, h1, h2, h3⟩ := mt_asg m
    exact s_asg ok.x h1 h2 h3
  | .asgT t e, S, X, W, st, ok, m => by
    obtain ⟨es, n, p, ex, pos, rfl, h1, h2, h3⟩ := mt_asgT m
    exact s_asgT ok.x h1 h2 h3
  | .ret e, S, X, W, st, ok, m => by
    cases st <;> first | (exact absurd m Bool.false_ne_true) | skip
    rename_i o pos
    cases o with
    | none => exact absurd m Bool.false_ne_true
    | some ex => exact s_ret (soundE e ok.x m)
  | .retN, S, X, W, st, ok, m => by
    cases st <;> first | (exact absurd m Bool.false_ne_true) | skip
    rename_i o pos
    cases o with
    | none => exact s_retN
    | some ex => exact absurd m Bool.false_ne_true
  | .ifs c a b, S, X, W, st, ok, m => by
    cases st <;> first | (exact absurd m Bool.false_ne_true) | skip
    rename_i ec ea eb pos
    have m : (mtE E S c ec && mtSs E S a ea && mtSs E S b eb) = true := m
    simp only [Bool.and_eq_true] at m
    exact s_if (soundT c ok.x m.1.1) (soundL a ok m.1.2) (soundL b ok m.2)
  | .raise c msg, S, X, W, st, ok, m => by
    obtain ⟨x, j, p, p2, p3, pos, rfl, h1, h2⟩ := mt_raise m
    exact s_raise ok h1 h2
  | .tryx body c suite, S, X, W, st, ok, m => by
    obtain ⟨ebody, x, np, b0, esuite, pos', pos, rfl, h1, h2, h3, h4⟩ := mt_try m
    exact s_try ok h2 h3 (fun W' pn xe ok' => soundL body ok' h1) h4
  | .for_ tg it body, S, X, W, st, ok, m => by
    obtain ⟨etg, eit, ebody, pos, rfl, h1, h2, h3, h4⟩ := mt_for m
    exact s_for ok h1 h2 (soundL body ok h3) h4
  | .whl c body, S, X, W, st, ok, m => by
    obtain ⟨ec, ebody, pos, rfl, h1, h2⟩ := mt_whl m
    exact s_whl ok h1 (soundL body ok h2)
theorem soundL : (l : List IS) → ∀ {S : Stc} {X : Cx} {W : WX} {sts : List Stmt}, OkS E Φ k S W X → mtSs E S l sts = true → PSs X sts (tL E Φ X W l)
  | [], S, X, W, sts, ok, m => by
    cases sts with
    | nil => exact s_nilS
    | cons _ _ => exact absurd m Bool.false_ne_true
  | s :: l, S, X, W, sts, ok, m => by
    cases sts with
    | nil => exact absurd m Bool.false_ne_true
    | cons st sts =>
      have m : (mtS E S s st && mtSs E S l sts) = true := m
      simp only [Bool.and_eq_true] at m
      exact s_consS (soundS s ok m.1) (soundL l ok m.2)
end
end
end Eng

set_option maxHeartbeats 4000000
namespace Eng
open PySem PySem.Spec L2
open PyProof.Rows hiding St

/-! ### a def's body -/
def ioL : List Bool → List Addr → Nat → List (Nat × Addr)
  | true :: ms, a :: as, i => (i, a) :: ioL ms as (i + 1)
  | false :: ms, as, i => ioL ms as (i + 1)
  | _, _, _ => []
section
variable {K : Fg} {Z H : Hp}
theorem ioL_snd : ∀ {ms : List Bool} {ps : List PV} {vs : List V} {as : List Addr} {i : Nat}, ArgR K Z H ms ps vs as → (ioL ms as i).map (·.2) = as
  | [], [], [], [], _, _ => rfl
  | [], [], [], _ :: _, _, h => h.elim
  | [], [], _ :: _, _, _, h => h.elim
  | [], _ :: _, _, _, _, h => h.elim
  | true :: _, [], _, _, _, h => h.elim
  | true :: _, _ :: _, [], _, _, h => h.elim
  | true :: _, _ :: _, _ :: _, [], _, h => h.elim
  | true :: ms, p :: ps, v :: vs, a :: as, i, h => by
    show a :: (ioL ms as (i + 1)).map (·.2) = _
    rw [ioL_snd h.2.2.2]
  | false :: _, [], _, _, _, h => h.elim
  | false :: _, _ :: _, [], _, _, h => h.elim
  | false :: ms, p :: ps, v :: vs, as, i, h => ioL_snd (ms := ms) (i := i + 1) h.2
theorem startS_len : ∀ {ms : List Bool} {ps : List PV}, ms.length = ps.length → (startS ms ps).length = ps.length
  | [], [], _ => rfl
  | [], _ :: _, h => by simp at h
  | _ :: _, [], h => by simp at h
  | true :: ms, p :: ps, h => by simp [startS, startS_len (ms := ms) (ps := ps) (by simpa using h)]
  | false :: ms, p :: ps, h => by simp [startS, startS_len (ms := ms) (ps := ps) (by simpa using h)]
/-- the slots of the parameters -/
theorem startS_get : ∀ {ms : List Bool} {ps : List PV} {vs : List V} {as : List Addr} {n i : Nat} {s : Slot}, ArgR K Z H ms ps vs as → (startS ms ps)[i]? = some s →
    ∃ v, vs[i]? = some v ∧ ((∃ p, s = .val p ∧ Rp K Z p v) ∨ ∃ p a, s = .own false p ∧ v = .ref a ∧ Z a = none ∧ OwnR K Z H a p ∧ (n + i, a) ∈ ioL ms as n)
  | [], [], [], [], _, _, _, _, e => by simp [startS] at e
  | [], [], [], _ :: _, _, _, _, h, _ => h.elim
  | [], [], _ :: _, _, _, _, _, h, _ => h.elim
  | [], _ :: _, _, _, _, _, _, h, _ => h.elim
  | true :: _, [], _, _, _, _, _, h, _ => h.elim
  | true :: _, _ :: _, [], _, _, _, _, h, _ => h.elim
  | true :: _, _ :: _, _ :: _, [], _, _, _, h, _ => h.elim
  | true :: ms, p :: ps, v :: vs, a :: as, n, 0, s, h, e => by
    have e : s = .own false p := by
      have : some (Slot.own false p) = some s := e
      exact (Option.some.inj this).symm
    subst e
    exact ⟨v, rfl, .inr ⟨p, a, rfl, h.1, h.2.1, h.2.2.1, List.mem_cons_self⟩⟩
  | true :: ms, p :: ps, v :: vs, a :: as, n, i + 1, s, h, e => by
    have e : (startS ms ps)[i]? = some s := by simpa [startS] using e
    obtain ⟨w, h1, h2⟩ := startS_get (n := n + 1) h.2.2.2 e
    refine ⟨w, by simpa using h1, ?_⟩
    rcases h2 with h2 | ⟨q, b, q1, q2, q3, q4, q5⟩
    · exact .inl h2
    · refine .inr ⟨q, b, q1, q2, q3, q4, List.mem_cons_of_mem _ ?_⟩
      have : n + (i + 1) = n + 1 + i := by omega
      rw [this]; exact q5
  | false :: _, [], _, _, _, _, _, h, _ => h.elim
  | false :: _, _ :: _, [], _, _, _, _, h, _ => h.elim
  | false :: ms, p :: ps, v :: vs, as, n, 0, s, h, e => by
    have e : s = .val p := by
      have : some (Slot.val p) = some s := e
      exact (Option.some.inj this).symm
    subst e
    exact ⟨v, rfl, .inl ⟨p, rfl, h.1⟩⟩
  | false :: ms, p :: ps, v :: vs, as, n, i + 1, s, h, e => by
    have e : (startS ms ps)[i]? = some s := by simpa [startS] using e
    obtain ⟨w, h1, h2⟩ := startS_get (n := n + 1) (as := as) h.2 e
    refine ⟨w, by simpa using h1, ?_⟩
    rcases h2 with h2 | ⟨q, b, q1, q2, q3, q4, q5⟩
    · exact .inl h2
    · refine .inr ⟨q, b, q1, q2, q3, q4, ?_⟩
      have : n + (i + 1) = n + 1 + i := by omega
      rw [this]; exact q5
theorem ioL_get : ∀ {ms : List Bool} {ps : List PV} {vs : List V} {as : List Addr} {n j : Nat} {a : Addr}, ArgR K Z H ms ps vs as → (j, a) ∈ ioL ms as n → ∃ i p, j = n + i ∧ vs[i]? = some (.ref a) ∧ (startS ms ps)[i]? = some (.own false p)
  | [], [], [], [], _, _, _, _, m => by simp [ioL] at m
  | [], [], [], _ :: _, _, _, _, h, _ => h.elim
  | [], [], _ :: _, _, _, _, _, h, _ => h.elim
  | [], _ :: _, _, _, _, _, _, h, _ => h.elim
  | true :: _, [], _, _, _, _, _, h, _ => h.elim
  | true :: _, _ :: _, [], _, _, _, _, h, _ => h.elim
  | true :: _, _ :: _, _ :: _, [], _, _, _, h, _ => h.elim
  | true :: ms, p :: ps, v :: vs, a :: as, n, j, b, h, m => by
    rcases List.mem_cons.mp (show (j, b) ∈ (n, a) :: ioL ms as (n + 1) from m) with e | m
    · cases e
      exact ⟨0, p, rfl, by rw [h.1]; rfl, rfl⟩
    · obtain ⟨i, q, e, h1, h2⟩ := ioL_get h.2.2.2 m
      exact ⟨i + 1, q, by omega, by simpa using h1, by simpa [startS] using h2⟩
  | false :: _, [], _, _, _, _, _, h, _ => h.elim
  | false :: _, _ :: _, [], _, _, _, _, h, _ => h.elim
  | false :: ms, p :: ps, v :: vs, as, n, j, b, h, m => by
    obtain ⟨i, q, e, h1, h2⟩ := ioL_get (ms := ms) (as := as) (n := n + 1) h.2 m
    exact ⟨i + 1, q, by omega, by simpa using h1, by simpa [startS] using h2⟩
/-- what lies at the parameters that are changed, at the end -/
theorem outs_ok {g : Ent} {σ : St} {ε : Sg} {Z' H' : Hp} : ∀ {ms : List Bool} {as : List Addr} {n : Nat} {os : List PV}, Good K g σ ε Z' H' → (∀ q ∈ ioL ms as n, q ∈ g.io) → ms.countP id = as.length → outsS ms n ε = some os → Paired (fun a p => OwnR K Z' H' a p) as os
  | [], [], _, os, _, _, _, e => by cases e; exact .nil
  | [], _ :: _, _, _, _, _, c, _ => by simp at c
  | true :: ms, [], _, _, _, _, c, _ => by simp at c
  | true :: ms, a :: as, n, os, G, hm, c, e => by
    unfold outsS at e
    split at e
    · rename_i kk p ps e1 e2
      cases e
      obtain ⟨h1, p', h2⟩ := G.io n a (hm _ List.mem_cons_self)
      rw [e1] at h2
      cases h2
      obtain ⟨b, h3, _, h4, _⟩ := G.slot _ _ e1
      rw [h1] at h3
      cases h3
      exact .cons h4 (outs_ok G (fun q hq => hm q (List.mem_cons_of_mem _ hq)) (by simpa using c) e2)
    · cases e
  | false :: ms, as, n, os, G, hm, c, e => outs_ok (ms := ms) (n := n + 1) G hm (by simpa using c) e
theorem argR_count : ∀ {ms : List Bool} {ps : List PV} {vs : List V} {as : List Addr}, ArgR K Z H ms ps vs as → ms.countP id = as.length
  | [], [], [], [], _ => rfl
  | [], [], [], _ :: _, h => h.elim
  | [], [], _ :: _, _, h => h.elim
  | [], _ :: _, _, _, h => h.elim
  | true :: _, [], _, _, h => h.elim
  | true :: _, _ :: _, [], _, h => h.elim
  | true :: _, _ :: _, _ :: _, [], h => h.elim
  | true :: ms, p :: ps, v :: vs, a :: as, h => by
    have := argR_count h.2.2.2
    simp [this]
  | false :: _, [], _, _, h => h.elim
  | false :: _, _ :: _, [], _, h => h.elim
  | false :: ms, p :: ps, v :: vs, as, h => by
    have := argR_count (ms := ms) h.2
    simp [this]
end

/-- a def of the text, with what is known of it -/
structure FnF (E : Eng) (K : Fg) (mg : Str → Option Value) (fi : FnI) : Prop where
  ex : ∃ (qual : Str) (params : Arguments) (body : List Stmt) (scope : Scope) (N ps : List Str) (fa : Addr) (fd : FuncData) (dvs : List V) (dv : List Value),
    FunD K fi.name qual params body scope dvs [] fa fd ∧ mg fi.name = some (.ref fa) ∧ FnScope N ps scope ∧ N.length = fi.nsl ∧ ps.length = fi.np ∧ mtSs E ⟨N, scope, scope⟩ fi.body body = true ∧
      Binds K fd ps [] ∧ Binds K fd ps dv ∧ Vals dvs dv ∧ ∀ Z, RpL K Z fi.dfl dvs
/-- the program behind its top -/
structure PF (E : Eng) (K : Fg) (mg : Str → Option Value) : Prop where
  fn : ∀ (f : Nat) (fi : FnI), E.fns[f]? = some fi → FnF E K mg fi
  bl : ∀ b ∈ E.blts, if bltG b = true then mg (bltN b) = some (bltV b) else mg (bltN b) = none
  ty : ∀ t ∈ E.tys, mg (Str.ofString t) = none ∧ bootBuiltins (Str.ofString t) = some (.type t) ∧ mg "isinstance" = none
  gb : ∀ x p, E.glb.lookup x = some p → ∃ u v, mg x = some u ∧ RelV v u ∧ ∀ Z, Rp K Z p v
  ex : ∀ (c : Nat) (nm : Str), E.cls[c]? = some nm → ∃ C, mg nm = some (.ref C) ∧ PySem.W.excIn K C HandSPX.veTail "ValueError.__new__" = true ∧ PySem.W.keepIn K (.ref C) = true ∧ PySem.W.subIn K (.ref C) (.type "BaseException") = some true ∧ PySem.W.typeIn K (.ref C) = some (.type "type")
  sb : ∀ (c d : Nat) (nc nd : Str) (C D : Addr), E.cls[c]? = some nc → E.cls[d]? = some nd → mg nc = some (.ref C) → mg nd = some (.ref D) → PySem.W.exmOne K (.ref C) (.ref D) = some (E.sub c d)

section
variable {E : Eng} {P : Program} {w : World} {K : Fg} {mg : Str → Option Value} {base : Heap}
theorem fn_zero {f : Nat} {fi : FnI} {fa : Addr} {fd : FuncData} {ps : List Str} : FnOk P w K mg base (L2.CX P w) 0 fa fd ps (spF E (callF E 0) mg K fi f) :=
  ⟨fun vs H Q E' ⟨_, _, _, _, _, _, _, h⟩ => h.elim, fun A outer s H args us vs Q E' hr e0 hb r ⟨_, _, _, _, _, _, _, h⟩ => h.elim⟩
theorem fn_core (F : PF E K mg) {k f : Nat} {fi : FnI} (hf : E.fns[f]? = some fi) (ih : ∀ (f : Nat) (fi : FnI), E.fns[f]? = some fi → ∃ fa fd ps, FnX E (callF E k) k P w K mg base f fi fa fd ps)
    {qual : Str} {params : Arguments} {body : List Stmt} {scope : Scope} {N ps : List Str} {fa : Addr} {fd : FuncData} {dvs : List V} (D : FunD K fi.name qual params body scope dvs [] fa fd) (S : FnScope N ps scope) (hN : N.length = fi.nsl) (hp : ps.length = fi.np) (mt : mtSs E ⟨N, scope, scope⟩ fi.body body = true) :
    FnOk P w K mg base (L2.CX P w) (k + 1) fa fd ps (spF E (callF E (k + 1)) mg K fi f) := by
  have hcall : ∀ qs, callF E (k + 1) f qs = callB E (callF E k) fi qs := fun qs => by
    show (match E.fns[f]? with | some fi => callB E (callF E k) fi qs | none => .stuck) = _
    rw [hf]
  refine D.ok S (fun vs H Q E' hsp => ?_) (fun cdv A outer s H vs Q E' hr hsp => ?_)
  · obtain ⟨Z, qs, as, zh, hl, ar, nd, post⟩ := hsp
    rw [hcall] at post
    have hal := argR_len ar
    omega
  · obtain ⟨Z, qs, as, zh, hl, ar, nd, post⟩ := hsp
    rw [hcall] at post
    have hal := argR_len ar
    let X : Cx := cxOf (L2.CX P w) P w K mg base N qual scope fa cdv A outer s H E'
    have okx : OkS E (callF E k) k ⟨N, scope, scope⟩ (fun cls d _ H' => E' cls d H') X := by
      refine ⟨⟨rfl, rfl, rfl, S.nd, S.kind, fun x hx => ⟨hx, .inl rfl⟩, hr, takes_of rfl rfl rfl rfl, ih, F.bl, F.ty, F.gb⟩, rfl, rfl, passes_of rfl, fun c nm h => ?_, F.sb⟩
      obtain ⟨C, m, e1, e2, e3, e4⟩ := F.ex c nm h
      exact ⟨C, m, e1, e2, raises_own e3 e4⟩
    refine ⟨_, soundL fi.body okx mt, ?_⟩
    unfold callB at post
    by_cases hc : qs.length = fi.np ∧ fi.mask.length = fi.np ∧ fi.np ≤ fi.nsl
    · rw [if_pos hc] at post
      let g : Ent := ⟨H, Z, ioL fi.mask as 0, []⟩
      have hsl : (startS fi.mask qs).length = qs.length := startS_len (by omega)
      have hvl : vs.length = fi.np := by omega
      have hio : (ioL fi.mask as 0).map (·.2) = as := ioL_snd ar
      have get0 : ∀ (i : Nat) (sl : Slot), (startS fi.mask qs ++ List.replicate (fi.nsl - fi.np) Slot.none)[i]? = some sl → ((startS fi.mask qs)[i]? = some sl) ∨ sl = .none := fun i sl h => by
        by_cases hi : i < (startS fi.mask qs).length
        · rw [List.getElem?_append_left hi] at h; exact .inl h
        · rw [List.getElem?_append_right (by omega), List.getElem?_replicate] at h
          split at h <;> cases h
          exact .inr rfl
      have st : ∀ (i : Nat) (v : V), vs[i]? = some v → (start N vs)[i]? = some (some v) := fun i v h => by
        have hi := (List.getElem?_eq_some_iff.mp h).1
        unfold L2.start
        rw [List.getElem?_append_left (by simpa using hi), List.getElem?_map, h]
        rfl
      have G : Good K g (start N vs) (startS fi.mask qs ++ List.replicate (fi.nsl - fi.np) Slot.none) Z H := by
        refine ⟨?_, fun i sl h => ?_, fun i j a oi oj ei ej => ?_, zh, fun b o h _ => h, fun _ h => h, fun b z => .inl z, .refl _, fun i a h => ?_, fun q hq => absurd hq (by simp [g])⟩
        · unfold L2.start
          simp only [List.length_append, List.length_map, List.length_replicate]
          omega
        · rcases get0 i sl h with h | rfl
          · obtain ⟨v, h1, h2⟩ := startS_get (n := 0) ar h
            rcases h2 with ⟨p, rfl, h2⟩ | ⟨p, a, rfl, rfl, h3, h4, h5⟩
            · exact ⟨v, st i v h1, h2⟩
            · exact ⟨a, st i _ h1, h3, h4, fun z => (nomatch z), fun _ => by rw [Nat.zero_add] at h5; exact h5⟩
          · trivial
        · have loc : ∀ {i}, IsOwn (startS fi.mask qs ++ List.replicate (fi.nsl - fi.np) Slot.none) i → (start N vs)[i]? = some (some (V.ref a)) → (i, a) ∈ ioL fi.mask as 0 := fun {i} ⟨kk, p, h⟩ e => by
            rcases get0 i _ h with h | h
            · obtain ⟨v, h1, h2⟩ := startS_get (n := 0) ar h
              rw [st i v h1] at e
              cases e
              rcases h2 with ⟨p, z, _⟩ | ⟨p, b, _, e2, _, _, h5⟩
              · cases z
              · cases e2
                rw [Nat.zero_add] at h5
                exact h5
            · cases h
          have m1 := loc oi ei
          have m2 := loc oj ej
          -- one address stands once
          have nd' : ((ioL fi.mask as 0).map (·.2)).Nodup := by rw [hio]; exact nd
          have uniq : ∀ {l : List (Nat × Addr)} {x y : Nat} {b : Addr}, (l.map (·.2)).Nodup → (x, b) ∈ l → (y, b) ∈ l → x = y := by
            intro l
            induction l with
            | nil => intro x y b _ h _; simp at h
            | cons q l ih =>
              intro x y b hn h1 h2
              rw [List.map_cons, List.nodup_cons] at hn
              rcases List.mem_cons.mp h1 with e1 | h1 <;> rcases List.mem_cons.mp h2 with e2 | h2
              · rw [← e1] at e2; cases e2; rfl
              · exact absurd (List.mem_map.mpr ⟨_, h2, by rw [← e1]⟩) hn.1
              · exact absurd (List.mem_map.mpr ⟨_, h1, by rw [← e2]⟩) hn.1
              · exact ih hn.2 h1 h2
          exact uniq nd' m1 m2
        · obtain ⟨j, p, e, h1, h2⟩ := ioL_get ar h
          rw [Nat.zero_add] at e
          subst e
          refine ⟨st i _ h1, p, ?_⟩
          rw [List.getElem?_append_left (by rw [hsl]; have := (List.getElem?_eq_some_iff.mp h2).1; omega)]
          exact h2
      refine ⟨g, _, Z, G, ?_⟩
      have aft : ∀ {σ' : St} {ε' : Sg} {Z' H' : Hp} {os : List PV}, Good K g σ' ε' Z' H' → outsS fi.mask 0 ε' = some os → Aft K Z H Z' H' as os := fun {σ' ε' Z' H' os} G' eo =>
        ⟨G'.zz, G'.zh, fun b o h nb => G'.hh b o h (by rw [show g.io = ioL fi.mask as 0 from rfl, hio]; exact nb), G'.al, G'.zf, outs_ok G' (fun q hq => hq) (argR_count ar) eo⟩
      cases he : exL E (callF E k) fi.body (startS fi.mask qs ++ List.replicate (fi.nsl - fi.np) Slot.none) with
      | stuck => rw [he] at post; exact post.elim
      | bk ε1 => rw [he] at post; exact post.elim
      | ct ε1 => rw [he] at post; exact post.elim
      | nx ε1 =>
        rw [he] at post
        intro σ' Z' H' s' G' _
        dsimp only at post
        cases eo : outsS fi.mask 0 ε1 with
        | none => rw [eo] at post; exact post.elim
        | some os =>
          rw [eo] at post
          exact post .non Z' H' (aft G' eo) .non
      | rt r ε1 =>
        rw [he] at post
        intro σ' v Z' H' s' G' rv
        cases r with
        | own _ => exact post.elim
        | val p =>
          dsimp only at post
          cases eo : outsS fi.mask 0 ε1 with
          | none => rw [eo] at post; exact post.elim
          | some os => rw [eo] at post; exact post v Z' H' (aft G' eo) rv
        | fresh p =>
          dsimp only at post
          cases eo : outsS fi.mask 0 ε1 with
          | none => rw [eo] at post; exact post.elim
          | some os =>
            rw [eo] at post
            obtain ⟨a, e1, e2, e3, e4, _⟩ := rv
            exact post v Z' H' (aft G' eo) ⟨a, e1, e2, e3, e4⟩
      | exc c ε1 =>
        rw [he] at post
        intro σ' Z' H' C s' G' _ cl
        dsimp only at post
        cases eo : outsS fi.mask 0 ε1 with
        | none => rw [eo] at post; exact post.elim
        | some os => rw [eo] at post; exact post C Z' H' (aft G' eo) cl
    · rw [if_neg hc] at post
      exact post.elim
theorem fn_succ (F : PF E K mg) {k f : Nat} {fi : FnI} (hf : E.fns[f]? = some fi) (ih : ∀ (f : Nat) (fi : FnI), E.fns[f]? = some fi → ∃ fa fd ps, FnX E (callF E k) k P w K mg base f fi fa fd ps) :
    ∃ fa fd ps, FnX E (callF E (k + 1)) (k + 1) P w K mg base f fi fa fd ps := by
  obtain ⟨qual, params, body, scope, N, ps, fa, fd, dvs, dv, D, m, S, hN, hp, mt, b0, b1, hv, hd⟩ := (F.fn f fi hf).ex
  exact ⟨fa, fd, ps, m, D.kp, fn_core F hf ih D S hN hp mt, b0, dvs, dv, b1, hv, hd⟩
/-- every def of the text, calls nested at most k deep -/
theorem fn_all (F : PF E K mg) : ∀ (k f : Nat) (fi : FnI), E.fns[f]? = some fi → ∃ fa fd ps, FnX E (callF E k) k P w K mg base f fi fa fd ps
  | 0, f, fi, hf => by
    obtain ⟨qual, params, body, scope, N, ps, fa, fd, dvs, dv, D, m, S, hN, hp, mt, b0, b1, hv, hd⟩ := (F.fn f fi hf).ex
    exact ⟨fa, fd, ps, m, D.kp, fn_zero, b0, dvs, dv, b1, hv, hd⟩
  | k + 1, f, fi, hf => fn_succ F hf (fn_all F k)
end
end Eng

namespace Eng
open PySem PySem.Spec L2
open PyProof.Rows hiding St

theorem exm_pair {K : PySem.W.Frag} {S D : Addr} {b : Bool} (h1 : PySem.W.subIn K (.ref D) (.type "BaseException") = some true) (h2 : PySem.W.isClsIn K D = true) (h3 : PySem.W.typeIn K (.ref D) = some (.type "type")) (h4 : PySem.W.subIn K (.ref S) (.ref D) = some b) :
    PySem.W.exmOne K (.ref S) (.ref D) = some b := by
  have e1 : (PySem.W.subIn K (.ref D) (.type "BaseException") == some true) = true := by rw [h1] <;> rfl
  have e2 : ((PySem.W.clsIn K D).isSome && PySem.W.typeIn K (.ref D) == some (.type "type")) = true := by
    have h2' : (PySem.W.clsIn K D).isSome = true := h2
    rw [h2', h3] <;> rfl
  show (if (PySem.W.subIn K (.ref D) (.type "BaseException") == some true) = true then (if ((PySem.W.clsIn K D).isSome && PySem.W.typeIn K (.ref D) == some (.type "type")) = true then PySem.W.subIn K (.ref S) (.ref D) else none) else none) = some b
  rw [if_pos e1, if_pos e2]
  exact h4

section
variable {E : Eng} {K : Fg} {mg : Str → Option Value} {fi : FnI} {qual : Str} {params : Arguments} {body : List Stmt} {scope : Scope} {N ps : List Str} {fa : Addr} {fd : FuncData} {dvs : List V}
theorem fnF_mk (D : FunD K fi.name qual params body scope [] [] fa fd) (m : mg fi.name = some (.ref fa)) (S : FnScope N ps scope) (hN : N.length = fi.nsl) (hp : ps.length = fi.np) (mt : mtSs E ⟨N, scope, scope⟩ fi.body body = true) (hd : fi.dfl = [])
    (b : ∀ (kV doc pm : Value) (an : Option Addr) (cdv ct : Value) (us : List Value), us.length = ps.length → bindArgs (PySem.W.fnOf fi.name qual params body scope .none kV doc pm an cdv ct) ⟨us, []⟩ = pure (ps.zip us)) : FnF E K mg fi :=
  ⟨qual, params, body, scope, N, ps, fa, fd, [], [], D, m, S, hN, hp, mt, D.bindsN b, D.bindsN b, .nil, fun Z => hd ▸ .nil⟩
/-- defaults: n parameters ahead of them -/
theorem fnF_mkD (n : Nat) (D : FunD K fi.name qual params body scope dvs [] fa fd) (m : mg fi.name = some (.ref fa)) (S : FnScope N ps scope) (hN : N.length = fi.nsl) (hp : ps.length = fi.np) (mt : mtSs E ⟨N, scope, scope⟩ fi.body body = true)
    (hd : ∀ Z, RpL K Z fi.dfl dvs) (h0 : dvs ≠ []) (hn : n + dvs.length = ps.length)
    (b0 : ∀ (T : Addr) (kV doc pm : Value) (an : Option Addr) (cdv ct : Value) (us its : List Value), us.length = ps.length → its.length = dvs.length →
      ∃ k, bindArgs (PySem.W.fnOf fi.name qual params body scope (.ref T) kV doc pm an cdv ct) ⟨us, []⟩ = seqItems? (.ref T) >>= k ∧ k (some its.toArray) = pure (ps.zip us))
    (b1 : ∀ (T : Addr) (kV doc pm : Value) (an : Option Addr) (cdv ct : Value) (us its : List Value), us.length = n → its.length = dvs.length →
      ∃ k, bindArgs (PySem.W.fnOf fi.name qual params body scope (.ref T) kV doc pm an cdv ct) ⟨us, []⟩ = seqItems? (.ref T) >>= k ∧ k (some its.toArray) = pure (ps.zip (us ++ its))) : FnF E K mg fi := by
  obtain ⟨d0, v0, e0⟩ := D.binds1 (ps := ps) ps.length dvs.length h0 (by simp) fun T kV doc pm an cdv ct us its hu hi => by
    obtain ⟨k, e1, e2⟩ := b0 T kV doc pm an cdv ct us its hu hi
    refine ⟨k, e1, ?_⟩
    rw [e2, ← hi, List.drop_length, List.append_nil]
  obtain ⟨d1, v1, e1⟩ := D.binds1 (ps := ps) n 0 h0 (by simpa using hn) fun T kV doc pm an cdv ct us its hu hi => by
    obtain ⟨k, e1, e2⟩ := b1 T kV doc pm an cdv ct us its hu hi
    exact ⟨k, e1, by rw [e2, List.drop_zero]⟩
  rw [List.drop_length] at v0
  cases v0
  rw [List.drop_zero] at v1
  exact ⟨qual, params, body, scope, N, ps, fa, fd, dvs, d1, D, m, S, hN, hp, mt, e0, e1, v1, hd⟩
end
theorem funD_mk {K : Fg} {x qual : Str} {st : Stmt} {fa : Addr} {oc : Value} {od an : Option Addr} {sl : Array (Option Value)} {kV dc pm cd ct : Value}
    (l : K.lookup fa = some ⟨oc, od, .func (PySem.W.fnOf x qual (defArgs st) (defBody st) (defScope st) .none kV dc pm an cd ct), sl⟩) (c : PySem.W.codeIn K cd qual = true) (k : PySem.W.keepIn K (.ref fa) = true) :
    FunD K x qual (defArgs st) (defBody st) (defScope st) [] [] fa (PySem.W.fnOf x qual (defArgs st) (defBody st) (defScope st) .none kV dc pm an cd ct) :=
  ⟨⟨oc, od, .none, kV, dc, pm, an, cd, ct, sl, rfl, l, c, .inl ⟨rfl, rfl⟩, .inl rfl⟩, k⟩
theorem funD_mkD {K : Fg} {x qual : Str} {st : Stmt} {fa T : Addr} {oc : Value} {od an : Option Addr} {sl : Array (Option Value)} {kV dc pm cd ct : Value} {o : Obj} {its : List Value} {n : Nat} {dvs : List V}
    (l : K.lookup fa = some ⟨oc, od, .func (PySem.W.fnOf x qual (defArgs st) (defBody st) (defScope st) (.ref T) kV dc pm an cd ct), sl⟩) (c : PySem.W.codeIn K cd qual = true) (k : PySem.W.keepIn K (.ref fa) = true)
    (lT : K.lookup T = some o) (hT : o.data = .seq its.toArray n) (h0 : dvs ≠ []) (hv : Vals dvs its) :
    FunD K x qual (defArgs st) (defBody st) (defScope st) dvs [] fa (PySem.W.fnOf x qual (defArgs st) (defBody st) (defScope st) (.ref T) kV dc pm an cd ct) :=
  ⟨⟨oc, od, .ref T, kV, dc, pm, an, cd, ct, sl, rfl, l, c, .inr ⟨h0, T, o, its, n, rfl, lT, hT, hv⟩, .inl rfl⟩, k⟩

/-- the law's own def -/
structure LawX (E : Eng) (K : Fg) (mg : Str → Option Value) (fi : FnI) (x : Str) (fa : Addr) : Prop where
  ex : ∃ (qual : Str) (params : Arguments) (body : List Stmt) (scope : Scope) (N : List Str) (fd : FuncData),
    FunD K fi.name qual params body scope [] [] fa fd ∧ FnScope N [x] scope ∧ N.length = fi.nsl ∧ mtSs E ⟨N, scope, scope⟩ fi.body body = true ∧ ∀ (s : Shared) (u : Value), BindsTo s fd ⟨[u], []⟩ [(x, u)]
theorem lawX_mk {E : Eng} {K : Fg} {mg : Str → Option Value} {fi : FnI} {x : Str} {fa : Addr} {st : Stmt} {N : List Str} {oc : Value} {od an : Option Addr} {sl : Array (Option Value)} {kV dc pm cd ct : Value}
    (l : K.lookup fa = some ⟨oc, od, .func (PySem.W.fnOf fi.name fi.name (defArgs st) (defBody st) (defScope st) .none kV dc pm an cd ct), sl⟩) (c : PySem.W.codeIn K cd fi.name = true) (k : PySem.W.keepIn K (.ref fa) = true)
    (S : FnScope N [x] (defScope st)) (hN : N.length = fi.nsl) (mt : mtSs E ⟨N, defScope st, defScope st⟩ fi.body (defBody st) = true)
    (b : ∀ (kV doc pm : Value) (an : Option Addr) (cdv ct : Value) (us : List Value), us.length = [x].length → bindArgs (PySem.W.fnOf fi.name fi.name (defArgs st) (defBody st) (defScope st) .none kV doc pm an cdv ct) ⟨us, []⟩ = pure ([x].zip us)) : LawX E K mg fi x fa :=
  ⟨_, _, _, _, N, _, funD_mk l c k, S, hN, mt, fun s u => (funD_mk l c k).bindsA b s [u] rfl⟩

/-- the promise at the law's entry -/
def spL (K : Fg) : Sp := fun vs H Q _ => ∃ (a : Addr) (ns : List Int), vs = [.ref a] ∧ ns.length ≤ 63 ∧ (∀ z ∈ ns, Builtin.Int.intBits z ≤ 1048576) ∧ SqL K H a (ns.map V.int) ∧ Only H ∧ ∀ H', Q (.bl true) H'
theorem rpL_ints {K : Fg} {Z : Hp} : ∀ ns : List Int, RpL K Z (ns.map PV.int) (ns.map V.int)
  | [] => .nil
  | n :: ns => .cons (.int n) (rpL_ints ns)
theorem ok_law {E : Eng} {P : Program} {w : World} {K : Fg} {mg : Str → Option Value} {base : Heap} {fi : FnI} {x : Str} {fa : Addr} {k iLaw : Nat} (F : PF E K mg) (hfi : E.fns[iLaw]? = some fi) (hnp : fi.np = 1) (hm : fi.mask = [false]) (L : LawX E K mg fi x fa)
    (hlaw : ∀ ns : List Int, ns.length ≤ 63 → (∀ z ∈ ns, Builtin.Int.intBits z ≤ 1048576) → callF E (k + 1) iLaw [.scr (ns.map PV.int)] = .ok (.bl true) false []) :
    ∃ fd : FuncData, (∀ (s : Shared) (u : Value), BindsTo s fd ⟨[u], []⟩ [(x, u)]) ∧ FnOk P w K mg base (L2.CX P w) (k + 1) fa fd [x] (spL K) := by
  obtain ⟨qual, params, body, scope, N, fd, D, S, hN, mt, hb⟩ := L.ex
  refine ⟨fd, hb, FnOk.imp (fn_core F hfi (fn_all F k) D S hN (by rw [hnp]; rfl) mt) ?_⟩
  rintro vs H Q E' ⟨a, ns, rfl, hl, hbits, hS, hO, hQ⟩
  refine ⟨H, [.scr (ns.map PV.int)], [], fun _ _ h => h, by rw [hnp]; rfl, ?_, .nil, ?_⟩
  · rw [hm]
    exact ⟨.scr hS (rpL_ints ns), trivial⟩
  · rw [hlaw ns hl hbits]
    intro v Z' H' _ r
    have r' : Rp K Z' (.bl true) v := r
    cases r'
    exact hQ H'
theorem walk {l : PySem.W.OpenLaw} {q : Program} {loose : List Str} {XP : (Str → Option Value) → Heap → Prop} {YP : World → Heap → Prop} {d : DefRec} {K : Params → Fg} {E : Eng} {fi : FnI} {x : Str} {k iLaw : Nat}
    (hn : l.most = some 63) (hdf : d.params.defaults = [])
    (hr : Room (k + 1) callerA) (hfi : E.fns[iLaw]? = some fi) (hnp : fi.np = 1) (hm : fi.mask = [false])
    (hlaw : ∀ ns : List Int, ns.length ≤ 63 → (∀ z ∈ ns, Builtin.Int.intBits z ≤ 1048576) → callF E (k + 1) iLaw [.scr (ns.map PV.int)] = .ok (.bl true) false [])
    (hY : ∀ (w : World) (h : Heap), YP w h → (K w.params).In h)
    (F : ∀ (w : World) (mg : Str → Option Value) (fa : Addr) (h : Heap), (K w.params).In h → h.Ns mainGlobals mg → mg d.name = some (.ref fa) → PF E (K w.params) mg ∧ LawX E (K w.params) mg fi x fa) :
    PySem.W.WalkO q loose XP YP l.row.toRowW d [] (fun f vs => PySem.call f vs) :=
  L2.walk_ofB (n := 63) (k := k + 1) (x := x) (CX := fun w => L2.CX l.prog w) (sp := fun w => spL (K w.params)) hn (by decide) hdf hr hY
    (fun w mg fa h KX G hmg => by
      obtain ⟨PFx, L⟩ := F w mg fa h KX G hmg
      obtain ⟨qual, params, body, scope, N, fd, D, S, hN, mt, hb⟩ := L.ex
      refine ⟨fd, hb, fun base X1 G1 => ?_⟩
      refine FnOk.imp (fn_core PFx hfi (fn_all PFx k) D S hN (by rw [hnp]; rfl) mt) ?_
      rintro vs H Q E' ⟨a, ns, rfl, hl, hbits, hS, hO, hQ⟩
      refine ⟨H, [.scr (ns.map PV.int)], [], fun _ _ h => h, by rw [hnp]; rfl, ?_, .nil, ?_⟩
      · rw [hm]
        exact ⟨.scr hS (rpL_ints ns), trivial⟩
      · rw [hlaw ns hl hbits]
        intro v Z' H' _ r
        have r' : Rp (K w.params) Z' (.bl true) v := r
        cases r'
        exact hQ H')
    (fun w H a ns hl hb hO hS => ⟨a, ns, rfl, hl, hb, hS, hO, fun _ => rfl⟩)
    fun w H s e s' h => by
      obtain ⟨a, B, H', cls, dd, _, _, _, _, _, _, _, h⟩ := h
      exact h
end Eng

namespace Eng
open PySem PySem.Spec L2
open PyProof.Rows hiding St
def AllF {α : Type} (P : α → Prop) : List α → Prop
  | [] => True
  | a :: l => P a ∧ AllF P l
theorem all_ix {α : Type} {P : α → Prop} : ∀ {l : List α}, AllF P l → ∀ (i : Nat) (a : α), l[i]? = some a → P a
  | [], _, i, a, e => by simp at e
  | b :: l, h, 0, a, e => by cases e; exact h.1
  | b :: l, h, i + 1, a, e => all_ix h.2 i a (by simpa using e)
theorem all_mem {α : Type} {P : α → Prop} : ∀ {l : List α}, AllF P l → ∀ a ∈ l, P a
  | [], _, a, e => by cases e
  | b :: l, h, a, e => by
    rcases List.mem_cons.mp e with rfl | e
    · exact h.1
    · exact all_mem h.2 a e
theorem all_look {P : Str → PV → Prop} : ∀ {l : List (Str × PV)}, AllF (fun q => P q.1 q.2) l → ∀ x p, l.lookup x = some p → P x p
  | [], _, _, _, e => by cases e
  | (y, b) :: l, h, x, p, e => by
    rw [List.lookup_cons] at e
    cases c : (x == y) with
    | true =>
      rw [c] at e
      cases e
      rw [eq_of_beq c]
      exact h.1
    | false =>
      rw [c] at e
      exact all_look h.2 x p e
def AllI {α : Type} (P : Nat → α → Prop) : Nat → List α → Prop
  | _, [] => True
  | n, a :: l => P n a ∧ AllI P (n + 1) l
theorem allI_get {α : Type} {P : Nat → α → Prop} : ∀ {l : List α} {n : Nat}, AllI P n l → ∀ (i : Nat) (a : α), l[i]? = some a → P (n + i) a
  | [], _, _, i, a, e => by simp at e
  | b :: l, n, h, 0, a, e => by cases e; exact h.1
  | b :: l, n, h, i + 1, a, e => by
    have := allI_get h.2 i a (by simpa using e)
    rwa [show n + 1 + i = n + (i + 1) by omega] at this
/-- the classes' addresses -/
def Adr (mg : Str → Option Value) : List Str → List Addr → Prop
  | [], [] => True
  | c :: l, a :: as => mg c = some (.ref a) ∧ Adr mg l as
  | _, _ => False
theorem adr_get {mg : Str → Option Value} : ∀ {l : List Str} {as : List Addr}, Adr mg l as → ∀ (i : Nat) (c : Str), l[i]? = some c → ∃ a, as[i]? = some a ∧ mg c = some (.ref a)
  | [], [], _, i, c, e => by simp at e
  | [], _ :: _, h, _, _, _ => h.elim
  | _ :: _, [], h, _, _, _ => h.elim
  | b :: l, a :: as, h, 0, c, e => by cases e; exact ⟨a, rfl, h.1⟩
  | b :: l, a :: as, h, i + 1, c, e => by
    obtain ⟨x, h1, h2⟩ := adr_get h.2 i c (by simpa using e)
    exact ⟨x, by simpa using h1, h2⟩
theorem sb_mk {mg : Str → Option Value} {K : Fg} {sub : Nat → Nat → Bool} {l : List Str} {As : List Addr} (ha : Adr mg l As) (h : AllI (fun j D => AllI (fun i C => PySem.W.exmOne K (.ref C) (.ref D) = some (sub i j)) 0 As) 0 As) :
    ∀ (c d : Nat) (nc nd : Str) (C D : Addr), l[c]? = some nc → l[d]? = some nd → mg nc = some (.ref C) → mg nd = some (.ref D) → PySem.W.exmOne K (.ref C) (.ref D) = some (sub c d) := by
  intro c d nc nd C D ec ed mc md
  obtain ⟨C', e1, m1⟩ := adr_get ha c nc ec
  obtain ⟨D', e2, m2⟩ := adr_get ha d nd ed
  rw [mc] at m1; cases m1
  rw [md] at m2; cases m2
  have := allI_get (allI_get h d D e2) c C e1
  rwa [Nat.zero_add, Nat.zero_add] at this
end Eng

namespace Rt
/-- the number that is divided by -/
def cm (a b : Int) : Int := if b < 0 then -(Int.gcd a b : Int) else (Int.gcd a b : Int)
def rN (a b : Int) : Int := a.fdiv (cm a b)
def rD (a b : Int) : Int := b.fdiv (cm a b)
structure IsR (p q : Int) : Prop where
  pos : 1 ≤ q
  co : Int.gcd p q = 1
theorem cm_ne {a b : Int} (h : b ≠ 0) : cm a b ≠ 0 := by
  have : (Int.gcd a b : Int) ≠ 0 := by
    have := Int.gcd_pos_of_ne_zero_right a h
    omega
  unfold cm
  split <;> omega
theorem cm_dvdN (a b : Int) : cm a b ∣ a := by
  unfold cm
  split
  · exact Int.neg_dvd.mpr (Int.gcd_dvd_left ..)
  · exact Int.gcd_dvd_left ..
theorem cm_dvdD (a b : Int) : cm a b ∣ b := by
  unfold cm
  split
  · exact Int.neg_dvd.mpr (Int.gcd_dvd_right ..)
  · exact Int.gcd_dvd_right ..
theorem mul_fdiv {a c : Int} (h : c ∣ a) (hc : c ≠ 0) : c * a.fdiv c = a := by
  obtain ⟨k, rfl⟩ := h
  rw [Int.mul_fdiv_cancel_left _ hc]
theorem rN_mul {a b : Int} (h : b ≠ 0) : cm a b * rN a b = a := mul_fdiv (cm_dvdN a b) (cm_ne h)
theorem rD_mul {a b : Int} (h : b ≠ 0) : cm a b * rD a b = b := mul_fdiv (cm_dvdD a b) (cm_ne h)
theorem r_eq {a b : Int} (h : b ≠ 0) : rN a b * b = a * rD a b := by
  have h1 := rN_mul (a := a) h
  have h2 := rD_mul (a := a) h
  generalize rN a b = p at *
  generalize rD a b = q at *
  generalize cm a b = c at *
  subst h2
  rw [← h1]
  grind
theorem r_is {a b : Int} (h : b ≠ 0) : IsR (rN a b) (rD a b) := by
  have h1 := rN_mul (a := a) h
  have h2 := rD_mul (a := a) h
  have hg : (cm a b).natAbs = Int.gcd a b := by unfold cm; split <;> simp
  have hg0 : 0 < Int.gcd a b := Int.gcd_pos_of_ne_zero_right a h
  have hs : (cm a b < 0) ↔ b < 0 := by unfold cm; split <;> omega
  have hc := cm_ne (a := a) h
  generalize rN a b = p at *
  generalize rD a b = q at *
  generalize hcm : cm a b = c at *
  constructor
  · rcases Int.lt_or_lt_of_ne hc with hn | hp
    · have hb : b < 0 := hs.mp hn
      rcases Int.lt_or_le q 1 with z | z
      · have : 0 ≤ c * q := Int.mul_nonneg_of_nonpos_of_nonpos (by omega) (by omega)
        omega
      · exact z
    · have hb : ¬ b < 0 := fun z => by have := hs.mpr z; omega
      rcases Int.lt_or_le q 1 with z | z
      · have : c * q ≤ 0 := Int.mul_nonpos_of_nonneg_of_nonpos (by omega) (by omega)
        have : c * q ≠ 0 := by rw [h2]; exact h
        omega
      · exact z
  · have e : Int.gcd (c * p) (c * q) = c.natAbs * Int.gcd p q := Int.gcd_mul_left c p q
    rw [h1, h2, hg] at e
    have : Int.gcd a b * 1 = Int.gcd a b * Int.gcd p q := by omega
    exact (Nat.eq_of_mul_eq_mul_left hg0 this).symm
theorem dvd_co {k m n : Int} (h : k ∣ m * n) (c : Int.gcd m k = 1) : k ∣ n := by
  have h' := Int.natAbs_dvd_natAbs.mpr h
  rw [Int.natAbs_mul] at h'
  have c' : Nat.Coprime k.natAbs m.natAbs := by
    show Nat.gcd k.natAbs m.natAbs = 1
    rw [Nat.gcd_comm]
    exact c
  exact Int.natAbs_dvd_natAbs.mp (c'.dvd_of_dvd_mul_left h')
theorem uniq {p q p' q' : Int} (h : IsR p q) (h' : IsR p' q') (e : p * q' = p' * q) : p = p' ∧ q = q' := by
  have d1 : q ∣ q' := by
    have : q ∣ p * q' := ⟨p', by rw [e]; exact Int.mul_comm ..⟩
    exact dvd_co this h.co
  have d2 : q' ∣ q := by
    have : q' ∣ p' * q := ⟨p, by rw [← e]; exact Int.mul_comm ..⟩
    exact dvd_co this h'.co
  have e2 : q = q' := Int.dvd_antisymm (by have := h.pos; omega) (by have := h'.pos; omega) d1 d2
  subst e2
  exact ⟨Int.eq_of_mul_eq_mul_right (by have := h.pos; omega) e, rfl⟩
theorem dv_le {a c : Int} (h : c ∣ a) (hc : c ≠ 0) : (a.fdiv c).natAbs ≤ a.natAbs := by
  have e := mul_fdiv h hc
  have : a.natAbs = c.natAbs * (a.fdiv c).natAbs := by rw [← Int.natAbs_mul, e]
  rw [this]
  exact Nat.le_mul_of_pos_left _ (by omega)
theorem rN_le {a b : Int} (h : b ≠ 0) : (rN a b).natAbs ≤ a.natAbs := dv_le (cm_dvdN a b) (cm_ne h)
theorem rD_le {a b : Int} (h : b ≠ 0) : (rD a b).natAbs ≤ b.natAbs := dv_le (cm_dvdD a b) (cm_ne h)
theorem r_self {p q : Int} (h : IsR p q) : rN p q = p ∧ rD p q = q := by
  have h0 : q ≠ 0 := by have := h.pos; omega
  exact uniq (r_is h0) h (r_eq h0)
theorem r_id {a b p q : Int} (hb : b ≠ 0) (h : IsR p q) (e : a * q = p * b) : rN a b = p ∧ rD a b = q := by
  refine uniq (r_is hb) h ?_
  have := r_eq (a := a) hb
  refine Int.eq_of_mul_eq_mul_right hb ?_
  grind
/-- a small number -/
def Sm (n : Nat) (i : Int) : Prop := i.natAbs < 2 ^ n
theorem Sm.mul {n m : Nat} {i j : Int} (h : Sm n i) (h' : Sm m j) : Sm (n + m) (i * j) := by
  unfold Sm at *
  rw [Int.natAbs_mul, Nat.pow_add]
  exact Nat.mul_lt_mul'' h h'
theorem Sm.le {n m : Nat} {i : Int} (h : Sm n i) (e : n ≤ m) : Sm m i := Nat.lt_of_lt_of_le h (Nat.pow_le_pow_right (by omega) e)
theorem Sm.add {n : Nat} {i j : Int} (h : Sm n i) (h' : Sm n j) : Sm (n + 1) (i + j) := by
  unfold Sm at *
  rw [Nat.pow_succ]
  omega
theorem Sm.sub {n : Nat} {i j : Int} (h : Sm n i) (h' : Sm n j) : Sm (n + 1) (i - j) := by
  unfold Sm at *
  rw [Nat.pow_succ]
  omega
theorem Sm.neg {n : Nat} {i : Int} (h : Sm n i) : Sm n (-i) := by
  unfold Sm at *
  omega
theorem Sm.log {n : Nat} {i : Int} (h : Sm n i) : i.natAbs.log2 ≤ n := by
  unfold Sm at h
  by_cases z : i.natAbs = 0
  · rw [z]; exact Nat.zero_le _
  · have := (Nat.log2_lt z).mpr h
    omega
theorem mul_ok {n m : Nat} {i j : Int} (h : Sm n i) (h' : Sm m j) (e : n + m < 134217000) : Eng.mulOk i j = true := by
  have := h.log
  have := h'.log
  unfold Eng.mulOk
  rw [decide_eq_true_iff]
  omega
theorem div_ok {i j : Int} (h : Sm 8000 j) : PySem.Builtin.divisionGoesByPylong i j = false := by
  have := h.log
  unfold PySem.Builtin.divisionGoesByPylong
  have : ¬ (if (j == 0) = true then 0 else j.natAbs.log2 / 30 + 1) > 300 := by
    split <;> omega
  simp only [this, decide_false, Bool.false_and]
theorem rN_sm {n : Nat} {a b : Int} (h : b ≠ 0) (s : Sm n a) : Sm n (rN a b) := Nat.lt_of_le_of_lt (rN_le h) s
theorem rD_sm {n : Nat} {a b : Int} (h : b ≠ 0) (s : Sm n b) : Sm n (rD a b) := Nat.lt_of_le_of_lt (rD_le h) s
theorem cm_sm {n : Nat} {a b : Int} (h : b ≠ 0) (s : Sm n b) : Sm n (cm a b) := by
  have : (cm a b).natAbs ≤ b.natAbs := Nat.le_of_dvd (by omega) (Int.natAbs_dvd_natAbs.mpr (cm_dvdD a b))
  exact Nat.lt_of_le_of_lt this s
end Rt

namespace Eng
open PySem PySem.Spec L2 Rt
open PyProof.Rows hiding St
@[simp] theorem size_line : sizeLine = 16777216 := rfl
@[simp] theorem eqp_int (a b : Int) : eqPV (.int a) (.int b) = some (decide (a = b)) := by
  have h : ∀ i : Int, SeqAt.shaped (.int i) = true := fun i => by
    unfold SeqAt.shaped
    simp [PyData.canLay0, PyData.depth]
  show (if SeqAt.shaped (.int a) = true ∧ SeqAt.shaped (.int b) = true then some (PyData.eqv (.int a) (.int b)) else none) = _
  rw [if_pos ⟨h a, h b⟩, PyData.eqv]
  rfl
@[simp] theorem eqp_bl (a b : Bool) : eqPV (.bl a) (.bl b) = some (a == b) := by
  have h : ∀ i : Bool, SeqAt.shaped (.bool i) = true := fun i => by
    unfold SeqAt.shaped
    simp [PyData.canLay0, PyData.depth]
  show (if SeqAt.shaped (.bool a) = true ∧ SeqAt.shaped (.bool b) = true then some (PyData.eqv (.bool a) (.bool b)) else none) = _
  rw [if_pos ⟨h a, h b⟩, PyData.eqv]
@[simp] theorem eqp_int2 (a b c d : Int) : eqPV (.tup [.int a, .int b]) (.tup [.int c, .int d]) = some (decide (a = c) && decide (b = d)) := by
  have h : ∀ i j : Int, SeqAt.shaped (.tuple [.int i, .int j]) = true := fun i j => by
    unfold SeqAt.shaped
    simp [PyData.canLay0, PyData.canLayAll0, PyData.depth, PyData.depthAll]
  show (if SeqAt.shaped (.tuple [.int a, .int b]) = true ∧ SeqAt.shaped (.tuple [.int c, .int d]) = true then some (PyData.eqv (.tuple [.int a, .int b]) (.tuple [.int c, .int d])) else none) = _
  rw [if_pos ⟨h a b, h c d⟩]
  simp only [PyData.eqv, PyData.eqvAll, Bool.and_true]
  rfl
theorem gcd_cm (a b : Int) : ((a.natAbs.gcd b.natAbs : Nat) : Int) = (Int.gcd a b : Int) := rfl

@[simp] theorem isi_non_int : opIsi (.non) "int" = some false := by decide +kernel
@[simp] theorem isi_non_bool : opIsi (.non) "bool" = some false := by decide +kernel
@[simp] theorem isi_non_tuple : opIsi (.non) "tuple" = some false := by decide +kernel
@[simp] theorem isi_non_str : opIsi (.non) "str" = some false := by decide +kernel
@[simp] theorem isi_non_list : opIsi (.non) "list" = some false := by decide +kernel
@[simp] theorem isi_non_dict : opIsi (.non) "dict" = some false := by decide +kernel
@[simp] theorem isi_bl_int (b : Bool) : opIsi (.bl b) "int" = some true := by
  show kitB "bool" "int" = _
  decide +kernel
@[simp] theorem isi_bl_bool (b : Bool) : opIsi (.bl b) "bool" = some true := by
  show kitB "bool" "bool" = _
  decide +kernel
@[simp] theorem isi_bl_tuple (b : Bool) : opIsi (.bl b) "tuple" = some false := by
  show kitB "bool" "tuple" = _
  decide +kernel
@[simp] theorem isi_bl_str (b : Bool) : opIsi (.bl b) "str" = some false := by
  show kitB "bool" "str" = _
  decide +kernel
@[simp] theorem isi_bl_list (b : Bool) : opIsi (.bl b) "list" = some false := by
  show kitB "bool" "list" = _
  decide +kernel
@[simp] theorem isi_bl_dict (b : Bool) : opIsi (.bl b) "dict" = some false := by
  show kitB "bool" "dict" = _
  decide +kernel
@[simp] theorem isi_int_int (b : Int) : opIsi (.int b) "int" = some true := by
  show kitB "int" "int" = _
  decide +kernel
@[simp] theorem isi_int_bool (b : Int) : opIsi (.int b) "bool" = some false := by
  show kitB "int" "bool" = _
  decide +kernel
@[simp] theorem isi_int_tuple (b : Int) : opIsi (.int b) "tuple" = some false := by
  show kitB "int" "tuple" = _
  decide +kernel
@[simp] theorem isi_int_str (b : Int) : opIsi (.int b) "str" = some false := by
  show kitB "int" "str" = _
  decide +kernel
@[simp] theorem isi_int_list (b : Int) : opIsi (.int b) "list" = some false := by
  show kitB "int" "list" = _
  decide +kernel
@[simp] theorem isi_int_dict (b : Int) : opIsi (.int b) "dict" = some false := by
  show kitB "int" "dict" = _
  decide +kernel
@[simp] theorem isi_str_int (b : Str) : opIsi (.str b) "int" = some false := by
  show kitB "str" "int" = _
  decide +kernel
@[simp] theorem isi_str_bool (b : Str) : opIsi (.str b) "bool" = some false := by
  show kitB "str" "bool" = _
  decide +kernel
@[simp] theorem isi_str_tuple (b : Str) : opIsi (.str b) "tuple" = some false := by
  show kitB "str" "tuple" = _
  decide +kernel
@[simp] theorem isi_str_str (b : Str) : opIsi (.str b) "str" = some true := by
  show kitB "str" "str" = _
  decide +kernel
@[simp] theorem isi_str_list (b : Str) : opIsi (.str b) "list" = some false := by
  show kitB "str" "list" = _
  decide +kernel
@[simp] theorem isi_str_dict (b : Str) : opIsi (.str b) "dict" = some false := by
  show kitB "str" "dict" = _
  decide +kernel
@[simp] theorem isi_tup_int (b : List PV) : opIsi (.tup b) "int" = some false := by
  show kitB "tuple" "int" = _
  decide +kernel
@[simp] theorem isi_tup_bool (b : List PV) : opIsi (.tup b) "bool" = some false := by
  show kitB "tuple" "bool" = _
  decide +kernel
@[simp] theorem isi_tup_tuple (b : List PV) : opIsi (.tup b) "tuple" = some true := by
  show kitB "tuple" "tuple" = _
  decide +kernel
@[simp] theorem isi_tup_str (b : List PV) : opIsi (.tup b) "str" = some false := by
  show kitB "tuple" "str" = _
  decide +kernel
@[simp] theorem isi_tup_list (b : List PV) : opIsi (.tup b) "list" = some false := by
  show kitB "tuple" "list" = _
  decide +kernel
@[simp] theorem isi_tup_dict (b : List PV) : opIsi (.tup b) "dict" = some false := by
  show kitB "tuple" "dict" = _
  decide +kernel
@[simp] theorem isi_lst_int (b : List PV) : opIsi (.lst b) "int" = some false := by
  show kitB "list" "int" = _
  decide +kernel
@[simp] theorem isi_lst_bool (b : List PV) : opIsi (.lst b) "bool" = some false := by
  show kitB "list" "bool" = _
  decide +kernel
@[simp] theorem isi_lst_tuple (b : List PV) : opIsi (.lst b) "tuple" = some false := by
  show kitB "list" "tuple" = _
  decide +kernel
@[simp] theorem isi_lst_str (b : List PV) : opIsi (.lst b) "str" = some false := by
  show kitB "list" "str" = _
  decide +kernel
@[simp] theorem isi_lst_list (b : List PV) : opIsi (.lst b) "list" = some true := by
  show kitB "list" "list" = _
  decide +kernel
@[simp] theorem isi_lst_dict (b : List PV) : opIsi (.lst b) "dict" = some false := by
  show kitB "list" "dict" = _
  decide +kernel
@[simp] theorem isi_scr_int (b : List PV) : opIsi (.scr b) "int" = some false := by
  show kitB "list" "int" = _
  decide +kernel
@[simp] theorem isi_scr_bool (b : List PV) : opIsi (.scr b) "bool" = some false := by
  show kitB "list" "bool" = _
  decide +kernel
@[simp] theorem isi_scr_tuple (b : List PV) : opIsi (.scr b) "tuple" = some false := by
  show kitB "list" "tuple" = _
  decide +kernel
@[simp] theorem isi_scr_str (b : List PV) : opIsi (.scr b) "str" = some false := by
  show kitB "list" "str" = _
  decide +kernel
@[simp] theorem isi_scr_list (b : List PV) : opIsi (.scr b) "list" = some true := by
  show kitB "list" "list" = _
  decide +kernel
@[simp] theorem isi_scr_dict (b : List PV) : opIsi (.scr b) "dict" = some false := by
  show kitB "list" "dict" = _
  decide +kernel
theorem call_top {E : Eng} {k f : Nat} {fi : FnI} {ps : List PV} (h : E.fns[f]? = some fi) : callF E (k + 1) f ps = callB E (callF E k) fi ps := by
  show (match E.fns[f]? with | some fi => callB E (callF E k) fi ps | none => .stuck) = _
  rw [h]
theorem atI_n {α : Type} (xs : List α) (j : Nat) : L2.atI xs (j : Int) = xs[j]? := by
  unfold L2.atI L2.ixN
  rw [if_pos (by omega)]
  by_cases h : (j : Int) < (xs.length : Int)
  · rw [if_pos h]; rfl
  · rw [if_neg h]
    show none = xs[j]?
    rw [List.getElem?_eq_none (by omega)]
@[simp] theorem atI_m1 {α : Type} (a : α) (xs : List α) : L2.atI (a :: xs) (-1) = (a :: xs)[xs.length]? := by
  unfold L2.atI L2.ixN
  rw [if_neg (by omega), if_pos (by simp only [List.length_cons]; omega)]
  have : (-1 + ((a :: xs).length : Int)).toNat = xs.length := by simp only [List.length_cons]; omega
  rw [this]; rfl
@[simp] theorem atI_0l {α : Type} (xs : List α) : L2.atI xs 0 = xs[0]? := atI_n xs 0
@[simp] theorem atI_1l {α : Type} (xs : List α) : L2.atI xs 1 = xs[1]? := atI_n xs 1
@[simp] theorem atI_2l {α : Type} (xs : List α) : L2.atI xs 2 = xs[2]? := atI_n xs 2
@[simp] theorem atI_3l {α : Type} (xs : List α) : L2.atI xs 3 = xs[3]? := atI_n xs 3
@[simp] theorem atI_4l {α : Type} (xs : List α) : L2.atI xs 4 = xs[4]? := atI_n xs 4
@[simp] theorem atI_5l {α : Type} (xs : List α) : L2.atI xs 5 = xs[5]? := atI_n xs 5
@[simp] theorem atI_6l {α : Type} (xs : List α) : L2.atI xs 6 = xs[6]? := atI_n xs 6
@[simp] theorem atI_7l {α : Type} (xs : List α) : L2.atI xs 7 = xs[7]? := atI_n xs 7
@[simp] theorem atI_8l {α : Type} (xs : List α) : L2.atI xs 8 = xs[8]? := atI_n xs 8
@[simp] theorem atI_9l {α : Type} (xs : List α) : L2.atI xs 9 = xs[9]? := atI_n xs 9
@[simp] theorem atI_10l {α : Type} (xs : List α) : L2.atI xs 10 = xs[10]? := atI_n xs 10
@[simp] theorem atI_11l {α : Type} (xs : List α) : L2.atI xs 11 = xs[11]? := atI_n xs 11
theorem exL_step {E : Eng} {Φ : Nat → List PV → CO} {s : IS} {l : List IS} {ε ε1 : Sg} (h : exS E Φ s ε = .nx ε1) : exL E Φ (s :: l) ε = exL E Φ l ε1 := by
  rw [exL, h]; rfl
theorem exL_ret {E : Eng} {Φ : Nat → List PV → CO} {s : IS} {l : List IS} {ε ε1 : Sg} {r : Rv} (h : exS E Φ s ε = .rt r ε1) : exL E Φ (s :: l) ε = .rt r ε1 := by
  rw [exL, h]; rfl
theorem stays_refl (r : Rv) (ε : Sg) : stays r ε ε = true := by
  cases r <;> simp [stays]
theorem cmp_map {own : List Nat} {r : Rv} {turn : PV → Sg → Out (Option PV)} {f : PV → PV} {ε : Sg} : ∀ {ps acc : List PV}, (∀ p ∈ ps, ∃ ε1, turn p ε = .ok (some (f p)) ε1 ∧ wipeS ε1 own = some ε) → acc.length + ps.length ≤ sizeLine →
    cmpI own r turn ps acc ε = .ok (acc ++ ps.map f) ε
  | [], acc, _, _ => by simp [cmpI]
  | p :: ps, acc, h, hl => by
    obtain ⟨ε1, h1, h2⟩ := h p List.mem_cons_self
    rw [List.length_cons] at hl
    rw [cmpI, h1]
    simp only [h2, stays_refl, if_true]
    rw [if_pos (by omega), cmp_map (fun q hq => h q (List.mem_cons_of_mem _ hq)) (by rw [List.length_append, List.length_singleton]; omega)]
    simp
theorem cut_mem {l : List PV} {lo hi : Option Int} {p : PV} (h : p ∈ cutP l lo hi) : p ∈ l := List.mem_of_mem_drop (List.mem_of_mem_take h)
theorem cut_len (l : List PV) (lo hi : Option Int) : (cutP l lo hi).length ≤ l.length := by
  unfold cutP
  rw [List.length_take, List.length_drop]
  omega
theorem sm_iff {n : Nat} {i : Int} (h1 : -(2 ^ n : Nat) < i) (h2 : i < (2 ^ n : Nat)) : Sm n i := by
  unfold Sm; omega
/-- the statements end by handing v back -/
def Ret (E : Eng) (Φ : Nat → List PV → CO) (l : List IS) (ε : Sg) (v : Rv) : Prop := ∃ ε', exL E Φ l ε = .rt v ε'
theorem Ret.step {E : Eng} {Φ : Nat → List PV → CO} {s : IS} {l : List IS} {ε : Sg} {v : Rv} (ε1 : Sg) (h : exS E Φ s ε = .nx ε1) (k : Ret E Φ l ε1 v) : Ret E Φ (s :: l) ε v := by
  obtain ⟨ε', k⟩ := k
  exact ⟨ε', (exL_step h).trans k⟩
theorem Ret.now {E : Eng} {Φ : Nat → List PV → CO} {s : IS} {l : List IS} {ε : Sg} {v : Rv} (ε1 : Sg) (h : exS E Φ s ε = .rt v ε1) : Ret E Φ (s :: l) ε v := ⟨ε1, exL_ret h⟩
/-- one turn of a comprehension -/
@[simp] noncomputable def turnC (E : Eng) (Φ : Nat → List PV → CO) (elt : IE) (tg : Tg) (cond : List IE) (p : PV) (ε : Sg) : Out (Option PV) := match asgT tg p ε with
  | some ε3 => (evC E Φ cond ε3).bind fun t ε4 => if t then (evE E Φ elt ε4).bind fun r ε5 => match frz r ε5 with
      | some (q, ε6) => .ok (some q) ε6
      | none => .stuck
    else .ok none ε4
  | none => .stuck
theorem ev_map {E : Eng} {Φ : Nat → List PV → CO} {elt : IE} {tg : Tg} {it : IE} {cond : List IE} {own : List Nat} {ε ε1 ε2 : Sg} {r : Rv} {ps : List PV} (f : PV → PV) (h1 : evE E Φ it ε = .ok r ε1) (h2 : (r.opd.peek ε1).bind itemsOf = some ps) (h3 : wipeS ε1 own = some ε2) (h4 : walkOk r.opd own = true)
    (h5 : ∀ p ∈ ps, ∃ ε3, turnC E Φ elt tg cond p ε2 = .ok (some (f p)) ε3 ∧ wipeS ε3 own = some ε2) (h6 : ps.length ≤ sizeLine) : evE E Φ (.cmpr elt tg it cond own) ε = .ok (.fresh (.lst (ps.map f))) (backS ε1 ε2 own) := by
  have h : cmpI own r.opd (turnC E Φ elt tg cond) ps [] ε2 = .ok ([] ++ ps.map f) ε2 := cmp_map h5 (by simpa using h6)
  rw [List.nil_append] at h
  rw [evE, h1]
  simp only [Out.bind, h2, h3, h4, if_true]
  show (match cmpI own r.opd (turnC E Φ elt tg cond) ps [] ε2 with | .ok acc ε7 => Out.ok (Rv.fresh (.lst acc)) (backS ε1 ε7 own) | _ => .stuck) = _
  rw [h]
end Eng

namespace K00
open PySem PySem.Spec L2 Eng
open PyProof.Rows hiding St
def f_ratio : FnI := ⟨"ratio", 2, [false, false], 3, [.int 1], [
    .ifs (.cmp .Eq (.var 1) (.cst (.int 0))) [.raise 0 "nothing is divided by 0"] [],
    .asg 2 (.blt .gcd [.var 0, .var 1]),
    .ifs (.cmp .Lt (.var 1) (.cst (.int 0))) [.asg 2 (.neg (.var 2))] [],
    .ret (.tup [.bin .FloorDiv (.var 0) (.var 2), .bin .FloorDiv (.var 1) (.var 2)])]⟩

def f_is_integer : FnI := ⟨"is_integer", 1, [false], 1, [], [
    .ret (.and [.isi (.var 0) "int", .not (.isi (.var 0) "bool")])]⟩

def f_is_ratio : FnI := ⟨"is_ratio", 1, [false], 2, [], [
    .ifs (.or [.not (.isi (.var 0) "tuple"), .cmp .NotEq (.blt .len [.var 0]) (.cst (.int 2)), .not (.blt .all [.cmpr (.call 1 [.var 1]) (.nm 1) (.var 0) [] [1]])]) [.ret (.cst (.bl false))] [],
    .ret (.and [.cmp .GtE (.sub (.var 0) (.cst (.int 1))) (.cst (.int 1)), .cmp .Eq (.blt .gcd [.sub (.var 0) (.cst (.int 0)), .sub (.var 0) (.cst (.int 1))]) (.cst (.int 1))])]⟩

def f_plus : FnI := ⟨"plus", 2, [false, false], 2, [], [
    .ret (.call 0 [.bin .Add (.bin .Mult (.sub (.var 0) (.cst (.int 0))) (.sub (.var 1) (.cst (.int 1)))) (.bin .Mult (.sub (.var 1) (.cst (.int 0))) (.sub (.var 0) (.cst (.int 1)))), .bin .Mult (.sub (.var 0) (.cst (.int 1))) (.sub (.var 1) (.cst (.int 1)))])]⟩

def f_opposite : FnI := ⟨"opposite", 1, [false], 1, [], [
    .ret (.tup [.neg (.sub (.var 0) (.cst (.int 0))), .sub (.var 0) (.cst (.int 1))])]⟩

def f_minus : FnI := ⟨"minus", 2, [false, false], 2, [], [
    .ret (.call 3 [.var 0, .call 4 [.var 1]])]⟩

def f_times : FnI := ⟨"times", 2, [false, false], 2, [], [
    .ret (.call 0 [.bin .Mult (.sub (.var 0) (.cst (.int 0))) (.sub (.var 1) (.cst (.int 0))), .bin .Mult (.sub (.var 0) (.cst (.int 1))) (.sub (.var 1) (.cst (.int 1)))])]⟩

def f_over : FnI := ⟨"over", 2, [false, false], 2, [], [
    .ifs (.cmp .Eq (.sub (.var 1) (.cst (.int 0))) (.cst (.int 0))) [.raise 0 "nothing is divided by 0"] [],
    .ret (.call 0 [.bin .Mult (.sub (.var 0) (.cst (.int 0))) (.sub (.var 1) (.cst (.int 1))), .bin .Mult (.sub (.var 0) (.cst (.int 1))) (.sub (.var 1) (.cst (.int 0)))])]⟩

def f_sign : FnI := ⟨"sign", 1, [false], 1, [], [
    .ret (.bin .Sub (.cmp .Gt (.sub (.var 0) (.cst (.int 0))) (.cst (.int 0))) (.cmp .Lt (.sub (.var 0) (.cst (.int 0))) (.cst (.int 0))))]⟩

def f_is_less : FnI := ⟨"is_less", 2, [false, false], 2, [], [
    .ret (.cmp .Lt (.bin .Mult (.sub (.var 0) (.cst (.int 0))) (.sub (.var 1) (.cst (.int 1)))) (.bin .Mult (.sub (.var 1) (.cst (.int 0))) (.sub (.var 0) (.cst (.int 1)))))]⟩

def f_law : FnI := ⟨"law", 1, [false], 6, [], [
    .asg 1 (.bin .Add (.cmpr (.bin .Sub (.bin .Mod (.blt .abs [.var 5]) (.cst (.int 1000))) (.cst (.int 500))) (.nm 5) (.slc (.var 0) none (some (.cst (.int 4)))) [] [5]) (.lst [.cst (.int 3), .cst (.int 7), .neg (.cst (.int 2)), .cst (.int 5)])),
    .asg 2 (.call 0 [.sub (.var 1) (.cst (.int 0)), .or [.sub (.var 1) (.cst (.int 1)), .cst (.int 1)]]),
    .asg 3 (.call 0 [.sub (.var 1) (.cst (.int 2)), .or [.sub (.var 1) (.cst (.int 3)), .cst (.int 1)]]),
    .ifs (.or [.not (.call 2 [.var 2]), .cmp .NotEq (.bin .Mult (.sub (.var 2) (.cst (.int 0))) (.or [.sub (.var 1) (.cst (.int 1)), .cst (.int 1)])) (.bin .Mult (.sub (.var 1) (.cst (.int 0))) (.sub (.var 2) (.cst (.int 1))))]) [.ret (.cst (.bl false))] [],
    .asg 4 (.call 3 [.var 2, .var 3]),
    .ifs (.or [.not (.call 2 [.var 4]), .cmp .NotEq (.bin .Mult (.bin .Mult (.sub (.var 4) (.cst (.int 0))) (.sub (.var 2) (.cst (.int 1)))) (.sub (.var 3) (.cst (.int 1)))) (.bin .Mult (.sub (.var 4) (.cst (.int 1))) (.bin .Add (.bin .Mult (.sub (.var 2) (.cst (.int 0))) (.sub (.var 3) (.cst (.int 1)))) (.bin .Mult (.sub (.var 3) (.cst (.int 0))) (.sub (.var 2) (.cst (.int 1))))))]) [.ret (.cst (.bl false))] [],
    .ifs (.or [.cmp .NotEq (.call 5 [.var 4, .var 3]) (.var 2), .cmp .NotEq (.call 6 [.var 2, .var 3]) (.call 6 [.var 3, .var 2])]) [.ret (.cst (.bl false))] [],
    .ifs (.cmp .NotEq (.call 8 [.call 5 [.var 2, .var 3]]) (.bin .Sub (.blt .int [.call 9 [.var 3, .var 2]]) (.blt .int [.call 9 [.var 2, .var 3]]))) [.ret (.cst (.bl false))] [],
    .ifs (.cmp .Eq (.sub (.var 3) (.cst (.int 0))) (.cst (.int 0))) [.tryx [.expr (.call 7 [.var 2, .var 3]),
    .ret (.cst (.bl false))] 0 [.ret (.cst (.bl true))]] [],
    .ret (.cmp .Eq (.call 6 [.call 7 [.var 2, .var 3], .var 3]) (.var 2))]⟩

def fs : List FnI := [f_ratio, f_is_integer, f_is_ratio, f_plus, f_opposite, f_minus, f_times, f_over, f_sign, f_is_less, f_law]
def gl : List (Str × PV) := []
def cl : List Str := ["NotNumber"]
def sb (a b : Nat) : Bool := (a == 0 && b == 0)
def bs : List Blt := [.gcd, .len, .all, .abs, .int]
def ts : List String := ["int", "bool", "tuple"]
def E : Eng.Eng := ⟨fs, gl, cl, bs, ts, sb⟩
@[simp] theorem fx_ratio : E.fns[0]? = some f_ratio := rfl
@[simp] theorem fm_ratio : f_ratio.mask = [false, false] := rfl
@[simp] theorem fn_ratio : f_ratio.np = 2 := rfl
@[simp] theorem fd_ratio : f_ratio.dfl = [.int 1] := rfl
@[simp] theorem fx_is_integer : E.fns[1]? = some f_is_integer := rfl
@[simp] theorem fm_is_integer : f_is_integer.mask = [false] := rfl
@[simp] theorem fn_is_integer : f_is_integer.np = 1 := rfl
@[simp] theorem fd_is_integer : f_is_integer.dfl = [] := rfl
@[simp] theorem fx_is_ratio : E.fns[2]? = some f_is_ratio := rfl
@[simp] theorem fm_is_ratio : f_is_ratio.mask = [false] := rfl
@[simp] theorem fn_is_ratio : f_is_ratio.np = 1 := rfl
@[simp] theorem fd_is_ratio : f_is_ratio.dfl = [] := rfl
@[simp] theorem fx_plus : E.fns[3]? = some f_plus := rfl
@[simp] theorem fm_plus : f_plus.mask = [false, false] := rfl
@[simp] theorem fn_plus : f_plus.np = 2 := rfl
@[simp] theorem fd_plus : f_plus.dfl = [] := rfl
@[simp] theorem fx_opposite : E.fns[4]? = some f_opposite := rfl
@[simp] theorem fm_opposite : f_opposite.mask = [false] := rfl
@[simp] theorem fn_opposite : f_opposite.np = 1 := rfl
@[simp] theorem fd_opposite : f_opposite.dfl = [] := rfl
@[simp] theorem fx_minus : E.fns[5]? = some f_minus := rfl
@[simp] theorem fm_minus : f_minus.mask = [false, false] := rfl
@[simp] theorem fn_minus : f_minus.np = 2 := rfl
@[simp] theorem fd_minus : f_minus.dfl = [] := rfl
@[simp] theorem fx_times : E.fns[6]? = some f_times := rfl
@[simp] theorem fm_times : f_times.mask = [false, false] := rfl
@[simp] theorem fn_times : f_times.np = 2 := rfl
@[simp] theorem fd_times : f_times.dfl = [] := rfl
@[simp] theorem fx_over : E.fns[7]? = some f_over := rfl
@[simp] theorem fm_over : f_over.mask = [false, false] := rfl
@[simp] theorem fn_over : f_over.np = 2 := rfl
@[simp] theorem fd_over : f_over.dfl = [] := rfl
@[simp] theorem fx_sign : E.fns[8]? = some f_sign := rfl
@[simp] theorem fm_sign : f_sign.mask = [false] := rfl
@[simp] theorem fn_sign : f_sign.np = 1 := rfl
@[simp] theorem fd_sign : f_sign.dfl = [] := rfl
@[simp] theorem fx_is_less : E.fns[9]? = some f_is_less := rfl
@[simp] theorem fm_is_less : f_is_less.mask = [false, false] := rfl
@[simp] theorem fn_is_less : f_is_less.np = 2 := rfl
@[simp] theorem fd_is_less : f_is_less.dfl = [] := rfl
@[simp] theorem fx_law : E.fns[10]? = some f_law := rfl
@[simp] theorem fm_law : f_law.mask = [false] := rfl
@[simp] theorem fn_law : f_law.np = 1 := rfl
@[simp] theorem fd_law : f_law.dfl = [] := rfl
theorem es : E.sub = sb := rfl
end K00

namespace K00
open PySem PySem.Spec L2 Eng Rt
open PyProof.Rows hiding St
theorem call_ratio (k : Nat) {a b : Int} (h : b ≠ 0) (sb : Sm 8000 b) : callF E (k+1) 0 [.int a, .int b] = .ok (.tup [.int (rN a b), .int (rD a b)]) false [] := by
  have hc := cm_ne (a := a) h
  have hd := fun i => div_ok (i := i) (cm_sm (a := a) h sb)
  have e1 : rN a b = a.fdiv (cm a b) := rfl
  have e2 : rD a b = b.fdiv (cm a b) := rfl
  rw [e1, e2, call_top fx_ratio]
  unfold cm at *
  by_cases hb : b < 0
  · simp only [if_pos hb] at *
    simp [f_ratio, h, hb, gcd_cm, hc, hd]
  · simp only [if_neg hb] at *
    simp [f_ratio, h, hb, gcd_cm, hc, hd]
theorem call_isint (k : Nat) (a : Int) : callF E (k+1) 1 [.int a] = .ok (.bl true) false [] := by
  rw [call_top fx_is_integer]
  simp [f_is_integer]
theorem call_isratio (k : Nat) {p q : Int} (h : IsR p q) : callF E (k+2) 2 [.tup [.int p, .int q]] = .ok (.bl true) false [] := by
  have h1 := h.pos
  have h2 : (Int.gcd p q : Int) = 1 := by rw [h.co]; rfl
  rw [call_top fx_is_ratio]
  simp [f_is_ratio, call_isint, h1]
  exact h2
theorem call_plus (k : Nat) {a b c d : Int} (hb : b ≠ 0) (hd : d ≠ 0) (sa : Sm 1000 a) (sb : Sm 1000 b) (sc : Sm 1000 c) (sd : Sm 1000 d) :
    callF E (k+2) 3 [.tup [.int a, .int b], .tup [.int c, .int d]] = .ok (.tup [.int (rN (a * d + c * b) (b * d)), .int (rD (a * d + c * b) (b * d))]) false [] := by
  have h := Int.mul_ne_zero hb hd
  have s := (sb.mul sd).le (m := 8000) (by decide)
  rw [call_top fx_plus]
  simp [f_plus, mul_ok sa sd (by decide), mul_ok sc sb (by decide), mul_ok sb sd (by decide), call_ratio k h s]
theorem call_opp (k : Nat) {a b : Int} : callF E (k+1) 4 [.tup [.int a, .int b]] = .ok (.tup [.int (-a), .int b]) false [] := by
  rw [call_top fx_opposite]
  simp [f_opposite]
theorem call_minus (k : Nat) {a b c d : Int} (hb : b ≠ 0) (hd : d ≠ 0) (sa : Sm 1000 a) (sb : Sm 1000 b) (sc : Sm 1000 c) (sd : Sm 1000 d) :
    callF E (k+3) 5 [.tup [.int a, .int b], .tup [.int c, .int d]] = .ok (.tup [.int (rN (a * d + -c * b) (b * d)), .int (rD (a * d + -c * b) (b * d))]) false [] := by
  rw [call_top fx_minus]
  simp [f_minus, call_opp, call_plus k hb hd sa sb sc.neg sd]
theorem call_times (k : Nat) {a b c d : Int} (hb : b ≠ 0) (hd : d ≠ 0) (sa : Sm 1000 a) (sb : Sm 1000 b) (sc : Sm 1000 c) (sd : Sm 1000 d) :
    callF E (k+2) 6 [.tup [.int a, .int b], .tup [.int c, .int d]] = .ok (.tup [.int (rN (a * c) (b * d)), .int (rD (a * c) (b * d))]) false [] := by
  have h := Int.mul_ne_zero hb hd
  have s := (sb.mul sd).le (m := 8000) (by decide)
  rw [call_top fx_times]
  simp [f_times, mul_ok sa sc (by decide), mul_ok sb sd (by decide), call_ratio k h s]
theorem call_over (k : Nat) {a b c d : Int} (hb : b ≠ 0) (hc : c ≠ 0) (sa : Sm 1000 a) (sb : Sm 1000 b) (sc : Sm 1000 c) (sd : Sm 1000 d) :
    callF E (k+2) 7 [.tup [.int a, .int b], .tup [.int c, .int d]] = .ok (.tup [.int (rN (a * d) (b * c)), .int (rD (a * d) (b * c))]) false [] := by
  have h := Int.mul_ne_zero hb hc
  have s := (sb.mul sc).le (m := 8000) (by decide)
  rw [call_top fx_over]
  simp [f_over, hc, mul_ok sa sd (by decide), mul_ok sb sc (by decide), call_ratio k h s]
theorem call_over0 (k : Nat) {a b d : Int} : callF E (k+1) 7 [.tup [.int a, .int b], .tup [.int 0, .int d]] = .exc 0 [] := by
  rw [call_top fx_over]
  simp [f_over]
theorem call_sign (k : Nat) {a b : Int} : callF E (k+1) 8 [.tup [.int a, .int b]] = .ok (.int ((if 0 < a then 1 else 0) - (if a < 0 then 1 else 0))) false [] := by
  rw [call_top fx_sign]
  simp [f_sign]
theorem call_less (k : Nat) {a b c d : Int} (sa : Sm 1000 a) (sb : Sm 1000 b) (sc : Sm 1000 c) (sd : Sm 1000 d) : callF E (k+1) 9 [.tup [.int a, .int b], .tup [.int c, .int d]] = .ok (.bl (decide (a * d < c * b))) false [] := by
  rw [call_top fx_is_less]
  simp [f_is_less, mul_ok sa sd (by decide), mul_ok sc sb (by decide)]
def drw : PV → PV
  | .int c => .int ((if c < 0 then -c else c).fmod 1000 - 500)
  | p => p
theorem draw {xs : List PV} (h : ∀ p ∈ xs, ∃ n, p = .int n ∧ Sm 10 n) : ∃ a b c d l, xs ++ [.int 3, .int 7, .int (-2), .int 5] = .int a :: .int b :: .int c :: .int d :: l ∧ Sm 10 a ∧ Sm 10 b ∧ Sm 10 c ∧ Sm 10 d := by
  have s3 : Sm 10 3 := by unfold Sm; decide
  have s7 : Sm 10 7 := by unfold Sm; decide
  have s2 : Sm 10 (-2) := by unfold Sm; decide
  have s5 : Sm 10 5 := by unfold Sm; decide
  match xs, h with
  | [], _ => exact ⟨3, 7, -2, 5, _, rfl, s3, s7, s2, s5⟩
  | [x], h =>
    obtain ⟨a, rfl, ha⟩ := h x (by simp)
    exact ⟨a, 3, 7, -2, _, rfl, ha, s3, s7, s2⟩
  | [x, y], h =>
    obtain ⟨a, rfl, ha⟩ := h x (by simp)
    obtain ⟨b, rfl, hb⟩ := h y (by simp)
    exact ⟨a, b, 3, 7, _, rfl, ha, hb, s3, s7⟩
  | [x, y, z], h =>
    obtain ⟨a, rfl, ha⟩ := h x (by simp)
    obtain ⟨b, rfl, hb⟩ := h y (by simp)
    obtain ⟨c, rfl, hc⟩ := h z (by simp)
    exact ⟨a, b, c, 3, _, rfl, ha, hb, hc, s3⟩
  | x :: y :: z :: w :: l, h =>
    obtain ⟨a, rfl, ha⟩ := h x (by simp)
    obtain ⟨b, rfl, hb⟩ := h y (by simp)
    obtain ⟨c, rfl, hc⟩ := h z (by simp)
    obtain ⟨d, rfl, hd⟩ := h w (by simp)
    exact ⟨a, b, c, d, _, rfl, ha, hb, hc, hd⟩
theorem draw_sm (c : Int) : ∃ n, drw (.int c) = .int n ∧ Sm 10 n := by
  refine ⟨_, rfl, ?_⟩
  have h1 := Int.fmod_nonneg_of_pos (a := if c < 0 then -c else c) (b := 1000) (by decide)
  have h2 := Int.fmod_lt_of_pos (if c < 0 then -c else c) (b := 1000) (by decide)
  refine sm_iff ?_ ?_ <;> simp <;> omega
/-- the law behind its draws -/
theorem law_body {Φ : Nat → List PV → CO} (hΦ : Φ = callF E 9) (q : PV) (l : List PV) {a b c d : Int} (sa : Sm 10 a) (sb : Sm 10 b) (sc : Sm 10 c) (sd : Sm 10 d) :
    Ret E Φ f_law.body.tail [.val q, .own true (.lst (.int a :: .int b :: .int c :: .int d :: l)), .none, .none, .none, .none] (.val (.bl true)) := by
  subst hΦ
  obtain ⟨m, hm, em, sm⟩ : ∃ m : Int, m ≠ 0 ∧ (if b = 0 then 1 else b) = m ∧ Sm 10 m := by
    by_cases h : b = 0
    · exact ⟨1, by decide, by simp [h], by unfold Sm; decide⟩
    · exact ⟨b, h, by simp [h], sb⟩
  obtain ⟨n, hn, en, sn⟩ : ∃ n : Int, n ≠ 0 ∧ (if d = 0 then 1 else d) = n ∧ Sm 10 n := by
    by_cases h : d = 0
    · exact ⟨1, by decide, by simp [h], by unfold Sm; decide⟩
    · exact ⟨d, h, by simp [h], sd⟩
  have c1 := call_ratio 8 (a := a) hm (sm.le (by decide))
  have c2 := call_ratio 8 (a := c) hn (sn.le (by decide))
  have i1 := r_is (a := a) hm
  have i2 := r_is (a := c) hn
  have e1 := r_eq (a := a) hm
  have e2 := r_eq (a := c) hn
  have sp1 := rN_sm hm sa
  have sq1 := rD_sm (a := a) hm sm
  have sp2 := rN_sm hn sc
  have sq2 := rD_sm (a := c) hn sn
  generalize rN a m = p1 at *
  generalize rD a m = q1 at *
  generalize rN c n = p2 at *
  generalize rD c n = q2 at *
  have g1 : q1 ≠ 0 := by have := i1.pos; omega
  have g2 : q2 ≠ 0 := by have := i2.pos; omega
  refine .step [.val q, .own true (.lst (.int a :: .int b :: .int c :: .int d :: l)), .val (.tup [.int p1, .int q1]), .none, .none, .none] ?_ ?_
  · by_cases h : b = 0
    · rw [if_pos h] at em
      subst em
      simp [h, c1]
    · rw [if_neg h] at em
      subst em
      have hb : (b != 0) = true := by simpa using h
      simp [hb, c1]
  refine .step [.val q, .own true (.lst (.int a :: .int b :: .int c :: .int d :: l)), .val (.tup [.int p1, .int q1]), .val (.tup [.int p2, .int q2]), .none, .none] ?_ ?_
  · by_cases h : d = 0
    · rw [if_pos h] at en
      subst en
      simp [h, c2]
    · rw [if_neg h] at en
      subst en
      have hb : (d != 0) = true := by simpa using h
      simp [hb, c2]
  refine .step [.val q, .own true (.lst (.int a :: .int b :: .int c :: .int d :: l)), .val (.tup [.int p1, .int q1]), .val (.tup [.int p2, .int q2]), .none, .none] ?_ ?_
  · have k1 := call_isratio 7 i1
    by_cases h : b = 0
    · rw [if_pos h] at em
      subst em
      simp [h, k1, mul_ok sp1 sm (by decide), mul_ok sa sq1 (by decide)]
      omega
    · rw [if_neg h] at em
      subst em
      have hb : (b != 0) = true := by simpa using h
      simp [hb, k1, mul_ok sp1 sm (by decide), mul_ok sa sq1 (by decide)]
      omega
  -- both
  have gb : q1 * q2 ≠ 0 := Int.mul_ne_zero g1 g2
  have sB : Sm 20 (q1 * q2) := (sq1.mul sq2).le (by decide)
  have sA : Sm 21 (p1 * q2 + p2 * q1) := ((sp1.mul sq2).add (sp2.mul sq1)).le (by decide)
  have c3 := call_plus 7 g1 g2 (sp1.le (m := 1000) (by decide)) (sq1.le (by decide)) (sp2.le (by decide)) (sq2.le (by decide))
  have i3 := r_is (a := p1 * q2 + p2 * q1) gb
  have e3 := r_eq (a := p1 * q2 + p2 * q1) gb
  have sp3 := rN_sm gb sA
  have sq3 := rD_sm (a := p1 * q2 + p2 * q1) gb sB
  generalize rN (p1 * q2 + p2 * q1) (q1 * q2) = p3 at *
  generalize rD (p1 * q2 + p2 * q1) (q1 * q2) = q3 at *
  have g3 : q3 ≠ 0 := by have := i3.pos; omega
  refine .step [.val q, .own true (.lst (.int a :: .int b :: .int c :: .int d :: l)), .val (.tup [.int p1, .int q1]), .val (.tup [.int p2, .int q2]), .val (.tup [.int p3, .int q3]), .none] ?_ ?_
  · simp [c3]
  refine .step [.val q, .own true (.lst (.int a :: .int b :: .int c :: .int d :: l)), .val (.tup [.int p1, .int q1]), .val (.tup [.int p2, .int q2]), .val (.tup [.int p3, .int q3]), .none] ?_ ?_
  · have k1 := call_isratio 7 i3
    simp [k1, mul_ok sp3 sq1 (by decide), mul_ok (sp3.mul sq1) sq2 (by decide), mul_ok sp1 sq2 (by decide), mul_ok sp2 sq1 (by decide), mul_ok sq3 sA (by decide)]
    grind
  -- minus(both, other) is one
  have r1 := r_id (a := p3 * q2 + -p2 * q3) (b := q3 * q2) (Int.mul_ne_zero g3 g2) i1 (by
    refine Int.eq_of_mul_eq_mul_right gb ?_
    grind)
  have c4 := call_minus 6 g3 g2 (sp3.le (m := 1000) (by decide)) (sq3.le (by decide)) (sp2.le (by decide)) (sq2.le (by decide))
  rw [r1.1, r1.2] at c4
  have c5 := call_times 7 g1 g2 (sp1.le (m := 1000) (by decide)) (sq1.le (by decide)) (sp2.le (by decide)) (sq2.le (by decide))
  have c6 := call_times 7 g2 g1 (sp2.le (m := 1000) (by decide)) (sq2.le (by decide)) (sp1.le (by decide)) (sq1.le (by decide))
  rw [Int.mul_comm p2, Int.mul_comm q2] at c6
  refine .step [.val q, .own true (.lst (.int a :: .int b :: .int c :: .int d :: l)), .val (.tup [.int p1, .int q1]), .val (.tup [.int p2, .int q2]), .val (.tup [.int p3, .int q3]), .none] ?_ ?_
  · simp [c4, c5, c6]
  -- signs
  have c7 := call_minus 6 g1 g2 (sp1.le (m := 1000) (by decide)) (sq1.le (by decide)) (sp2.le (by decide)) (sq2.le (by decide))
  have i4 := r_is (a := p1 * q2 + -p2 * q1) gb
  have e4 := r_eq (a := p1 * q2 + -p2 * q1) gb
  generalize rN (p1 * q2 + -p2 * q1) (q1 * q2) = p4 at *
  generalize rD (p1 * q2 + -p2 * q1) (q1 * q2) = q4 at *
  have c8 := call_sign 8 (a := p4) (b := q4)
  have c9 := call_less 8 (sp1.le (m := 1000) (by decide)) (sq1.le (by decide)) (sp2.le (by decide)) (sq2.le (by decide))
  have c10 := call_less 8 (sp2.le (m := 1000) (by decide)) (sq2.le (by decide)) (sp1.le (by decide)) (sq1.le (by decide))
  refine .step [.val q, .own true (.lst (.int a :: .int b :: .int c :: .int d :: l)), .val (.tup [.int p1, .int q1]), .val (.tup [.int p2, .int q2]), .val (.tup [.int p3, .int q3]), .none] ?_ ?_
  · have pq : 0 < q1 * q2 := Int.mul_pos (by have := i1.pos; omega) (by have := i2.pos; omega)
    have p4' : 0 < q4 := by have := i4.pos; omega
    have ny : -p2 * q1 = -(p2 * q1) := Int.neg_mul ..
    rw [ny] at e4
    have s1 : 0 < p4 ↔ p2 * q1 < p1 * q2 := by
      constructor
      · intro h
        have := Int.mul_pos h pq
        rw [e4] at this
        have := Int.pos_of_mul_pos_left this p4'
        omega
      · intro h
        have : 0 < (p1 * q2 + -(p2 * q1)) * q4 := Int.mul_pos (by omega) p4'
        rw [← e4] at this
        exact Int.pos_of_mul_pos_left this pq
    have s2 : p4 < 0 ↔ p1 * q2 < p2 * q1 := by
      constructor
      · intro h
        have : 0 < -p4 * (q1 * q2) := Int.mul_pos (by omega) pq
        rw [Int.neg_mul, e4, ← Int.neg_mul] at this
        have := Int.pos_of_mul_pos_left this p4'
        omega
      · intro h
        have : 0 < -(p1 * q2 + -(p2 * q1)) * q4 := Int.mul_pos (by omega) p4'
        rw [Int.neg_mul, ← e4, ← Int.neg_mul] at this
        have := Int.pos_of_mul_pos_left this pq
        omega
    simp [c7, c8, c9, c10, s1, s2]
  -- the quotient
  by_cases h0 : p2 = 0
  · subst h0
    have c11 := call_over0 8 (a := p1) (b := q1) (d := q2)
    refine .now [.val q, .own true (.lst (.int a :: .int b :: .int c :: .int d :: l)), .val (.tup [.int p1, .int q1]), .val (.tup [.int 0, .int q2]), .val (.tup [.int p3, .int q3]), .none] ?_
    simp [c11, es, K00.sb]
  · have c12 := call_over 7 g1 h0 (sp1.le (m := 1000) (by decide)) (sq1.le (by decide)) (sp2.le (by decide)) (sq2.le (by decide))
    have gq := Int.mul_ne_zero g1 h0
    have i5 := r_is (a := p1 * q2) gq
    have e5 := r_eq (a := p1 * q2) gq
    have sp5 := rN_sm gq (sp1.mul sq2)
    have sq5 := rD_sm (a := p1 * q2) gq (sq1.mul sp2)
    generalize rN (p1 * q2) (q1 * p2) = p5 at *
    generalize rD (p1 * q2) (q1 * p2) = q5 at *
    have g5 : q5 ≠ 0 := by have := i5.pos; omega
    have c13 := call_times 7 g5 g2 (sp5.le (m := 1000) (by decide)) (sq5.le (by decide)) (sp2.le (by decide)) (sq2.le (by decide))
    have r2 := r_id (a := p5 * p2) (b := q5 * q2) (Int.mul_ne_zero g5 g2) i1 (by
      grind)
    rw [r2.1, r2.2] at c13
    refine .step [.val q, .own true (.lst (.int a :: .int b :: .int c :: .int d :: l)), .val (.tup [.int p1, .int q1]), .val (.tup [.int p2, .int q2]), .val (.tup [.int p3, .int q3]), .none] ?_ ?_
    · simp [h0]
    refine .now [.val q, .own true (.lst (.int a :: .int b :: .int c :: .int d :: l)), .val (.tup [.int p1, .int q1]), .val (.tup [.int p2, .int q2]), .val (.tup [.int p3, .int q3]), .none] ?_
    simp [c12, c13]
theorem law_ok (ns : List Int) (h1 : ns.length ≤ 63) (_ : ∀ z ∈ ns, Builtin.Int.intBits z ≤ 1048576) : callF E (9 + 1) 10 [.scr (ns.map PV.int)] = .ok (.bl true) false [] := by
  rw [call_top fx_law]
  have hl : (cutP (ns.map PV.int) none (some 4)).length ≤ 63 := Nat.le_trans (cut_len ..) (by simpa using h1)
  have hm : ∀ p ∈ cutP (ns.map PV.int) none (some 4), ∃ c, p = .int c := fun p hp => by
    obtain ⟨c, _, rfl⟩ := List.mem_map.mp (cut_mem hp)
    exact ⟨c, rfl⟩
  obtain ⟨a, b, c, d, l, e, sa, sb, sc, sd⟩ := draw (xs := (cutP (ns.map PV.int) none (some 4)).map drw) fun p hp => by
    obtain ⟨q, hq, rfl⟩ := List.mem_map.mp hp
    obtain ⟨c, rfl⟩ := hm q hq
    exact draw_sm c
  have key : Ret E (callF E 9) f_law.body [.val (.scr (ns.map PV.int)), .none, .none, .none, .none, .none] (.val (.bl true)) := by
    refine Ret.step (l := f_law.body.tail) [.val (.scr (ns.map PV.int)), .own true (.lst (.int a :: .int b :: .int c :: .int d :: l)), .none, .none, .none, .none] ?_ (law_body rfl _ _ sa sb sc sd)
    rw [exS, evE, ev_map drw (ε1 := [.val (.scr (ns.map PV.int)), .none, .none, .none, .none, .none]) (ε2 := [.val (.scr (ns.map PV.int)), .none, .none, .none, .none, .none]) (r := .fresh (.lst (cutP (ns.map PV.int) none (some 4)))) (ps := cutP (ns.map PV.int) none (some 4)) ?_ rfl rfl rfl ?_ (Nat.le_trans hl (by decide))]
    · have hlen : (cutP (ns.map PV.int) none (some 4)).length ≤ 16777212 := by omega
      simp [e, hlen]
    · simp [opSlc, evO]
    · intro p hp
      obtain ⟨c, rfl⟩ := hm p hp
      refine ⟨[.val (.scr (ns.map PV.int)), .none, .none, .none, .none, .val (.int c)], ?_, rfl⟩
      simp [drw]
  obtain ⟨ε', k⟩ := key
  have eb : startS f_law.mask [.scr (ns.map PV.int)] ++ List.replicate (f_law.nsl - f_law.np) Slot.none = [.val (.scr (ns.map PV.int)), .none, .none, .none, .none, .none] := rfl
  rw [callB, if_pos ⟨rfl, rfl, by decide⟩, eb, k]
  rfl
end K00

namespace K00
open PySem PySem.Spec L2 Eng
open PyProof.Rows hiding St
def top (i : Nat) : Stmt := PySem.Challenge.pw_mitrehouse_k00_ratios.main.body.getD i (.Pass ⟨0, 0, 0, 0⟩)
theorem sc_ratio : FnScope ["above", "below", "common"] ["above", "below"] (defScope (top 5)) := ⟨rfl, rfl, rfl, by decide +kernel, rfl, by decide +kernel, by decide +kernel⟩
theorem mt_ratio : mtSs E ⟨["above", "below", "common"], defScope (top 5), defScope (top 5)⟩ f_ratio.body (defBody (top 5)) = true := by decide +kernel
theorem sc_is_integer : FnScope ["value"] ["value"] (defScope (top 6)) := ⟨rfl, rfl, rfl, by decide +kernel, rfl, by decide +kernel, by decide +kernel⟩
theorem mt_is_integer : mtSs E ⟨["value"], defScope (top 6), defScope (top 6)⟩ f_is_integer.body (defBody (top 6)) = true := by decide +kernel
theorem sc_is_ratio : FnScope ["value", "part"] ["value"] (defScope (top 7)) := ⟨rfl, rfl, rfl, by decide +kernel, rfl, by decide +kernel, by decide +kernel⟩
theorem mt_is_ratio : mtSs E ⟨["value", "part"], defScope (top 7), defScope (top 7)⟩ f_is_ratio.body (defBody (top 7)) = true := by decide +kernel
theorem sc_plus : FnScope ["one", "other"] ["one", "other"] (defScope (top 8)) := ⟨rfl, rfl, rfl, by decide +kernel, rfl, by decide +kernel, by decide +kernel⟩
theorem mt_plus : mtSs E ⟨["one", "other"], defScope (top 8), defScope (top 8)⟩ f_plus.body (defBody (top 8)) = true := by decide +kernel
theorem sc_opposite : FnScope ["one"] ["one"] (defScope (top 9)) := ⟨rfl, rfl, rfl, by decide +kernel, rfl, by decide +kernel, by decide +kernel⟩
theorem mt_opposite : mtSs E ⟨["one"], defScope (top 9), defScope (top 9)⟩ f_opposite.body (defBody (top 9)) = true := by decide +kernel
theorem sc_minus : FnScope ["one", "other"] ["one", "other"] (defScope (top 10)) := ⟨rfl, rfl, rfl, by decide +kernel, rfl, by decide +kernel, by decide +kernel⟩
theorem mt_minus : mtSs E ⟨["one", "other"], defScope (top 10), defScope (top 10)⟩ f_minus.body (defBody (top 10)) = true := by decide +kernel
theorem sc_times : FnScope ["one", "other"] ["one", "other"] (defScope (top 11)) := ⟨rfl, rfl, rfl, by decide +kernel, rfl, by decide +kernel, by decide +kernel⟩
theorem mt_times : mtSs E ⟨["one", "other"], defScope (top 11), defScope (top 11)⟩ f_times.body (defBody (top 11)) = true := by decide +kernel
theorem sc_over : FnScope ["one", "other"] ["one", "other"] (defScope (top 12)) := ⟨rfl, rfl, rfl, by decide +kernel, rfl, by decide +kernel, by decide +kernel⟩
theorem mt_over : mtSs E ⟨["one", "other"], defScope (top 12), defScope (top 12)⟩ f_over.body (defBody (top 12)) = true := by decide +kernel
theorem sc_sign : FnScope ["one"] ["one"] (defScope (top 13)) := ⟨rfl, rfl, rfl, by decide +kernel, rfl, by decide +kernel, by decide +kernel⟩
theorem mt_sign : mtSs E ⟨["one"], defScope (top 13), defScope (top 13)⟩ f_sign.body (defBody (top 13)) = true := by decide +kernel
theorem sc_is_less : FnScope ["one", "other"] ["one", "other"] (defScope (top 14)) := ⟨rfl, rfl, rfl, by decide +kernel, rfl, by decide +kernel, by decide +kernel⟩
theorem mt_is_less : mtSs E ⟨["one", "other"], defScope (top 14), defScope (top 14)⟩ f_is_less.body (defBody (top 14)) = true := by decide +kernel
theorem sc_law : FnScope ["script", "numbers", "one", "other", "both", "cell"] ["script"] (defScope (top 16)) := ⟨rfl, rfl, rfl, by decide +kernel, rfl, by decide +kernel, by decide +kernel⟩
theorem mt_law : mtSs E ⟨["script", "numbers", "one", "other", "both", "cell"], defScope (top 16), defScope (top 16)⟩ f_law.body (defBody (top 16)) = true := by decide +kernel
set_option maxHeartbeats 0 in
theorem all_mk {K : Fg} {h : Heap} {mg : Str → Option Value} {fa f0 f1 f2 f3 f4 f5 f6 f7 f8 f9 f10 C0 : Addr} {od0 an0 od1 an1 od2 an2 od3 an3 od4 an4 od5 an5 od6 an6 od7 an7 od8 an8 od9 an9 od10 an10 : Option Addr} {sl0 sl1 sl2 sl3 sl4 sl5 sl6 sl7 sl8 sl9 sl10 : Array (Option Value)} {oc0 kV0 dc0 pm0 cd0 ct0 oc1 kV1 dc1 pm1 cd1 ct1 oc2 kV2 dc2 pm2 cd2 ct2 oc3 kV3 dc3 pm3 cd3 ct3 oc4 kV4 dc4 pm4 cd4 ct4 oc5 kV5 dc5 pm5 cd5 ct5 oc6 kV6 dc6 pm6 cd6 ct6 oc7 kV7 dc7 pm7 cd7 ct7 oc8 kV8 dc8 pm8 cd8 ct8 oc9 kV9 dc9 pm9 cd9 ct9 oc10 kV10 dc10 pm10 cd10 ct10 : Value} {T0 : Addr} {o0 : Obj} {n0 : Nat} {tk0_0 : Tok} (X : K.In h) (G : h.Ns mainGlobals mg) (hfa : mg "law" = some (.ref fa))
    (a0 : PySem.W.nsIn K mainGlobals "ratio" = some (some (.ref f0)))
    (l0 : K.lookup f0 = some ⟨oc0, od0, .func (PySem.W.fnOf "ratio" "ratio" (defArgs (top 5)) (defBody (top 5)) (defScope (top 5)) (.ref T0) kV0 dc0 pm0 an0 cd0 ct0), sl0⟩)
    (u0 : K.lookup T0 = some o0)
    (v0 : o0.data = .seq #[.int 1 tk0_0] n0)
    (c0 : PySem.W.codeIn K cd0 "ratio" = true)
    (k0 : PySem.W.keepIn K (.ref f0) = true)
    (a1 : PySem.W.nsIn K mainGlobals "is_integer" = some (some (.ref f1)))
    (l1 : K.lookup f1 = some ⟨oc1, od1, .func (PySem.W.fnOf "is_integer" "is_integer" (defArgs (top 6)) (defBody (top 6)) (defScope (top 6)) .none kV1 dc1 pm1 an1 cd1 ct1), sl1⟩)
    (c1 : PySem.W.codeIn K cd1 "is_integer" = true)
    (k1 : PySem.W.keepIn K (.ref f1) = true)
    (a2 : PySem.W.nsIn K mainGlobals "is_ratio" = some (some (.ref f2)))
    (l2 : K.lookup f2 = some ⟨oc2, od2, .func (PySem.W.fnOf "is_ratio" "is_ratio" (defArgs (top 7)) (defBody (top 7)) (defScope (top 7)) .none kV2 dc2 pm2 an2 cd2 ct2), sl2⟩)
    (c2 : PySem.W.codeIn K cd2 "is_ratio" = true)
    (k2 : PySem.W.keepIn K (.ref f2) = true)
    (a3 : PySem.W.nsIn K mainGlobals "plus" = some (some (.ref f3)))
    (l3 : K.lookup f3 = some ⟨oc3, od3, .func (PySem.W.fnOf "plus" "plus" (defArgs (top 8)) (defBody (top 8)) (defScope (top 8)) .none kV3 dc3 pm3 an3 cd3 ct3), sl3⟩)
    (c3 : PySem.W.codeIn K cd3 "plus" = true)
    (k3 : PySem.W.keepIn K (.ref f3) = true)
    (a4 : PySem.W.nsIn K mainGlobals "opposite" = some (some (.ref f4)))
    (l4 : K.lookup f4 = some ⟨oc4, od4, .func (PySem.W.fnOf "opposite" "opposite" (defArgs (top 9)) (defBody (top 9)) (defScope (top 9)) .none kV4 dc4 pm4 an4 cd4 ct4), sl4⟩)
    (c4 : PySem.W.codeIn K cd4 "opposite" = true)
    (k4 : PySem.W.keepIn K (.ref f4) = true)
    (a5 : PySem.W.nsIn K mainGlobals "minus" = some (some (.ref f5)))
    (l5 : K.lookup f5 = some ⟨oc5, od5, .func (PySem.W.fnOf "minus" "minus" (defArgs (top 10)) (defBody (top 10)) (defScope (top 10)) .none kV5 dc5 pm5 an5 cd5 ct5), sl5⟩)
    (c5 : PySem.W.codeIn K cd5 "minus" = true)
    (k5 : PySem.W.keepIn K (.ref f5) = true)
    (a6 : PySem.W.nsIn K mainGlobals "times" = some (some (.ref f6)))
    (l6 : K.lookup f6 = some ⟨oc6, od6, .func (PySem.W.fnOf "times" "times" (defArgs (top 11)) (defBody (top 11)) (defScope (top 11)) .none kV6 dc6 pm6 an6 cd6 ct6), sl6⟩)
    (c6 : PySem.W.codeIn K cd6 "times" = true)
    (k6 : PySem.W.keepIn K (.ref f6) = true)
    (a7 : PySem.W.nsIn K mainGlobals "over" = some (some (.ref f7)))
    (l7 : K.lookup f7 = some ⟨oc7, od7, .func (PySem.W.fnOf "over" "over" (defArgs (top 12)) (defBody (top 12)) (defScope (top 12)) .none kV7 dc7 pm7 an7 cd7 ct7), sl7⟩)
    (c7 : PySem.W.codeIn K cd7 "over" = true)
    (k7 : PySem.W.keepIn K (.ref f7) = true)
    (a8 : PySem.W.nsIn K mainGlobals "sign" = some (some (.ref f8)))
    (l8 : K.lookup f8 = some ⟨oc8, od8, .func (PySem.W.fnOf "sign" "sign" (defArgs (top 13)) (defBody (top 13)) (defScope (top 13)) .none kV8 dc8 pm8 an8 cd8 ct8), sl8⟩)
    (c8 : PySem.W.codeIn K cd8 "sign" = true)
    (k8 : PySem.W.keepIn K (.ref f8) = true)
    (a9 : PySem.W.nsIn K mainGlobals "is_less" = some (some (.ref f9)))
    (l9 : K.lookup f9 = some ⟨oc9, od9, .func (PySem.W.fnOf "is_less" "is_less" (defArgs (top 14)) (defBody (top 14)) (defScope (top 14)) .none kV9 dc9 pm9 an9 cd9 ct9), sl9⟩)
    (c9 : PySem.W.codeIn K cd9 "is_less" = true)
    (k9 : PySem.W.keepIn K (.ref f9) = true)
    (a10 : PySem.W.nsIn K mainGlobals "law" = some (some (.ref f10)))
    (l10 : K.lookup f10 = some ⟨oc10, od10, .func (PySem.W.fnOf "law" "law" (defArgs (top 16)) (defBody (top 16)) (defScope (top 16)) .none kV10 dc10 pm10 an10 cd10 ct10), sl10⟩)
    (c10 : PySem.W.codeIn K cd10 "law" = true)
    (k10 : PySem.W.keepIn K (.ref f10) = true)
    (g0 : PySem.W.nsIn K mainGlobals "NotNumber" = some (some (.ref C0)))
    (x0 : PySem.W.excIn K C0 HandSPX.veTail "ValueError.__new__" = true)
    (y0 : PySem.W.keepIn K (.ref C0) = true)
    (b0 : PySem.W.subIn K (.ref C0) (.type "BaseException") = some true)
    (t0 : PySem.W.typeIn K (.ref C0) = some (.type "type"))
    (i0 : PySem.W.isClsIn K C0 = true)
    (s0_0 : PySem.W.subIn K (.ref C0) (.ref C0) = some true)
    (z_gcd : PySem.W.nsIn K mainGlobals "gcd" = some (some (.builtin "math.gcd")))
    (z_len : PySem.W.nsIn K mainGlobals "len" = some none)
    (z_all : PySem.W.nsIn K mainGlobals "all" = some none)
    (z_abs : PySem.W.nsIn K mainGlobals "abs" = some none)
    (z_int : PySem.W.nsIn K mainGlobals "int" = some none)
    (z_bool : PySem.W.nsIn K mainGlobals "bool" = some none)
    (z_tuple : PySem.W.nsIn K mainGlobals "tuple" = some none)
    (z_isinstance : PySem.W.nsIn K mainGlobals "isinstance" = some none) :
    PF E K mg ∧ LawX E K mg f_law "script" fa := by
  have e := hfa.symm.trans (PySem.W.mg_of X G a10)
  cases e
  have q0 : FnF E K mg f_ratio := fnF_mkD (fi := f_ratio) (dvs := [.int 1]) 1 (funD_mkD (its := [.int 1 tk0_0]) l0 c0 k0 u0 v0 (by simp) (.cons ⟨_, rfl⟩ .nil)) (PySem.W.mg_of X G a0) sc_ratio rfl rfl mt_ratio (fun Z => .cons (.int 1) .nil) (by simp) rfl (fun _ _ _ _ _ _ _ us its hu hi => match us, hu, its, hi with | [_, _], _, [_], _ => ⟨_, rfl, rfl⟩) (fun _ _ _ _ _ _ _ us its hu hi => match us, hu, its, hi with | [_], _, [_], _ => ⟨_, rfl, rfl⟩)
  have q1 : FnF E K mg f_is_integer := fnF_mk (fi := f_is_integer) (funD_mk l1 c1 k1) (PySem.W.mg_of X G a1) sc_is_integer rfl rfl mt_is_integer rfl fun _ _ _ _ _ _ us hl => match us, hl with | [_], _ => rfl
  have q2 : FnF E K mg f_is_ratio := fnF_mk (fi := f_is_ratio) (funD_mk l2 c2 k2) (PySem.W.mg_of X G a2) sc_is_ratio rfl rfl mt_is_ratio rfl fun _ _ _ _ _ _ us hl => match us, hl with | [_], _ => rfl
  have q3 : FnF E K mg f_plus := fnF_mk (fi := f_plus) (funD_mk l3 c3 k3) (PySem.W.mg_of X G a3) sc_plus rfl rfl mt_plus rfl fun _ _ _ _ _ _ us hl => match us, hl with | [_, _], _ => rfl
  have q4 : FnF E K mg f_opposite := fnF_mk (fi := f_opposite) (funD_mk l4 c4 k4) (PySem.W.mg_of X G a4) sc_opposite rfl rfl mt_opposite rfl fun _ _ _ _ _ _ us hl => match us, hl with | [_], _ => rfl
  have q5 : FnF E K mg f_minus := fnF_mk (fi := f_minus) (funD_mk l5 c5 k5) (PySem.W.mg_of X G a5) sc_minus rfl rfl mt_minus rfl fun _ _ _ _ _ _ us hl => match us, hl with | [_, _], _ => rfl
  have q6 : FnF E K mg f_times := fnF_mk (fi := f_times) (funD_mk l6 c6 k6) (PySem.W.mg_of X G a6) sc_times rfl rfl mt_times rfl fun _ _ _ _ _ _ us hl => match us, hl with | [_, _], _ => rfl
  have q7 : FnF E K mg f_over := fnF_mk (fi := f_over) (funD_mk l7 c7 k7) (PySem.W.mg_of X G a7) sc_over rfl rfl mt_over rfl fun _ _ _ _ _ _ us hl => match us, hl with | [_, _], _ => rfl
  have q8 : FnF E K mg f_sign := fnF_mk (fi := f_sign) (funD_mk l8 c8 k8) (PySem.W.mg_of X G a8) sc_sign rfl rfl mt_sign rfl fun _ _ _ _ _ _ us hl => match us, hl with | [_], _ => rfl
  have q9 : FnF E K mg f_is_less := fnF_mk (fi := f_is_less) (funD_mk l9 c9 k9) (PySem.W.mg_of X G a9) sc_is_less rfl rfl mt_is_less rfl fun _ _ _ _ _ _ us hl => match us, hl with | [_, _], _ => rfl
  have q10 : FnF E K mg f_law := fnF_mk (fi := f_law) (funD_mk l10 c10 k10) (PySem.W.mg_of X G a10) sc_law rfl rfl mt_law rfl fun _ _ _ _ _ _ us hl => match us, hl with | [_], _ => rfl
  refine ⟨⟨all_ix (l := fs) ⟨q0, q1, q2, q3, q4, q5, q6, q7, q8, q9, q10, trivial⟩, all_mem (l := bs) ⟨PySem.W.mg_of X G z_gcd, PySem.W.mg_none_of X G z_len, PySem.W.mg_none_of X G z_all, PySem.W.mg_none_of X G z_abs, PySem.W.mg_none_of X G z_int, trivial⟩, all_mem (l := ts) ⟨⟨PySem.W.mg_none_of X G z_int, by decide +kernel, PySem.W.mg_none_of X G z_isinstance⟩, ⟨PySem.W.mg_none_of X G z_bool, by decide +kernel, PySem.W.mg_none_of X G z_isinstance⟩, ⟨PySem.W.mg_none_of X G z_tuple, by decide +kernel, PySem.W.mg_none_of X G z_isinstance⟩, trivial⟩, ?_, all_ix (l := cl) ⟨⟨_, PySem.W.mg_of X G g0, x0, y0, b0, t0⟩, trivial⟩, ?_⟩, ?_⟩
  · exact all_look (l := gl) trivial
  · exact sb_mk (l := cl) (As := [C0]) ⟨PySem.W.mg_of X G g0, trivial⟩ ⟨⟨exm_pair b0 i0 t0 s0_0, trivial⟩, trivial⟩
  · exact lawX_mk (fi := f_law) (st := top 16) l10 c10 k10 sc_law rfl mt_law fun _ _ _ _ _ _ us hl => match us, hl with | [_], _ => rfl
end K00
open PySem PySem.W PyProof.Rows
set_option maxRecDepth 100000 in
set_option maxHeartbeats 0 in
theorem PySem.Challenge.cw_mitrehouse_k00_ratios_holds : PySem.Challenge.rw_mitrehouse_k00_ratios.Holds := by
  w_on; o_law; k_head; (case hw => w_witness2)
  k_fill
  refine Eng.walk (l := PySem.Challenge.rw_mitrehouse_k00_ratios) (E := K00.E) (fi := K00.f_law) (x := "script") (k := 9) (iLaw := 10) rfl rfl ⟨rfl, by decide, by decide⟩ rfl rfl rfl K00.law_ok (fun w h Y => PySem.W.kIn_of Y) ?F
  case F =>
    intro w mg fa h KX G hmg
    refine' K00.all_mk KX G hmg ?a0 ?l0 ?u0 ?v0 ?c0 ?k0 ?a1 ?l1 ?c1 ?k1 ?a2 ?l2 ?c2 ?k2 ?a3 ?l3 ?c3 ?k3 ?a4 ?l4 ?c4 ?k4 ?a5 ?l5 ?c5 ?k5 ?a6 ?l6 ?c6 ?k6 ?a7 ?l7 ?c7 ?k7 ?a8 ?l8 ?c8 ?k8 ?a9 ?l9 ?c9 ?k9 ?a10 ?l10 ?c10 ?k10 ?g0 ?x0 ?y0 ?b0 ?t0 ?i0 ?s0_0 ?z_gcd ?z_len ?z_all ?z_abs ?z_int ?z_bool ?z_tuple ?z_isinstance
    (case a0 => k_is)
    (case l0 => k_is)
    (case u0 => k_is)
    (case v0 => first | rfl | k_is)
    (case c0 => k_is)
    (case k0 => k_is)
    (case a1 => k_is)
    (case l1 => k_is)
    (case c1 => k_is)
    (case k1 => k_is)
    (case a2 => k_is)
    (case l2 => k_is)
    (case c2 => k_is)
    (case k2 => k_is)
    (case a3 => k_is)
    (case l3 => k_is)
    (case c3 => k_is)
    (case k3 => k_is)
    (case a4 => k_is)
    (case l4 => k_is)
    (case c4 => k_is)
    (case k4 => k_is)
    (case a5 => k_is)
    (case l5 => k_is)
    (case c5 => k_is)
    (case k5 => k_is)
    (case a6 => k_is)
    (case l6 => k_is)
    (case c6 => k_is)
    (case k6 => k_is)
    (case a7 => k_is)
    (case l7 => k_is)
    (case c7 => k_is)
    (case k7 => k_is)
    (case a8 => k_is)
    (case l8 => k_is)
    (case c8 => k_is)
    (case k8 => k_is)
    (case a9 => k_is)
    (case l9 => k_is)
    (case c9 => k_is)
    (case k9 => k_is)
    (case a10 => k_is)
    (case l10 => k_is)
    (case c10 => k_is)
    (case k10 => k_is)
    (case g0 => k_is)
    (case x0 => k_exc)
    (case y0 => k_is)
    (case b0 => k_is)
    (case t0 => k_is)
    (case i0 => k_is)
    (case s0_0 => first | rfl | k_is)
    (case z_gcd => k_is)
    (case z_len => k_is)
    (case z_all => k_is)
    (case z_abs => k_is)
    (case z_int => k_is)
    (case z_bool => k_is)
    (case z_tuple => k_is)
    (case z_isinstance => k_is)
#print axioms PySem.Challenge.cw_mitrehouse_k00_ratios_holds

