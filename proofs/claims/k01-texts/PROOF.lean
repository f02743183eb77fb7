import PyProof.Rows.All
import Wide.All
import OpenK.AllK
import Wide.FinOn
import HandS.ForMost
import HandS.TryOnly
import HandS.ExcOwn
import HandS.WordsExc
import HandS.Gcd
import HandS.Wide
import HandS.IsInst
import HandS.Flow
import KE.SortData
import HandS.Text
import HandS.RaiseMore
import HandS.Conv
import HandS.Deep
import HandS.Style
import HandS.Rev
import PyProof.ListNew
import HandS.Iter
import HandS.TryMany
import HandS.Defaults
import HandS.EndBits
import HandS.Ends
import PySem.Challenge.RW_mitrehouse_k01_texts_of_ratios
set_option Elab.async false
set_option linter.all false
set_option maxRecDepth 100000
namespace Eng
open PySem PySem.Spec L2
open PyProof.Rows hiding St
abbrev Fg := PySem.W.Frag

/-- values as trees; a list's, dict's, set's identity is no part of it -/
inductive PV where
  | non | bl (b : Bool) | int (i : Int) | str (s : Str)
  | tup (l : List PV) | lst (l : List PV) | dct (l : List (PV × PV)) | set (l : List PV)
  /-- a list that is read alone (the script) -/
  | scr (l : List PV)

mutual
/-- v holds p, read off the frozen part Z -/
inductive Rp (K : Fg) (Z : Hp) : PV → V → Prop
  | non : Rp K Z .non .non
  | bl (b : Bool) : Rp K Z (.bl b) (.bl b)
  | int (i : Int) : Rp K Z (.int i) (.int i)
  | str (s : Str) : Rp K Z (.str s) (.str s)
  | tup {a : Addr} {vs : List V} {ps : List PV} (h : SqT K Z a vs) (r : RpL K Z ps vs) : Rp K Z (.tup ps) (.ref a)
  | lst {a : Addr} {vs : List V} {ps : List PV} (h : Z a = some (.lst vs)) (r : RpL K Z ps vs) : Rp K Z (.lst ps) (.ref a)
  | scr {a : Addr} {vs : List V} {ps : List PV} (h : SqL K Z a vs) (r : RpL K Z ps vs) : Rp K Z (.scr ps) (.ref a)
inductive RpL (K : Fg) (Z : Hp) : List PV → List V → Prop
  | nil : RpL K Z [] []
  | cons {p : PV} {v : V} {ps : List PV} {vs : List V} (h : Rp K Z p v) (t : RpL K Z ps vs) : RpL K Z (p :: ps) (v :: vs)
end

theorem rd_same {H H' : Hp} {a : Addr} {u : HO} (e : Same H H') (h : Rd H a u) : Rd H' a u := by
  rcases h with h | ⟨o, h⟩
  · exact .inl (e _ _ h)
  · exact .inr ⟨o, e _ _ h⟩
theorem sqT_same {K : Fg} {H H' : Hp} {a : Addr} {xs : List V} (e : Same H H') (h : SqT K H a xs) : SqT K H' a xs := by
  rcases h with (h | ⟨o, h⟩) | h
  · exact .inl (.inl (e _ _ h))
  · exact .inl (.inr ⟨o, e _ _ h⟩)
  · exact .inr h
mutual
theorem Rp.mono {K : Fg} {Z Z' : Hp} (e : Same Z Z') : ∀ {p : PV} {v : V}, Rp K Z p v → Rp K Z' p v
  | _, _, .non => .non
  | _, _, .bl b => .bl b
  | _, _, .int b => .int b
  | _, _, .str b => .str b
  | _, _, .tup h r => .tup (sqT_same e h) (RpL.mono e r)
  | _, _, .lst h r => .lst (e _ _ h) (RpL.mono e r)
  | _, _, .scr h r => .scr (e.seq h) (RpL.mono e r)
theorem RpL.mono {K : Fg} {Z Z' : Hp} (e : Same Z Z') : ∀ {p : List PV} {v : List V}, RpL K Z p v → RpL K Z' p v
  | _, _, .nil => .nil
  | _, _, .cons h t => .cons (Rp.mono e h) (RpL.mono e t)
end
theorem RpL.length {K : Fg} {Z : Hp} : ∀ {p : List PV} {v : List V}, RpL K Z p v → v.length = p.length
  | _, _, .nil => rfl
  | _, _, .cons h t => by rw [List.length_cons, List.length_cons, RpL.length t]
end Eng

namespace Eng
open PySem PySem.Spec L2
open PyProof.Rows hiding St

/-! ### lists of values -/
section
variable {K : Fg} {Z : Hp}
theorem RpL.get : ∀ {ps : List PV} {vs : List V} {i : Nat} {p : PV}, RpL K Z ps vs → ps[i]? = some p → ∃ v, vs[i]? = some v ∧ Rp K Z p v
  | _, _, _, _, .nil, e => by simp at e
  | _, _, 0, _, .cons h _, e => by simp at e; subst e; exact ⟨_, rfl, h⟩
  | _, _, i + 1, p, .cons _ t, e => by
    obtain ⟨v, h1, h2⟩ := RpL.get (i := i) (p := p) t (by simpa using e)
    exact ⟨v, by simpa using h1, h2⟩
theorem RpL.get' : ∀ {ps : List PV} {vs : List V} {i : Nat} {v : V}, RpL K Z ps vs → vs[i]? = some v → ∃ p, ps[i]? = some p ∧ Rp K Z p v
  | _, _, _, _, .nil, e => by simp at e
  | _, _, 0, _, .cons h _, e => by simp at e; subst e; exact ⟨_, rfl, h⟩
  | _, _, i + 1, v, .cons _ t, e => by
    obtain ⟨p, h1, h2⟩ := RpL.get' (i := i) (v := v) t (by simpa using e)
    exact ⟨p, by simpa using h1, h2⟩
theorem RpL.append : ∀ {ps qs : List PV} {vs ws : List V}, RpL K Z ps vs → RpL K Z qs ws → RpL K Z (ps ++ qs) (vs ++ ws)
  | _, _, _, _, .nil, s => s
  | _, _, _, _, .cons h t, s => .cons h (RpL.append t s)
theorem RpL.snoc {ps : List PV} {vs : List V} {p : PV} {v : V} (h : RpL K Z ps vs) (r : Rp K Z p v) : RpL K Z (ps ++ [p]) (vs ++ [v]) := h.append (.cons r .nil)
theorem RpL.take : ∀ {ps : List PV} {vs : List V} (n : Nat), RpL K Z ps vs → RpL K Z (ps.take n) (vs.take n)
  | _, _, 0, _ => .nil
  | _, _, _ + 1, .nil => .nil
  | _, _, n + 1, .cons h t => .cons h (RpL.take n t)
theorem RpL.drop : ∀ {ps : List PV} {vs : List V} (n : Nat), RpL K Z ps vs → RpL K Z (ps.drop n) (vs.drop n)
  | _, _, 0, h => h
  | _, _, _ + 1, .nil => .nil
  | _, _, n + 1, .cons _ t => RpL.drop n t
theorem RpL.set {p : PV} {v : V} (r : Rp K Z p v) : ∀ {ps : List PV} {vs : List V} (i : Nat), RpL K Z ps vs → RpL K Z (ps.set i p) (vs.set i v)
  | _, _, _, .nil => .nil
  | _, _, 0, .cons _ t => .cons r t
  | _, _, i + 1, .cons h t => .cons h (RpL.set r i t)
theorem RpL.erase : ∀ {ps : List PV} {vs : List V} (i : Nat), RpL K Z ps vs → RpL K Z (ps.eraseIdx i) (vs.eraseIdx i)
  | _, _, _, .nil => .nil
  | _, _, 0, .cons _ t => t
  | _, _, i + 1, .cons h t => .cons h (RpL.erase i t)
theorem RpL.reverse : ∀ {ps : List PV} {vs : List V}, RpL K Z ps vs → RpL K Z ps.reverse vs.reverse
  | _, _, .nil => .nil
  | _, _, .cons h t => by rw [List.reverse_cons, List.reverse_cons]; exact (RpL.reverse t).snoc h
theorem RpL.one {p : PV} {vs : List V} (h : RpL K Z [p] vs) : ∃ v, vs = [v] ∧ Rp K Z p v := by
  cases h with
  | cons h t => cases t; exact ⟨_, rfl, h⟩
theorem RpL.two {p q : PV} {vs : List V} (h : RpL K Z [p, q] vs) : ∃ v u, vs = [v, u] ∧ Rp K Z p v ∧ Rp K Z q u := by
  cases h with
  | cons h t =>
    obtain ⟨u, e, r⟩ := t.one
    subst e
    exact ⟨_, _, rfl, h, r⟩
end

/-! ### slots, entry, the state -/
inductive Slot where
  | none | val (p : PV) | own (k : Bool) (p : PV)
abbrev Sg := List Slot

def OwnR (K : Fg) (Z H : Hp) (a : Addr) : PV → Prop
  | .lst ps => ∃ vs, H a = some (.lst vs) ∧ RpL K Z ps vs
  | _ => False
theorem OwnR.alive {K : Fg} {Z H : Hp} {a : Addr} {p : PV} (h : OwnR K Z H a p) : H a ≠ Option.none := by
  cases p <;> first | exact h.elim | skip
  obtain ⟨vs, e, _⟩ := h
  rw [e]; exact fun z => nomatch z
theorem OwnR.mono {K : Fg} {Z H Z' H' : Hp} {a : Addr} {p : PV} (h : OwnR K Z H a p) (e : Same Z Z') (k : ∀ o, H a = some o → H' a = some o) : OwnR K Z' H' a p := by
  cases p <;> first | exact h.elim | skip
  obtain ⟨vs, e1, r⟩ := h
  exact ⟨vs, k _ e1, r.mono e⟩

/-- the entry of a def: its heap, its frozen part, the lists that are handed in to be changed (slot, address) -/
structure Ent where
  H0 : Hp
  Z0 : Hp
  io : List (Nat × Addr)
  /-- objects that are looked after elsewhere (a list that is being made) -/
  pr : List (Addr × HO)
def IsOwn (ε : Sg) (i : Nat) : Prop := ∃ k p, ε[i]? = some (.own k p)

def SlotR (K : Fg) (g : Ent) (Z H : Hp) (σ : St) (i : Nat) : Slot → Prop
  | .none => True
  | .val p => ∃ v, σ[i]? = some (some v) ∧ Rp K Z p v
  | .own k p => ∃ a, σ[i]? = some (some (V.ref a)) ∧ Z a = Option.none ∧ OwnR K Z H a p ∧ (k = true → g.H0 a = Option.none) ∧ (k = false → (i, a) ∈ g.io)

structure Good (K : Fg) (g : Ent) (σ : St) (ε : Sg) (Z H : Hp) : Prop where
  len : σ.length = ε.length
  slot : ∀ i s, ε[i]? = some s → SlotR K g Z H σ i s
  dis : ∀ i j a, IsOwn ε i → IsOwn ε j → σ[i]? = some (some (V.ref a)) → σ[j]? = some (some (V.ref a)) → i = j
  zh : Same Z H
  hh : ∀ b o, g.H0 b = some o → b ∉ g.io.map (·.2) → H b = some o
  al : ∀ b, H b = Option.none → g.H0 b = Option.none
  zf : ∀ b, Z b ≠ Option.none → g.Z0 b ≠ Option.none ∨ g.H0 b = Option.none
  zz : Same g.Z0 Z
  io : ∀ i a, (i, a) ∈ g.io → σ[i]? = some (some (V.ref a)) ∧ ∃ p, ε[i]? = some (.own false p)
  pr : ∀ q ∈ g.pr, H q.1 = some q.2 ∧ Z q.1 = Option.none ∧ ∀ i, IsOwn ε i → σ[i]? ≠ some (some (V.ref q.1))

/-- more objects, nothing changed -/
structure Ext (Z H Z' H' : Hp) : Prop where
  zz : Same Z Z'
  hh : Same H H'
  zh : Same Z' H'
  zf : ∀ b, Z' b ≠ Option.none → Z b ≠ Option.none ∨ H b = Option.none
theorem Ext.refl {Z H : Hp} (h : Same Z H) : Ext Z H Z H := ⟨Same.refl _, Same.refl _, h, fun _ z => .inl z⟩
theorem Ext.trans {Z H Z1 H1 Z2 H2 : Hp} (a : Ext Z H Z1 H1) (b : Ext Z1 H1 Z2 H2) : Ext Z H Z2 H2 :=
  ⟨a.zz.trans b.zz, a.hh.trans b.hh, b.zh, fun c z => (b.zf c z).elim (fun y => a.zf c y) fun y => .inr (a.hh.free y)⟩
/-- a new object, not frozen -/
theorem Ext.new {Z H : Hp} {a : Addr} {o : HO} (h : Same Z H) (n : H a = Option.none) : Ext Z H Z (upd H a o) :=
  ⟨Same.refl _, fun b u e => by rw [upd_ne (ne_of_none e n)]; exact e, fun b u e => by rw [upd_ne (ne_of_none (h _ _ e) n)]; exact h _ _ e, fun _ z => .inl z⟩
/-- a new object, frozen -/
theorem Ext.newF {Z H : Hp} {a : Addr} {o : HO} (h : Same Z H) (n : H a = Option.none) : Ext Z H (upd Z a o) (upd H a o) := by
  have nz : Z a = Option.none := h.free n
  refine ⟨fun b u e => by rw [upd_ne (ne_of_none e nz)]; exact e, fun b u e => by rw [upd_ne (ne_of_none e n)]; exact e, fun b u e => ?_, fun b z => ?_⟩
  · by_cases hb : b = a
    · subst hb; rw [upd_same] at e ⊢; exact e
    · rw [upd_ne hb] at e ⊢; exact h _ _ e
  · by_cases hb : b = a
    · subst hb; exact .inr n
    · rw [upd_ne hb] at z; exact .inl z

section
variable {K : Fg} {g : Ent} {σ : St} {ε : Sg} {Z H Z' H' : Hp}
theorem SlotR.ext {i : Nat} {s : Slot} (h : SlotR K g Z H σ i s) (e : Ext Z H Z' H') : SlotR K g Z' H' σ i s := by
  cases s with
  | none => trivial
  | val p => obtain ⟨v, h1, h2⟩ := h; exact ⟨v, h1, h2.mono e.zz⟩
  | own k p =>
    obtain ⟨a, h1, h2, h3, h4⟩ := h
    refine ⟨a, h1, ?_, h3.mono e.zz fun o q => e.hh _ _ q, h4⟩
    cases z : Z' a with
    | none => rfl
    | some u =>
      rcases e.zf a (by rw [z]; exact fun y => nomatch y) with y | y
      · exact absurd h2 y
      · exact absurd y h3.alive
theorem Good.ext (G : Good K g σ ε Z H) (e : Ext Z H Z' H') : Good K g σ ε Z' H' where
  len := G.len
  slot := fun i s h => (G.slot i s h).ext e
  dis := G.dis
  zh := e.zh
  hh := fun b o h n => e.hh _ _ (G.hh b o h n)
  al := fun b h => G.al b (e.hh.free h)
  zf := fun b z => (e.zf b z).elim (fun y => G.zf b y) fun y => .inr (G.al b y)
  zz := G.zz.trans e.zz
  io := G.io
  pr := fun q hq => by
    obtain ⟨h1, h2, h3⟩ := G.pr q hq
    refine ⟨e.hh _ _ h1, ?_, h3⟩
    cases z : Z' q.1 with
    | none => rfl
    | some u =>
      rcases e.zf q.1 (by rw [z]; exact fun y => nomatch y) with y | y
      · exact absurd h2 y
      · rw [h1] at y; cases y

/-! ### what an expression hands back -/
inductive Rv where
  | val (p : PV) | fresh (p : PV) | own (i : Nat)
def RvR (K : Fg) (g : Ent) (σ : St) (ε : Sg) (Z H : Hp) : Rv → V → Prop
  | .val p, v => Rp K Z p v
  | .fresh p, v => ∃ a, v = .ref a ∧ Z a = Option.none ∧ g.H0 a = Option.none ∧ OwnR K Z H a p ∧ (∀ i, IsOwn ε i → σ[i]? ≠ some (some (V.ref a))) ∧ ∀ q ∈ g.pr, q.1 ≠ a
  | .own i, v => σ[i]? = some (some v)
/-- an operand: not fresh -/
@[simp] def Rv.opd : Rv → Rv
  | .fresh p => .val p
  | r => r
/-- what is read at the top: frozen, or a list of one's own -/
def View (K : Fg) (Z H : Hp) (p : PV) (v : V) : Prop := Rp K Z p v ∨ ∃ a, v = .ref a ∧ OwnR K Z H a p
theorem View.ext {p : PV} {v : V} (h : View K Z H p v) (e : Ext Z H Z' H') : View K Z' H' p v := by
  rcases h with h | ⟨a, h1, h2⟩
  · exact .inl (h.mono e.zz)
  · exact .inr ⟨a, h1, h2.mono e.zz fun o q => e.hh _ _ q⟩
theorem View.int {i : Int} {v : V} (h : View K Z H (.int i) v) : v = .int i := by
  rcases h with h | ⟨a, _, h⟩
  · cases h; rfl
  · exact h.elim
theorem View.bl {i : Bool} {v : V} (h : View K Z H (.bl i) v) : v = .bl i := by
  rcases h with h | ⟨a, _, h⟩
  · cases h; rfl
  · exact h.elim
theorem View.str {i : Str} {v : V} (h : View K Z H (.str i) v) : v = .str i := by
  rcases h with h | ⟨a, _, h⟩
  · cases h; rfl
  · exact h.elim
theorem View.non {v : V} (h : View K Z H .non v) : v = .non := by
  rcases h with h | ⟨a, _, h⟩
  · cases h; rfl
  · exact h.elim
theorem View.tup {ps : List PV} {v : V} (e : Same Z H) (h : View K Z H (.tup ps) v) : ∃ a vs, v = .ref a ∧ SqT K H a vs ∧ RpL K Z ps vs := by
  rcases h with h | ⟨a, _, h⟩
  · cases h with
    | tup h r => exact ⟨_, _, rfl, sqT_same e h, r⟩
  · exact h.elim
theorem View.lst {ps : List PV} {v : V} (e : Same Z H) (h : View K Z H (.lst ps) v) : ∃ a vs, v = .ref a ∧ Rd H a (.lst vs) ∧ RpL K Z ps vs := by
  rcases h with h | ⟨a, rfl, vs, h1, h2⟩
  · cases h with
    | lst h r => exact ⟨_, _, rfl, .inl (e _ _ h), r⟩
  · exact ⟨a, vs, rfl, .inl h1, h2⟩

theorem View.lstH {ps : List PV} {v : V} (e : Same Z H) (h : View K Z H (.lst ps) v) : ∃ a vs, v = .ref a ∧ H a = some (.lst vs) ∧ RpL K Z ps vs := by
  rcases h with h | ⟨a, rfl, vs, h1, h2⟩
  · cases h with
    | lst h r => exact ⟨_, _, rfl, e _ _ h, r⟩
  · exact ⟨a, vs, rfl, h1, h2⟩

theorem View.scr {ps : List PV} {v : V} (e : Same Z H) (h : View K Z H (.scr ps) v) : ∃ a vs, v = .ref a ∧ SqL K H a vs ∧ RpL K Z ps vs := by
  rcases h with h | ⟨a, _, h⟩
  · cases h with
    | scr h r => exact ⟨_, _, rfl, e.seq h, r⟩
  · exact h.elim

/-- what stands at a slot -/
@[simp] def peekS (ε : Sg) (i : Nat) : Option PV := match ε[i]? with
  | some (.val p) => some p
  | some (.own _ p) => some p
  | _ => none
@[simp] def Rv.peek (ε : Sg) : Rv → Option PV
  | .val p => some p
  | .fresh p => some p
  | .own i => peekS ε i
theorem Good.peekS (G : Good K g σ ε Z H) {i : Nat} {p : PV} (h : peekS ε i = some p) : ∃ v, σ[i]? = some (some v) ∧ View K Z H p v := by
  unfold Eng.peekS at h
  split at h <;> cases h
  · rename_i e
    obtain ⟨v, h1, h2⟩ := G.slot _ _ e
    exact ⟨v, h1, .inl h2⟩
  · rename_i e
    obtain ⟨a, h1, _, h2, _⟩ := G.slot _ _ e
    exact ⟨_, h1, .inr ⟨a, rfl, h2⟩⟩
theorem Good.peek (G : Good K g σ ε Z H) {r : Rv} {p : PV} {v : V} (h : r.peek ε = some p) (hr : RvR K g σ ε Z H r v) : View K Z H p v := by
  cases r with
  | val q => cases h; exact .inl hr
  | fresh q =>
    cases h
    obtain ⟨a, e, _, _, o, _, _⟩ := hr
    exact .inr ⟨a, e, o⟩
  | own i =>
    obtain ⟨u, h1, h2⟩ := G.peekS h
    have e : σ[i]? = some (some v) := hr
    rw [e] at h1
    cases h1
    exact h2

/-! ### freezing -/
/-- the object at a, frozen from here on -/
theorem Ext.freeze {o : HO} {a : Addr} (h : Same Z H) (e : H a = some o) : Same Z (upd Z a o) ∧ Same (upd Z a o) H ∨ ∃ u, Z a = some u := by
  cases z : Z a with
  | some u => exact .inr ⟨u, rfl⟩
  | none =>
    refine .inl ⟨fun b u q => by rw [upd_ne (ne_of_none q z)]; exact q, fun b u q => ?_⟩
    by_cases hb : b = a
    · subst hb; rw [upd_same] at q; cases q; exact e
    · rw [upd_ne hb] at q; exact h _ _ q
theorem same_frz {o : HO} {a : Addr} (z : Z a = Option.none) : Same Z (upd Z a o) := fun b u q => by rw [upd_ne (ne_of_none q z)]; exact q
theorem frz_same {o : HO} {a : Addr} (h : Same Z H) (e : H a = some o) : Same (upd Z a o) H := fun b u q => by
  by_cases hb : b = a
  · subst hb; rw [upd_same] at q; cases q; exact e
  · rw [upd_ne hb] at q; exact h _ _ q
/-- a fresh list becomes a frozen value -/
theorem Good.frzFresh (G : Good K g σ ε Z H) {p : PV} {v : V} (h : RvR K g σ ε Z H (.fresh p) v) : ∃ Z', Same Z Z' ∧ Good K g σ ε Z' H ∧ Rp K Z' p v := by
  obtain ⟨a, rfl, h1, h2, h3, h4, h5⟩ := h
  cases p <;> first | exact h3.elim | skip
  rename_i ps
  obtain ⟨vs, e, r⟩ := h3
  refine ⟨upd Z a (.lst vs), same_frz h1, ⟨G.len, fun i s hs => ?_, G.dis, frz_same G.zh e, G.hh, G.al, fun b z => ?_, G.zz.trans (same_frz h1), G.io, fun q hq => ⟨(G.pr q hq).1, by rw [upd_ne (h5 q hq)]; exact (G.pr q hq).2.1, (G.pr q hq).2.2⟩⟩, .lst upd_same (r.mono (same_frz h1))⟩
  · have q := G.slot i s hs
    cases s with
    | none => trivial
    | val p => obtain ⟨v, q1, q2⟩ := q; exact ⟨v, q1, q2.mono (same_frz h1)⟩
    | own k p =>
      obtain ⟨b, q1, q2, q3, q4⟩ := q
      have nb : b ≠ a := fun z => h4 i ⟨k, p, hs⟩ (by rw [q1, z])
      exact ⟨b, q1, by rw [upd_ne nb]; exact q2, q3.mono (same_frz h1) fun _ y => y, q4⟩
  · by_cases hb : b = a
    · subst hb; exact .inr h2
    · rw [upd_ne hb] at z; exact G.zf b z
/-- a slot's list becomes a frozen value -/
@[simp] def frzS (ε : Sg) (i : Nat) : Option (PV × Sg) := match ε[i]? with
  | some (.val p) => some (p, ε)
  | some (.own true p) => some (p, ε.set i (.val p))
  | _ => none
theorem getElem?_set_eq {α : Type} {l : List α} {i j : Nat} {x y : α} (h : (l.set i x)[j]? = some y) : (j = i ∧ y = x) ∨ (j ≠ i ∧ l[j]? = some y) := by
  by_cases e : j = i
  · subst e
    by_cases hl : j < l.length
    · rw [List.getElem?_set_self hl] at h; exact .inl ⟨rfl, (Option.some.inj h).symm⟩
    · rw [List.getElem?_eq_none (by simpa using hl)] at h; cases h
  · rw [List.getElem?_set_ne (Ne.symm e)] at h; exact .inr ⟨e, h⟩
theorem isOwn_set_val {i j : Nat} {p : PV} (h : IsOwn (ε.set i (.val p)) j) : j ≠ i ∧ IsOwn ε j := by
  obtain ⟨k, q, e⟩ := h
  rcases getElem?_set_eq e with ⟨_, z⟩ | ⟨n, z⟩
  · cases z
  · exact ⟨n, k, q, z⟩
theorem Good.frzS (G : Good K g σ ε Z H) {i : Nat} {p : PV} {ε' : Sg} (h : frzS ε i = some (p, ε')) : ∃ v Z', σ[i]? = some (some v) ∧ Same Z Z' ∧ Good K g σ ε' Z' H ∧ Rp K Z' p v := by
  unfold Eng.frzS at h
  split at h <;> cases h
  · rename_i e
    obtain ⟨v, h1, h2⟩ := G.slot _ _ e
    exact ⟨v, Z, h1, Same.refl _, G, h2⟩
  · rename_i e
    obtain ⟨a, h1, h2, h3, h4, _⟩ := G.slot _ _ e
    have h0 := h4 rfl
    cases p <;> first | exact h3.elim | skip
    rename_i ps
    obtain ⟨vs, ea, r⟩ := h3
    refine ⟨_, upd Z a (.lst vs), h1, same_frz h2, ⟨by rw [List.length_set]; exact G.len, fun j s hs => ?_, fun j l b oj ol ej el => ?_, frz_same G.zh ea, G.hh, G.al, fun b z => ?_, G.zz.trans (same_frz h2), fun j b hj => ?_, fun q hq => ?_⟩, .lst upd_same (r.mono (same_frz h2))⟩
    · rcases getElem?_set_eq hs with ⟨rfl, rfl⟩ | ⟨nj, hs⟩
      · exact ⟨_, h1, .lst upd_same (r.mono (same_frz h2))⟩
      · have q := G.slot j s hs
        cases s with
        | none => trivial
        | val p => obtain ⟨v, q1, q2⟩ := q; exact ⟨v, q1, q2.mono (same_frz h2)⟩
        | own k p =>
          obtain ⟨b, q1, q2, q3, q4⟩ := q
          have nb : b ≠ a := fun z => nj (G.dis j i a ⟨k, p, hs⟩ ⟨_, _, e⟩ (by rw [q1, z]) h1)
          exact ⟨b, q1, by rw [upd_ne nb]; exact q2, q3.mono (same_frz h2) fun _ y => y, q4⟩
    · exact G.dis j l b (isOwn_set_val oj).2 (isOwn_set_val ol).2 ej el
    · by_cases hb : b = a
      · subst hb; exact .inr h0
      · rw [upd_ne hb] at z; exact G.zf b z
    · obtain ⟨e1, q, e2⟩ := G.io j b hj
      refine ⟨e1, q, ?_⟩
      have nj : i ≠ j := fun z => by subst z; rw [e] at e2; cases e2
      rw [List.getElem?_set_ne nj]; exact e2
    · obtain ⟨q1, q2, q3⟩ := G.pr q hq
      have nq : q.1 ≠ a := fun z => q3 i ⟨_, _, e⟩ (by rw [h1, z])
      exact ⟨q1, by rw [upd_ne nq]; exact q2, fun j oj => q3 j (isOwn_set_val oj).2⟩

/-- an object that nobody here looks at is changed -/
theorem Good.away (G : Good K g σ ε Z H) {a : Addr} {o u : HO} (ha : H a = some u) (h0 : g.H0 a = Option.none) (hz : Z a = Option.none) (ho : ∀ i, IsOwn ε i → σ[i]? ≠ some (some (V.ref a))) (hp : ∀ q ∈ g.pr, q.1 ≠ a) :
    Good K g σ ε Z (upd H a o) where
  len := G.len
  slot := fun i s hs => by
    have q := G.slot i s hs
    cases s with
    | none => trivial
    | val p => exact q
    | own k p =>
      obtain ⟨b, q1, q2, q3, q4⟩ := q
      have nb : b ≠ a := fun z => ho i ⟨k, p, hs⟩ (by rw [q1, z])
      exact ⟨b, q1, q2, q3.mono (Same.refl _) fun _ y => by rw [upd_ne nb]; exact y, q4⟩
  dis := G.dis
  zh := fun b o e => by rw [upd_ne (ne_of_none e hz)]; exact G.zh b o e
  hh := fun b o e n => by rw [upd_ne (ne_of_none e h0)]; exact G.hh b o e n
  al := fun b e => by
    by_cases hb : b = a
    · subst hb; exact h0
    · rw [upd_ne hb] at e; exact G.al b e
  zf := G.zf
  zz := G.zz
  io := G.io
  pr := fun q hq => by
    obtain ⟨q1, q2, q3⟩ := G.pr q hq
    exact ⟨by rw [upd_ne (hp q hq)]; exact q1, q2, q3⟩
end
end Eng

namespace Eng
open PySem PySem.Spec L2
open PyProof.Rows hiding St
open PySem.W (alike)
open PySem.W (dataLe)

/-! ### the program as data -/
inductive Blt where
  | abs | len | int | all | gcd | repr | str | list | tuple | sorted | any | min | max
  deriving DecidableEq
/-- changing methods -/
inductive Mu where
  | append | pop
/-- what is walked -/
inductive Src where
  | val | rng | rev
  deriving DecidableEq
inductive Tg where
  | nm (i : Nat) | tp (l : List Tg)
inductive IE where
  | var (i : Nat)
  | cst (p : PV)
  | glb (x : Str)
  | bin (op : Operator) (a b : IE)
  | neg (a : IE)
  | cmp (op : CmpOp) (a b : IE)
  | isN (a : IE) (not : Bool)
  | and (l : List IE) | or (l : List IE) | not (a : IE)
  | ite (c a b : IE)
  | tup (l : List IE) | lst (l : List IE)
  | sub (a i : IE)
  | slc (a : IE) (lo hi : Option IE)
  | call (f : Nat) (args : List IE)
  | blt (b : Blt) (args : List IE)
  | isi (a : IE) (ty : String)
  | cmpr (elt : IE) (tg : Tg) (k : Src) (its : List IE) (cond : List IE) (own : List Nat)
  | mut (m : Mu) (i : Nat) (args : List IE)
  /-- a o1 b o2 c -/
  | chn (o1 o2 : CmpOp) (a b c : IE)
  /-- a.split(b) -/
  | split (a b : IE)
  /-- list(reversed(a)) -/
  | lrev (a : IE)
inductive IS where
  | pass | brk | cont
  | expr (e : IE)
  | asg (i : Nat) (e : IE)
  | asgT (t : Tg) (e : IE)
  | ret (e : IE)
  | retN
  | ifs (c : IE) (a b : List IS)
  | raise (c : Nat) (msg : Str)
  | tryx (body : List IS) (c : Nat) (suite : List IS)
  /-- several clauses, each hands a constant back -/
  | tryn (body : List IS) (hs : List (Nat × PV))
  | for_ (tg : Tg) (k : Src) (its : List IE) (body : List IS)
  | whl (c : IE) (body : List IS)

/-! ### the interpreter's outcomes -/
inductive Out (α : Type) where
  | ok (a : α) (ε : Sg) | exc (c : Nat) (ε : Sg) | stuck
@[simp] def Out.bind {α β : Type} (x : Out α) (f : α → Sg → Out β) : Out β := match x with
  | .ok a ε => f a ε
  | .exc c ε => .exc c ε
  | .stuck => .stuck
inductive CO where
  | ok (r : PV) (fr : Bool) (outs : List PV) | exc (c : Nat) (outs : List PV) | stuck
inductive SO where
  | nx (ε : Sg) | rt (r : Rv) (ε : Sg) | bk (ε : Sg) | ct (ε : Sg) | exc (c : Nat) (ε : Sg) | stuck
@[simp] def lift (r : Option Rv) (ε : Sg) : Out Rv := match r with
  | some r => .ok r ε
  | none => .stuck

/-! ### values -/
mutual
/-- nothing in it can be changed -/
def imm : PV → Bool
  | .tup l => immL l
  | .lst _ => false
  | .dct _ => false
  | .set _ => false
  | .scr _ => false
  | _ => true
def immL : List PV → Bool
  | [] => true
  | p :: ps => imm p && immL ps
end
mutual
def toD : PV → Option PyData
  | .non => some .none
  | .bl b => some (.bool b)
  | .int i => some (.int i)
  | .str s => some (.str s)
  | .tup l => (toDL l).map .tuple
  | .lst l => (toDL l).map .list
  | _ => none
def toDL : List PV → Option (List PyData)
  | [] => some []
  | p :: ps => match toD p, toDL ps with
    | some d, some ds => some (d :: ds)
    | _, _ => none
end
def eqPV (p q : PV) : Option Bool := match p, q with
  | .str s, .str t => some (decide (s = t))
  | p, q => match toD p, toD q with
    | some d, some e => if SeqAt.shaped d = true ∧ SeqAt.shaped e = true then some (PyData.eqv d e) else none
    | _, _ => none
@[simp] def truth : PV → Option Bool
  | .non => some false
  | .bl b => some b
  | .int i => some (i != 0)
  | .str s => if s.length ≤ sizeLine then some ((s.length : Int) != 0) else none
  | .tup l => some (!l.isEmpty)
  | .lst l => some (!l.isEmpty)
  | .scr l => some (!l.isEmpty)
  | _ => none
/-- its data -/
def encP (p : PV) : PyData := (toD p).getD .none
/-- one kind of data, or none of them a tuple or None: what sorted takes -/
def tupNE : PyData → Bool
  | .tuple (_ :: _) => true
  | _ => false
def notTN : PyData → Bool
  | .tuple _ => false
  | .none => false
  | _ => true
def sortOk (l : List PV) : Bool := l.all (fun p => (toD p).isSome && decide ((encP p).depth ≤ 64)) && l.all (fun p => l.all fun q => alike (encP p) (encP q)) && (l.all (fun p => tupNE (encP p)) || l.all (fun p => notTN (encP p))) && decide (l.length ≤ sizeLine)
def sortP (l : List PV) : List PV := l.mergeSort (dataLe false encP)
def flatP : PV → Bool
  | .non => true
  | .bl _ => true
  | .int _ => true
  | .str _ => true
  | _ => false
/-- p in q -/
def opIn (p : PV) : PV → Option Bool
  | .lst l => match toD p, toDL l with
    | some d, some ds => if SeqAt.shaped d = true ∧ SeqAt.shaped (.list ds) = true then some (ds.any fun z => PyData.eqv z d) else none
    | _, _ => none
  | .tup l => if flatP p = true ∧ l.all flatP = true then some (l.any fun y => PyData.eqv (encP y) (encP p)) else none
  | .str t => match p with
    | .str s => match s.cps.toList with
      | [c] => some (decide (c ∈ t.cps.toList))
      | _ => some (!(Builtin.Str.occurrences t s 0 t.length 1).isEmpty)
    | _ => none
  | _ => none
/-- an int's text -/
def strI (i : Int) : Str := toString i
def mulOk (i j : Int) : Bool := decide (i.natAbs.log2 + j.natAbs.log2 < 134217000)

@[simp] def opBin : Operator → PV → PV → Option Rv
  | .Add, .int i, .int j => some (.val (.int (i + j)))
  | .Sub, .int i, .int j => some (.val (.int (i - j)))
  | .Sub, .bl i, .bl j => some (.val (.int ((if i then 1 else 0) - (if j then 1 else 0))))
  | .Mult, .int i, .int j => if mulOk i j then some (.val (.int (i * j))) else none
  | .FloorDiv, .int i, .int j => if j ≠ 0 ∧ Builtin.divisionGoesByPylong i j = false then some (.val (.int (i.fdiv j))) else none
  | .Mod, .int i, .int j => if j ≠ 0 then some (.val (.int (i.fmod j))) else none
  | .Pow, .int i, .int j => if 0 ≤ j ∧ j ≤ 1000000 ∧ i.natAbs < 2 ^ 64 then some (.val (.int (i ^ j.toNat))) else none
  | .Add, .str s, .str t => if s.length + t.length ≤ sizeLine then some (.val (.str (s ++ t))) else none
  | .Add, .lst a, .lst b => if a.length + b.length ≤ sizeLine then some (.fresh (.lst (a ++ b))) else none
  | .Mult, .lst a, .int k => if (-(2 ^ 63) ≤ k ∧ k < 2 ^ 63) ∧ a.length * k.toNat ≤ sizeLine then some (.fresh (.lst (List.replicate k.toNat a).flatten)) else none
  | .Mult, .str s, .int k => if (2 ≤ k ∧ k ≤ 100000) ∧ s.length ≠ 0 ∧ s.length * k.toNat ≤ sizeLine then some (.val (.str ⟨(List.replicate k.toNat s.cps.toList).flatten.toArray⟩)) else none
  | _, _, _ => none
@[simp] def opCmp : CmpOp → PV → PV → Option Bool
  | .Eq, p, q => eqPV p q
  | .NotEq, p, q => (eqPV p q).map (! ·)
  | .Lt, .int i, .int j => some (decide (i < j))
  | .LtE, .int i, .int j => some (decide (i ≤ j))
  | .Gt, .int i, .int j => some (decide (j < i))
  | .GtE, .int i, .int j => some (decide (j ≤ i))
  | .In, p, q => opIn p q
  | .NotIn, p, q => (opIn p q).map (! ·)
  | .Is, .bl a, .bl b => some (decide (a = b))
  | .IsNot, .bl a, .bl b => some (!decide (a = b))
  | _, _, _ => none
@[simp] def opNeg : PV → Option PV
  | .int i => some (.int (-i))
  | _ => none
@[simp] def opIx : PV → PV → Option PV
  | .lst l, .int i => atI l i
  | .scr l, .int i => atI l i
  | .tup l, .int i => atI l i
  | .str s, .int i => if s.length ≤ sizeLine then (atI s.cps.toList i).map fun c => .str ⟨#[c]⟩ else none
  | _, _ => none
def cutP (xs : List PV) (lo hi : Option Int) : List PV := (xs.drop (HT.sIx xs.length 0 lo)).take (HT.sIx xs.length xs.length hi - HT.sIx xs.length 0 lo)
def opSlc (p : PV) (lo hi : Option Int) : Option Rv := match p with
  | .lst l => some (.fresh (.lst (cutP l lo hi)))
  | .scr l => some (.fresh (.lst (cutP l lo hi)))
  | .str s => if s.length ≤ sizeLine then some (.val (.str (cutS s lo hi))) else none
  | _ => none
@[simp] def allB : List PV → Option (List Bool)
  | [] => some []
  | .bl b :: l => (allB l).map (b :: ·)
  | _ => none
@[simp] def opBlt : Blt → List PV → Option Rv
  | .abs, [.int i] => some (.val (.int (if i < 0 then -i else i)))
  | .len, [.lst l] => some (.val (.int l.length))
  | .len, [.scr l] => some (.val (.int l.length))
  | .len, [.tup l] => some (.val (.int l.length))
  | .len, [.str s] => if s.length ≤ sizeLine then some (.val (.int s.length)) else none
  | .int, [.int i] => some (.val (.int i))
  | .int, [.bl b] => some (.val (.int (if b = true then 1 else 0)))
  | .all, [.lst l] => (allB l).map fun bs => .val (.bl (bs.all id))
  | .gcd, [.int i, .int j] => some (.val (.int (Nat.gcd i.natAbs j.natAbs : Nat)))
  | .repr, [p] => match toD p with
    | some d => if SeqAt.shaped d = true ∧ d.showable = true ∧ d.shown.length ≤ sizeLine then some (.val (.str d.shown)) else none
    | none => none
  | .int, [.str s] => match PySem.intText? s with
    | some n => if s.length ≤ 640 then some (.val (.int n)) else none
    | none => none
  | .str, [.int i] => if i.natAbs.log2 < 1920 then some (.val (.str (strI i))) else none
  | .str, [.str s] => some (.val (.str s))
  | .list, [.lst l] => some (.fresh (.lst l))
  | .list, [.scr l] => some (.fresh (.lst l))
  | .list, [.tup l] => some (.fresh (.lst l))
  | .tuple, [.lst l] => some (.val (.tup l))
  | .tuple, [.scr l] => some (.val (.tup l))
  | .tuple, [.tup l] => some (.val (.tup l))
  | .sorted, [.lst l] => if sortOk l = true then some (.fresh (.lst (sortP l))) else none
  | .any, [.lst l] => (allB l).map fun bs => .val (.bl (bs.any id))
  | .min, [.int i, .int j] => some (.val (.int (if j < i then j else i)))
  | .max, [.int i, .int j] => some (.val (.int (if j > i then j else i)))
  | _, _ => none
def tyN : PV → String
  | .non => "NoneType"
  | .bl _ => "bool"
  | .int _ => "int"
  | .str _ => "str"
  | .tup _ => "tuple"
  | .lst _ => "list"
  | .dct _ => "dict"
  | .scr _ => "list"
  | .set _ => "set"
def opIsi (p : PV) (ty : String) : Option Bool := kitB (tyN p) ty
/-- a changing method on a list of one's own: the list behind it, what is handed back -/
def opMut : Mu → PV → List PV → Option (PV × PV)
  | .append, .lst l, [p] => if l.length < sizeLine then some (.lst (l ++ [p]), .non) else none
  | .pop, .lst l, [] => match l[l.length - 1]? with
    | some p => some (.lst l.dropLast, p)
    | none => none
  | _, _, _ => none

mutual
def tgS : Tg → List Nat
  | .nm i => [i]
  | .tp l => tgSs l
def tgSs : List Tg → List Nat
  | [] => []
  | t :: ts => tgS t ++ tgSs ts
end
/-- how many arguments -/
def muA : Mu → Nat
  | .append => 1
  | .pop => 0

/-! ### slots -/
@[simp] def peekL (ε : Sg) : List Rv → Option (List PV)
  | [] => some []
  | r :: rs => match r.peek ε, peekL ε rs with
    | some p, some ps => some (p :: ps)
    | _, _ => none
/-- as a value that is handed on -/
@[simp] def frz (r : Rv) (ε : Sg) : Option (PV × Sg) := match r with
  | .val p => some (p, ε)
  | .fresh p => some (p, ε)
  | .own i => frzS ε i
@[simp] def frzL : List Rv → Sg → Option (List PV × Sg)
  | [], ε => some ([], ε)
  | r :: rs, ε => match frz r ε with
    | some (p, ε1) => match frzL rs ε1 with
      | some (ps, ε2) => some (p :: ps, ε2)
      | none => none
    | none => none
/-- arguments by the def's mask: those that are changed are slots of one's own -/
@[simp] def argL : List Bool → List Rv → Sg → Option (List PV × List Nat × Sg)
  | [], [], ε => some ([], [], ε)
  | true :: ms, .own i :: rs, ε => match argL ms rs ε with
    | some (ps, is, ε1) => if i ∈ is then none else match ε1[i]? with
      | some (.own _ p) => some (p :: ps, i :: is, ε1)
      | _ => none
    | none => none
  | false :: ms, r :: rs, ε => match frz r ε with
    | some (p, ε1) => match argL ms rs ε1 with
      | some (ps, is, ε2) => some (p :: ps, is, ε2)
      | none => none
    | none => none
  | _, _, _ => none
@[simp] def setOuts : Sg → List Nat → List PV → Option Sg
  | ε, [], [] => some ε
  | ε, i :: is, p :: ps => match ε[i]? with
    | some (.own k _) => setOuts (ε.set i (.own k p)) is ps
    | _ => none
  | _, _, _ => none
@[simp] def doCall (Φ : Nat → List PV → CO) (mask : List Bool) (dfl : List PV) (np f : Nat) (rs : List Rv) (ε : Sg) : Out Rv :=
  match argL (mask.take rs.length) rs ε with
  | none => .stuck
  | some (ps, is, ε1) =>
    if mask.length = np ∧ (if ps.length < np then ps ++ dfl else ps).length = np ∧ (mask.drop rs.length).all (! ·) = true then
      match Φ f (if ps.length < np then ps ++ dfl else ps) with
      | .ok r fr outs => match setOuts ε1 is outs with
        | some ε2 => .ok (if fr then .fresh r else .val r) ε2
        | none => .stuck
      | .exc c outs => match setOuts ε1 is outs with
        | some ε2 => .exc c ε2
        | none => .stuck
      | .stuck => .stuck
    else .stuck

mutual
@[simp] def asgT : Tg → PV → Sg → Option Sg
  | .nm i, p, ε => match ε[i]? with
    | some (.own false _) => none
    | some _ => some (ε.set i (.val p))
    | none => none
  | .tp l, .tup ps, ε => asgTs l ps ε
  | .tp l, .lst ps, ε => asgTs l ps ε
  | _, _, _ => none
@[simp] def asgTs : List Tg → List PV → Sg → Option Sg
  | [], [], ε => some ε
  | t :: ts, p :: ps, ε => match asgT t p ε with
    | some ε1 => asgTs ts ps ε1
    | none => none
  | _, _, _ => none
end
/-- a comprehension's own names, forgotten -/
@[simp] def wipeS (ε : Sg) : List Nat → Option Sg
  | [] => some ε
  | i :: is => match wipeS ε is with
    | some ε1 => match ε1[i]? with
      | some (.own _ _) => none
      | _ => some (ε1.set i .none)
    | none => none
@[simp] def backS (ε₀ ε : Sg) : List Nat → Sg
  | [] => ε
  | i :: is => match ε₀[i]? with
    | some s => (backS ε₀ ε is).set i s
    | none => backS ε₀ ε is
/-- what is walked is no name of the comprehension's own -/
@[simp] def walkOk (r : Rv) (own : List Nat) : Bool := match r with
  | .own i => decide (i ∉ own)
  | _ => true
open Classical in
/-- the slot that is walked stays as it is -/
@[simp] noncomputable def stays (r : Rv) (ε ε' : Sg) : Bool := match r with
  | .own i => decide (peekS ε' i = peekS ε i)
  | _ => true
/-- a comprehension's turns -/
@[simp] noncomputable def cmpI (own : List Nat) (r : Rv) (turn : PV → Sg → Out (Option PV)) : List PV → List PV → Sg → Out (List PV)
  | [], acc, ε => .ok acc ε
  | p :: ps, acc, ε => match turn p ε with
    | .ok o ε1 => match wipeS ε1 own with
      | some ε2 => if stays r ε ε2 then match o with
          | some q => if acc.length < sizeLine then cmpI own r turn ps (acc ++ [q]) ε2 else .stuck
          | none => cmpI own r turn ps acc ε2
        else .stuck
      | none => .stuck
    | _ => .stuck
@[simp] def itemsOf : PV → Option (List PV)
  | .lst l => some l
  | .tup l => some l
  | .scr l => some l
  | .str s => some (s.cps.toList.map fun c => .str ⟨#[c]⟩)
  | _ => none
def isTupP : PV → Bool
  | .tup _ => true
  | _ => false

/-- small enough for range -/
def rgB (i : Int) : Bool := decide (-(2 ^ 62) ≤ i ∧ i < 2 ^ 62)
@[simp] def rngL (lo : Int) (n : Nat) : List PV := (List.range n).map fun k => .int (lo + (k : Nat))
@[simp] def rngC (lo c : Int) (n : Nat) : List PV := (List.range n).map fun k => .int (lo + (k : Nat) * c)
/-- the items of what is walked, and what must stay -/
@[simp] def srcI (k : Src) (rs : List Rv) (ε : Sg) : Option (Rv × List PV) := match k, rs with
  | .val, [r] => (r.peek ε).bind fun p => (itemsOf p).map fun l => (r, l)
  | .rng, rs => match peekL ε rs with
    | some [.int j] => if rgB j = true then some (.val .non, rngL 0 j.toNat) else none
    | some [.int i, .int j] => if rgB i = true ∧ rgB j = true then some (.val .non, rngL i (j - i).toNat) else none
    | some [.int i, .int j, .int c] => if (c ≠ 0 ∧ c.natAbs < 1073741824) ∧ Builtin.Range.small i j c = true ∧ 0 ≤ Builtin.Range.rangeSize i j c then some (.val .non, rngC i c (Builtin.Range.rangeSize i j c).toNat) else none
    | _ => none
  | .rev, [r] => match r.peek ε with
    | some (.lst l) => some (r, l.reverse)
    | some (.scr l) => some (r, l.reverse)
    | some (.tup l) => some (r, l.reverse)
    | _ => none
  | _, _ => none
structure FnI where
  name : Str
  np : Nat
  mask : List Bool
  nsl : Nat
  dfl : List PV
  body : List IS
structure Eng where
  fns : List FnI
  glb : List (Str × PV)
  cls : List Str
  /-- the built-in functions and classes that stand in the text -/
  blts : List Blt
  tys : List String
  /-- sub c d: the class c is d or below it -/
  sub : Nat → Nat → Bool
  /-- names that nothing in the text binds -/
  fre : List Str

section
variable (E : Eng) (Φ : Nat → List PV → CO)
mutual
@[simp] noncomputable def evE : IE → Sg → Out Rv
  | .var i, ε => match ε[i]? with
    | some (.val p) => .ok (.val p) ε
    | some (.own _ _) => .ok (.own i) ε
    | _ => .stuck
  | .cst p, ε => .ok (.val p) ε
  | .glb x, ε => match E.glb.lookup x with
    | some p => .ok (.val p) ε
    | none => .stuck
  | .bin op a b, ε => (evE a ε).bind fun ra ε1 => (evE b ε1).bind fun rb ε2 => match ra.opd.peek ε2, rb.opd.peek ε2 with
    | some p, some q => lift (opBin op p q) ε2
    | _, _ => .stuck
  | .neg a, ε => (evE a ε).bind fun ra ε1 => match ra.opd.peek ε1 with
    | some p => lift ((opNeg p).map .val) ε1
    | none => .stuck
  | .cmp op a b, ε => (evE a ε).bind fun ra ε1 => (evE b ε1).bind fun rb ε2 => match ra.opd.peek ε2, rb.opd.peek ε2 with
    | some p, some q => lift ((opCmp op p q).map fun b => .val (.bl b)) ε2
    | _, _ => .stuck
  | .isN a n, ε => (evE a ε).bind fun ra ε1 => match ra.opd.peek ε1 with
    | some .non => .ok (.val (.bl (!n))) ε1
    | some _ => .ok (.val (.bl n)) ε1
    | none => .stuck
  | .and l, ε => evAnd l ε
  | .or l, ε => evOr l ε
  | .not a, ε => (evE a ε).bind fun ra ε1 => match (ra.opd.peek ε1).bind truth with
    | some b => .ok (.val (.bl (!b))) ε1
    | none => .stuck
  | .ite c a b, ε => (evT c ε).bind fun t ε1 => if t then evE a ε1 else evE b ε1
  | .tup l, ε => (evA l ε).bind fun rs ε1 => match frzL rs ε1 with
    | some (ps, ε2) => if ps.length ≤ sizeLine then .ok (.val (.tup ps)) ε2 else .stuck
    | none => .stuck
  | .lst l, ε => (evA l ε).bind fun rs ε1 => match frzL rs ε1 with
    | some (ps, ε2) => if ps.length ≤ sizeLine then .ok (.fresh (.lst ps)) ε2 else .stuck
    | none => .stuck
  | .sub a i, ε => (evE a ε).bind fun ra ε1 => (evE i ε1).bind fun rb ε2 => match ra.opd.peek ε2, rb.opd.peek ε2 with
    | some p, some q => lift ((opIx p q).map .val) ε2
    | _, _ => .stuck
  | .slc a lo hi, ε => (evE a ε).bind fun ra ε1 => (evO lo ε1).bind fun l ε2 => (evO hi ε2).bind fun h ε3 => match ra.opd.peek ε3 with
    | some p => lift (opSlc p l h) ε3
    | none => .stuck
  | .call f as, ε => (evA as ε).bind fun rs ε1 => match E.fns[f]? with
    | some fi => doCall Φ fi.mask fi.dfl fi.np f rs ε1
    | none => .stuck
  | .blt b as, ε => (evA as ε).bind fun rs ε1 => match peekL ε1 rs with
    | some ps => lift (opBlt b ps) ε1
    | none => .stuck
  | .isi a ty, ε => (evE a ε).bind fun ra ε1 => match ra.opd.peek ε1 with
    | some p => lift ((opIsi p ty).map fun b => .val (.bl b)) ε1
    | none => .stuck
  | .cmpr elt tg k its cond own, ε => (evA its ε).bind fun rs ε1 => match srcI k rs ε1, wipeS ε1 own with
    | some (r, ps), some ε2 => if walkOk r own = true then match cmpI own r (fun p ε => match asgT tg p ε with
        | some ε3 => (evC cond ε3).bind fun t ε4 => if t then (evE elt ε4).bind fun r ε5 => match frz r ε5 with
            | some (q, ε6) => .ok (some q) ε6
            | none => .stuck
          else .ok none ε4
        | none => .stuck) ps [] ε2 with
      | .ok acc ε7 => .ok (.fresh (.lst acc)) (backS ε1 ε7 own)
      | _ => .stuck
      else .stuck
    | _, _ => .stuck
  | .mut m i as, ε => if as.length = muA m then match peekS ε i with
    | some (.lst _) => (evA as ε).bind fun rs ε1 => match frzL rs ε1 with
      | some (ps, ε2) => match ε2[i]? with
        | some (.own k p) => match opMut m p ps with
          | some (p', r) => .ok (.val r) (ε2.set i (.own k p'))
          | none => .stuck
        | _ => .stuck
      | none => .stuck
    | _ => .stuck
    else .stuck
  | .chn o1 o2 a b c, ε => (evE a ε).bind fun ra ε1 => (evE b ε1).bind fun rb ε2 => match ra.opd.peek ε2, rb.opd.peek ε2 with
    | some p, some q => match opCmp o1 p q with
      | some true => (evE c ε2).bind fun rc ε3 => match rb.opd.peek ε3, rc.opd.peek ε3 with
        | some q', some r => lift ((opCmp o2 q' r).map fun b => .val (.bl b)) ε3
        | _, _ => .stuck
      | some false => .ok (.val (.bl false)) ε2
      | none => .stuck
    | _, _ => .stuck
  | .split a b, ε => (evE a ε).bind fun ra ε1 => match ra.opd.peek ε1 with
    | some (.str s) => (evE b ε1).bind fun rb ε2 => match rb.opd.peek ε2 with
      | some (.str t) => if (t.length == 0) = false ∧ s.length + 2 ≤ sizeLine then .ok (.fresh (.lst ((Txt.split s t).map .str))) ε2 else .stuck
      | _ => .stuck
    | _ => .stuck
  | .lrev a, ε => (evE a ε).bind fun ra ε1 => match ra.opd.peek ε1 with
    | some (.lst l) => .ok (.fresh (.lst l.reverse)) ε1
    | some (.scr l) => .ok (.fresh (.lst l.reverse)) ε1
    | _ => .stuck
/-- as a test -/
@[simp] noncomputable def evT : IE → Sg → Out Bool
  | .and l, ε => evAndT l ε
  | .or l, ε => evOrT l ε
  | .not a, ε => (evT a ε).bind fun b ε1 => .ok (!b) ε1
  | .cst p, ε => match truth p with
    | some b => .ok b ε
    | none => .stuck
  | .var i, ε => match (peekS ε i).bind truth with
    | some b => .ok b ε
    | none => .stuck
  | .cmp op a b, ε => (evE a ε).bind fun ra ε1 => (evE b ε1).bind fun rb ε2 => match ra.opd.peek ε2, rb.opd.peek ε2 with
    | some p, some q => match opCmp op p q with
      | some b => .ok b ε2
      | none => .stuck
    | _, _ => .stuck
  | .chn o1 o2 a b c, ε => (evE a ε).bind fun ra ε1 => (evE b ε1).bind fun rb ε2 => match ra.opd.peek ε2, rb.opd.peek ε2 with
    | some p, some q => match opCmp o1 p q with
      | some true => (evE c ε2).bind fun rc ε3 => match rb.opd.peek ε3, rc.opd.peek ε3 with
        | some q', some r => match opCmp o2 q' r with
          | some b => .ok b ε3
          | none => .stuck
        | _, _ => .stuck
      | some false => .ok false ε2
      | none => .stuck
    | _, _ => .stuck
  | .isN a n, ε => (evE a ε).bind fun ra ε1 => match ra.opd.peek ε1 with
    | some .non => .ok (!n) ε1
    | some _ => .ok n ε1
    | none => .stuck
  | .call f as, ε => (evA as ε).bind fun rs ε1 => match E.fns[f]? with
    | some fi => (doCall Φ fi.mask fi.dfl fi.np f rs ε1).bind fun r ε2 => match (r.opd.peek ε2).bind truth with
      | some b => .ok b ε2
      | none => .stuck
    | none => .stuck
  | .blt b as, ε => (evA as ε).bind fun rs ε1 => match peekL ε1 rs with
    | some ps => (lift (opBlt b ps) ε1).bind fun r ε2 => match (r.opd.peek ε2).bind truth with
      | some b => .ok b ε2
      | none => .stuck
    | none => .stuck
  | .isi a ty, ε => (evE a ε).bind fun ra ε1 => match ra.opd.peek ε1 with
    | some p => match opIsi p ty with
      | some b => .ok b ε1
      | none => .stuck
    | none => .stuck
  | .sub a i, ε => (evE a ε).bind fun ra ε1 => (evE i ε1).bind fun rb ε2 => match ra.opd.peek ε2, rb.opd.peek ε2 with
    | some p, some q => match (opIx p q).bind truth with
      | some b => .ok b ε2
      | none => .stuck
    | _, _ => .stuck
  | _, _ => .stuck
@[simp] noncomputable def evA : List IE → Sg → Out (List Rv)
  | [], ε => .ok [] ε
  | e :: es, ε => (evE e ε).bind fun r ε1 => (evA es ε1).bind fun rs ε2 => .ok (r.opd :: rs) ε2
@[simp] noncomputable def evO : Option IE → Sg → Out (Option Int)
  | none, ε => .ok none ε
  | some e, ε => (evE e ε).bind fun r ε1 => match r.opd.peek ε1 with
    | some (.int i) => .ok (some i) ε1
    | _ => .stuck
@[simp] noncomputable def evAnd : List IE → Sg → Out Rv
  | [], _ => .stuck
  | [a], ε => evE a ε
  | a :: b :: l, ε => (evE a ε).bind fun ra ε1 => match (ra.opd.peek ε1).bind truth with
    | some true => evAnd (b :: l) ε1
    | some false => .ok ra.opd ε1
    | none => .stuck
@[simp] noncomputable def evOr : List IE → Sg → Out Rv
  | [], _ => .stuck
  | [a], ε => evE a ε
  | a :: b :: l, ε => (evE a ε).bind fun ra ε1 => match (ra.opd.peek ε1).bind truth with
    | some false => evOr (b :: l) ε1
    | some true => .ok ra.opd ε1
    | none => .stuck
@[simp] noncomputable def evAndT : List IE → Sg → Out Bool
  | [], _ => .stuck
  | [a], ε => evT a ε
  | a :: b :: l, ε => (evT a ε).bind fun t ε1 => if t then evAndT (b :: l) ε1 else .ok false ε1
@[simp] noncomputable def evOrT : List IE → Sg → Out Bool
  | [], _ => .stuck
  | [a], ε => evT a ε
  | a :: b :: l, ε => (evT a ε).bind fun t ε1 => if t then .ok true ε1 else evOrT (b :: l) ε1
/-- a comprehension's test, if there is one -/
@[simp] noncomputable def evC : List IE → Sg → Out Bool
  | [], ε => .ok true ε
  | [c], ε => evT c ε
  | _, _ => .stuck
end
end

/-! ### statements -/
/-- a slot takes what was handed back -/
@[simp] def putR (i : Nat) (r : Rv) (ε : Sg) : Option Sg := match ε[i]? with
  | some (.own false _) => none
  | none => none
  | some _ => match r with
    | .val p => some (ε.set i (.val p))
    | .fresh p => some (ε.set i (.own true p))
    | .own j => match frzS ε j with
      | some (p, ε1) => some (ε1.set i (.val p))
      | none => none
/-- what is handed back by return -/
@[simp] def retR (r : Rv) (ε : Sg) : Option (Rv × Sg) := match r with
  | .own j => match ε[j]? with
    | some (.own true p) => some (.fresh p, ε.set j .none)
    | some (.val p) => some (.val p, ε)
    | _ => none
  | r => some (r, ε)
@[simp] def SO.seq (x : SO) (f : Sg → SO) : SO := match x with
  | .nx ε => f ε
  | o => o
mutual
def asgsS : IS → List Nat
  | .asg i _ => [i]
  | .asgT t _ => tgS t
  | .ifs _ a b => asgsL a ++ asgsL b
  | .tryx b _ s => asgsL b ++ asgsL s
  | .tryn b _ => asgsL b
  | .for_ tg _ _ b => tgS tg ++ asgsL b
  | .whl _ b => asgsL b
  | _ => []
def asgsL : List IS → List Nat
  | [] => []
  | s :: l => asgsS s ++ asgsL l
end
noncomputable def forI (r : Rv) (set : PV → Sg → Option Sg) (body : Sg → SO) : List PV → Sg → SO
  | [], ε => .nx ε
  | p :: ps, ε => match set p ε with
    | none => .stuck
    | some ε1 => match body ε1 with
      | .nx ε2 => if stays r ε ε2 then forI r set body ps ε2 else .stuck
      | .ct ε2 => if stays r ε ε2 then forI r set body ps ε2 else .stuck
      | .bk ε2 => .nx ε2
      | o => o
def whlI (c : Sg → Out Bool) (body : Sg → SO) : Nat → Sg → SO
  | 0, _ => .stuck
  | n + 1, ε => match c ε with
    | .ok true ε1 => match body ε1 with
      | .nx ε2 => whlI c body n ε2
      | .ct ε2 => whlI c body n ε2
      | .bk ε2 => .nx ε2
      | o => o
    | .ok false ε1 => .nx ε1
    | .exc c ε1 => .exc c ε1
    | .stuck => .stuck
/-- the most turns of a while -/
def whlN : Nat := 1000000000
/-- an except suite: one short statement -/
@[simp] def suI : List IS → Sg → SO
  | [.ret (.cst p)], ε => .rt (.val p) ε
  | [.pass], ε => .nx ε
  | [.asg i (.cst p)], ε => match putR i (.val p) ε with
    | some ε1 => .nx ε1
    | none => .stuck
  | _, _ => .stuck
/-- the clauses, one after the other -/
@[simp] def hsI (sub : Nat → Nat → Bool) (c : Nat) (ε : Sg) : List (Nat × PV) → SO
  | [] => .exc c ε
  | (d, p) :: hs => if sub c d then .rt (.val p) ε else hsI sub c ε hs
section
variable (E : Eng) (Φ : Nat → List PV → CO)
mutual
@[simp] noncomputable def exS : IS → Sg → SO
  | .pass, ε => .nx ε
  | .brk, ε => .bk ε
  | .cont, ε => .ct ε
  | .expr e, ε => match evE E Φ e ε with
    | .ok _ ε1 => .nx ε1
    | .exc c ε1 => .exc c ε1
    | .stuck => .stuck
  | .asg i e, ε => match evE E Φ e ε with
    | .ok r ε1 => match putR i r ε1 with
      | some ε2 => .nx ε2
      | none => .stuck
    | .exc c ε1 => .exc c ε1
    | .stuck => .stuck
  | .asgT t e, ε => match evE E Φ e ε with
    | .ok r ε1 => match frz r ε1 with
      | some (p, ε2) => match asgT t p ε2 with
        | some ε3 => .nx ε3
        | none => .stuck
      | none => .stuck
    | .exc c ε1 => .exc c ε1
    | .stuck => .stuck
  | .ret e, ε => match evE E Φ e ε with
    | .ok r ε1 => match retR r ε1 with
      | some (r', ε2) => .rt r' ε2
      | none => .stuck
    | .exc c ε1 => .exc c ε1
    | .stuck => .stuck
  | .retN, ε => .rt (.val .non) ε
  | .ifs c a b, ε => match evT E Φ c ε with
    | .ok t ε1 => if t then exL a ε1 else exL b ε1
    | .exc c ε1 => .exc c ε1
    | .stuck => .stuck
  | .raise c _, ε => .exc c ε
  | .tryx body c suite, ε => match exL body ε with
    | .exc c' ε1 => if E.sub c' c then suI suite ε1 else .exc c' ε1
    | o => o
  | .tryn body hs, ε => match exL body ε with
    | .exc c' ε1 => hsI E.sub c' ε1 hs
    | o => o
  | .for_ tg k its body, ε => match evA E Φ its ε with
    | .ok rs ε1 => match srcI k rs ε1 with
      | some (r, ps) => if walkOk r (asgsS (.for_ tg k its body)) = true then forI r (fun p ε => asgT tg p ε) (fun ε => exL body ε) ps ε1 else .stuck
      | none => .stuck
    | .exc c ε1 => .exc c ε1
    | .stuck => .stuck
  | .whl c body, ε => whlI (fun ε => evT E Φ c ε) (fun ε => exL body ε) whlN ε
@[simp] noncomputable def exL : List IS → Sg → SO
  | [], ε => .nx ε
  | s :: l, ε => (exS s ε).seq fun ε1 => exL l ε1
end
end

/-! ### defs -/
/-- the slots at the entry -/
@[simp] def startS : List Bool → List PV → Sg
  | true :: ms, p :: ps => .own false p :: startS ms ps
  | false :: ms, p :: ps => .val p :: startS ms ps
  | _, _ => []
@[simp] def outsS : List Bool → Nat → Sg → Option (List PV)
  | [], _, _ => some []
  | true :: ms, i, ε => match ε[i]?, outsS ms (i + 1) ε with
    | some (.own _ p), some ps => some (p :: ps)
    | _, _ => none
  | false :: ms, i, ε => outsS ms (i + 1) ε
@[simp] noncomputable def callB (E : Eng) (Φ : Nat → List PV → CO) (fi : FnI) (ps : List PV) : CO :=
  if ps.length = fi.np ∧ fi.mask.length = fi.np ∧ fi.np ≤ fi.nsl then
    match exL E Φ fi.body (startS fi.mask ps ++ List.replicate (fi.nsl - fi.np) .none) with
    | .nx ε => match outsS fi.mask 0 ε with
      | some os => .ok .non false os
      | none => .stuck
    | .rt (.val p) ε => match outsS fi.mask 0 ε with
      | some os => .ok p false os
      | none => .stuck
    | .rt (.fresh p) ε => match outsS fi.mask 0 ε with
      | some os => .ok p true os
      | none => .stuck
    | .exc c ε => match outsS fi.mask 0 ε with
      | some os => .exc c os
      | none => .stuck
    | _ => .stuck
  else .stuck
/-- the program, calls nested at most k deep -/
noncomputable def callF (E : Eng) : Nat → Nat → List PV → CO
  | 0 => fun _ _ => .stuck
  | k + 1 => fun f ps => match E.fns[f]? with
    | some fi => callB E (callF E k) fi ps
    | none => .stuck
end Eng

namespace Eng
open PySem PySem.Spec L2
open PyProof.Rows hiding St
section
variable {X : Cx}
/-! ### the text of data -/
theorem call_reprD (hg : X.A.guards = some []) (hu : X.A.units + 100 < cLine) : CallR X (.builtin "repr") (fun xs H Q => ∃ x d, xs = [x] ∧ Dp X.K H x d ∧ SeqAt.shaped d = true ∧ d.showable = true ∧ d.shown.length ≤ sizeLine ∧ Q (.str d.shown) H) := by
  intro pins s σ H xs us Q I r h
  obtain ⟨x, d, rfl, dp, sh, sw, sz, q⟩ := h
  obtain ⟨u, rfl, ru⟩ := vals1 r
  obtain ⟨as, rd⟩ := Dp.reads I d x u dp ru
  have dep := SeqAt.depth_of_shaped sh
  have nod : d.hasDict = false := PyData.hasDict_of_canLay _ (SeqAt.canLay_of_shaped sh)
  have hgi : X.A.in1.guards = some [] := hg
  have hui : X.A.in1.units = X.A.units + 1 := rfl
  have fin : ∀ {h' : Heap} {tk : Nat} {t : Tok}, (∀ b o, s.heap.get? b = some o → h'.get? b = some o) → EP X pins σ Q (.str d.shown t) { s with heap := h', toks := tk } := fun {h' tk t} kp => ⟨.str d.shown, H, I.kept (t' := tk) kp, ⟨_, rfl⟩, q⟩
  have same : ∀ b o, s.heap.get? b = some o → s.heap.get? b = some o := fun _ _ z => z
  cases rd with
  | none => exact PySem.P.repr_of_none (by simpa only [PyData.shown] using fin (tk := s.toks + 1) (t := s.toks) same)
  | bool b => exact PySem.P.repr_of_bool (by simpa only [PyData.shown] using fin (tk := s.toks + 1) (t := s.toks) same)
  | int i t => exact PySem.P.repr_of_int (by simpa [PyData.showable] using sw) (by simpa only [PyData.shown] using fin (tk := s.toks + 1) (t := s.toks) same)
  | str y t => exact PySem.P.repr_of_str (by simpa only [PyData.shown] using fin (tk := s.toks + 1) (t := s.toks) same) (by simpa only [PyData.shown] using sz)
  | @list a o vs n ys as' h1 h2 h3 h4 =>
    have ty : s.TypeIs (.ref a) "list" := ⟨o, h1, h2⟩
    have sz' : (listText (PyData.shownAll ys)).length ≤ sizeLine := by simpa only [PyData.shown] using sz
    simp only [PyData.depth] at dep
    obtain ⟨bs, hb, hk⟩ := ReprAllK.of_readsAll (prog := X.prog) (w := X.w) h4 (by simpa [PyData.showable] using sw) (fun z => absurd z (by rw [show PyData.hasDictAll ys = false by simpa [PyData.hasDict] using nod]; exact Bool.false_ne_true)) (fun t ht => Nat.le_trans (listText_mem_le ht) sz')
    have hna : a ∉ bs := not_mem_of_deeper (.list h1 h2 h3 h4) (by simp only [PyData.depth]; omega) hb
    refine call_repr_slot (by omega) ty F.slot_list_repr.toG ?_
    obtain ⟨l⟩ := vs
    cases l with
    | nil =>
      have h4' : ReadsAll s.heap [] ys _ := h4
      cases h4'
      refine call_list_repr_empty ty h1 h3 ⟨_, _, rfl, ?_⟩
      have e : ("[]" : Str) = (PyData.list []).shown := by simp only [PyData.shown, PyData.shownAll, listText_nil]
      rw [e]
      exact fin same
    | cons y l =>
      refine call_list_reprK h1 h2 h3 hna (by simpa using hk.length_eq) (fun i y e => hk.item i y (by simpa using e)) hgi (fun b _ => Clear.nil b) (by omega) same (fun h' u tk kp => ⟨_, _, rfl, ?_⟩) sz'
      have e : listText (PyData.shownAll ys) = (PyData.list ys).shown := by simp only [PyData.shown]
      rw [e]
      exact fin kp
  | @tuple a o vs n ys as' h1 h2 h3 h4 =>
    have ty : s.TypeIs (.ref a) "tuple" := ⟨o, h1, h2⟩
    have sz' : (tupleText (PyData.shownAll ys)).length ≤ sizeLine := by simpa only [PyData.shown] using sz
    simp only [PyData.depth] at dep
    obtain ⟨bs, hb, hk⟩ := ReprAllK.of_readsAll (prog := X.prog) (w := X.w) h4 (by simpa [PyData.showable] using sw) (fun z => absurd z (by rw [show PyData.hasDictAll ys = false by simpa [PyData.hasDict] using nod]; exact Bool.false_ne_true)) (fun t ht => Nat.le_trans (tupleText_mem_le ht) sz')
    have hna : a ∉ bs := not_mem_of_deeper (.tuple h1 h2 h3 h4) (by simp only [PyData.depth]; omega) hb
    refine call_repr_slot (by omega) ty F.slot_tuple_repr ?_
    refine call_tuple_reprK h1 h2 h3 hna hk hgi (fun b _ => Clear.nil b) (by omega) same (fun h' u tk kp => ⟨_, _, rfl, ?_⟩) sz'
    have e : tupleText (PyData.shownAll ys) = (PyData.tuple ys).shown := by simp only [PyData.shown]
    rw [e]
    exact fin kp
  | dict h1 h2 h3 h4 h5 => simp [PyData.hasDict] at nod
end
end Eng

namespace Eng
open PySem PySem.Spec L2 RT
open PyProof.Rows hiding St
section
variable {prog : Program} {w : World} {A : Around} {E : Value → Shared → Prop} {s : Shared}
/-- list(it), it a reversed list's iterator just made -/
theorem list_of_rev {it l : Addr} {items : Array Value} {Q : Value → Shared → Prop} (calm : A.handled = none) (hit : s.heap.IsRevIter it l ((items.size : Int) - 1)) (hl : s.heap.IsList l items) (apart : l ≠ it) (fits : items.size ≤ sizeLine)
    (hQ : ∀ (h2 : Heap) (tk : Nat) (acc : Array Value) (c : Nat), (∀ b o, b ≠ it → s.heap.get? b = some o → h2.get? b = some o) → h2.get? s.heap.objs.size = some { cls := .type "list", data := .seq acc c } → ItemsOf (fun i v => items[items.size - 1 - i]? = some v) acc items.size →
      Q (.ref s.heap.objs.size) { s with heap := h2, toks := tk }) : wpAny (model prog w) A (call (.type "list") [.ref it]) Q E s := by
  have itLt : it < s.heap.objs.size := let ⟨_, e, _⟩ := hit; Heap.lt_size e
  have lLt : l < s.heap.objs.size := let ⟨_, e, _⟩ := hl; Heap.lt_size e
  generalize hS : s.heap.objs.size = S at *
  have grown : (s.heap.push { cls := .type "list", data := .seq #[] }).get? S = some { cls := .type "list", data := .seq #[] } := by rw [← hS]; exact Heap.get?_push_size _ rfl
  refine callType_codes (Q₁ := fun x s1 => x = .ref S ∧ s1 = { s with heap := s.heap.push { cls := .type "list", data := .seq #[] } }) F.called_list (F.typeCall_list_1 _) F.entry_list_init (code_list_new _ ⟨by rw [hS], rfl⟩) ?_
  rintro x s1 ⟨rfl, rfl⟩
  refine ⟨⟨_, grown, rfl⟩, F.args_list_init_2 _ _, ?_⟩
  -- what the list's own maker leaves alone
  have others : ∀ (f : Obj → Obj) {b : Addr} {o : Obj}, b ≠ S → s.heap.get? b = some o → ((s.heap.push { cls := .type "list", data := .seq #[] }).update S f).get? b = some o := fun f {b o} hb e => (Heap.get?_update_other _ _ (Ne.symm hb)).trans (Heap.get?_push_of_some _ e)
  show wpAny _ A.in1.in1 (Builtin.List.listItems (.ref S) >>= fun old => Builtin.List.listUpdate (.ref S) (fun _ => #[]) >>= fun _ => letGo old.toList.reverse >>= fun _ => Builtin.List.listExtendWith (.ref S) (.ref it) .none) _ _ _
  refine wpAny_bind ?_; unfold Builtin.List.listItems; refine wpAny_bind (wpAny_seqItems grown rfl (wpAny_pure ?_))
  refine wpAny_bind (m := updateSeq S (fun _ => #[])) (wpAny_updateSeq grown rfl ?_)
  have g2 := Heap.get?_update_self (Obj.mapSeq (fun _ => (#[] : Array Value))) grown rfl
  refine wpAny_bind (wpAny_letGo ?_)
  have itNe : it ≠ S := Nat.ne_of_lt itLt
  have lNe : l ≠ S := Nat.ne_of_lt lLt
  have hit2 : ((s.heap.push { cls := .type "list", data := .seq #[] }).update S (Obj.mapSeq (fun _ => (#[] : Array Value)))).IsRevIter it l ((items.size : Int) - 1) := hit.at fun o e => others _ itNe e
  have hl2 : ((s.heap.push { cls := .type "list", data := .seq #[] }).update S (Obj.mapSeq (fun _ => (#[] : Array Value)))).IsList l items := hl.at fun o e => others _ lNe e
  have ty := Heap.IsRevIter.typeIs (s := { s with heap := (s.heap.push { cls := .type "list", data := .seq #[] }).update S (Obj.mapSeq (fun _ => (#[] : Array Value))) }) hit2
  have no : Builtin.List.listSameRef (.ref S) (.ref it) = false := by simp [Builtin.List.listSameRef, Ne.symm itNe]
  unfold Builtin.List.listExtendWith Builtin.List.listLengthHint
  refine wpAny_bind (wpAny_typeOf ty ?_)
  rw [no, if_neg (by decide)]
  refine wpAny_bind (wpAny_pyIter_revIter (s := { s with heap := _ }) hit2 (wpAny_bind (wpAny_holding (wpAny_bind (wpAny_specialOf ty nolen_lri ?_)))))
  refine wpAny_bind (m := specialOf (Value.ref it) (Str.ofString "__length_hint__")) (wpAny_specialOf ty hint_lri ?_)
  generalize name : ("list_reverseiterator.__length_hint__" : String) = id0
  wp_delta
  rw [show splitId id0 = some ("list_reverseiterator", "__length_hint__") from by subst name; decide +kernel]
  subst name
  refine wpAny_bind (wpAny_isInstance (b := true) ty (by rw [isSubtype_type]; kernel_rfl) (wpAny_pure ?_))
  rw [if_neg (by decide)]
  have start0 : ((items.size : Nat) : Int) - 1 - ((0 : Nat) : Int) = (items.size : Int) - 1 := by omega
  have W := (Walks.listRev (prog := prog) (w := w) (A := A.in1.in1) calm it l apart items).toS
  have notIn : S ∉ [it, l] := by simp only [List.mem_cons, List.not_mem_nil, or_false, not_or]; exact ⟨Ne.symm itNe, Ne.symm lNe⟩
  refine wpAny_pure ⟨plainId_quiet F.plain_extend_loop _, codeAny_extend_loopS W fits S notIn _ items.size 0 _ _ _ rfl (Nat.zero_le _) ⟨Nat.zero_le _, by rw [start0]; exact hit2, hl2⟩ g2 (ItemsOf.nil _) fun s3 acc c moved at3 got => ?_⟩
  refine ⟨rfl, ?_⟩
  rw [Moved.eq_with moved]
  refine hQ s3.heap s3.toks acc c (fun b o hb e => moved.heap b o (fun hm => ?_) (others _ (fun z => ?_) e)) at3 got
  · rcases List.mem_cons.mp hm with z | z
    · rw [z] at e; exact absurd (Heap.lt_size e) (by rw [hS]; exact Nat.lt_irrefl _)
    · exact hb (List.mem_singleton.mp z)
  · rw [z] at e; exact absurd (Heap.lt_size e) (by rw [hS]; exact Nat.lt_irrefl _)
end
end Eng

namespace Eng
open PySem PySem.Spec L2
open PyProof.Rows hiding St
open PySem.W (EachIs sorted_data)

/-- what is wanted behind an operation that changes nothing -/
def Kont (K : Fg) (Z H : Hp) (Q : VK) : Rv → Prop
  | .val p => ∀ v Z' H', Ext Z H Z' H' → Rp K Z' p v → Q v H'
  | .fresh p => ∀ a Z' H', Ext Z H Z' H' → H a = Option.none → Z' a = Option.none → OwnR K Z' H' a p → Q (.ref a) H'
  | .own _ => True

section
variable {X : Cx}
def rBin (K : Fg) (op : Operator) : R2 := fun x y H Q => ∃ Z p q r, Same Z H ∧ View K Z H p x ∧ View K Z H q y ∧ opBin op p q = some r ∧ Kont K Z H Q r

theorem mulOk_ok {i j : Int} (h : mulOk i j = true) : IntMulOk i j := by
  have h3 := of_decide_eq_true h
  have b : ∀ x : Int, Builtin.Int.intBits x ≤ x.natAbs.log2 + 1 := fun x => by
    unfold Builtin.Int.intBits
    split <;> omega
  have h1 := b i
  have h2 := b j
  have e : bitsLine = 134217728 := by decide
  unfold IntMulOk
  intro z
  rw [Bool.and_eq_true] at z
  have z2 := z.2
  unfold Builtin.Int.intTooBig at z2
  have z3 := of_decide_eq_true z2
  rw [e] at z3
  omega
theorem op_mulA : OpR X (binaryOp .Mult) (rI IntMulOk fun i j => .int (i * j)) := opI fun _ _ _ _ _ _ _ hc q => mul_int q hc
theorem op_fdivA : OpR X (binaryOp .FloorDiv) (rI (fun i j => j ≠ 0 ∧ Builtin.divisionGoesByPylong i j = false) fun i j => .int (i.fdiv j)) := opI fun i j _ _ _ _ _ hc q => floordiv_int hc.1 q (.inl hc.2)
theorem op_subB : OpR X (binaryOp .Sub) (fun x y H Q => ∃ i j, x = .bl i ∧ y = .bl j ∧ Q (.int ((if i then 1 else 0) - (if j then 1 else 0))) H) := by
  intro pins s σ H x y v u Q I rx ry h
  obtain ⟨i, j, rfl, rfl, q⟩ := h
  cases rx
  cases ry
  exact sub_bool ⟨.int _, H, I.tok _, ⟨_, rfl⟩, q⟩
theorem RpL.rep {K : Fg} {Z : Hp} {ps : List PV} {vs : List V} (h : RpL K Z ps vs) : ∀ n : Nat, RpL K Z (List.replicate n ps).flatten (List.replicate n vs).flatten
  | 0 => .nil
  | n + 1 => by
    rw [List.replicate_succ, List.replicate_succ, List.flatten_cons, List.flatten_cons]
    exact h.append (RpL.rep h n)
theorem foldl_cps (x : Str) (n : Nat) : List.foldl (fun x1 x2 => x1 ++ x2) #[] (List.replicate n x.cps) = (List.replicate n x.cps.toList).flatten.toArray := by
  have h : ∀ (n : Nat) (acc : Array Nat), List.foldl (fun x1 x2 => x1 ++ x2) acc (List.replicate n x.cps) = acc ++ (List.replicate n x.cps.toList).flatten.toArray := by
    intro n
    induction n with
    | zero => intro acc; simp
    | succ n ih =>
      intro acc
      rw [List.replicate_succ, List.foldl_cons, ih, List.replicate_succ, List.flatten_cons, Array.append_assoc]
      congr 1
      apply Array.toList_inj.mp
      simp
  rw [h]
  simp
theorem op_repS : OpR X (binaryOp .Mult) (fun x y H Q => ∃ (w : Str) (k : Int), x = .str w ∧ y = .int k ∧ (2 ≤ k ∧ k ≤ 100000) ∧ w.length ≠ 0 ∧ w.length * k.toNat ≤ sizeLine ∧ Q (.str ⟨(List.replicate k.toNat w.cps.toList).flatten.toArray⟩) H) := by
  intro pins s σ H x y v u Q I rx ry h
  obtain ⟨w, k, rfl, rfl, ⟨h1, h2⟩, h0, hz, q⟩ := h
  obtain ⟨t, rfl⟩ := rx
  obtain ⟨t', rfl⟩ := ry
  have c1 : ¬ k < 1 := by omega
  have c2 : (k == 1 || w.length == 0) = false := by
    rw [Bool.or_eq_false_iff]
    exact ⟨beq_eq_false_iff_ne.mpr (by omega), beq_eq_false_iff_ne.mpr h0⟩
  refine PySem.P.mul_str ?_ (fun _ _ => ?_) (fun _ _ => ?_) ?_
  · rw [decide_eq_false (by omega), decide_eq_false (by omega)]; rfl
  · have : (w.length : Int) ≤ 16777216 := by
      have hs : sizeLine = 16777216 := rfl
      have : 1 ≤ k.toNat := by omega
      have : w.length * 1 ≤ w.length * k.toNat := Nat.mul_le_mul_left _ this
      omega
    have : (16777216 : Int) ≤ (2 ^ 63 - 1) / k := (Int.le_ediv_iff_mul_le (by omega)).mpr (by omega)
    omega
  · exact decide_eq_false (by omega)
  · rw [if_neg c1, if_neg (by rw [c2]; exact Bool.false_ne_true), foldl_cps]
    refine ⟨?_, .str _, H, I.tok _, ⟨_, rfl⟩, q⟩
    show (List.replicate k.toNat w.cps.toList).flatten.toArray.size ≤ sizeLine
    rw [List.size_toArray, PyProof.Rows.lm_len_rep_flat, Nat.mul_comm]
    exact hz

theorem frE {K : Fg} {Z H : Hp} {Q : VK} {ps : List PV} {vs : List V} (zh : Same Z H) (k : Kont K Z H Q (.fresh (.lst ps))) (r : RpL K Z ps vs) : ∀ p, H p = none → Q (.ref p) (upd H p (.lst vs)) :=
  fun p hp => k p Z _ (.new zh hp) hp (zh.free hp) ⟨vs, upd_same, r⟩
theorem tpE {K : Fg} {Z H : Hp} {Q : VK} {ps : List PV} {vs : List V} (zh : Same Z H) (k : Kont K Z H Q (.val (.tup ps))) (r : RpL K Z ps vs) : ∀ p, H p = none → Q (.ref p) (upd H p (.tup vs)) :=
  fun p hp => k (.ref p) (upd Z p (.tup vs)) _ (.newF zh hp) (.tup (.inl (.inl upd_same)) (r.mono fun b u e => by rw [upd_ne (ne_of_none e (zh.free hp))]; exact e))
theorem op_binE (op : Operator) : OpR X (binaryOp op) (rBin X.K op) := by
  intro pins s σ H x y v u Q I rx ry h
  obtain ⟨Z, p, q, r, zh, vp, vq, e, k⟩ := h
  unfold opBin at e
  split at e
  · cases e
    cases vp.int
    cases vq.int
    exact op_add pins s σ H _ _ v u Q I rx ry ⟨_, _, rfl, rfl, k _ _ _ (.refl zh) (.int _)⟩
  · cases e
    cases vp.int
    cases vq.int
    exact op_sub pins s σ H _ _ v u Q I rx ry ⟨_, _, rfl, rfl, k _ _ _ (.refl zh) (.int _)⟩
  · cases e
    cases vp.bl
    cases vq.bl
    exact op_subB pins s σ H _ _ v u Q I rx ry ⟨_, _, rfl, rfl, k _ _ _ (.refl zh) (.int _)⟩
  · split at e
    · rename_i hc
      cases e
      cases vp.int
      cases vq.int
      exact op_mulA pins s σ H _ _ v u Q I rx ry ⟨_, _, rfl, rfl, mulOk_ok hc, k _ _ _ (.refl zh) (.int _)⟩
    · cases e
  · split at e
    · rename_i hc
      cases e
      cases vp.int
      cases vq.int
      exact op_fdivA pins s σ H _ _ v u Q I rx ry ⟨_, _, rfl, rfl, hc, k _ _ _ (.refl zh) (.int _)⟩
    · cases e
  · split at e
    · rename_i hc
      cases e
      cases vp.int
      cases vq.int
      exact op_modN pins s σ H _ _ v u Q I rx ry ⟨_, _, rfl, rfl, hc, k _ _ _ (.refl zh) (.int _)⟩
    · cases e
  · split at e
    · rename_i hc
      cases e
      cases vp.int
      cases vq.int
      exact op_pow pins s σ H _ _ v u Q I rx ry ⟨_, _, rfl, rfl, hc, k _ _ _ (.refl zh) (.int _)⟩
    · cases e
  · split at e
    · rename_i hc
      cases e
      cases vp.str
      cases vq.str
      exact op_add_str pins s σ H _ _ v u Q I rx ry ⟨_, _, rfl, rfl, hc, k _ _ _ (.refl zh) (.str _)⟩
    · cases e
  · split at e
    · rename_i hc
      cases e
      obtain ⟨a, vs, rfl, h1, r1⟩ := vp.lstH zh
      obtain ⟨b, ws, rfl, h2, r2⟩ := vq.lstH zh
      exact op_cat pins s σ H _ _ v u Q I rx ry ⟨_, _, _, _, rfl, rfl, h1, h2, by rw [r1.length, r2.length]; exact hc, frE zh k (r1.append r2)⟩
    · cases e
  · split at e
    · rename_i hc
      cases e
      obtain ⟨a, vs, rfl, h1, r1⟩ := vp.lstH zh
      cases vq.int
      exact op_rep pins s σ H _ _ v u Q I rx ry ⟨_, _, _, rfl, rfl, h1, hc.1.1, hc.1.2, by rw [r1.length]; exact hc.2, frE zh k (r1.rep _)⟩
    · cases e
  · split at e
    · rename_i hc
      cases e
      cases vp.str
      cases vq.int
      exact op_repS pins s σ H _ _ v u Q I rx ry ⟨_, _, rfl, rfl, hc.1, hc.2.1, hc.2.2, k _ _ _ (.refl zh) (.str _)⟩
    · cases e
  · cases e

/-! ### comparisons -/
def rCmp (K : Fg) (op : CmpOp) : R2 := fun x y H Q => ∃ Z p q b, Same Z H ∧ View K Z H p x ∧ View K Z H q y ∧ opCmp op p q = some b ∧ Q (.bl b) H
mutual
theorem dp_of {K : Fg} {Z H : Hp} (zh : Same Z H) : ∀ {p : PV} {d : PyData} {v : V}, toD p = some d → Rp K Z p v → Dp K H v d
  | .non, _, _, e, r => by cases e; cases r; exact .non
  | .bl b, _, _, e, r => by cases e; cases r; exact .bl b
  | .int b, _, _, e, r => by cases e; cases r; exact .int b
  | .str b, _, _, e, r => by cases e; cases r; exact .str b
  | .tup l, d, v, e, r => by
    cases r with
    | tup h r =>
      unfold toD at e
      cases el : toDL l with
      | none => rw [el] at e; cases e
      | some ds => rw [el] at e; cases e; exact .tup (sqT_same zh h) (dpL_of zh el r)
  | .lst l, d, v, e, r => by
    cases r with
    | lst h r =>
      unfold toD at e
      cases el : toDL l with
      | none => rw [el] at e; cases e
      | some ds => rw [el] at e; cases e; exact .lst (.inl (.inl (zh _ _ h))) (dpL_of zh el r)
  | .dct _, _, _, _, r => by cases r
  | .set _, _, _, _, r => by cases r
  | .scr _, _, _, e, _ => by cases e
theorem dpL_of {K : Fg} {Z H : Hp} (zh : Same Z H) : ∀ {ps : List PV} {ds : List PyData} {vs : List V}, toDL ps = some ds → RpL K Z ps vs → DpAll K H vs ds
  | [], _, _, e, r => by cases e; cases r; exact .nil
  | p :: ps, ds, _, e, r => by
    cases r with
    | cons h t =>
      unfold toDL at e
      cases e1 : toD p with
      | none => rw [e1] at e; cases e
      | some d =>
        cases e2 : toDL ps with
        | none => rw [e1, e2] at e; cases e
        | some ds' => rw [e1, e2] at e; cases e; exact .cons (dp_of zh e1 h) (dpL_of zh e2 t)
end
theorem dp_view {K : Fg} {Z H : Hp} {p : PV} {d : PyData} {v : V} (zh : Same Z H) (e : toD p = some d) (h : View K Z H p v) : Dp K H v d := by
  rcases h with h | ⟨a, rfl, h⟩
  · exact dp_of zh e h
  · cases p <;> first | exact h.elim | skip
    rename_i l
    obtain ⟨vs, h1, r⟩ := h
    unfold toD at e
    cases el : toDL l with
    | none => rw [el] at e; cases e
    | some ds => rw [el] at e; cases e; exact .lst (.inl (.inl h1)) (dpL_of zh el r)
theorem eqPV_some {p q : PV} {b : Bool} (e : eqPV p q = some b) : (∃ s t, p = .str s ∧ q = .str t ∧ b = decide (s = t)) ∨ ∃ d f, toD p = some d ∧ toD q = some f ∧ SeqAt.shaped d = true ∧ SeqAt.shaped f = true ∧ b = PyData.eqv d f := by
  unfold eqPV at e
  split at e
  · cases e; exact .inl ⟨_, _, rfl, rfl, rfl⟩
  · right
    split at e
    · split at e
      · rename_i hs
        cases e
        exact ⟨_, _, by assumption, by assumption, hs.1, hs.2, rfl⟩
      · cases e
    · cases e
/-! ### in -/
theorem flat_V {K : Fg} {Z : Hp} {p : PV} {v : V} (f : flatP p = true) (r : Rp K Z p v) : flatV v = true := by
  cases r <;> first | rfl | cases f
theorem flat_view {K : Fg} {Z H : Hp} {p : PV} {v : V} (f : flatP p = true) (r : View K Z H p v) : Rp K Z p v := by
  rcases r with r | ⟨a, rfl, r⟩
  · exact r
  · cases p <;> first | exact r.elim | cases f
theorem flat_eq {K : Fg} {Z : Hp} {p q : PV} {v u : V} (f : flatP p = true) (f2 : flatP q = true) (r : Rp K Z p v) (r2 : Rp K Z q u) : eqV v u = PyData.eqv (encP p) (encP q) := by
  cases r <;> first | (cases f; done) | skip
  all_goals (cases r2 <;> first | (cases f2; done) | skip)
  all_goals (simp only [encP, toD, Option.getD_some, PyData.eqv, eqV])
theorem flat_all {K : Fg} {Z : Hp} : ∀ {ps : List PV} {vs : List V}, RpL K Z ps vs → ps.all flatP = true → vs.all flatV = true
  | _, _, .nil, _ => rfl
  | _, _, .cons h t, f => by
    rw [List.all_cons, Bool.and_eq_true] at f ⊢
    exact ⟨flat_V f.1 h, flat_all t f.2⟩
theorem flat_any {K : Fg} {Z : Hp} {q : PV} {u : V} (f2 : flatP q = true) (r2 : Rp K Z q u) : ∀ {ps : List PV} {vs : List V}, RpL K Z ps vs → ps.all flatP = true → inV u vs = ps.any fun y => PyData.eqv (encP y) (encP q)
  | _, _, .nil, _ => rfl
  | _, _, .cons h t, f => by
    rw [List.all_cons, Bool.and_eq_true] at f
    show (eqV _ u || inV u _) = _
    rw [flat_eq f.1 f2 h r2, flat_any f2 r2 t f.2, List.any_cons]
theorem toD_list {l : List PV} {ds : List PyData} (e : toDL l = some ds) : toD (.lst l) = some (.list ds) := by
  unfold toD
  rw [e]; rfl
theorem op_inE (hu : X.A.units + 65 < cLine) (neg : Bool) : OpR X (compareOp (if neg = true then .NotIn else .In)) (fun x y H Q => ∃ Z p q b, Same Z H ∧ View X.K Z H p x ∧ View X.K Z H q y ∧ opIn p q = some b ∧ Q (.bl (if neg = true then !b else b)) H) := by
  intro pins s σ H x y v u Q I rx ry h
  obtain ⟨Z, p, q, b, zh, vp, vq, e, k⟩ := h
  cases q <;> first | (cases e; done) | skip
  · -- a text in a text
    rename_i t
    cases p <;> first | (cases e; done) | skip
    rename_i w
    cases vp.str
    cases vq.str
    have e : (match w.cps.toList with | [c] => some (decide (c ∈ t.cps.toList)) | _ => some (!(Builtin.Str.occurrences t w 0 t.length 1).isEmpty)) = some b := e
    split at e
    · rename_i c ec
      cases e
      have ew : w = ⟨#[c]⟩ := by
        cases w with
        | mk a =>
          have : a.toList = [c] := ec
          have : a = #[c] := by apply Array.toList_inj.mp; simpa using this
          rw [this]
      subst ew
      cases neg
      · exact op_in_sign pins s σ H _ _ v u Q I rx ry ⟨c, t, rfl, rfl, k⟩
      · exact op_notIn_sign pins s σ H _ _ v u Q I rx ry ⟨c, t, rfl, rfl, k⟩
    · cases e
      cases neg
      · exact op_in_str pins s σ H _ _ v u Q I rx ry ⟨w, t, rfl, rfl, k⟩
      · exact op_notin_str pins s σ H _ _ v u Q I rx ry ⟨w, t, rfl, rfl, k⟩
  · rename_i l
    have e : (if flatP p = true ∧ l.all flatP = true then some (l.any fun y => PyData.eqv (encP y) (encP p)) else none) = some b := e
    split at e
    · rename_i hf
      cases e
      obtain ⟨a, vs, rfl, h1, r1⟩ := vq.tup zh
      have rp := flat_view hf.1 vp
      have ei := flat_any hf.1 rp r1 hf.2
      cases neg
      · exact op_in_seq pins s σ H _ _ v u Q I rx ry ⟨a, vs, rfl, .inr h1, flat_V hf.1 rp, flat_all r1 hf.2, by rw [ei]; exact k⟩
      · exact op_notIn_seq pins s σ H _ _ v u Q I rx ry ⟨a, vs, rfl, .inr h1, flat_V hf.1 rp, flat_all r1 hf.2, by rw [ei]; exact k⟩
    · cases e
  · rename_i l
    have e : (match toD p, toDL l with
      | some d, some ds => if SeqAt.shaped d = true ∧ SeqAt.shaped (.list ds) = true then some (ds.any fun z => PyData.eqv z d) else none
      | _, _ => none) = some b := e
    split at e
    · rename_i d ds e1 e2
      split at e
      · rename_i hs
        cases e
        have d1 := dp_view zh e1 vp
        have d2 := dp_view zh (toD_list e2) vq
        cases neg
        · exact op_inD hu pins s σ H _ _ v u Q I rx ry ⟨d, ds, d1, d2, hs.1, hs.2, k⟩
        · exact op_notInD hu pins s σ H _ _ v u Q I rx ry ⟨d, ds, d1, d2, hs.1, hs.2, k⟩
      · cases e
    · cases e
theorem op_cmpE (hu : X.A.units + 65 < cLine) (op : CmpOp) : OpR X (compareOp op) (rCmp X.K op) := by
  intro pins s' σ H x y v u Q I rx ry h
  obtain ⟨Z, p, q, b, zh, vp, vq, e, k⟩ := h
  unfold opCmp at e
  split at e
  · rcases eqPV_some e with ⟨s, t, rfl, rfl, rfl⟩ | ⟨d, f, e1, e2, s1, s2, rfl⟩
    · cases vp.str
      cases vq.str
      refine op_eq pins s' σ H _ _ v u Q I rx ry ⟨rfl, ?_⟩
      have : decide (V.str s = V.str t) = decide (s = t) := by simp
      rw [this]
      exact k
    exact op_eqD (by omega) pins s' σ H _ _ v u Q I rx ry ⟨d, f, dp_view zh e1 vp, dp_view zh e2 vq, s1, s2, k⟩
  · cases e0 : eqPV p q with
    | none => rw [e0] at e; cases e
    | some b0 =>
      rw [e0] at e
      cases e
      rcases eqPV_some e0 with ⟨s, t, rfl, rfl, rfl⟩ | ⟨d, f, e1, e2, s1, s2, rfl⟩
      · cases vp.str
        cases vq.str
        refine op_ne pins s' σ H _ _ v u Q I rx ry ⟨rfl, ?_⟩
        have : decide (V.str s = V.str t) = decide (s = t) := by simp
        rw [this]
        exact k
      exact op_neD (by omega) pins s' σ H _ _ v u Q I rx ry ⟨d, f, dp_view zh e1 vp, dp_view zh e2 vq, s1, s2, k⟩
  · cases e
    cases vp.int
    cases vq.int
    exact op_lt pins s' σ H _ _ v u Q I rx ry ⟨_, _, rfl, rfl, k⟩
  · cases e
    cases vp.int
    cases vq.int
    exact op_le pins s' σ H _ _ v u Q I rx ry ⟨_, _, rfl, rfl, k⟩
  · cases e
    cases vp.int
    cases vq.int
    exact op_gt pins s' σ H _ _ v u Q I rx ry ⟨_, _, rfl, rfl, k⟩
  · cases e
    cases vp.int
    cases vq.int
    exact op_ge pins s' σ H _ _ v u Q I rx ry ⟨_, _, rfl, rfl, k⟩
  · exact op_inE hu false pins s' σ H _ _ v u Q I rx ry ⟨Z, _, _, _, zh, vp, vq, e, k⟩
  · cases e0 : opIn p q with
    | none => rw [e0] at e; cases e
    | some b0 =>
      rw [e0] at e
      cases e
      exact op_inE hu true pins s' σ H _ _ v u Q I rx ry ⟨Z, _, _, _, zh, vp, vq, e0, k⟩
  · cases e
    cases vp.bl
    cases vq.bl
    exact op_isBl pins s' σ H _ _ v u Q I rx ry ⟨_, _, rfl, rfl, k⟩
  · cases e
    cases vp.bl
    cases vq.bl
    exact op_notBl pins s' σ H _ _ v u Q I rx ry ⟨_, _, rfl, rfl, k⟩
  · cases e

/-! ### one place, subscripts, slices, truth -/
theorem op_negE : UnR X (unaryOp .USub) (fun x H Q => ∃ Z p q, Same Z H ∧ View X.K Z H p x ∧ opNeg p = some q ∧ Kont X.K Z H Q (.val q)) := by
  intro pins s σ H x v Q I rx h
  obtain ⟨Z, p, q, zh, vp, e, k⟩ := h
  unfold opNeg at e
  split at e
  · cases e
    cases vp.int
    exact un_neg pins s σ H _ v Q I rx ⟨_, rfl, k _ _ _ (.refl zh) (.int _)⟩
  · cases e
theorem atI_get {α : Type} {l : List α} {i : Int} {x : α} (h : atI l i = some x) : ∃ j, ixN l.length i = some j ∧ l[j]? = some x := by
  unfold atI at h
  cases e : ixN l.length i with
  | none => rw [e] at h; cases h
  | some j => rw [e] at h; exact ⟨j, rfl, h⟩
theorem atI_rp {K : Fg} {Z : Hp} {ps : List PV} {vs : List V} {i : Int} {p : PV} (r : RpL K Z ps vs) (h : atI ps i = some p) : ∃ v, atI vs i = some v ∧ Rp K Z p v := by
  obtain ⟨j, h1, h2⟩ := atI_get h
  obtain ⟨v, h3, h4⟩ := r.get h2
  refine ⟨v, ?_, h4⟩
  unfold atI
  rw [r.length, h1]
  exact h3
theorem ix_E : IxR X (fun x y H Q => ∃ Z p q r, Same Z H ∧ View X.K Z H p x ∧ View X.K Z H q y ∧ opIx p q = some r ∧ Kont X.K Z H Q (.val r)) := by
  intro value slice pins s σ H x y v u Q I rx ry h hs
  obtain ⟨Z, p, q, r, zh, vp, vq, e, k⟩ := h
  unfold opIx at e
  split at e
  · cases vq.int
    obtain ⟨a, vs, rfl, h1, r1⟩ := vp.lst zh
    obtain ⟨w, h2, h3⟩ := atI_rp r1 e
    exact ix_list value slice pins s σ H _ _ v u Q I rx ry ⟨_, _, _, _, rfl, rfl, .inl h1, h2, k _ _ _ (.refl zh) h3⟩ hs
  · cases vq.int
    obtain ⟨a, vs, rfl, h1, r1⟩ := vp.scr zh
    obtain ⟨w, h2, h3⟩ := atI_rp r1 e
    exact ix_list value slice pins s σ H _ _ v u Q I rx ry ⟨_, _, _, _, rfl, rfl, h1, h2, k _ _ _ (.refl zh) h3⟩ hs
  · cases vq.int
    obtain ⟨a, vs, rfl, h1, r1⟩ := vp.tup zh
    obtain ⟨w, h2, h3⟩ := atI_rp r1 e
    exact ix_tup value slice pins s σ H _ _ v u Q I rx ry ⟨_, _, _, _, rfl, rfl, h1, h2, k _ _ _ (.refl zh) h3⟩ hs
  · split at e
    · rename_i s' i hc
      cases vq.int
      cases vp.str
      cases e1 : atI s'.cps.toList i with
      | none => rw [e1] at e; cases e
      | some c =>
        rw [e1] at e
        cases e
        exact ix_str value slice pins s σ H _ _ v u Q I rx ry ⟨_, _, _, rfl, rfl, hc, e1, k _ _ _ (.refl zh) (.str _)⟩ hs
    · cases e
  · cases e
theorem cut_rp {K : Fg} {Z : Hp} {ps : List PV} {vs : List V} (r : RpL K Z ps vs) (lo hi : Option Int) : RpL K Z (cutP ps lo hi) (cutV vs lo hi) := by
  unfold cutP cutV
  rw [r.length]
  exact (r.drop _).take _
theorem sl_E : SlR X (fun x lo hi H Q => ∃ Z p r, Same Z H ∧ View X.K Z H p x ∧ opSlc p lo hi = some r ∧ Kont X.K Z H Q r) := by
  intro pins s σ H x v vl vu lo hi sl Q I rx hs pl pu h
  obtain ⟨Z, p, r, zh, vp, e, k⟩ := h
  unfold opSlc at e
  split at e
  · cases e
    obtain ⟨a, vs, rfl, h1, r1⟩ := vp.lst zh
    exact sl_list pins s σ H _ v vl vu lo hi sl Q I rx hs pl pu ⟨_, _, rfl, .inl h1, frE zh k (cut_rp r1 lo hi)⟩
  · cases e
    obtain ⟨a, vs, rfl, h1, r1⟩ := vp.scr zh
    exact sl_list pins s σ H _ v vl vu lo hi sl Q I rx hs pl pu ⟨_, _, rfl, h1, frE zh k (cut_rp r1 lo hi)⟩
  · split at e
    · rename_i hc
      cases e
      cases vp.str
      exact sl_str pins s σ H _ v vl vu lo hi sl Q I rx hs pl pu ⟨_, rfl, hc, k _ _ _ (.refl zh) (.str _)⟩
    · cases e
  · cases e
theorem isEmpty_rp {K : Fg} {Z : Hp} {ps : List PV} {vs : List V} (r : RpL K Z ps vs) : (!vs.isEmpty) = !ps.isEmpty := by
  cases r <;> rfl
theorem truth_ok {K : Fg} {Z H : Hp} {p : PV} {x : V} {b : Bool} (zh : Same Z H) (vp : View K Z H p x) (e : truth p = some b) : TruV K x H b := by
  unfold truth at e
  split at e
  · cases e; cases vp.non; rfl
  · cases e; cases vp.bl; rfl
  · cases e; cases vp.int; rfl
  · split at e
    · cases e; cases vp.str; exact ⟨by assumption, rfl⟩
    · cases e
  · cases e
    obtain ⟨a, vs, rfl, h1, r1⟩ := vp.tup zh
    exact .inr (.inl ⟨vs, h1, (isEmpty_rp r1).symm⟩)
  · cases e
    obtain ⟨a, vs, rfl, h1, r1⟩ := vp.lst zh
    exact .inl ⟨vs, .inl h1, (isEmpty_rp r1).symm⟩
  · cases e
    obtain ⟨a, vs, rfl, h1, r1⟩ := vp.scr zh
    exact .inl ⟨vs, h1, (isEmpty_rp r1).symm⟩
  · cases e
end

/-! ### built-in functions -/
abbrev ViewL (K : Fg) (Z H : Hp) : List PV → List V → Prop := Paired (View K Z H)
theorem ViewL.one {K : Fg} {Z H : Hp} {p : PV} {vs : List V} (h : ViewL K Z H [p] vs) : ∃ v, vs = [v] ∧ View K Z H p v := by
  cases h with
  | cons h t => cases t; exact ⟨_, rfl, h⟩
theorem ViewL.two {K : Fg} {Z H : Hp} {p q : PV} {vs : List V} (h : ViewL K Z H [p, q] vs) : ∃ v u, vs = [v, u] ∧ View K Z H p v ∧ View K Z H q u := by
  cases h with
  | cons h t => obtain ⟨u, e, h2⟩ := ViewL.one t; subst e; exact ⟨_, _, rfl, h, h2⟩
def bltV : Blt → Value
  | .abs => .builtin "abs"
  | .len => .builtin "len"
  | .int => .type "int"
  | .all => .builtin "all"
  | .gcd => .builtin "math.gcd"
  | .repr => .builtin "repr"
  | .str => .type "str"
  | .list => .type "list"
  | .tuple => .type "tuple"
  | .sorted => .builtin "sorted"
  | .any => .builtin "any"
  | .min => .builtin "min"
  | .max => .builtin "max"
theorem allB_vs {K : Fg} {Z : Hp} : ∀ {ps : List PV} {vs : List V} {bs : List Bool}, allB ps = some bs → RpL K Z ps vs → vs = bs.map V.bl
  | [], _, _, e, r => by cases e; cases r; rfl
  | p :: ps, _, bs, e, r => by
    cases r with
    | cons h t =>
      cases p <;> first | (unfold allB at e; cases e; done) | skip
      rename_i b
      unfold allB at e
      cases e1 : allB ps with
      | none => rw [e1] at e; cases e
      | some bs' =>
        rw [e1] at e
        cases e
        cases h
        rw [allB_vs e1 t]
        rfl
section
variable {X : Cx}
def rBlt (K : Fg) (b : Blt) : List V → Hp → VK → Prop := fun vs H Q => ∃ Z ps r, Same Z H ∧ ViewL K Z H ps vs ∧ opBlt b ps = some r ∧ Kont K Z H Q r
/-! ### sorted -/
def UR (K : Fg) (Z : Hp) (u : Value) (p : PV) : Prop := ∃ v, RelV v u ∧ Rp K Z p v
theorem each_UR {K : Fg} {Z : Hp} : ∀ {ps : List PV} {vs : List V} {us : List Value}, RpL K Z ps vs → Vals vs us → EachIs (UR K Z) us ps
  | _, _, _, .nil, .nil => .nil
  | _, _, _, .cons h t, .cons r rr => .cons ⟨_, r, h⟩ (each_UR t rr)
theorem of_UR {K : Fg} {Z : Hp} : ∀ {ps : List PV} {us : List Value}, EachIs (UR K Z) us ps → ∃ vs, RpL K Z ps vs ∧ Vals vs us
  | _, _, .nil => ⟨[], .nil, .nil⟩
  | _, _, .cons ⟨v, r, h⟩ t => by
    obtain ⟨vs, h1, h2⟩ := of_UR t
    exact ⟨v :: vs, .cons h h1, .cons r h2⟩
theorem enc_dp {K : Fg} {Z H : Hp} {p : PV} {v : V} (zh : Same Z H) (e : (toD p).isSome = true) (r : Rp K Z p v) : Dp K H v (encP p) := by
  cases h : toD p with
  | none => rw [h] at e; cases e
  | some d =>
    have : encP p = d := by unfold encP; rw [h]; rfl
    rw [this]
    exact dp_of zh h r
theorem call_sortE (hu : X.A.units + 100 < cLine) : CallR X (.builtin "sorted") (fun xs H Q => ∃ Z a l vs, xs = [.ref a] ∧ Same Z H ∧ SqL X.K H a vs ∧ RpL X.K Z l vs ∧ sortOk l = true ∧ ∀ vs' p, RpL X.K Z (sortP l) vs' → H p = none → Q (.ref p) (upd H p (.lst vs'))) := by
  intro pins s σ H xs us Q I r h
  obtain ⟨Z, a, l, vs, rfl, zh, hs, rl, ok, q⟩ := h
  rw [Vals.ref1 r]
  obtain ⟨its, rv, hl, hz⟩ := I.list hs
  unfold sortOk at ok
  rw [Bool.and_eq_true, Bool.and_eq_true, Bool.and_eq_true, List.all_eq_true, List.all_eq_true] at ok
  obtain ⟨⟨⟨k1, k2⟩, k3⟩, k4⟩ := ok
  have k1' : ∀ p ∈ l, (toD p).isSome = true ∧ (encP p).depth ≤ 64 := fun p hp => by
    have := k1 p hp
    rw [Bool.and_eq_true] at this
    exact ⟨this.1, of_decide_eq_true this.2⟩
  have er : ∀ {ps : List PV} {vs : List V} {us : List Value}, (∀ p ∈ ps, (toD p).isSome = true) → RpL X.K Z ps vs → Vals vs us → EachIs (fun v b => ∃ as, Reads s.heap v (encP b) as) us ps := by
    intro ps
    induction ps with
    | nil => intro vs us _ h1 h2; cases h1; cases h2; exact .nil
    | cons p ps ih =>
      intro vs us hh h1 h2
      cases h1 with
      | cons g t =>
        cases h2 with
        | cons r rr => exact .cons (Dp.reads I _ _ _ (enc_dp zh (hh p List.mem_cons_self) g) r) (ih (fun x hx => hh x (List.mem_cons_of_mem _ hx)) t rr)
  refine sorted_data (enc := encP) (R := UR X.K Z) hl.isList (each_UR rl rv) (er (fun p hp => (k1' p hp).1) rl rv) ?_ ?_ (of_decide_eq_true k4) (fun b hb => by have := (k1' b hb).2; omega) fun out ho eo => ?_
  · intro d hd d' hd'
    obtain ⟨p, hp, rfl⟩ := List.mem_map.mp hd
    obtain ⟨p', hp', rfl⟩ := List.mem_map.mp hd'
    exact List.all_eq_true.mp (k2 p hp) p' hp'
  · rw [Bool.or_eq_true, List.all_eq_true, List.all_eq_true] at k3
    rcases k3 with k3 | k3
    · refine .inl fun d hd => ?_
      obtain ⟨p, hp, rfl⟩ := List.mem_map.mp hd
      have := k3 p hp
      unfold tupNE at this
      split at this
      · rename_i x r e
        exact ⟨x, r, e⟩
      · cases this
    · refine .inr fun d hd => ?_
      obtain ⟨p, hp, rfl⟩ := List.mem_map.mp hd
      have := k3 p hp
      refine ⟨fun z => ?_, fun ys z => ?_⟩
      · rw [z] at this; cases this
      · rw [z] at this; cases this
  · obtain ⟨vs', h1, h2⟩ := of_UR eo
    obtain ⟨ep, he'⟩ := PyProof.Rows.sortedAll_at s.heap its out.toArray
    have hlen : vs'.length ≤ sizeLine := by
      rw [h2.length, ho]; exact of_decide_eq_true k4
    exact ⟨.ref _, upd H (s.heap.objs.size + 1) (.lst vs'), I.laid (t' := s.toks) (fun _ _ => PyProof.Rows.sortedAll_old) (Nat.le_succ _) ⟨hlen, out, ep, h2, he'⟩, rfl, q vs' _ h1 (I.hok.fresh (Nat.le_succ _))⟩
theorem call_anyE (hc : X.calm = true) {K : Fg} {Z H : Hp} : True := trivial
theorem call_blt (hg : X.A.guards = some []) (hu : X.A.units + 100 < cLine) (hc : X.calm = true) (b : Blt) : CallR X (bltV b) (rBlt X.K b) := by
  intro pins s σ H xs us Q I r h
  obtain ⟨Z, ps, r0, zh, vl, e, k⟩ := h
  unfold opBlt at e
  split at e
  · cases e
    obtain ⟨v, rfl, w⟩ := vl.one
    cases w.int
    exact call_abs pins s σ H _ us Q I r ⟨_, rfl, k _ _ _ (.refl zh) (.int _)⟩
  · cases e
    obtain ⟨v, rfl, w⟩ := vl.one
    obtain ⟨a, vs, rfl, h1, r1⟩ := w.lst zh
    exact call_len pins s σ H _ us Q I r ⟨_, _, rfl, .inl ⟨vs, .inl h1, rfl⟩, by rw [r1.length]; exact k _ _ _ (.refl zh) (.int _)⟩
  · cases e
    obtain ⟨v, rfl, w⟩ := vl.one
    obtain ⟨a, vs, rfl, h1, r1⟩ := w.scr zh
    exact call_len pins s σ H _ us Q I r ⟨_, _, rfl, .inl ⟨vs, h1, rfl⟩, by rw [r1.length]; exact k _ _ _ (.refl zh) (.int _)⟩
  · cases e
    obtain ⟨v, rfl, w⟩ := vl.one
    obtain ⟨a, vs, rfl, h1, r1⟩ := w.tup zh
    exact call_len pins s σ H _ us Q I r ⟨_, _, rfl, .inr ⟨vs, h1, rfl⟩, by rw [r1.length]; exact k _ _ _ (.refl zh) (.int _)⟩
  · split at e
    · cases e
      obtain ⟨v, rfl, w⟩ := vl.one
      cases w.str
      exact call_len pins s σ H _ us Q I r ⟨_, _, rfl, ⟨by assumption, rfl⟩, k _ _ _ (.refl zh) (.int _)⟩
    · cases e
  · cases e
    obtain ⟨v, rfl, w⟩ := vl.one
    cases w.int
    exact call_int1 pins s σ H _ us Q I r (.inl ⟨_, rfl, k _ _ _ (.refl zh) (.int _)⟩)
  · cases e
    obtain ⟨v, rfl, w⟩ := vl.one
    cases w.bl
    exact call_int1 pins s σ H _ us Q I r (.inr ⟨_, rfl, k _ _ _ (.refl zh) (.int _)⟩)
  · rename_i l
    cases e1 : allB l with
    | none => rw [e1] at e; cases e
    | some bs =>
      rw [e1] at e
      cases e
      obtain ⟨v, rfl, w⟩ := vl.one
      obtain ⟨a, vs, rfl, h1, r1⟩ := w.lst zh
      have q := allB_vs e1 r1
      subst q
      exact cr_all hc pins s σ H _ us Q I r ⟨_, _, rfl, .inl h1, k _ _ _ (.refl zh) (.bl _)⟩
  · cases e
    obtain ⟨v, u, rfl, w1, w2⟩ := vl.two
    cases w1.int
    cases w2.int
    exact cr_gcd pins s σ H _ us Q I r ⟨_, _, rfl, k _ _ _ (.refl zh) (.int _)⟩
  · rename_i p
    obtain ⟨v, rfl, w⟩ := vl.one
    split at e
    · rename_i d ed
      split at e
      · rename_i hs
        cases e
        exact call_reprD hg hu pins s σ H _ us Q I r ⟨v, d, rfl, dp_view zh ed w, hs.1, hs.2.1, hs.2.2, k _ _ _ (.refl zh) (.str _)⟩
      · cases e
    · cases e
  · split at e
    · rename_i n en
      split at e
      · rename_i hs
        cases e
        obtain ⟨v, rfl, w⟩ := vl.one
        cases w.str
        exact call_int_str pins s σ H _ us Q I r ⟨_, n, rfl, en, hs, k _ _ _ (.refl zh) (.int _)⟩
      · cases e
    · cases e
  · split at e
    · rename_i hs
      cases e
      obtain ⟨v, rfl, w⟩ := vl.one
      cases w.int
      exact call_str_int pins s σ H _ us Q I r ⟨_, rfl, hs, k _ _ _ (.refl zh) (.str _)⟩
    · cases e
  · cases e
    obtain ⟨v, rfl, w⟩ := vl.one
    cases w.str
    exact SkE.call_str_str pins s σ H _ us Q I r ⟨_, rfl, k _ _ _ (.refl zh) (.str _)⟩
  · cases e
    obtain ⟨v, rfl, w⟩ := vl.one
    obtain ⟨a, vs, rfl, h1, r1⟩ := w.lst zh
    exact call_list_of pins s σ H _ us Q I r ⟨a, vs, rfl, .inl (.inl h1), frE zh k r1⟩
  · cases e
    obtain ⟨v, rfl, w⟩ := vl.one
    obtain ⟨a, vs, rfl, h1, r1⟩ := w.scr zh
    exact call_list_of pins s σ H _ us Q I r ⟨a, vs, rfl, .inl h1, frE zh k r1⟩
  · cases e
    obtain ⟨v, rfl, w⟩ := vl.one
    obtain ⟨a, vs, rfl, h1, r1⟩ := w.tup zh
    exact call_list_of pins s σ H _ us Q I r ⟨a, vs, rfl, .inr h1, frE zh k r1⟩
  · cases e
    obtain ⟨v, rfl, w⟩ := vl.one
    obtain ⟨a, vs, rfl, h1, r1⟩ := w.lst zh
    exact call_tuple_of pins s σ H _ us Q I r ⟨a, vs, rfl, .inl ⟨.inl h1, tpE zh k r1⟩⟩
  · cases e
    obtain ⟨v, rfl, w⟩ := vl.one
    obtain ⟨a, vs, rfl, h1, r1⟩ := w.scr zh
    exact call_tuple_of pins s σ H _ us Q I r ⟨a, vs, rfl, .inl ⟨h1, tpE zh k r1⟩⟩
  · cases e
    obtain ⟨v, rfl, w⟩ := vl.one
    rcases w with w | ⟨a, _, w⟩
    · cases w with
      | tup h1 r1 => exact call_tuple_of pins s σ H _ us Q I r ⟨_, _, rfl, .inr ⟨sqT_same zh h1, k _ _ _ (.refl zh) (.tup h1 r1)⟩⟩
    · exact w.elim
  · split at e
    · rename_i hs
      cases e
      obtain ⟨v, rfl, w⟩ := vl.one
      obtain ⟨a, vs, rfl, h1, r1⟩ := w.lst zh
      exact call_sortE hu pins s σ H _ us Q I r ⟨Z, a, _, vs, rfl, zh, .inl h1, r1, hs, fun vs' p r2 hp => frE zh k r2 p hp⟩
    · cases e
  · rename_i l
    cases e1 : allB l with
    | none => rw [e1] at e; cases e
    | some bs =>
      rw [e1] at e
      cases e
      obtain ⟨v, rfl, w⟩ := vl.one
      obtain ⟨a, vs, rfl, h1, r1⟩ := w.lst zh
      have q := allB_vs e1 r1
      subst q
      exact cr_any hc pins s σ H _ us Q I r ⟨_, _, rfl, .inl h1, k _ _ _ (.refl zh) (.bl _)⟩
  · cases e
    obtain ⟨v, u, rfl, w1, w2⟩ := vl.two
    cases w1.int
    cases w2.int
    exact call_min2 hc pins s σ H _ us Q I r ⟨_, _, rfl, k _ _ _ (.refl zh) (.int _)⟩
  · cases e
    obtain ⟨v, u, rfl, w1, w2⟩ := vl.two
    cases w1.int
    cases w2.int
    exact call_max2 hc pins s σ H _ us Q I r ⟨_, _, rfl, k _ _ _ (.refl zh) (.int _)⟩
  · cases e

/-! ### isinstance with a built-in class -/
theorem tyx_of {K : Fg} {Z H : Hp} {p : PV} {v : V} (zh : Same Z H) (h : View K Z H p v) : TyX K H v (.type (tyN p)) := by
  cases p with
  | non => cases h.non; exact .base .non
  | bl b => cases h.bl; exact .base (.bl b)
  | int b => cases h.int; exact .base (.int b)
  | str b => cases h.str; exact .base (.str b)
  | tup l =>
    obtain ⟨a, vs, rfl, h1, _⟩ := h.tup zh
    rcases h1 with (h1 | ⟨o, h1⟩) | ⟨o, its, n, h1, h2, _⟩
    · exact .base (.tup h1)
    · exact .fTuple h1
    · exact .kTuple h1 h2
  | lst l =>
    obtain ⟨a, vs, rfl, h1, _⟩ := h.lst zh
    rcases h1 with h1 | ⟨o, h1⟩
    · exact .base (.lst h1)
    · exact .base (.frz h1)
  | dct l =>
    rcases h with h | ⟨_, _, h⟩
    · cases h
    · exact h.elim
  | set l =>
    rcases h with h | ⟨_, _, h⟩
    · cases h
    · exact h.elim
  | scr l =>
    obtain ⟨a, vs, rfl, h1, _⟩ := h.scr zh
    rcases h1 with (h1 | ⟨o, h1⟩) | ⟨o, its, n, h1, h2, _⟩
    · exact .base (.lst h1)
    · exact .base (.frz h1)
    · exact .kList h1 h2
theorem call_isiE : CallR X (.builtin "isinstance") (fun vs H Q => ∃ Z p v ty b, vs = [v, .ty ty] ∧ Same Z H ∧ View X.K Z H p v ∧ opIsi p ty = some b ∧ Q (.bl b) H) := by
  intro pins s σ H xs us Q I r h
  obtain ⟨Z, p, v, ty, b, rfl, zh, w, e, k⟩ := h
  exact call_isi pins s σ H _ us Q I r ⟨v, .ty ty, _, _, b, rfl, .ty ty, tyx_of zh w, kit_ty e, k⟩
end
end Eng

namespace Eng
open PySem PySem.Spec L2
open PyProof.Rows hiding St

/-! ### what a def promises -/
def ArgR (K : Fg) (Z H : Hp) : List Bool → List PV → List V → List Addr → Prop
  | [], [], [], [] => True
  | true :: ms, p :: ps, v :: vs, a :: as => v = .ref a ∧ Z a = none ∧ OwnR K Z H a p ∧ ArgR K Z H ms ps vs as
  | false :: ms, p :: ps, v :: vs, as => Rp K Z p v ∧ ArgR K Z H ms ps vs as
  | _, _, _, _ => False
structure Aft (K : Fg) (Z H Z' H' : Hp) (as : List Addr) (outs : List PV) : Prop where
  zz : Same Z Z'
  zh : Same Z' H'
  hh : ∀ b o, H b = some o → b ∉ as → H' b = some o
  al : ∀ b, H' b = none → H b = none
  zf : ∀ b, Z' b ≠ none → Z b ≠ none ∨ H b = none
  out : Paired (fun a p => OwnR K Z' H' a p) as outs
def ResR (K : Fg) (Z' H H' : Hp) (fr : Bool) (r : PV) (v : V) : Prop :=
  if fr = true then ∃ a, v = .ref a ∧ Z' a = none ∧ H a = none ∧ OwnR K Z' H' a r else Rp K Z' r v
/-- the address of a class -/
def ClsA (E : Eng) (mg : Str → Option Value) (c : Nat) (C : Addr) : Prop := ∃ nm, E.cls[c]? = some nm ∧ mg nm = some (.ref C)
def PostC (E : Eng) (mg : Str → Option Value) (K : Fg) (Z H : Hp) (as : List Addr) (Q : VK) (E' : XK) : CO → Prop
  | .ok r fr outs => ∀ v Z' H', Aft K Z H Z' H' as outs → ResR K Z' H H' fr r v → Q v H'
  | .exc c outs => ∀ C Z' H', Aft K Z H Z' H' as outs → ClsA E mg c C → E' (.ref C) none H'
  | .stuck => False
def spF (E : Eng) (Φ : Nat → List PV → CO) (mg : Str → Option Value) (K : Fg) (fi : FnI) (f : Nat) : Sp := fun vs H Q E' =>
  ∃ Z ps as, Same Z H ∧ ps.length = fi.np ∧ ArgR K Z H fi.mask ps vs as ∧ as.Nodup ∧ PostC E mg K Z H as Q E' (Φ f ps)

/-! ### the text against the data -/
structure Stc where
  N : List Str
  sc : Scope
  so : Scope
def visB (sc : Scope) (x : Str) : Bool := match sc.names.lookup x with
  | some .local => true
  | some .cell => true
  | some .free => true
  | _ => false
theorem vis_of {sc : Scope} {x : Str} (h : visB sc x = true) : Vis sc x := by
  unfold visB at h
  split at h
  · exact .inl (by assumption)
  · exact .inr (.inl (by assumption))
  · exact .inr (.inr (by assumption))
  · cases h
def okN (x : Str) : Bool := x != "__debug__" && x != "__classdict__" && x != "__name__"
theorem okN_1 {x : Str} (h : okN x = true) : (x == ("__debug__" : Str)) = false := by
  unfold okN at h
  simp only [Bool.and_eq_true, bne, Bool.not_eq_true'] at h
  exact h.1.1
theorem okN_2 {x : Str} (h : okN x = true) : (x == ("__classdict__" : Str)) = false := by
  unfold okN at h
  simp only [Bool.and_eq_true, bne, Bool.not_eq_true'] at h
  exact h.1.2
theorem okN_3 {x : Str} (h : okN x = true) : x ≠ "__name__" := by
  unfold okN at h
  simp only [Bool.and_eq_true, bne, Bool.not_eq_true'] at h
  exact beq_eq_false_iff_ne.mp h.2
def glB (sc : Scope) (x : Str) : Bool := decide (sc.names.lookup x = some .globalImplicit) && okN x
def bltN : Blt → Str
  | .abs => "abs"
  | .len => "len"
  | .int => "int"
  | .all => "all"
  | .gcd => "gcd"
  | .repr => "repr"
  | .str => "str"
  | .list => "list"
  | .tuple => "tuple"
  | .sorted => "sorted"
  | .any => "any"
  | .min => "min"
  | .max => "max"
/-- bound by an import -/
def bltG : Blt → Bool
  | .gcd => true
  | _ => false
theorem blt_boot : ∀ b : Blt, bltG b = false → bootBuiltins (bltN b) = some (bltV b)
  | .abs, _ => by decide +kernel
  | .len, _ => by decide +kernel
  | .int, _ => by decide +kernel
  | .all, _ => by decide +kernel
  | .gcd, h => by cases h
  | .repr, _ => by decide +kernel
  | .str, _ => by decide +kernel
  | .list, _ => by decide +kernel
  | .tuple, _ => by decide +kernel
  | .sorted, _ => by decide +kernel
  | .any, _ => by decide +kernel
  | .min, _ => by decide +kernel
  | .max, _ => by decide +kernel
def muN : Mu → Str
  | .append => "append"
  | .pop => "pop"
def ownL (N : List Str) (own : List Nat) : List (Str × Nat) := own.map fun i => (N.getD i "", i)
def noSlc : Expr → Bool
  | .Slice _ _ _ _ => false
  | _ => true
def noStar : Expr → Bool
  | .Starred _ _ => false
  | _ => true
def noSet : Expr → Bool
  | .Set _ _ _ => false
  | _ => true
theorem noSet_fold {e : Expr} {env : PySem.Env} (h : noSet e = true) : ∀ x, foldedSetIterable e env x = pure x := by
  intro x
  cases e <;> first | rfl | cases h
/-- a comprehension's block -/
def Stc.blk (S : Stc) (scope : Scope) : Stc := ⟨S.N, relS scope S.sc, scope⟩
def stB (so : Scope) (x : Str) : Bool := match so.names.lookup x with
  | some .local => true
  | some .cell => true
  | _ => false
mutual
def mtT (S : Stc) : Tg → Expr → Bool
  | .nm i, .Name x _ => decide (S.N[i]? = some x) && stB S.so x
  | .tp l, .Tuple es _ _ => mtTs S l es
  | _, _ => false
def mtTs (S : Stc) : List Tg → List Expr → Bool
  | [], [] => true
  | t :: ts, e :: es => mtT S t e && mtTs S ts es && noStar e
  | _, _ => false
end
/-- the walk's own call -/
def srcHd (E : Eng) (S : Stc) : Src → Expr → Bool
  | .val, _ => true
  | .rng, .Call (.Name x _) es [] _ => decide (x = "range") && decide (("range" : Str) ∈ E.fre) && glB S.sc x && decide (1 ≤ es.length) && decide (es.length ≤ 3)
  | .rev, .Call (.Name x _) [_] [] _ => decide (x = "reversed") && decide (("reversed" : Str) ∈ E.fre) && glB S.sc x
  | _, _ => false
def srcAs : Src → Expr → List Expr
  | .val, e => [e]
  | _, .Call _ es _ _ => es
  | _, _ => []
/-- a.name is no module's -/
def plainO : Expr → Bool
  | .IfExp _ _ _ _ => true
  | .Constant _ _ _ => true
  | .Subscript _ _ _ => true
  | .Name _ _ => true
  | _ => false
mutual
def mtE (E : Eng) (S : Stc) : IE → Expr → Bool
  | .var i, .Name x _ => decide (S.N[i]? = some x) && visB S.sc x && okN x
  | .cst .non, .Constant .none _ _ => true
  | .cst (.bl b), .Constant (.bool c) _ _ => b == c
  | .cst (.int b), .Constant (.int c) _ _ => b == c
  | .cst (.str b), .Constant (.str c) _ _ => b == c
  | .glb x, .Name y _ => decide (x = y) && glB S.sc x
  | .bin op a b, .BinOp ea op' eb _ => decide (op = op') && mtE E S a ea && mtE E S b eb
  | .neg a, .UnaryOp .USub ea _ => mtE E S a ea
  | .cmp op a b, .Compare ea [op'] [eb] _ => decide (op = op') && !behindInMarks op eb && mtE E S a ea && mtE E S b eb
  | .isN a n, .Compare ea [op'] [.Constant .none _ _] _ => decide (op' = if n then .IsNot else .Is) && mtE E S a ea
  | .and l, .BoolOp .And es _ => mtL E S l es
  | .or l, .BoolOp .Or es _ => mtL E S l es
  | .not a, .UnaryOp .Not ea _ => mtE E S a ea
  | .ite c a b, .IfExp ec ea eb _ => mtE E S c ec && mtE E S a ea && mtE E S b eb
  | .tup l, .Tuple es _ _ => mtL E S l es
  | .lst l, .List es _ => mtL E S l es
  | .sub a i, .Subscript ea ei _ => mtE E S a ea && mtE E S i ei && noSlc ei
  | .slc a lo hi, .Subscript ea (.Slice elo ehi none _) _ => mtE E S a ea && mtO E S lo elo && mtO E S hi ehi
  | .call f as, .Call (.Name x _) (e :: es) [] _ => (match E.fns[f]? with
      | some fi => decide (fi.name = x)
      | none => false) && glB S.sc x && mtL E S as (e :: es)
  | .blt b as, .Call (.Name x _) (e :: es) [] _ => decide (bltN b = x) && decide (b ∈ E.blts) && glB S.sc x && mtL E S as (e :: es)
  | .isi a ty, .Call (.Name x _) [e, .Name y _] [] _ => decide (x = "isinstance") && decide (Str.ofString ty = y) && decide (ty ∈ E.tys) && glB S.sc x && glB S.sc y && mtE E S a e && noStar e
  | .cmpr elt tg k its cond own, .ListComp eelt [⟨etg, eit, eifs, ia⟩] scope _ => noSet eit && srcHd E S k eit && mtL E S its (srcAs k eit) && blkC S.N S.sc scope (ownL S.N own) && mtT (S.blk scope) tg etg && mtL E (S.blk scope) cond eifs && mtE E (S.blk scope) elt eelt && decide (ia = 0) && decide (cond.length ≤ 1) && (tgS tg).all (fun i => decide (i ∈ own))
  | .chn o1 o2 a b c, .Compare ea [p1, p2] [eb, ec] _ => decide (o1 = p1) && decide (o2 = p2) && !lastMarks [o1, o2] [eb, ec] && mtE E S a ea && mtE E S b eb && mtE E S c ec
  | .split a b, .Call (.Attribute ea nm apos) [eb] [] cpos => decide (nm = "split") && (apos.endLine == cpos.line) && mtE E S a ea && mtE E S b eb && noStar eb && plainO ea
  | .lrev a, .Call (.Name x _) [.Call (.Name y _) [e] [] _] [] _ => decide (x = "list") && decide (y = "reversed") && decide (("list" : Str) ∈ E.fre) && decide (("reversed" : Str) ∈ E.fre) && glB S.sc x && glB S.sc y && mtE E S a e && noStar e
  | .mut m i as, .Call (.Attribute (.Name x _) nm apos) es [] cpos => decide (S.N[i]? = some x) && visB S.sc x && okN x && decide (nm = muN m) && (apos.endLine == cpos.line) && mtL E S as es && decide (es.length < 20)
  | _, _ => false
def mtL (E : Eng) (S : Stc) : List IE → List Expr → Bool
  | [], [] => true
  | a :: l, e :: es => mtE E S a e && mtL E S l es && noStar e
  | _, _ => false
def mtO (E : Eng) (S : Stc) : Option IE → Option Expr → Bool
  | none, none => true
  | some a, some e => mtE E S a e
  | _, _ => false
end

/-- a def's promise, where no text of an object is being made -/
structure FnG (P : Program) (w : World) (K : Fg) (mg : Str → Option Value) (base : Heap) (CX : CXT) (k : Nat) (fa : Addr) (fd : FuncData) (ps : List Str) (sp : Sp) : Prop where
  arity : ∀ vs H Q E, sp vs H Q E → vs.length = ps.length
  go : ∀ {A : Around} {outer : List Env} {s : Shared} {H : Hp} {args : Args} {us : List Value} {vs : List V} {Q : VK} {E : XK}, A.guards = some [] → Room k A → Env0 P w K mg base A outer s H → BindsTo s fd args (ps.zip us) → Vals vs us → sp vs H Q E →
    codeAny (model P w) A (.call (.ref fa) args) (CR CX outer P w H s Q E) s
structure FnX (E : Eng) (Φ : Nat → List PV → CO) (k : Nat) (P : Program) (w : World) (K : Fg) (mg : Str → Option Value) (base : Heap) (f : Nat) (fi : FnI) (fa : Addr) (fd : FuncData) (ps : List Str) : Prop where
  gm : mg fi.name = some (.ref fa)
  kp : PySem.W.keepIn K (.ref fa) = true
  ok : FnG P w K mg base (L2.CX P w) k fa fd ps (spF E Φ mg K fi f)
  b0 : Binds K fd ps []
  b1 : ∃ dvs dv, Binds K fd ps dv ∧ Vals dvs dv ∧ ∀ Z, RpL K Z fi.dfl dvs

structure Okx (E : Eng) (Φ : Nat → List PV → CO) (k : Nat) (S : Stc) (W : WX) (X : Cx) : Prop where
  calm : X.calm = true
  N : X.N = S.N
  sc : X.env.scope = S.sc
  nd : S.N.Nodup
  kind : X.env.scope.kind = .function
  st : ∀ x, (S.so.names.lookup x = some .local ∨ S.so.names.lookup x = some .cell) → Loc X.env.scope x ∧ (X.fn x = true ∨ X.env.scope.names.lookup x = some .local)
  room : Room k X.A
  tk : Takes X W
  fn : ∀ f fi, E.fns[f]? = some fi → ∃ fa fd ps, FnX E Φ k X.prog X.w X.K X.mg X.base f fi fa fd ps
  bl : ∀ b ∈ E.blts, if bltG b = true then X.mg (bltN b) = some (bltV b) else X.mg (bltN b) = none
  ty : ∀ t ∈ E.tys, X.mg (Str.ofString t) = none ∧ bootBuiltins (Str.ofString t) = some (.type t) ∧ X.mg "isinstance" = none
  gb : ∀ x p, E.glb.lookup x = some p → ∃ u v, X.mg x = some u ∧ RelV v u ∧ ∀ Z, Rp X.K Z p v
  fr : ∀ x ∈ E.fre, X.mg x = none
  gd : X.A.guards = some []

/-! ### what is wanted behind a step of the interpreter -/
def Post (E : Eng) (X : Cx) (W : WX) (g : Ent) (σ : St) (Z : Hp) {α : Type} (R : α → Sg → Hp → Hp → Prop) : Out α → Prop
  | .ok a ε' => ∀ Z' H', Same Z Z' → Good X.K g σ ε' Z' H' → R a ε' Z' H'
  | .exc c ε' => ∀ Z' H' C, Same Z Z' → Good X.K g σ ε' Z' H' → ClsA E X.mg c C → W (.ref C) none σ H'
  | .stuck => False
section
variable {E : Eng} {Φ : Nat → List PV → CO} {X : Cx} {W : WX} {g : Ent} {σ : St} {ε : Sg} {Z H : Hp}
theorem Post.mono {α : Type} {R : α → Sg → Hp → Hp → Prop} {Z1 : Hp} {o : Out α} (h : Post E X W g σ Z R o) (e : Same Z Z1) : Post E X W g σ Z1 R o := by
  cases o with
  | ok a ε' => exact fun Z' H' s G => h Z' H' (e.trans s) G
  | exc c ε' => exact fun Z' H' C s G => h Z' H' C (e.trans s) G
  | stuck => exact h
theorem Post.split {α β : Type} {R : β → Sg → Hp → Hp → Prop} {x : Out α} {f : α → Sg → Out β} (h : Post E X W g σ Z R (x.bind f)) : Post E X W g σ Z (fun a ε1 Z1 H1 => Post E X W g σ Z1 R (f a ε1)) x := by
  cases x with
  | ok a ε' => exact fun Z' H' s G => Post.mono (o := f a ε') h s
  | exc c ε' => exact h
  | stuck => exact h
theorem Post.imp {α : Type} {R R' : α → Sg → Hp → Hp → Prop} {o : Out α} (h : Post E X W g σ Z R o) (f : ∀ a ε' Z' H', Same Z Z' → Good X.K g σ ε' Z' H' → R a ε' Z' H' → R' a ε' Z' H') : Post E X W g σ Z R' o := by
  cases o with
  | ok a ε' => exact fun Z' H' s G => f _ _ _ _ s G (h Z' H' s G)
  | exc c ε' => exact h
  | stuck => exact h

/-- an operand -/
def OpdR (K : Fg) (σ : St) (Z : Hp) : Rv → V → Prop
  | .val p, v => Rp K Z p v
  | .fresh _, _ => False
  | .own i, v => σ[i]? = some (some v)
theorem OpdR.mono {K : Fg} {Z' : Hp} {r : Rv} {v : V} (h : OpdR K σ Z r v) (e : Same Z Z') : OpdR K σ Z' r v := by
  cases r with
  | val p => exact Rp.mono e h
  | fresh p => exact h
  | own i => exact h
theorem OpdR.rv {K : Fg} {r : Rv} {v : V} (h : OpdR K σ Z r v) : RvR K g σ ε Z H r v := by
  cases r with
  | val p => exact h
  | fresh p => exact h.elim
  | own i => exact h
theorem Good.opd {r : Rv} {v : V} (G : Good X.K g σ ε Z H) (h : RvR X.K g σ ε Z H r v) : ∃ Z', Same Z Z' ∧ Good X.K g σ ε Z' H ∧ OpdR X.K σ Z' r.opd v := by
  cases r with
  | val p => exact ⟨Z, .refl _, G, h⟩
  | own i => exact ⟨Z, .refl _, G, h⟩
  | fresh p =>
    obtain ⟨Z', s, G', r⟩ := G.frzFresh h
    exact ⟨Z', s, G', r⟩
theorem Good.frz {r : Rv} {v : V} {p : PV} {ε' : Sg} (G : Good X.K g σ ε Z H) (e : Eng.frz r ε = some (p, ε')) (h : RvR X.K g σ ε Z H r v) : ∃ Z', Same Z Z' ∧ Good X.K g σ ε' Z' H ∧ Rp X.K Z' p v := by
  cases r with
  | val q => cases e; exact ⟨Z, .refl _, G, h⟩
  | fresh q => cases e; exact G.frzFresh h
  | own i =>
    obtain ⟨u, Z', h1, s, G', r⟩ := G.frzS e
    have h : σ[i]? = some (some v) := h
    rw [h] at h1
    cases h1
    exact ⟨Z', s, G', r⟩
theorem Good.frzL : ∀ {rs : List Rv} {vs : List V} {ps : List PV} {ε ε' : Sg} {Z : Hp}, Good X.K g σ ε Z H → Eng.frzL rs ε = some (ps, ε') → Paired (OpdR X.K σ Z) rs vs → ∃ Z', Same Z Z' ∧ Good X.K g σ ε' Z' H ∧ RpL X.K Z' ps vs
  | [], _, _, _, _, Z, G, e, h => by cases e; cases h; exact ⟨Z, .refl _, G, .nil⟩
  | r :: rs, _, ps, ε, ε', Z, G, e, h => by
    cases h with
    | cons h t =>
      unfold Eng.frzL at e
      cases e1 : Eng.frz r ε with
      | none => rw [e1] at e; cases e
      | some q =>
        obtain ⟨p, ε1⟩ := q
        rw [e1] at e
        dsimp only at e
        obtain ⟨Z1, s1, G1, r1⟩ := G.frz e1 h.rv
        cases e2 : Eng.frzL rs ε1 with
        | none => rw [e2] at e; cases e
        | some q =>
          obtain ⟨ps', ε2⟩ := q
          rw [e2] at e
          cases e
          obtain ⟨Z2, s2, G2, r2⟩ := Good.frzL G1 e2 (Paired.mapP t fun _ _ q => q.mono s1)
          exact ⟨Z2, s1.trans s2, G2, .cons (r1.mono s2) r2⟩
theorem Good.peekL : ∀ {rs : List Rv} {vs : List V} {ps : List PV}, Good X.K g σ ε Z H → Eng.peekL ε rs = some ps → Paired (OpdR X.K σ Z) rs vs → ViewL X.K Z H ps vs
  | [], _, _, G, e, h => by cases e; cases h; exact .nil
  | r :: rs, _, ps, G, e, h => by
    cases h with
    | cons h t =>
      unfold Eng.peekL at e
      cases e1 : r.peek ε with
      | none => rw [e1] at e; cases e
      | some p =>
        cases e2 : Eng.peekL ε rs with
        | none => rw [e1, e2] at e; cases e
        | some ps' => rw [e1, e2] at e; cases e; exact .cons (G.peek e1 h.rv) (Good.peekL G e2 t)

/-! ### readings -/
def PR (X : Cx) (g : Ent) (σ : St) (Q : VK) : Rv → Sg → Hp → Hp → Prop := fun r ε' Z' H' => ∀ v, RvR X.K g σ ε' Z' H' r v → Q v H'
def PB (Q : Bool → Hp → Prop) : Bool → Sg → Hp → Hp → Prop := fun b _ _ H' => Q b H'
def PL (X : Cx) (σ : St) (Q : List V → Hp → Prop) : List Rv → Sg → Hp → Hp → Prop := fun rs _ Z' H' => ∀ vs, Paired (OpdR X.K σ Z') rs vs → Q vs H'
def PI' (Q : Option Int → Hp → Prop) : Option Int → Sg → Hp → Hp → Prop := fun o _ _ H' => Q o H'
def tE (E : Eng) (Φ : Nat → List PV → CO) (X : Cx) (W : WX) (e : IE) : TE := fun σ H Q => ∃ g ε Z, Good X.K g σ ε Z H ∧ Post E X W g σ Z (PR X g σ Q) (evE E Φ e ε)
def tT (E : Eng) (Φ : Nat → List PV → CO) (X : Cx) (W : WX) (e : IE) : TT := fun σ H Q => ∃ g ε Z, Good X.K g σ ε Z H ∧ Post E X W g σ Z (PB Q) (evT E Φ e ε)
def tA (E : Eng) (Φ : Nat → List PV → CO) (X : Cx) (W : WX) (l : List IE) : TA := fun σ H Q => ∃ g ε Z, Good X.K g σ ε Z H ∧ Post E X W g σ Z (PL X σ Q) (evA E Φ l ε)
def tO (E : Eng) (Φ : Nat → List PV → CO) (X : Cx) (W : WX) (l : Option IE) : TO := fun σ H Q => ∃ g ε Z, Good X.K g σ ε Z H ∧ Post E X W g σ Z (PI' Q) (evO E Φ l ε)

theorem tE_bind {α : Type} {R : α → Sg → Hp → Hp → Prop} {e : IE} {f : Rv → Sg → Out α} {Ψ : VK} (G : Good X.K g σ ε Z H) (h : Post E X W g σ Z R ((evE E Φ e ε).bind f))
    (k : ∀ r ε1 Z1 H1 v, Same Z Z1 → Good X.K g σ ε1 Z1 H1 → OpdR X.K σ Z1 r.opd v → Post E X W g σ Z1 R (f r ε1) → Ψ v H1) : tE E Φ X W e σ H Ψ := by
  refine ⟨g, ε, Z, G, h.split.imp fun r ε1 Z1 H1 s1 G1 h1 v rv => ?_⟩
  obtain ⟨Z2, s2, G2, o⟩ := G1.opd rv
  exact k r ε1 Z2 H1 v (s1.trans s2) G2 o (h1.mono s2)
theorem tT_bind {α : Type} {R : α → Sg → Hp → Hp → Prop} {e : IE} {f : Bool → Sg → Out α} {Ψ : Bool → Hp → Prop} (G : Good X.K g σ ε Z H) (h : Post E X W g σ Z R ((evT E Φ e ε).bind f))
    (k : ∀ b ε1 Z1 H1, Same Z Z1 → Good X.K g σ ε1 Z1 H1 → Post E X W g σ Z1 R (f b ε1) → Ψ b H1) : tT E Φ X W e σ H Ψ :=
  ⟨g, ε, Z, G, h.split.imp fun b ε1 Z1 H1 s1 G1 h1 => k b ε1 Z1 H1 s1 G1 h1⟩
theorem tA_bind {α : Type} {R : α → Sg → Hp → Hp → Prop} {l : List IE} {f : List Rv → Sg → Out α} {Ψ : List V → Hp → Prop} (G : Good X.K g σ ε Z H) (h : Post E X W g σ Z R ((evA E Φ l ε).bind f))
    (k : ∀ rs ε1 Z1 H1 vs, Same Z Z1 → Good X.K g σ ε1 Z1 H1 → Paired (OpdR X.K σ Z1) rs vs → Post E X W g σ Z1 R (f rs ε1) → Ψ vs H1) : tA E Φ X W l σ H Ψ :=
  ⟨g, ε, Z, G, h.split.imp fun b ε1 Z1 H1 s1 G1 h1 vs r => k b ε1 Z1 H1 vs s1 G1 r h1⟩
theorem tO_bind {α : Type} {R : α → Sg → Hp → Hp → Prop} {l : Option IE} {f : Option Int → Sg → Out α} {Ψ : Option Int → Hp → Prop} (G : Good X.K g σ ε Z H) (h : Post E X W g σ Z R ((evO E Φ l ε).bind f))
    (k : ∀ b ε1 Z1 H1, Same Z Z1 → Good X.K g σ ε1 Z1 H1 → Post E X W g σ Z1 R (f b ε1) → Ψ b H1) : tO E Φ X W l σ H Ψ :=
  ⟨g, ε, Z, G, h.split.imp fun b ε1 Z1 H1 s1 G1 h1 => k b ε1 Z1 H1 s1 G1 h1⟩

theorem Good.new (G : Good X.K g σ ε Z H) {a : Addr} (ha : H a = none) : (∀ i, IsOwn ε i → σ[i]? ≠ some (some (V.ref a))) ∧ ∀ q ∈ g.pr, q.1 ≠ a := by
  refine ⟨fun i ⟨k, p, e⟩ z => ?_, fun q hq z => ?_⟩
  · obtain ⟨b, h1, _, h2, _⟩ := G.slot _ _ e
    rw [h1] at z
    cases z
    exact h2.alive ha
  · have := (G.pr q hq).1
    rw [z, ha] at this
    cases this
/-- behind an operation that changes nothing -/
theorem Kont.of {Q : VK} {r : Rv} (G : Good X.K g σ ε Z H) (h : Post E X W g σ Z (PR X g σ Q) (.ok r ε)) : Kont X.K Z H Q r := by
  cases r with
  | val p => exact fun v Z' H' e rp => h Z' H' e.zz (G.ext e) v rp
  | fresh p => exact fun a Z' H' e ha hz o => h Z' H' e.zz (G.ext e) (.ref a) ⟨a, rfl, hz, G.al a ha, o, (G.new ha).1, (G.new ha).2⟩
  | own i => trivial
theorem Post.lift {Q : VK} {o : Option Rv} (h : Post E X W g σ Z (PR X g σ Q) (lift o ε)) : ∃ r, o = some r ∧ Post E X W g σ Z (PR X g σ Q) (.ok r ε) := by
  cases o with
  | none => exact h.elim
  | some r => exact ⟨r, rfl, h⟩
end
end Eng

namespace Eng
open PySem PySem.Spec L2
open PyProof.Rows hiding St

section
variable {E : Eng} {Φ : Nat → List PV → CO} {X : Cx} {W : WX} {g : Ent} {σ : St} {ε : Sg} {Z H : Hp}

/-! ### the call of a def -/
theorem run_fnX {CX : CXT} {k : Nat} {f : Addr} {fd : FuncData} {ps : List Str} {sp : Sp} {dvs : List V} {ds : List Value} {E' : St → XK} {pins : List (Addr × Obj)} {s : Shared} {Q : VK} {us : List Value} {vs : List V}
    (F : FnG X.prog X.w X.K X.mg X.base CX k f fd ps sp) (hgd : X.A.guards = some []) (hr : Room k X.A) (hb : Binds X.K fd ps ds) (hd : Vals dvs ds) (hx : PassesAt CX X σ (E' σ))
    (I : Inv X pins σ H s) (r : Vals vs us) (h : sp (vs ++ dvs) H Q (E' σ)) : wpAny (model X.prog X.w) X.A (call (.ref f) us) (EP X pins σ Q) X.xe s := by
  have r2 : Vals (vs ++ dvs) (us ++ ds) := r.append hd
  have hl : (us ++ ds).length = ps.length := by rw [← r2.length]; exact F.arity _ _ _ _ h
  refine wpAny_call (codeAny_mono (F.go (outer := X.stack) hgd hr I.env0 (hb s us I.kIn hl) r2 h) fun r s' hq => ?_)
  cases r with
  | error e => exact hx pins H s e s' I hq
  | ok fl =>
    cases fl with
    | ret u => exact I.after hq
    | next => exact False.elim hq
    | brk => exact False.elim hq
    | cont => exact False.elim hq
def tCallX (sp : Sp) (n : Nat) (dvs : List V) (E' : St → XK) (t : TA) : TE := fun σ H Q => t σ H fun vs H1 => (vs.length < n ∧ sp (vs ++ dvs) H1 Q (E' σ)) ∨ (¬ vs.length < n ∧ sp vs H1 Q (E' σ))
theorem starEach_no {e : Expr} {es : List Expr} {env : Env} (h : noStar e = true) : starEach (e :: es) env = (false, eval e env) :: starEach es env := by
  cases e <;> first | rfl | cases h
theorem mtL_star {S : Stc} : ∀ {l : List IE} {es : List Expr}, mtL E S l es = true → ∀ e ∈ es, noStar e = true
  | [], [], _ => fun e he => absurd he (by simp)
  | [], _ :: _, h => by cases h
  | _ :: _, [], h => by cases h
  | a :: l, e :: es, h => by
    unfold mtL at h
    simp only [Bool.and_eq_true] at h
    intro x hx
    rcases List.mem_cons.mp hx with rfl | hx
    · exact h.2
    · exact mtL_star h.1.2 x hx
theorem star_any {env : Env} {pos : Pos} : ∀ {es : List Expr}, (∀ e ∈ es, noStar e = true) → (backTo pos (starEach es env)).any (·.1) = false
  | [], _ => rfl
  | e :: es, h => by
    rw [starEach_no (h e List.mem_cons_self)]
    have := star_any (env := env) (pos := pos) (es := es) fun x hx => h x (List.mem_cons_of_mem _ hx)
    simpa [backTo] using this
theorem pe_callX {CX : CXT} {k : Nat} {f : Addr} {fd : FuncData} {ps : List Str} {sp : Sp} {dvs : List V} {ds : List Value} {E' : St → XK} {n : Nat} {x : Str} {p pos : Pos} {e : Expr} {es : List Expr} {t : TA}
    (F : FnG X.prog X.w X.K X.mg X.base CX k f fd ps sp) (hgd : X.A.guards = some []) (hr : Room k X.A) (hg : Gl X x) (hm : X.mg x = some (.ref f)) (hk : PySem.W.keepIn X.K (.ref f) = true) (hb0 : Binds X.K fd ps []) (hb : Binds X.K fd ps ds) (hd : Vals dvs ds)
    (hx : ∀ σ, PassesAt CX X σ (E' σ)) (ha : PA X (e :: es) t) (hdb : (x == ("__debug__" : Str)) = false) (hs : ∀ y ∈ e :: es, noStar y = true) : PE X (.Call (.Name x p) (e :: es) [] pos) (tCallX sp n dvs E' t) := by
  refine ⟨fun pins s σ H Q I h => ?_⟩
  refine wpAny_Call_Name_kw (ld_glob I hg hm ?_ hdb)
  refine PySem.W.callWith_K (h₀ := X.base) I.ok.mod.kin hk (thn (ha.run pos pins s σ H _ I h) fun us s1 ⟨vs, H1, I1, r, q⟩ => ⟨I1.kIn, ?_⟩) (starEach_no (hs e List.mem_cons_self)) (star_any fun y hy => hs y (List.mem_cons_of_mem _ hy))
  rcases q with ⟨_, q⟩ | ⟨_, q⟩
  · exact run_fnX F hgd hr hb hd (hx σ) I1 r q
  · exact run_fnX F hgd hr hb0 .nil (hx σ) I1 r (by rw [List.append_nil]; exact q)

/-! ### slots that a callee changes -/
theorem Good.argL : ∀ {ms : List Bool} {rs : List Rv} {vs : List V} {ps : List PV} {is : List Nat} {ε ε' : Sg} {Z : Hp}, Good X.K g σ ε Z H → Eng.argL ms rs ε = some (ps, is, ε') → Paired (OpdR X.K σ Z) rs vs →
    ∃ Z' as, Same Z Z' ∧ Good X.K g σ ε' Z' H ∧ ArgR X.K Z' H ms ps vs as ∧ Paired (fun i a => σ[i]? = some (some (V.ref a)) ∧ ∃ k p, ε'[i]? = some (.own k p)) is as ∧ is.Nodup
  | [], [], _, _, _, _, _, Z, G, e, h => by cases e; cases h; exact ⟨Z, [], .refl _, G, trivial, .nil, List.nodup_nil⟩
  | [], _ :: _, _, _, _, _, _, _, _, e, _ => by cases e
  | true :: _, [], _, _, _, _, _, _, _, e, _ => by cases e
  | false :: _, [], _, _, _, _, _, _, _, e, _ => by cases e
  | true :: _, .val _ :: _, _, _, _, _, _, _, _, e, _ => by cases e
  | true :: _, .fresh _ :: _, _, _, _, _, _, _, _, e, _ => by cases e
  | true :: ms, .own i :: rs, _, ps, is, ε, ε', Z, G, e, h => by
    cases h with
    | cons h t =>
      unfold Eng.argL at e
      cases e1 : Eng.argL ms rs ε with
      | none => rw [e1] at e; cases e
      | some q =>
        obtain ⟨ps', is', ε1⟩ := q
        rw [e1] at e
        dsimp only at e
        split at e
        · cases e
        · rename_i hni
          split at e
          · rename_i k p hi
            cases e
            obtain ⟨Z', as, s, G', ar, pr, nd⟩ := Good.argL G e1 t
            obtain ⟨a, h1, h2, h3, _⟩ := G'.slot _ _ hi
            have h : σ[i]? = some (some _) := h
            rw [h1] at h
            cases h
            exact ⟨Z', a :: as, s, G', ⟨rfl, h2, h3, ar⟩, .cons ⟨h1, _, _, hi⟩ pr, List.nodup_cons.mpr ⟨hni, nd⟩⟩
          · cases e
  | false :: ms, r :: rs, _, ps, is, ε, ε', Z, G, e, h => by
    cases h with
    | cons h t =>
      unfold Eng.argL at e
      cases e1 : Eng.frz r ε with
      | none => rw [e1] at e; cases e
      | some q =>
        obtain ⟨p, ε1⟩ := q
        rw [e1] at e
        dsimp only at e
        obtain ⟨Z1, s1, G1, r1⟩ := G.frz e1 h.rv
        cases e2 : Eng.argL ms rs ε1 with
        | none => rw [e2] at e; cases e
        | some q =>
          obtain ⟨ps', is', ε2⟩ := q
          rw [e2] at e
          cases e
          obtain ⟨Z2, as, s2, G2, ar, pr, nd⟩ := Good.argL G1 e2 (Paired.mapP t fun _ _ q => q.mono s1)
          exact ⟨Z2, as, s1.trans s2, G2, ⟨r1.mono s2, ar⟩, pr, nd⟩
theorem setOuts_get : ∀ {is : List Nat} {ps : List PV} {ε ε' : Sg}, is.Nodup → setOuts ε is ps = some ε' → ε'.length = ε.length ∧ is.length = ps.length ∧ (∀ j, j ∉ is → ε'[j]? = ε[j]?) ∧
    ∀ (n : Nat) (i : Nat) (p : PV), is[n]? = some i → ps[n]? = some p → ∃ k q, ε[i]? = some (.own k q) ∧ ε'[i]? = some (.own k p)
  | [], [], ε, ε', _, e => by cases e; exact ⟨rfl, rfl, fun _ _ => rfl, fun n i p h _ => by simp at h⟩
  | [], _ :: _, _, _, _, e => by cases e
  | _ :: _, [], _, _, _, e => by cases e
  | i :: is, p :: ps, ε, ε', nd, e => by
    unfold setOuts at e
    split at e
    · rename_i k q hi
      obtain ⟨h1, h0, h2, h3⟩ := setOuts_get (List.nodup_cons.mp nd).2 e
      have nin := (List.nodup_cons.mp nd).1
      have il : i < ε.length := (List.getElem?_eq_some_iff.mp hi).1
      refine ⟨by rw [h1, List.length_set], by simp [h0], fun j hj => ?_, fun n j r e1 e2 => ?_⟩
      · rw [List.mem_cons, not_or] at hj
        rw [h2 j hj.2, List.getElem?_set_ne (Ne.symm hj.1)]
      · cases n with
        | zero =>
          simp at e1 e2
          subst e1; subst e2
          exact ⟨k, q, hi, by rw [h2 _ nin, List.getElem?_set_self il]⟩
        | succ n =>
          simp at e1 e2
          obtain ⟨k', q', h4, h5⟩ := h3 n j r e1 e2
          have ne : i ≠ j := fun z => nin (by rw [z]; exact List.mem_of_getElem? e1)
          rw [List.getElem?_set_ne ne] at h4
          exact ⟨k', q', h4, h5⟩
    · cases e
theorem Paired.getP {α β : Type} {F : α → β → Prop} : ∀ {l : List α} {m : List β} {n : Nat} {x : α}, Paired F l m → l[n]? = some x → ∃ y, m[n]? = some y ∧ F x y
  | _, _, _, _, .nil, e => by simp at e
  | _, _, 0, _, .cons h _, e => by simp at e; subst e; exact ⟨_, rfl, h⟩
  | _, _, n + 1, x, .cons _ t, e => by
    obtain ⟨y, h1, h2⟩ := Paired.getP (n := n) (x := x) t (by simpa using e)
    exact ⟨y, by simpa using h1, h2⟩
theorem Paired.getP' {α β : Type} {F : α → β → Prop} : ∀ {l : List α} {m : List β} {n : Nat} {y : β}, Paired F l m → m[n]? = some y → ∃ x, l[n]? = some x ∧ F x y
  | _, _, _, _, .nil, e => by simp at e
  | _, _, 0, _, .cons h _, e => by simp at e; subst e; exact ⟨_, rfl, h⟩
  | _, _, n + 1, x, .cons _ t, e => by
    obtain ⟨y, h1, h2⟩ := Paired.getP' (n := n) (y := x) t (by simpa using e)
    exact ⟨y, by simpa using h1, h2⟩
/-- behind a call -/
theorem Good.call {Z' H' : Hp} {as : List Addr} {is : List Nat} {outs : List PV} {ε' : Sg} (G : Good X.K g σ ε Z H) (ia : Paired (fun i a => σ[i]? = some (some (V.ref a)) ∧ ∃ k p, ε[i]? = some (.own k p)) is as) (nd : is.Nodup)
    (e : setOuts ε is outs = some ε') (A : Aft X.K Z H Z' H' as outs) : Good X.K g σ ε' Z' H' := by
  obtain ⟨l1, l0, l2, l3⟩ := setOuts_get nd e
  have back : ∀ {b : Addr}, b ∈ as → ∃ i ∈ is, σ[i]? = some (some (V.ref b)) ∧ IsOwn ε i := fun {b} hb => by
    obtain ⟨n, hn⟩ := List.mem_iff_getElem?.mp hb
    obtain ⟨i, h1, h2, k, p, h3⟩ := Paired.getP' ia hn
    exact ⟨i, List.mem_of_getElem? h1, h2, k, p, h3⟩
  have own' : ∀ {j}, IsOwn ε' j → IsOwn ε j := fun {j} ⟨k, p, h⟩ => by
    by_cases hj : j ∈ is
    · obtain ⟨n, hn⟩ := List.mem_iff_getElem?.mp hj
      obtain ⟨a, _, _, q⟩ := Paired.getP ia hn
      exact q
    · rw [l2 j hj] at h; exact ⟨k, p, h⟩
  have alive : ∀ {b : Addr}, H b ≠ none → H' b ≠ none := fun {b} h z => h (A.al b z)
  have zn : ∀ {b : Addr}, Z b = none → H b ≠ none → Z' b = none := fun {b} z h => by
    cases q : Z' b with
    | none => rfl
    | some u =>
      rcases A.zf b (by rw [q]; exact fun y => nomatch y) with y | y
      · exact absurd z y
      · exact absurd y h
  refine ⟨by rw [l1]; exact G.len, fun j s hs => ?_, fun j l a oj ol => G.dis j l a (own' oj) (own' ol), A.zh, fun b o h n => ?_, fun b h => G.al b (A.al b h), fun b z => ?_, G.zz.trans A.zz, fun j a hj => ?_, fun q hq => ?_⟩
  · by_cases hj : j ∈ is
    · obtain ⟨n, hn⟩ := List.mem_iff_getElem?.mp hj
      obtain ⟨a, ha, h1, k, p, h2⟩ := Paired.getP ia hn
      obtain ⟨p', hp⟩ := Paired.getP A.out ha
      obtain ⟨k', q', h3, h4⟩ := l3 n j p' hn hp.1
      rw [h4] at hs
      cases hs
      obtain ⟨b, g1, g2, g3, g4⟩ := G.slot _ _ h3
      rw [h1] at g1
      cases g1
      exact ⟨a, h1, zn g2 g3.alive, hp.2, g4⟩
    · rw [l2 j hj] at hs
      have q := G.slot j s hs
      cases s with
      | none => trivial
      | val p => obtain ⟨v, q1, q2⟩ := q; exact ⟨v, q1, q2.mono A.zz⟩
      | own k p =>
        obtain ⟨b, q1, q2, q3, q4⟩ := q
        have nb : b ∉ as := fun hb => by
          obtain ⟨i, hi, e1, oi⟩ := back hb
          exact hj (G.dis i j b oi ⟨k, p, hs⟩ e1 q1 ▸ hi)
        exact ⟨b, q1, zn q2 q3.alive, q3.mono A.zz fun o h => A.hh _ _ h nb, q4⟩
  · by_cases hb : b ∈ as
    · obtain ⟨i, hi, e1, k, p, e2⟩ := back hb
      obtain ⟨c, g1, _, _, g4, g5⟩ := G.slot _ _ e2
      rw [e1] at g1
      cases g1
      cases k with
      | true => rw [g4 rfl] at h; cases h
      | false => exact absurd (List.mem_map.mpr ⟨_, g5 rfl, rfl⟩) n
    · exact A.hh _ _ (G.hh b o h n) hb
  · rcases A.zf b z with y | y
    · exact G.zf b y
    · exact .inr (G.al b y)
  · obtain ⟨h1, p, h2⟩ := G.io j a hj
    refine ⟨h1, ?_⟩
    by_cases hm : j ∈ is
    · obtain ⟨n, hn⟩ := List.mem_iff_getElem?.mp hm
      obtain ⟨a', ha, _⟩ := Paired.getP ia hn
      obtain ⟨p', hp⟩ := Paired.getP A.out ha
      obtain ⟨k', q', h3, h4⟩ := l3 n j p' hn hp.1
      rw [h2] at h3
      cases h3
      exact ⟨_, h4⟩
    · exact ⟨p, by rw [l2 j hm]; exact h2⟩
  · obtain ⟨q1, q2, q3⟩ := G.pr q hq
    have nq : q.1 ∉ as := fun hb => by
      obtain ⟨i, _, e1, oi⟩ := back hb
      exact q3 i oi e1
    exact ⟨A.hh _ _ q1 nq, zn q2 (by rw [q1]; exact fun y => nomatch y), fun j oj => q3 j (own' oj)⟩
end
end Eng

namespace Eng
open PySem PySem.Spec L2
open PyProof.Rows hiding St

section
variable {E : Eng} {Φ : Nat → List PV → CO} {k : Nat} {S : Stc} {X : Cx} {W : WX}
theorem Okx.vis (ok : Okx E Φ k S W X) {i : Nat} {x : Str} {pos : Pos} (h : (decide (S.N[i]? = some x) && visB S.sc x && okN x) = true) : PE X (.Name x pos) (tVar i) := by
  simp only [Bool.and_eq_true, decide_eq_true_eq] at h
  exact pe_var (by rw [ok.N]; exact h.1.1) (by rw [ok.sc]; exact vis_of h.1.2) (okN_1 h.2) (okN_2 h.2)
theorem Okx.gl (ok : Okx E Φ k S W X) {x : Str} (h : glB S.sc x = true) : Gl X x ∧ okN x = true := by
  unfold glB at h
  simp only [Bool.and_eq_true, decide_eq_true_eq] at h
  refine ⟨?_, h.2⟩
  show X.env.scope.names.lookup x = _
  rw [ok.sc]; exact h.1
theorem Okx.hu (ok : Okx E Φ k S W X) : X.A.units + 64 < cLine := ok.room.units

/-! ### names, constants -/
theorem s_var (ok : Okx E Φ k S W X) {i : Nat} {x : Str} {pos : Pos} (h : (decide (S.N[i]? = some x) && visB S.sc x && okN x) = true) : PE X (.Name x pos) (tE E Φ X W (.var i)) := by
  refine ⟨fun pins s σ H Q I hq => ?_⟩
  obtain ⟨g, ε, Z, G, h1⟩ := hq
  refine (ok.vis h).run pins s σ H Q I ?_
  have h1 : Post E X W g σ Z (PR X g σ Q) (match ε[i]? with | some (.val p) => .ok (.val p) ε | some (.own _ _) => .ok (.own i) ε | _ => .stuck) := h1
  cases e : ε[i]? with
  | none => rw [e] at h1; exact h1.elim
  | some sl =>
    rw [e] at h1
    cases sl with
    | none => exact h1.elim
    | val p =>
      obtain ⟨v, q1, q2⟩ := G.slot _ _ e
      exact ⟨v, q1, h1 Z H (.refl _) G v q2⟩
    | own k p =>
      obtain ⟨a, q1, _⟩ := G.slot _ _ e
      exact ⟨_, q1, h1 Z H (.refl _) G _ q1⟩
theorem s_cst {p : PV} {v : V} {ex : Expr} (he : PE X ex (tC v)) (r : ∀ Z, Rp X.K Z p v) : PE X ex (tE E Φ X W (.cst p)) := by
  refine ⟨fun pins s σ H Q I hq => ?_⟩
  obtain ⟨g, ε, Z, G, h1⟩ := hq
  exact he.run pins s σ H Q I (h1 Z H (.refl _) G v (r Z))
theorem s_glb (ok : Okx E Φ k S W X) {x : Str} {pos : Pos} (h : glB S.sc x = true) : PE X (.Name x pos) (tE E Φ X W (.glb x)) := by
  refine ⟨fun pins s σ H Q I hq => ?_⟩
  obtain ⟨g, ε, Z, G, h1⟩ := hq
  have h1 : Post E X W g σ Z (PR X g σ Q) (match E.glb.lookup x with | some p => .ok (.val p) ε | none => .stuck) := h1
  cases e : E.glb.lookup x with
  | none => rw [e] at h1; exact h1.elim
  | some p =>
    rw [e] at h1
    obtain ⟨u, v, m, r, rp⟩ := ok.gb x p e
    exact (pe_glob (ok.gl h).1 m r (okN_1 (ok.gl h).2)).run pins s σ H Q I (h1 Z H (.refl _) G v (rp Z))

/-! ### operators -/
theorem s_bin {op : Operator} {a b : IE} {ea eb : Expr} {pos : Pos} (ha : PE X ea (tE E Φ X W a)) (hb : PE X eb (tE E Φ X W b)) : PE X (.BinOp ea op eb pos) (tE E Φ X W (.bin op a b)) := by
  refine ⟨fun pins s σ H Q I hq => ?_⟩
  obtain ⟨g, ε, Z, G, h1⟩ := hq
  refine (pe_op (op_binE op) ha hb).run pins s σ H Q I ?_
  refine tE_bind G h1 fun ra ε1 Z1 H1 x s1 G1 rx h2 => tE_bind G1 h2 fun rb ε2 Z2 H2 y s2 G2 ry h3 => ?_
  split at h3
  · rename_i p q ep eq
    obtain ⟨r, er, h4⟩ := h3.lift
    exact ⟨Z2, p, q, r, G2.zh, G2.peek ep (rx.mono s2).rv, G2.peek eq ry.rv, er, Kont.of G2 h4⟩
  · exact h3.elim
theorem s_neg {a : IE} {ea : Expr} {pos : Pos} (ha : PE X ea (tE E Φ X W a)) : PE X (.UnaryOp .USub ea pos) (tE E Φ X W (.neg a)) := by
  refine ⟨fun pins s σ H Q I hq => ?_⟩
  obtain ⟨g, ε, Z, G, h1⟩ := hq
  refine (pe_un op_negE ha).run pins s σ H Q I ?_
  refine tE_bind G h1 fun ra ε1 Z1 H1 x s1 G1 rx h2 => ?_
  split at h2
  · rename_i p ep
    obtain ⟨r, er, h4⟩ := h2.lift
    cases eo : opNeg p with
    | none => rw [eo] at er; cases er
    | some q => rw [eo] at er; cases er; exact ⟨Z1, p, q, G1.zh, G1.peek ep rx.rv, eo, Kont.of G1 h4⟩
  · exact h2.elim
theorem s_cmp (ok : Okx E Φ k S W X) {op : CmpOp} {a b : IE} {ea eb : Expr} {pos : Pos} (hop : behindInMarks op eb = false) (ha : PE X ea (tE E Φ X W a)) (hb : PE X eb (tE E Φ X W b)) : PE X (.Compare ea [op] [eb] pos) (tE E Φ X W (.cmp op a b)) := by
  refine ⟨fun pins s σ H Q I hq => ?_⟩
  obtain ⟨g, ε, Z, G, h1⟩ := hq
  refine (pe_cmpR (op_cmpE (by have := ok.room.un; omega) op) ha hb hop).run pins s σ H Q I ?_
  refine tE_bind G h1 fun ra ε1 Z1 H1 x s1 G1 rx h2 => tE_bind G1 h2 fun rb ε2 Z2 H2 y s2 G2 ry h3 => ?_
  split at h3
  · rename_i p q ep eq
    cases eo : opCmp op p q with
    | none => rw [eo] at h3; exact h3.elim
    | some b => rw [eo] at h3; exact ⟨Z2, p, q, b, G2.zh, G2.peek ep (rx.mono s2).rv, G2.peek eq ry.rv, eo, h3 Z2 H2 (.refl _) G2 _ (.bl b)⟩
  · exact h3.elim
theorem t_cmp (ok : Okx E Φ k S W X) {op : CmpOp} {a b : IE} {ea eb : Expr} {pos : Pos} (hop : behindInMarks op eb = false) (ha : PE X ea (tE E Φ X W a)) (hb : PE X eb (tE E Φ X W b)) : PT X (.Compare ea [op] [eb] pos) (tT E Φ X W (.cmp op a b)) := by
  refine ⟨fun pins s σ H Q I hq => ?_⟩
  obtain ⟨g, ε, Z, G, h1⟩ := hq
  refine (pt_cmpR (op_cmpE (by have := ok.room.un; omega) op) ha hb hop).run pins s σ H Q I ?_
  refine tE_bind G h1 fun ra ε1 Z1 H1 x s1 G1 rx h2 => tE_bind G1 h2 fun rb ε2 Z2 H2 y s2 G2 ry h3 => ?_
  split at h3
  · rename_i p q ep eq
    cases eo : opCmp op p q with
    | none => rw [eo] at h3; exact h3.elim
    | some b => rw [eo] at h3; exact ⟨Z2, p, q, b, G2.zh, G2.peek ep (rx.mono s2).rv, G2.peek eq ry.rv, eo, b, rfl, h3 Z2 H2 (.refl _) G2⟩
  · exact h3.elim
theorem s_chn (ok : Okx E Φ k S W X) {o1 o2 : CmpOp} {a b c : IE} {ea eb ec : Expr} {pos : Pos} (hm : lastMarks [o1, o2] [eb, ec] = false) (ha : PE X ea (tE E Φ X W a)) (hb : PE X eb (tE E Φ X W b)) (hc : PE X ec (tE E Φ X W c)) : PE X (.Compare ea [o1, o2] [eb, ec] pos) (tE E Φ X W (.chn o1 o2 a b c)) := by
  refine ⟨fun pins s σ H Q I hq => ?_⟩
  obtain ⟨g, ε, Z, G, h1⟩ := hq
  have hu : X.A.units + 65 < cLine := by have := ok.room.un; omega
  refine (pe_chain (op_cmpE hu o1) (op_cmpE hu o2) ha hb hc hm).run pins s σ H Q I ?_
  refine tE_bind G h1 fun ra ε1 Z1 H1 x s1 G1 rx h2 => tE_bind G1 h2 fun rb ε2 Z2 H2 y s2 G2 ry h3 => ?_
  split at h3
  · rename_i p q ep eq
    split at h3
    · rename_i eo
      refine ⟨Z2, p, q, true, G2.zh, G2.peek ep (rx.mono s2).rv, G2.peek eq ry.rv, eo, true, rfl, ?_⟩
      rw [if_pos rfl]
      refine tE_bind G2 h3 fun rc ε3 Z3 H3 z s3 G3 rz h4 => ?_
      split at h4
      · rename_i q' r' eq' er
        cases eo2 : opCmp o2 q' r' with
        | none => rw [eo2] at h4; exact h4.elim
        | some b2 => rw [eo2] at h4; exact ⟨Z3, q', r', b2, G3.zh, G3.peek eq' (ry.mono s3).rv, G3.peek er rz.rv, eo2, h4 Z3 H3 (.refl _) G3 _ (.bl b2)⟩
      · exact h4.elim
    · rename_i eo
      refine ⟨Z2, p, q, false, G2.zh, G2.peek ep (rx.mono s2).rv, G2.peek eq ry.rv, eo, false, rfl, ?_⟩
      rw [if_neg Bool.false_ne_true]
      exact h3 Z2 H2 (.refl _) G2 _ (.bl false)
    · exact h3.elim
  · exact h3.elim
theorem t_chn (ok : Okx E Φ k S W X) {o1 o2 : CmpOp} {a b c : IE} {ea eb ec : Expr} {pos : Pos} (hm : lastMarks [o1, o2] [eb, ec] = false) (ha : PE X ea (tE E Φ X W a)) (hb : PE X eb (tE E Φ X W b)) (hc : PE X ec (tE E Φ X W c)) : PT X (.Compare ea [o1, o2] [eb, ec] pos) (tT E Φ X W (.chn o1 o2 a b c)) := by
  refine ⟨fun pins s σ H Q I hq => ?_⟩
  obtain ⟨g, ε, Z, G, h1⟩ := hq
  have hu : X.A.units + 65 < cLine := by have := ok.room.un; omega
  refine (pt_chain (op_cmpE hu o1) (op_cmpE hu o2) ha hb hc hm).run pins s σ H Q I ?_
  refine tE_bind G h1 fun ra ε1 Z1 H1 x s1 G1 rx h2 => tE_bind G1 h2 fun rb ε2 Z2 H2 y s2 G2 ry h3 => ?_
  split at h3
  · rename_i p q ep eq
    split at h3
    · rename_i eo
      refine ⟨Z2, p, q, true, G2.zh, G2.peek ep (rx.mono s2).rv, G2.peek eq ry.rv, eo, true, rfl, ?_⟩
      rw [if_pos rfl]
      refine tE_bind G2 h3 fun rc ε3 Z3 H3 z s3 G3 rz h4 => ?_
      split at h4
      · rename_i q' r' eq' er
        cases eo2 : opCmp o2 q' r' with
        | none => rw [eo2] at h4; exact h4.elim
        | some b2 => rw [eo2] at h4; exact ⟨Z3, q', r', b2, G3.zh, G3.peek eq' (ry.mono s3).rv, G3.peek er rz.rv, eo2, b2, rfl, h4 Z3 H3 (.refl _) G3⟩
      · exact h4.elim
    · rename_i eo
      refine ⟨Z2, p, q, false, G2.zh, G2.peek ep (rx.mono s2).rv, G2.peek eq ry.rv, eo, false, rfl, ?_⟩
      rw [if_neg Bool.false_ne_true]
      exact ⟨false, rfl, h3 Z2 H2 (.refl _) G2⟩
    · exact h3.elim
  · exact h3.elim
/-- list(reversed(e)), e a list -/
def tLRev (K : Fg) (te : TE) : TE := fun σ H Q => te σ H fun v H1 => ∃ (a : Addr) (xs : List V), v = .ref a ∧ SqL K H1 a xs ∧ ∀ q, H1 q = none → Q (.ref q) (upd H1 q (.lst xs.reverse))
theorem pe_listRev {e : Expr} {te : TE} {p p2 pos pos2 : Pos} (calm : X.calm = true) (hg : Gl X "list") (hm : X.mg "list" = none) (hg2 : Gl X "reversed") (hm2 : X.mg "reversed" = none) (he : PE X e te) (hs : noStar e = true) :
    PE X (.Call (.Name "list" p) [.Call (.Name "reversed" p2) [e] [] pos2] [] pos) (tLRev X.K te) := by
  have st1 := starEach_no (env := X.env) (es := []) hs
  have st2 := starEach_no (e := .Call (.Name "reversed" p2) [e] [] pos2) (env := X.env) (es := []) rfl
  refine ⟨fun pins s σ H Q I h => ?_⟩
  refine Call_ (ld_blt I hg hm (show bootBuiltins "list" = some (.type "list") by decide +kernel) (PyProof.Rows.callWith_type1 (args_cons (Call_ (ld_blt I hg2 hm2 PyProof.Rows.boot_reversed (PyProof.Rows.callWith_type1 (args_cons (thn (he.run pins s σ H _ I h) fun u s1 ⟨v, H1, I1, r1, q1⟩ => args_nil ?_) st1) st1 rfl))) st2) st2 rfl))
  obtain ⟨a, xs, rfl, hq, q⟩ := q1
  obtain rfl : u = Value.ref a := r1
  obtain ⟨its, rv, pl, hz⟩ := I1.list hq
  have hl := pl.isList
  refine call_reversed_list hl (args_nil ?_)
  have I2 : Inv X pins σ H1 { s1 with heap := s1.heap.push (revObj a ((its.toArray.size : Int) - 1)) } := I1.kept (t' := s1.toks) fun b o e => Heap.get?_push_of_some _ e
  obtain ⟨f0, f1, f2, f3, f4, f5⟩ := I1.fpOk (H' := H1) (b := s1.heap.objs.size) (Nat.le_refl _) (I1.hok.fresh (Nat.le_refl _))
  have apart : a ≠ s1.heap.objs.size := let ⟨_, z, _⟩ := hl; Nat.ne_of_lt (Heap.lt_size z)
  have fits : its.toArray.size ≤ sizeLine := by rw [List.size_toArray, ← rv.length]; exact hz
  refine list_of_rev (s := { s1 with heap := s1.heap.push (revObj a ((its.toArray.size : Int) - 1)) }) (I1.ok.hd calm) ⟨_, Heap.get?_push_size _ rfl, rfl, rfl⟩ (hl.push _) apart fits fun h2 tk acc c keep at2 got => ?_
  have news : (s1.heap.push (revObj a ((its.toArray.size : Int) - 1))).objs.size = s1.heap.objs.size + 1 := by simp [Heap.push]
  have fr : H1 (s1.heap.push (revObj a ((its.toArray.size : Int) - 1))).objs.size = none := I1.hok.fresh (by rw [news]; exact Nat.le_succ _)
  refine ⟨.ref _, upd H1 _ (.lst xs.reverse), I1.laid (t' := tk) (fun b u e => keep b u (Nat.ne_of_lt (Heap.lt_size e)) (Heap.get?_push_of_some _ e)) (by rw [news]; exact Nat.le_succ _) ⟨by rw [List.length_reverse]; exact hz, acc.toList, c, RT.vals_rev rv got, ?_⟩, rfl, q _ fr⟩
  rw [Array.toArray_toList]
  exact at2
theorem s_lrev (ok : Okx E Φ k S W X) {a : IE} {e : Expr} {p p2 pos pos2 : Pos} (hg : Gl X "list") (hm : X.mg "list" = none) (hg2 : Gl X "reversed") (hm2 : X.mg "reversed" = none) (he : PE X e (tE E Φ X W a)) (hs : noStar e = true) :
    PE X (.Call (.Name "list" p) [.Call (.Name "reversed" p2) [e] [] pos2] [] pos) (tE E Φ X W (.lrev a)) := by
  refine ⟨fun pins s σ H Q I hq => ?_⟩
  obtain ⟨g, ε, Z, G, h1⟩ := hq
  refine (pe_listRev ok.calm hg hm hg2 hm2 he hs).run pins s σ H Q I ?_
  refine tE_bind G h1 fun ra ε1 Z1 H1 x s1 G1 rx h2 => ?_
  have fin : ∀ {l : List PV} {p0 : PV}, ra.opd.peek ε1 = some p0 → (p0 = .lst l ∨ p0 = .scr l) → Post E X W g σ Z1 (PR X g σ Q) (.ok (.fresh (.lst l.reverse)) ε1) → ∃ (a : Addr) (xs : List V), x = .ref a ∧ SqL X.K H1 a xs ∧ ∀ q, H1 q = none → Q (.ref q) (upd H1 q (.lst xs.reverse)) := fun {l p0} ep e0 h3 => by
    have kk := Kont.of G1 h3
    rcases e0 with rfl | rfl
    · obtain ⟨a, vs, rfl, h4, h5⟩ := (G1.peek ep rx.rv).lst G1.zh
      exact ⟨a, vs, rfl, .inl h4, frE G1.zh kk h5.reverse⟩
    · obtain ⟨a, vs, rfl, h4, h5⟩ := (G1.peek ep rx.rv).scr G1.zh
      exact ⟨a, vs, rfl, h4, frE G1.zh kk h5.reverse⟩
  split at h2
  · rename_i l ep
    exact fin ep (.inl rfl) h2
  · rename_i l ep
    exact fin ep (.inr rfl) h2
  · exact h2.elim
theorem rp_strs {K : Fg} {Z : Hp} : ∀ l : List Str, RpL K Z (l.map PV.str) (l.map V.str)
  | [] => .nil
  | x :: l => .cons (.str x) (rp_strs l)
theorem s_split {a b : IE} {ea eb : Expr} {apos cpos : Pos} (ha : PE X ea (tE E Φ X W a)) (hb : PE X eb (tE E Φ X W b)) (hs : noStar eb = true) (hl : (apos.endLine == cpos.line) = true) (hbase : attributeBase ea "split" X.env (eval ea X.env) = eval ea X.env) :
    PE X (.Call (.Attribute ea "split" apos) [eb] [] cpos) (tE E Φ X W (.split a b)) := by
  refine ⟨fun pins s σ H Q I hq => ?_⟩
  obtain ⟨g, ε, Z, G, h1⟩ := hq
  refine (pe_split ha hb (starEach_no hs) hbase hl).run pins s σ H Q I ?_
  refine tE_bind G h1 fun ra ε1 Z1 H1 x s1 G1 rx h2 => ?_
  split at h2
  · rename_i w ep
    obtain rfl := (G1.peek ep rx.rv).str
    refine ⟨⟨w, rfl⟩, tE_bind G1 h2 fun rb ε2 Z2 H2 y s2 G2 ry h3 => ?_⟩
    split at h3
    · rename_i t eq
      split at h3
      · rename_i hz
        obtain rfl := (G2.peek eq ry.rv).str
        exact ⟨w, t, rfl, rfl, hz.1, hz.2, frE G2.zh (Kont.of G2 h3) (rp_strs _)⟩
      · exact h3.elim
    · exact h3.elim
  · exact h2.elim
theorem rp_nn {K : Fg} {Z : Hp} {p : PV} {v : V} (h : Rp K Z p v) (hp : p ≠ .non) : v ≠ .non := by
  intro e
  subst e
  cases h
  exact hp rfl
theorem view_nn {K : Fg} {Z H : Hp} {p : PV} {v : V} (h : View K Z H p v) (hp : p ≠ .non) : v ≠ .non := by
  rcases h with h | ⟨a, rfl, _⟩
  · exact rp_nn h hp
  · exact fun z => nomatch z
theorem s_isN {a : IE} {n : Bool} {op : CmpOp} {ea : Expr} {j : Nat} {pos pos' : Pos} (hop : op = if n = true then .IsNot else .Is) (ha : PE X ea (tE E Φ X W a)) : PE X (.Compare ea [op] [.Constant .none j pos'] pos) (tE E Φ X W (.isN a n)) := by
  refine ⟨fun pins s σ H Q I hq => ?_⟩
  obtain ⟨g, ε, Z, G, h1⟩ := hq
  have key : ∀ (Q : VK), Post E X W g σ Z (PR X g σ Q) (evE E Φ (.isN a n) ε) → tE E Φ X W a σ H (fun x H1 => Q (.bl (if n = true then !decide (x = .non) else decide (x = .non))) H1) := fun Q h1 => by
    refine tE_bind G h1 fun ra ε1 Z1 H1 x s1 G1 rx h2 => ?_
    split at h2
    · rename_i ep
      have w := (G1.peek ep rx.rv).non
      subst w
      have := h2 Z1 H1 (.refl _) G1 _ (.bl _)
      cases n <;> simpa using this
    · rename_i p hn ep
      have w := view_nn (G1.peek ep rx.rv) hn
      have := h2 Z1 H1 (.refl _) G1 _ (.bl _)
      cases n <;> simpa [w] using this
    · exact h2.elim
  cases n with
  | true =>
    cases hop
    exact (pe_cmp (pc_notN ha) rfl).run pins s σ H Q I (key Q h1)
  | false =>
    cases hop
    exact (pe_cmp (pc_isN ha) rfl).run pins s σ H Q I (key Q h1)
theorem t_isN {a : IE} {n : Bool} {op : CmpOp} {ea : Expr} {j : Nat} {pos pos' : Pos} (hop : op = if n = true then .IsNot else .Is) (ha : PE X ea (tE E Φ X W a)) : PT X (.Compare ea [op] [.Constant .none j pos'] pos) (tT E Φ X W (.isN a n)) := by
  refine ⟨fun pins s σ H Q I hq => ?_⟩
  obtain ⟨g, ε, Z, G, h1⟩ := hq
  have key : ∀ (Q : Bool → Hp → Prop), Post E X W g σ Z (PB Q) (evT E Φ (.isN a n) ε) → tE E Φ X W a σ H (fun x H1 => Q (if n = true then !decide (x = .non) else decide (x = .non)) H1) := fun Q h1 => by
    refine tE_bind G h1 fun ra ε1 Z1 H1 x s1 G1 rx h2 => ?_
    split at h2
    · rename_i ep
      have w := (G1.peek ep rx.rv).non
      subst w
      have := h2 Z1 H1 (.refl _) G1
      cases n <;> simpa [PB] using this
    · rename_i p hn ep
      have w := view_nn (G1.peek ep rx.rv) hn
      have := h2 Z1 H1 (.refl _) G1
      cases n <;> simpa [w, PB] using this
    · exact h2.elim
  have wrap : ∀ (t : TE), (∀ Q : VK, tE E Φ X W a σ H (fun x H1 => Q (.bl (if n = true then !decide (x = .non) else decide (x = .non))) H1) → t σ H Q) → tB t σ H Q := fun t f =>
    f _ (by
      obtain ⟨g', ε', Z', G', p⟩ := key Q h1
      exact ⟨g', ε', Z', G', p.imp fun r ε1 Z1 H1 _ _ h v rv => ⟨_, rfl, h v rv⟩⟩)
  cases n with
  | true =>
    cases hop
    exact (pt_cmp (pc_notN ha) rfl).run pins s σ H Q I (wrap _ fun Q h => h)
  | false =>
    cases hop
    exact (pt_cmp (pc_isN ha) rfl).run pins s σ H Q I (wrap _ fun Q h => h)

/-! ### and, or, not, if -/
theorem truth_some {ε : Sg} {r : Rv} {b : Bool} (e : (r.peek ε).bind truth = some b) : ∃ p, r.peek ε = some p ∧ truth p = some b := by
  cases h : r.peek ε with
  | none => rw [h] at e; cases e
  | some p => rw [h] at e; exact ⟨p, rfl, e⟩
def tAndL (E : Eng) (Φ : Nat → List PV → CO) (X : Cx) (W : WX) (l : List IE) : TE := fun σ H Q => ∃ g ε Z, Good X.K g σ ε Z H ∧ Post E X W g σ Z (PR X g σ Q) (evAnd E Φ l ε)
def tOrL (E : Eng) (Φ : Nat → List PV → CO) (X : Cx) (W : WX) (l : List IE) : TE := fun σ H Q => ∃ g ε Z, Good X.K g σ ε Z H ∧ Post E X W g σ Z (PR X g σ Q) (evOr E Φ l ε)
def tAndLT (E : Eng) (Φ : Nat → List PV → CO) (X : Cx) (W : WX) (l : List IE) : TT := fun σ H Q => ∃ g ε Z, Good X.K g σ ε Z H ∧ Post E X W g σ Z (PB Q) (evAndT E Φ l ε)
def tOrLT (E : Eng) (Φ : Nat → List PV → CO) (X : Cx) (W : WX) (l : List IE) : TT := fun σ H Q => ∃ g ε Z, Good X.K g σ ε Z H ∧ Post E X W g σ Z (PB Q) (evOrT E Φ l ε)
theorem s_and1 {a : IE} {ea : Expr} {pos : Pos} (ha : PE X ea (tE E Φ X W a)) : PE X (.BoolOp .And [ea] pos) (tAndL E Φ X W [a]) := by
  refine ⟨fun pins s σ H Q I hq => ?_⟩
  obtain ⟨g, ε, Z, G, h1⟩ := hq
  exact (pe_one ha).run pins s σ H Q I ⟨g, ε, Z, G, h1⟩
theorem s_or1 {a : IE} {ea : Expr} {pos : Pos} (ha : PE X ea (tE E Φ X W a)) : PE X (.BoolOp .Or [ea] pos) (tOrL E Φ X W [a]) := by
  refine ⟨fun pins s σ H Q I hq => ?_⟩
  obtain ⟨g, ε, Z, G, h1⟩ := hq
  exact (pe_one ha).run pins s σ H Q I ⟨g, ε, Z, G, h1⟩
theorem s_and2 {a b : IE} {l : List IE} {ea eb : Expr} {es : List Expr} {pos : Pos} (ha : PE X ea (tE E Φ X W a)) (hb : PE X (.BoolOp .And (eb :: es) pos) (tAndL E Φ X W (b :: l))) : PE X (.BoolOp .And (ea :: eb :: es) pos) (tAndL E Φ X W (a :: b :: l)) := by
  refine ⟨fun pins s σ H Q I hq => ?_⟩
  obtain ⟨g, ε, Z, G, h1⟩ := hq
  refine (pe_andT ha hb).run pins s σ H Q I ?_
  refine tE_bind G h1 fun ra ε1 Z1 H1 x s1 G1 rx h2 => ?_
  split at h2
  · rename_i et
    obtain ⟨p, ep, et⟩ := truth_some et
    exact ⟨true, truth_ok G1.zh (G1.peek ep rx.rv) et, by rw [if_pos rfl]; exact ⟨g, ε1, Z1, G1, h2⟩⟩
  · rename_i et
    obtain ⟨p, ep, et⟩ := truth_some et
    exact ⟨false, truth_ok G1.zh (G1.peek ep rx.rv) et, by rw [if_neg Bool.false_ne_true]; exact h2 Z1 H1 (.refl _) G1 _ rx.rv⟩
  · exact h2.elim
theorem s_or2 {a b : IE} {l : List IE} {ea eb : Expr} {es : List Expr} {pos : Pos} (ha : PE X ea (tE E Φ X W a)) (hb : PE X (.BoolOp .Or (eb :: es) pos) (tOrL E Φ X W (b :: l))) : PE X (.BoolOp .Or (ea :: eb :: es) pos) (tOrL E Φ X W (a :: b :: l)) := by
  refine ⟨fun pins s σ H Q I hq => ?_⟩
  obtain ⟨g, ε, Z, G, h1⟩ := hq
  refine (pe_orT ha hb).run pins s σ H Q I ?_
  refine tE_bind G h1 fun ra ε1 Z1 H1 x s1 G1 rx h2 => ?_
  split at h2
  · rename_i et
    obtain ⟨p, ep, et⟩ := truth_some et
    exact ⟨false, truth_ok G1.zh (G1.peek ep rx.rv) et, by rw [if_neg Bool.false_ne_true]; exact ⟨g, ε1, Z1, G1, h2⟩⟩
  · rename_i et
    obtain ⟨p, ep, et⟩ := truth_some et
    exact ⟨true, truth_ok G1.zh (G1.peek ep rx.rv) et, by rw [if_pos rfl]; exact h2 Z1 H1 (.refl _) G1 _ rx.rv⟩
  · exact h2.elim
theorem t_and1 {a : IE} {ea : Expr} {pos : Pos} (ha : PT X ea (tT E Φ X W a)) : PW X (.BoolOp .And [ea] pos) (tAndLT E Φ X W [a]) := by
  refine ⟨fun wh pins s σ H Q I hq => ?_⟩
  obtain ⟨g, ε, Z, G, h1⟩ := hq
  exact (pw_and1 ha).run wh pins s σ H Q I ⟨g, ε, Z, G, h1⟩
theorem t_or1 {a : IE} {ea : Expr} {pos : Pos} (ha : PT X ea (tT E Φ X W a)) : PW X (.BoolOp .Or [ea] pos) (tOrLT E Φ X W [a]) := by
  refine ⟨fun wh pins s σ H Q I hq => ?_⟩
  obtain ⟨g, ε, Z, G, h1⟩ := hq
  exact (pw_or1 ha).run wh pins s σ H Q I ⟨g, ε, Z, G, h1⟩
theorem t_and2 {a b : IE} {l : List IE} {ea eb : Expr} {es : List Expr} {pos : Pos} (ha : PT X ea (tT E Φ X W a)) (hb : PW X (.BoolOp .And (eb :: es) pos) (tAndLT E Φ X W (b :: l))) : PW X (.BoolOp .And (ea :: eb :: es) pos) (tAndLT E Φ X W (a :: b :: l)) := by
  refine ⟨fun wh pins s σ H Q I hq => ?_⟩
  obtain ⟨g, ε, Z, G, h1⟩ := hq
  refine (pw_and ha hb).run wh pins s σ H Q I ?_
  refine tT_bind G h1 fun t ε1 Z1 H1 s1 G1 h2 => ?_
  cases t with
  | true => rw [if_pos rfl]; exact ⟨g, ε1, Z1, G1, h2⟩
  | false => rw [if_neg Bool.false_ne_true]; exact h2 Z1 H1 (.refl _) G1
theorem t_or2 {a b : IE} {l : List IE} {ea eb : Expr} {es : List Expr} {pos : Pos} (ha : PT X ea (tT E Φ X W a)) (hb : PW X (.BoolOp .Or (eb :: es) pos) (tOrLT E Φ X W (b :: l))) : PW X (.BoolOp .Or (ea :: eb :: es) pos) (tOrLT E Φ X W (a :: b :: l)) := by
  refine ⟨fun wh pins s σ H Q I hq => ?_⟩
  obtain ⟨g, ε, Z, G, h1⟩ := hq
  refine (pw_or ha hb).run wh pins s σ H Q I ?_
  refine tT_bind G h1 fun t ε1 Z1 H1 s1 G1 h2 => ?_
  cases t with
  | true => rw [if_pos rfl]; exact h2 Z1 H1 (.refl _) G1
  | false => rw [if_neg Bool.false_ne_true]; exact ⟨g, ε1, Z1, G1, h2⟩
theorem s_not {a : IE} {ea : Expr} {pos : Pos} (ha : PE X ea (tE E Φ X W a)) : PE X (.UnaryOp .Not ea pos) (tE E Φ X W (.not a)) := by
  refine ⟨fun pins s σ H Q I hq => ?_⟩
  obtain ⟨g, ε, Z, G, h1⟩ := hq
  refine (pe_notT ha).run pins s σ H Q I ?_
  refine tE_bind G h1 fun ra ε1 Z1 H1 x s1 G1 rx h2 => ?_
  split at h2
  · rename_i b et
    obtain ⟨p, ep, et⟩ := truth_some et
    exact ⟨b, truth_ok G1.zh (G1.peek ep rx.rv) et, h2 Z1 H1 (.refl _) G1 _ (.bl _)⟩
  · exact h2.elim
theorem t_not {a : IE} {ea : Expr} {pos : Pos} (ha : PT X ea (tT E Φ X W a)) : PT X (.UnaryOp .Not ea pos) (tT E Φ X W (.not a)) := by
  refine ⟨fun pins s σ H Q I hq => ?_⟩
  obtain ⟨g, ε, Z, G, h1⟩ := hq
  exact (pt_not ha).run pins s σ H Q I (tT_bind G h1 fun t ε1 Z1 H1 s1 G1 h2 => h2 Z1 H1 (.refl _) G1)
theorem s_ite {c a b : IE} {ec ea eb : Expr} {pos : Pos} (hc : PT X ec (tT E Φ X W c)) (ha : PE X ea (tE E Φ X W a)) (hb : PE X eb (tE E Φ X W b)) : PE X (.IfExp ec ea eb pos) (tE E Φ X W (.ite c a b)) := by
  refine ⟨fun pins s σ H Q I hq => ?_⟩
  obtain ⟨g, ε, Z, G, h1⟩ := hq
  refine (pe_ifExp hc ha hb).run pins s σ H Q I ?_
  refine tT_bind G h1 fun t ε1 Z1 H1 s1 G1 h2 => ?_
  cases t with
  | true => rw [if_pos rfl]; exact ⟨g, ε1, Z1, G1, h2⟩
  | false => rw [if_neg Bool.false_ne_true]; exact ⟨g, ε1, Z1, G1, h2⟩

/-! ### displays, argument lists -/
theorem s_nil : PA X [] (tA E Φ X W []) := by
  refine ⟨fun pos pins s σ H Q I hq => ?_⟩
  obtain ⟨g, ε, Z, G, h1⟩ := hq
  exact pa_nil.run pos pins s σ H Q I (h1 Z H (.refl _) G [] .nil)
theorem s_cons {a : IE} {l : List IE} {ea : Expr} {es : List Expr} (hn : noStar ea = true) (ha : PE X ea (tE E Φ X W a)) (hl : PA X es (tA E Φ X W l)) : PA X (ea :: es) (tA E Φ X W (a :: l)) := by
  refine ⟨fun pos pins s σ H Q I hq => ?_⟩
  obtain ⟨g, ε, Z, G, h1⟩ := hq
  refine (pa_cons ha hl (starEach_no hn)).run pos pins s σ H Q I ?_
  refine tE_bind G h1 fun ra ε1 Z1 H1 x s1 G1 rx h2 => tA_bind G1 h2 fun rs ε2 Z2 H2 vs s2 G2 rl h3 => ?_
  exact h3 Z2 H2 (.refl _) G2 _ (.cons (rx.mono s2) rl)
theorem s_tup {l : List IE} {es : List Expr} {n : Nat} {pos : Pos} (hl : PA X es (tA E Φ X W l)) : PE X (.Tuple es n pos) (tE E Φ X W (.tup l)) := by
  refine ⟨fun pins s σ H Q I hq => ?_⟩
  obtain ⟨g, ε, Z, G, h1⟩ := hq
  refine (pe_tup hl).run pins s σ H Q I ?_
  refine tA_bind G h1 fun rs ε1 Z1 H1 vs s1 G1 rl h2 => ?_
  split at h2
  · rename_i ps ε2 ef
    obtain ⟨Z2, s2, G2, r2⟩ := G1.frzL ef rl
    split at h2
    · rename_i hz
      refine ⟨by rw [r2.length]; exact hz, fun p hp => ?_⟩
      have e := Ext.newF (o := .tup vs) G2.zh hp
      exact h2 _ _ (s2.trans e.zz) (G2.ext e) _ (.tup (.inl (.inl upd_same)) (r2.mono e.zz))
    · exact h2.elim
  · exact h2.elim
theorem s_lst {l : List IE} {es : List Expr} {pos : Pos} (hl : PA X es (tA E Φ X W l)) : PE X (.List es pos) (tE E Φ X W (.lst l)) := by
  refine ⟨fun pins s σ H Q I hq => ?_⟩
  obtain ⟨g, ε, Z, G, h1⟩ := hq
  refine (pe_lst hl).run pins s σ H Q I ?_
  refine tA_bind G h1 fun rs ε1 Z1 H1 vs s1 G1 rl h2 => ?_
  split at h2
  · rename_i ps ε2 ef
    obtain ⟨Z2, s2, G2, r2⟩ := G1.frzL ef rl
    split at h2
    · rename_i hz
      refine ⟨by rw [r2.length]; exact hz, fun p hp => ?_⟩
      have e := Ext.new (o := .lst vs) G2.zh hp
      exact h2 _ _ s2 (G2.ext e) _ ⟨p, rfl, G2.zh.free hp, G2.al p hp, ⟨vs, upd_same, r2⟩, (G2.new hp).1, (G2.new hp).2⟩
    · exact h2.elim
  · exact h2.elim

/-! ### subscripts, slices -/
theorem plainIx {ei : Expr} (h : noSlc ei = true) : PlainIx ei := by
  intro o i
  cases ei <;> first | rfl | cases h
theorem s_sub {a i : IE} {ea ei : Expr} {pos : Pos} (hn : noSlc ei = true) (ha : PE X ea (tE E Φ X W a)) (hi : PE X ei (tE E Φ X W i)) : PE X (.Subscript ea ei pos) (tE E Φ X W (.sub a i)) := by
  refine ⟨fun pins s σ H Q I hq => ?_⟩
  obtain ⟨g, ε, Z, G, h1⟩ := hq
  refine (pe_ix ix_E ha hi (plainIx hn)).run pins s σ H Q I ?_
  refine tE_bind G h1 fun ra ε1 Z1 H1 x s1 G1 rx h2 => tE_bind G1 h2 fun rb ε2 Z2 H2 y s2 G2 ry h3 => ?_
  split at h3
  · rename_i p q ep eq
    obtain ⟨r, er, h4⟩ := h3.lift
    cases eo : opIx p q with
    | none => rw [eo] at er; cases er
    | some r' => rw [eo] at er; cases er; exact ⟨Z2, p, q, r', G2.zh, G2.peek ep (rx.mono s2).rv, G2.peek eq ry.rv, eo, Kont.of G2 h4⟩
  · exact h3.elim
theorem s_none : PO X none (tO E Φ X W none) := by
  refine ⟨fun pins s σ H Q I hq => ?_⟩
  obtain ⟨g, ε, Z, G, h1⟩ := hq
  exact po_none.run pins s σ H Q I (h1 Z H (.refl _) G)
theorem s_some {a : IE} {ea : Expr} (ha : PE X ea (tE E Φ X W a)) : PO X (some ea) (tO E Φ X W (some a)) := by
  refine ⟨fun pins s σ H Q I hq => ?_⟩
  obtain ⟨g, ε, Z, G, h1⟩ := hq
  refine (po_some ha).run pins s σ H Q I ?_
  refine tE_bind G h1 fun ra ε1 Z1 H1 x s1 G1 rx h2 => ?_
  split at h2
  · rename_i i ep
    exact ⟨i, (G1.peek ep rx.rv).int, h2 Z1 H1 (.refl _) G1⟩
  · exact h2.elim
theorem s_slc {a : IE} {lo hi : Option IE} {ea : Expr} {elo ehi : Option Expr} {pos p2 : Pos} (ha : PE X ea (tE E Φ X W a)) (hl : PO X elo (tO E Φ X W lo)) (hh : PO X ehi (tO E Φ X W hi)) : PE X (.Subscript ea (.Slice elo ehi none p2) pos) (tE E Φ X W (.slc a lo hi)) := by
  refine ⟨fun pins s σ H Q I hq => ?_⟩
  obtain ⟨g, ε, Z, G, h1⟩ := hq
  refine (pe_slice sl_E ha hl hh).run pins s σ H Q I ?_
  refine tE_bind G h1 fun ra ε1 Z1 H1 x s1 G1 rx h2 => tO_bind G1 h2 fun l ε2 Z2 H2 s2 G2 h3 => tO_bind G2 h3 fun u ε3 Z3 H3 s3 G3 h4 => ?_
  split at h4
  · rename_i p ep
    obtain ⟨r, er, h5⟩ := h4.lift
    exact ⟨Z3, p, r, G3.zh, G3.peek ep ((rx.mono s2).mono s3).rv, er, Kont.of G3 h5⟩
  · exact h4.elim

/-! ### calls -/
theorem argR_len {K : Fg} {Z H : Hp} : ∀ {ms : List Bool} {ps : List PV} {vs : List V} {as : List Addr}, ArgR K Z H ms ps vs as → ps.length = ms.length ∧ vs.length = ms.length
  | [], [], [], [], _ => ⟨rfl, rfl⟩
  | [], [], [], _ :: _, h => h.elim
  | [], [], _ :: _, _, h => h.elim
  | [], _ :: _, _, _, h => h.elim
  | true :: _, [], _, _, h => h.elim
  | true :: _, _ :: _, [], _, h => h.elim
  | true :: _, _ :: _, _ :: _, [], h => h.elim
  | true :: ms, p :: ps, v :: vs, a :: as, h => by
    obtain ⟨h1, h2⟩ := argR_len h.2.2.2
    simp [h1, h2]
  | false :: _, [], _, _, h => h.elim
  | false :: _, _ :: _, [], _, h => h.elim
  | false :: ms, p :: ps, v :: vs, as, h => by
    obtain ⟨h1, h2⟩ := argR_len h.2
    simp [h1, h2]
theorem argR_more {K : Fg} {Z H : Hp} {qs : List PV} {ws : List V} : ∀ {m2 : List Bool}, m2.all (! ·) = true → m2.length = qs.length → RpL K Z qs ws → ∀ {ms : List Bool} {ps : List PV} {vs : List V} {as : List Addr}, ArgR K Z H ms ps vs as → ArgR K Z H (ms ++ m2) (ps ++ qs) (vs ++ ws) as := by
  intro m2 hm hl r
  have base : ∀ {m2 : List Bool} {qs : List PV} {ws : List V}, m2.all (! ·) = true → m2.length = qs.length → RpL K Z qs ws → ArgR K Z H m2 qs ws [] := by
    intro m2
    induction m2 with
    | nil => intro qs ws _ hl r; cases r with | nil => trivial | cons _ _ => simp at hl
    | cons b m ih =>
      intro qs ws hm hl r
      cases r with
      | nil => simp at hl
      | cons h t =>
        rw [List.all_cons, Bool.and_eq_true] at hm
        cases b with
        | true => exact absurd hm.1 (by decide)
        | false => exact ⟨h, ih hm.2 (by simpa using hl) t⟩
  intro ms
  induction ms with
  | nil =>
    intro ps vs as h
    have hl' := argR_len h
    cases ps with
    | cons _ _ => simp at hl'
    | nil =>
      cases vs with
      | cons _ _ => simp at hl'
      | nil =>
        cases as with
        | cons _ _ => exact h.elim
        | nil => exact base hm hl r
  | cons b ms ih =>
    intro ps vs as h
    have hl' := argR_len h
    cases ps with
    | nil => simp at hl'
    | cons p ps =>
      cases vs with
      | nil => simp at hl'
      | cons v vs =>
        cases b with
        | false => exact ⟨h.1, ih h.2⟩
        | true =>
          cases as with
          | nil => exact h.elim
          | cons a as => exact ⟨h.1, h.2.1, h.2.2.1, ih h.2.2.2⟩
theorem setOuts_own {is : List Nat} {outs : List PV} {ε ε' : Sg} (nd : is.Nodup) (e : setOuts ε is outs = some ε') {j : Nat} (h : IsOwn ε' j) : IsOwn ε j := by
  obtain ⟨_, l0, l2, l3⟩ := setOuts_get nd e
  by_cases hj : j ∈ is
  · obtain ⟨n, hn⟩ := List.mem_iff_getElem?.mp hj
    have hlt := (List.getElem?_eq_some_iff.mp hn).1
    obtain ⟨k, q, h1, _⟩ := l3 n j (outs[n]'(by omega)) hn (List.getElem?_eq_getElem _)
    exact ⟨k, q, h1⟩
  · obtain ⟨k, p, q⟩ := h
    exact ⟨k, p, by rw [← l2 j hj]; exact q⟩
theorem addr_nodup {σ : St} : ∀ {is : List Nat} {as : List Addr} {ε : Sg}, (∀ i j a, i ∈ is → j ∈ is → σ[i]? = some (some (V.ref a)) → σ[j]? = some (some (V.ref a)) → i = j) → Paired (fun i a => σ[i]? = some (some (V.ref a)) ∧ ∃ k p, ε[i]? = some (Slot.own k p)) is as → is.Nodup → as.Nodup
  | [], _, _, _, h, _ => by cases h; exact List.nodup_nil
  | i :: is, _, ε, d, h, nd => by
    cases h with
    | @cons _ a _ as h t =>
      have nd' := List.nodup_cons.mp nd
      refine List.nodup_cons.mpr ⟨fun ha => ?_, addr_nodup (fun j l b hj hl => d j l b (List.mem_cons_of_mem _ hj) (List.mem_cons_of_mem _ hl)) t nd'.2⟩
      obtain ⟨n, hn⟩ := List.mem_iff_getElem?.mp ha
      obtain ⟨j, hj, e, _⟩ := Paired.getP' t hn
      have hj := List.mem_of_getElem? hj
      exact nd'.1 (d i j a List.mem_cons_self (List.mem_cons_of_mem _ hj) h.1 e ▸ hj)
/-- the promise at the call, from what the interpreter says -/
theorem call_ok {g : Ent} {σ : St} {ε1 : Sg} {Z1 H1 : Hp} {Q : VK} {f : Nat} {fi : FnI} {rs : List Rv} {vs dvs : List V} (G1 : Good X.K g σ ε1 Z1 H1)
    (rl : Paired (OpdR X.K σ Z1) rs vs) (rd : ∀ Z, RpL X.K Z fi.dfl dvs) (h : Post E X W g σ Z1 (PR X g σ Q) (doCall Φ fi.mask fi.dfl fi.np f rs ε1)) :
    (vs.length < fi.np ∧ spF E Φ X.mg X.K fi f (vs ++ dvs) H1 Q (WE W σ)) ∨ (¬ vs.length < fi.np ∧ spF E Φ X.mg X.K fi f vs H1 Q (WE W σ)) := by
  have hvl : vs.length = rs.length := (Paired.length rl).symm
  unfold doCall at h
  split at h
  · exact h.elim
  · rename_i ps is ε2 ea
    obtain ⟨Z2, as, s2, G2, ar, ia, nd⟩ := G1.argL ea rl
    have hpl := argR_len ar
    by_cases hc : fi.mask.length = fi.np ∧ (if ps.length < fi.np then ps ++ fi.dfl else ps).length = fi.np ∧ (fi.mask.drop rs.length).all (! ·) = true
    · rw [if_pos hc] at h
      obtain ⟨hm, hl, hall⟩ := hc
      have ndA : as.Nodup := addr_nodup (fun i j a hi hj => G2.dis i j a (by
        obtain ⟨n, hn⟩ := List.mem_iff_getElem?.mp hi
        obtain ⟨_, _, _, q⟩ := Paired.getP ia hn
        exact q) (by
        obtain ⟨n, hn⟩ := List.mem_iff_getElem?.mp hj
        obtain ⟨_, _, _, q⟩ := Paired.getP ia hn
        exact q)) ia nd
      have post : PostC E X.mg X.K Z2 H1 as Q (WE W σ) (Φ f (if ps.length < fi.np then ps ++ fi.dfl else ps)) := by
        cases eo : Φ f (if ps.length < fi.np then ps ++ fi.dfl else ps) with
        | stuck => rw [eo] at h; exact h.elim
        | ok r fr outs =>
          rw [eo] at h
          dsimp only at h
          intro v Z' H' A rr
          split at h
          · rename_i ε3 es
            have G3 := G2.call ia nd es A
            refine h Z' H' (s2.trans A.zz) G3 v ?_
            unfold ResR at rr
            cases fr with
            | false => exact rr
            | true =>
              obtain ⟨a, e, z, hn, o⟩ := rr
              exact ⟨a, e, z, G2.al a hn, o, fun i oi => (G2.new hn).1 i (setOuts_own nd es oi), (G2.new hn).2⟩
          · exact h.elim
        | exc c outs =>
          rw [eo] at h
          dsimp only at h
          intro C Z' H' A cl
          split at h
          · rename_i ε3 es
            exact h Z' H' C (s2.trans A.zz) (G2.call ia nd es A) cl
          · exact h.elim
      by_cases hlt : vs.length < fi.np
      · left
        have hlp : ps.length < fi.np := by rw [hpl.1, ← hpl.2]; exact hlt
        rw [if_pos hlp] at post hl
        refine ⟨hlt, Z2, ps ++ fi.dfl, as, G2.zh, hl, ?_, ndA, post⟩
        have e : fi.mask = fi.mask.take rs.length ++ fi.mask.drop rs.length := (List.take_append_drop _ _).symm
        rw [e]
        refine argR_more hall ?_ (rd Z2) ar
        rw [List.length_append] at hl
        have h1 := hpl.1
        rw [List.length_take] at h1
        rw [List.length_drop]
        omega
      · right
        have hlp : ¬ ps.length < fi.np := by rw [hpl.1, ← hpl.2]; exact hlt
        rw [if_neg hlp] at post hl
        refine ⟨hlt, Z2, ps, as, G2.zh, hl, ?_, ndA, post⟩
        have e : fi.mask.take rs.length = fi.mask := by
          rw [List.take_of_length_le]
          omega
        rw [e] at ar
        exact ar
    · rw [if_neg hc] at h
      exact h.elim
theorem s_call (ok : Okx E Φ k S W X) {f : Nat} {fi : FnI} {as : List IE} {e : Expr} {es : List Expr} {x : Str} {p pos : Pos} (hf : E.fns[f]? = some fi) (hx : fi.name = x) (hg : glB S.sc x = true) (hs : ∀ y ∈ e :: es, noStar y = true)
    (ha : PA X (e :: es) (tA E Φ X W as)) : PE X (.Call (.Name x p) (e :: es) [] pos) (tE E Φ X W (.call f as)) := by
  subst hx
  obtain ⟨fa, fd, ps, F⟩ := ok.fn f fi hf
  obtain ⟨dvs, dv, b1, hv, hd⟩ := F.b1
  refine ⟨fun pins s σ H Q I hq => ?_⟩
  obtain ⟨g, ε, Z, G, h1⟩ := hq
  refine (pe_callX (n := fi.np) (E' := WE W) F.ok ok.gd ok.room (ok.gl hg).1 F.gm F.kp F.b0 b1 hv (fun σ => passAt ok.tk σ) ha (okN_1 (ok.gl hg).2) hs).run pins s σ H Q I ?_
  refine tA_bind G h1 fun rs ε1 Z1 H1 vs s1 G1 rl h2 => ?_
  rw [hf] at h2
  exact call_ok G1 rl hd h2
end
end Eng

namespace Eng
open PySem PySem.Spec L2
open PyProof.Rows hiding St

section
variable {E : Eng} {Φ : Nat → List PV → CO} {k : Nat} {S : Stc} {X : Cx} {W : WX}

/-! ### other tests: by the value's truth -/
def truthK (r : Rv) (ε : Sg) : Out Bool := match (r.opd.peek ε).bind truth with
  | some b => .ok b ε
  | none => .stuck
theorem bind_assoc {α β γ : Type} (x : Out α) (f : α → Sg → Out β) (h : β → Sg → Out γ) : (x.bind f).bind h = x.bind fun a ε => (f a ε).bind h := by
  cases x <;> rfl
theorem t_val {e : IE} {ex : Expr} (he : PE X ex (tE E Φ X W e)) (hv : ∀ ε, evT E Φ e ε = (evE E Φ e ε).bind truthK) (hi : ∀ whole, isTrue ex X.env whole = (do let v ← whole; standAt ex.pos; holding [v] (truthy v))) : PT X ex (tT E Φ X W e) := by
  refine ⟨fun pins s σ H Q I hq => ?_⟩
  obtain ⟨g, ε, Z, G, h1⟩ := hq
  rw [hv] at h1
  refine (pt_truth he hi).run pins s σ H Q I ?_
  refine tE_bind G h1 fun ra ε1 Z1 H1 x s1 G1 rx h2 => ?_
  unfold truthK at h2
  split at h2
  · rename_i b et
    obtain ⟨p, ep, et⟩ := truth_some et
    exact ⟨b, truth_ok G1.zh (G1.peek ep rx.rv) et, h2 Z1 H1 (.refl _) G1⟩
  · exact h2.elim
theorem v_var (i : Nat) (ε : Sg) : evT E Φ (.var i) ε = (evE E Φ (.var i) ε).bind truthK := by
  show (match (peekS ε i).bind truth with | some b => Out.ok b ε | none => .stuck) = (match ε[i]? with | some (.val p) => Out.ok (Rv.val p) ε | some (.own _ _) => .ok (Rv.own i) ε | _ => .stuck).bind truthK
  cases e : ε[i]? with
  | none => simp [peekS, e, Out.bind]
  | some s => cases s <;> simp [peekS, e, Out.bind, truthK, Rv.opd, Rv.peek]
theorem v_cst (p : PV) (ε : Sg) : evT E Φ (.cst p) ε = (evE E Φ (.cst p) ε).bind truthK := rfl
theorem v_call (f : Nat) (as : List IE) (ε : Sg) : evT E Φ (.call f as) ε = (evE E Φ (.call f as) ε).bind truthK := by
  show _ = ((evA E Φ as ε).bind fun rs ε1 => match E.fns[f]? with | some fi => doCall Φ fi.mask fi.dfl fi.np f rs ε1 | none => .stuck).bind truthK
  rw [bind_assoc]
  show (evA E Φ as ε).bind _ = _
  congr 1
  funext rs ε1
  cases E.fns[f]? <;> rfl
theorem v_blt (b : Blt) (as : List IE) (ε : Sg) : evT E Φ (.blt b as) ε = (evE E Φ (.blt b as) ε).bind truthK := by
  show _ = ((evA E Φ as ε).bind fun rs ε1 => match peekL ε1 rs with | some ps => lift (opBlt b ps) ε1 | none => .stuck).bind truthK
  rw [bind_assoc]
  show (evA E Φ as ε).bind _ = _
  congr 1
  funext rs ε1
  cases peekL ε1 rs <;> rfl
theorem v_isi (a : IE) (ty : String) (ε : Sg) : evT E Φ (.isi a ty) ε = (evE E Φ (.isi a ty) ε).bind truthK := by
  show _ = ((evE E Φ a ε).bind fun ra ε1 => match ra.opd.peek ε1 with | some p => lift ((opIsi p ty).map fun b => Rv.val (.bl b)) ε1 | none => .stuck).bind truthK
  rw [bind_assoc]
  show (evE E Φ a ε).bind _ = _
  congr 1
  funext ra ε1
  cases ra.opd.peek ε1 with
  | none => rfl
  | some p =>
    show (match opIsi p ty with | some b => Out.ok b ε1 | none => .stuck) = (lift ((opIsi p ty).map fun b => Rv.val (.bl b)) ε1).bind truthK
    cases opIsi p ty <;> rfl
theorem v_sub (a i : IE) (ε : Sg) : evT E Φ (.sub a i) ε = (evE E Φ (.sub a i) ε).bind truthK := by
  show _ = ((evE E Φ a ε).bind fun ra ε1 => (evE E Φ i ε1).bind fun rb ε2 => match ra.opd.peek ε2, rb.opd.peek ε2 with | some p, some q => lift ((opIx p q).map Rv.val) ε2 | _, _ => .stuck).bind truthK
  rw [bind_assoc]
  show (evE E Φ a ε).bind _ = _
  congr 1
  funext ra ε1
  rw [bind_assoc]
  congr 1
  funext rb ε2
  cases ra.opd.peek ε2 with
  | none => rfl
  | some p =>
    cases rb.opd.peek ε2 with
    | none => rfl
    | some q =>
      show (match (opIx p q).bind truth with | some b => Out.ok b ε2 | none => .stuck) = (lift ((opIx p q).map Rv.val) ε2).bind truthK
      cases opIx p q <;> rfl

/-! ### built-in functions, isinstance -/
theorem s_blt (ok : Okx E Φ k S W X) {b : Blt} {as : List IE} {e : Expr} {es : List Expr} {x : Str} {p pos : Pos} (hx : bltN b = x) (hb : b ∈ E.blts) (hg : glB S.sc x = true) (hs : ∀ y ∈ e :: es, noStar y = true)
    (ha : PA X (e :: es) (tA E Φ X W as)) : PE X (.Call (.Name x p) (e :: es) [] pos) (tE E Φ X W (.blt b as)) := by
  subst hx
  obtain ⟨gl, on⟩ := ok.gl hg
  have m := ok.bl b hb
  refine ⟨fun pins s σ H Q I hq => ?_⟩
  obtain ⟨g, ε, Z, G, h1⟩ := hq
  have rd : tCB (rBlt X.K b) (tA E Φ X W as) σ H Q := by
    refine tA_bind G h1 fun rs ε1 Z1 H1 vs s1 G1 rl h2 => ?_
    split at h2
    · rename_i ps ep
      obtain ⟨r, er, h4⟩ := h2.lift
      exact ⟨Z1, ps, r, G1.zh, G1.peekL ep rl, er, Kont.of G1 h4⟩
    · exact h2.elim
  have he := starEach_no (env := X.env) (es := es) (hs e List.mem_cons_self)
  have hp := star_any (env := X.env) (pos := pos) fun y hy => hs y (List.mem_cons_of_mem e hy)
  have c := call_blt (X := X) ok.gd (by have := ok.room.un; omega) ok.calm b
  cases hbg : bltG b with
  | true =>
    rw [if_pos hbg] at m
    cases b <;> first | cases hbg | skip
    exact (pe_callBfun c gl m ha (okN_1 on) he hp).run pins s σ H Q I rd
  | false =>
    rw [if_neg (by rw [hbg]; exact Bool.false_ne_true)] at m
    have bo := blt_boot b hbg
    cases b with
    | gcd => cases hbg
    | int => exact (pe_callTy c gl m bo ha (okN_3 on) (okN_1 on) he hp).run pins s σ H Q I rd
    | abs => exact (pe_callB c gl m bo ha (okN_3 on) (okN_1 on) he hp).run pins s σ H Q I rd
    | len => exact (pe_callB c gl m bo ha (okN_3 on) (okN_1 on) he hp).run pins s σ H Q I rd
    | all => exact (pe_callB c gl m bo ha (okN_3 on) (okN_1 on) he hp).run pins s σ H Q I rd
    | repr => exact (pe_callB c gl m bo ha (okN_3 on) (okN_1 on) he hp).run pins s σ H Q I rd
    | sorted => exact (pe_callB c gl m bo ha (okN_3 on) (okN_1 on) he hp).run pins s σ H Q I rd
    | any => exact (pe_callB c gl m bo ha (okN_3 on) (okN_1 on) he hp).run pins s σ H Q I rd
    | min => exact (pe_callB c gl m bo ha (okN_3 on) (okN_1 on) he hp).run pins s σ H Q I rd
    | max => exact (pe_callB c gl m bo ha (okN_3 on) (okN_1 on) he hp).run pins s σ H Q I rd
    | str => exact (pe_callTy c gl m bo ha (okN_3 on) (okN_1 on) he hp).run pins s σ H Q I rd
    | list => exact (pe_callTy c gl m bo ha (okN_3 on) (okN_1 on) he hp).run pins s σ H Q I rd
    | tuple => exact (pe_callTy c gl m bo ha (okN_3 on) (okN_1 on) he hp).run pins s σ H Q I rd
theorem s_isi (ok : Okx E Φ k S W X) {a : IE} {ty : String} {e : Expr} {y : Str} {p p2 pos : Pos} (hy : Str.ofString ty = y) (ht : ty ∈ E.tys) (hg : glB S.sc "isinstance" = true) (hgy : glB S.sc y = true) (hs : noStar e = true)
    (ha : PE X e (tE E Φ X W a)) : PE X (.Call (.Name "isinstance" p) [e, .Name y p2] [] pos) (tE E Φ X W (.isi a ty)) := by
  subst hy
  obtain ⟨gl, on⟩ := ok.gl hg
  obtain ⟨gy, ony⟩ := ok.gl hgy
  obtain ⟨m1, m2, m3⟩ := ok.ty ty ht
  refine ⟨fun pins s σ H Q I hq => ?_⟩
  obtain ⟨g, ε, Z, G, h1⟩ := hq
  have pe2 : PE X (.Name (Str.ofString ty) p2) (tC (.ty ty)) := pe_bltn gy m1 m2 rfl (okN_3 ony) (okN_1 ony)
  refine (pe_callB call_isiE gl m3 (by decide +kernel) (pa_cons ha (pa_cons pe2 pa_nil rfl) (starEach_no hs)) (by decide) (by decide) (starEach_no hs) rfl).run pins s σ H Q I ?_
  refine tE_bind G h1 fun ra ε1 Z1 H1 x s1 G1 rx h2 => ?_
  split at h2
  · rename_i q ep
    cases eo : opIsi q ty with
    | none => rw [eo] at h2; exact h2.elim
    | some b => rw [eo] at h2; exact ⟨Z1, q, x, ty, b, rfl, G1.zh, G1.peek ep rx.rv, eo, h2 Z1 H1 (.refl _) G1 _ (.bl b)⟩
  · exact h2.elim

/-! ### a list of one's own is changed -/
theorem Good.setOwn {g : Ent} {σ : St} {ε : Sg} {Z H : Hp} {i : Nat} {a : Addr} {kk : Bool} {p p' : PV} {o : HO} (G : Good X.K g σ ε Z H) (e : ε[i]? = some (.own kk p)) (es : σ[i]? = some (some (V.ref a))) (r : OwnR X.K Z (upd H a o) a p') :
    Good X.K g σ (ε.set i (.own kk p')) Z (upd H a o) := by
  obtain ⟨b, h1, h2, h3, _⟩ := G.slot _ _ e
  rw [es] at h1
  cases h1
  refine G.call (as := [a]) (is := [i]) (outs := [p']) (.cons ⟨es, _, _, e⟩ .nil) (by simp) (by unfold setOuts; rw [e]; rfl) ⟨.refl _, fun b u q => ?_, fun b u q hb => ?_, fun b q => ?_, fun b z => .inl z, .cons r .nil⟩
  · rw [upd_ne (ne_of_none q h2)]; exact G.zh _ _ q
  · rw [upd_ne (by simpa using hb)]; exact q
  · by_cases hb : b = a
    · subst hb; rw [upd_same] at q; cases q
    · rw [upd_ne hb] at q; exact q
theorem mu_start (ok : Okx E Φ k S W X) {g : Ent} {σ : St} {ε : Sg} {Z H : Hp} {i : Nat} {l : List PV} (G : Good X.K g σ ε Z H) (e : peekS ε i = some (.lst l)) : ∃ a, σ[i]? = some (some (V.ref a)) ∧ tyV X.K "list" (.ref a) H := by
  obtain ⟨v, h1, h2⟩ := G.peekS e
  obtain ⟨a, vs, rfl, h3, _⟩ := h2.lst G.zh
  exact ⟨a, h1, .inl ⟨rfl, vs, .inl h3⟩⟩
theorem opMut_pop {p p' r : PV} (e : opMut .pop p [] = some (p', r)) : ∃ l, p = .lst l ∧ l[l.length - 1]? = some r ∧ p' = .lst l.dropLast := by
  cases p with
  | lst l =>
    refine ⟨l, rfl, ?_⟩
    have e : (match l[l.length - 1]? with | some p => some (PV.lst l.dropLast, p) | none => none) = some (p', r) := e
    cases h : l[l.length - 1]? with
    | none => rw [h] at e; cases e
    | some q => rw [h] at e; cases e; exact ⟨rfl, rfl⟩
  | _ => cases e
theorem s_append (ok : Okx E Φ k S W X) {i : Nat} {a : IE} {x : Str} {e : Expr} {px apos cpos : Pos} (hv : (decide (S.N[i]? = some x) && visB S.sc x && okN x) = true) (hline : (apos.endLine == cpos.line) = true) (hs : noStar e = true)
    (ha : PA X [e] (tA E Φ X W [a])) : PE X (.Call (.Attribute (.Name x px) "append" apos) [e] [] cpos) (tE E Φ X W (.mut .append i [a])) := by
  refine ⟨fun pins s σ H Q I hq => ?_⟩
  obtain ⟨g, ε, Z, G, h1⟩ := hq
  refine (pe_bm PySem.F.plainAttrs_list PySem.F.slot_list_append PySem.F.type_list_append mt_append (ok.vis hv) ha rfl (by rw [starEach_no hs]; rfl) hline (starEach_no hs) rfl).run pins s σ H Q I ?_
  have h1 : Post E X W g σ Z (PR X g σ Q) (if 1 = 1 then match peekS ε i with
    | some (.lst _) => (evA E Φ [a] ε).bind fun rs ε1 => match Eng.frzL rs ε1 with
      | some (ps, ε2) => match ε2[i]? with
        | some (.own k p) => match opMut .append p ps with
          | some (p', r) => .ok (.val r) (ε2.set i (.own k p'))
          | none => .stuck
        | _ => .stuck
      | none => .stuck
    | _ => .stuck else .stuck) := h1
  rw [if_pos rfl] at h1
  split at h1
  · rename_i l el
    obtain ⟨b, hb, ty⟩ := mu_start ok G el
    refine ⟨.ref b, hb, ty, tA_bind G h1 fun rs ε1 Z1 H1 vs s1 G1 rl h2 => ?_⟩
    split at h2
    · rename_i ps ε2 ef
      obtain ⟨Z2, s2, G2, r2⟩ := G1.frzL ef rl
      split at h2
      · rename_i kk p ei
        obtain ⟨b', e1, e2, e3, _⟩ := G2.slot _ _ ei
        rw [hb] at e1
        cases e1
        cases eo : opMut .append p ps with
        | none => rw [eo] at h2; exact h2.elim
        | some q =>
          obtain ⟨p', r⟩ := q
          rw [eo] at h2
          unfold opMut at eo
          split at eo <;> first | (cases eo; done) | skip
          · rename_i l' p1 _
            split at eo
            · rename_i hz
              cases eo
              obtain ⟨xs, e4, r4⟩ := e3
              obtain ⟨y, rfl, r5⟩ := r2.one
              refine ⟨b, xs, y, rfl, rfl, e4, by rw [r4.length]; exact hz, ?_⟩
              exact h2 Z2 _ s2 (G2.setOwn ei hb ⟨_, upd_same, r4.snoc r5⟩) _ .non
            · cases eo
          · rename_i hh
            cases hh
      · exact h2.elim
    · exact h2.elim
  · exact h1.elim
theorem s_pop (ok : Okx E Φ k S W X) {i : Nat} {x : Str} {px apos cpos : Pos} (hv : (decide (S.N[i]? = some x) && visB S.sc x && okN x) = true) (hline : (apos.endLine == cpos.line) = true) :
    PE X (.Call (.Attribute (.Name x px) "pop" apos) [] [] cpos) (tE E Φ X W (.mut .pop i [])) := by
  refine ⟨fun pins s σ H Q I hq => ?_⟩
  obtain ⟨g, ε, Z, G, h1⟩ := hq
  refine (pe_bm0 PySem.F.plainAttrs_list PySem.F.slot_list_pop PySem.F.type_list_pop mt_pop (ok.vis hv) rfl hline).run pins s σ H Q I ?_
  have h1 : Post E X W g σ Z (PR X g σ Q) (if 0 = 0 then match peekS ε i with
    | some (.lst _) => match ε[i]? with
        | some (.own k p) => match opMut .pop p [] with
          | some (p', r) => .ok (.val r) (ε.set i (.own k p'))
          | none => .stuck
        | _ => .stuck
    | _ => .stuck else .stuck) := h1
  rw [if_pos rfl] at h1
  split at h1
  · rename_i l el
    obtain ⟨b, hb, ty⟩ := mu_start ok G el
    refine ⟨.ref b, hb, ty, ?_⟩
    split at h1
    · rename_i kk p ei
      obtain ⟨b', e1, e2, e3, _⟩ := G.slot _ _ ei
      rw [hb] at e1
      cases e1
      cases eo : opMut .pop p [] with
      | none => rw [eo] at h1; exact h1.elim
      | some q =>
        obtain ⟨p', r⟩ := q
        rw [eo] at h1
        obtain ⟨l', rfl, hy, rfl⟩ := opMut_pop eo
        obtain ⟨xs, e4, r4⟩ := e3
        obtain ⟨w, h5, r5⟩ := r4.get hy
        refine ⟨b, xs, w, rfl, rfl, e4, by rw [r4.length]; exact h5, ?_⟩
        refine h1 Z _ (.refl _) (G.setOwn ei hb ⟨_, upd_same, ?_⟩) _ r5
        rw [List.dropLast_eq_take, List.dropLast_eq_take, r4.length]
        exact r4.take _
    · exact h1.elim
  · exact h1.elim
end
end Eng

namespace Eng
open PySem PySem.Spec L2
open PyProof.Rows hiding St

section
variable {E : Eng} {Φ : Nat → List PV → CO} {k : Nat} {S : Stc} {X : Cx} {W : WX}

/-! ### targets -/
theorem Good.setVal {g : Ent} {σ : St} {ε : Sg} {Z H : Hp} {i : Nat} {p : PV} {v : V} (G : Good X.K g σ ε Z H) (hi : i < ε.length) (hn : ∀ q, ε[i]? ≠ some (.own false q)) (r : Rp X.K Z p v) : Good X.K g (σ.set i (some v)) (ε.set i (.val p)) Z H where
  len := by rw [List.length_set, List.length_set]; exact G.len
  slot := fun j s hs => by
    rcases getElem?_set_eq hs with ⟨rfl, rfl⟩ | ⟨nj, hs⟩
    · exact ⟨v, by rw [List.getElem?_set_self (by rw [G.len]; exact hi)], r⟩
    · have q := G.slot j s hs
      cases s with
      | none => trivial
      | val p => obtain ⟨u, q1, q2⟩ := q; exact ⟨u, by rw [List.getElem?_set_ne (Ne.symm nj)]; exact q1, q2⟩
      | own k p => obtain ⟨b, q1, q2⟩ := q; exact ⟨b, by rw [List.getElem?_set_ne (Ne.symm nj)]; exact q1, q2⟩
  dis := fun j l a oj ol ej el => by
    obtain ⟨nj, oj⟩ := isOwn_set_val oj
    obtain ⟨nl, ol⟩ := isOwn_set_val ol
    rw [List.getElem?_set_ne (Ne.symm nj)] at ej
    rw [List.getElem?_set_ne (Ne.symm nl)] at el
    exact G.dis j l a oj ol ej el
  zh := G.zh
  hh := G.hh
  al := G.al
  zf := G.zf
  zz := G.zz
  io := fun j a hj => by
    obtain ⟨h1, p', h2⟩ := G.io j a hj
    have nj : i ≠ j := fun z => by subst z; exact hn _ h2
    exact ⟨by rw [List.getElem?_set_ne nj]; exact h1, p', by rw [List.getElem?_set_ne nj]; exact h2⟩
  pr := fun q hq => by
    obtain ⟨q1, q2, q3⟩ := G.pr q hq
    refine ⟨q1, q2, fun j oj => ?_⟩
    obtain ⟨nj, oj⟩ := isOwn_set_val oj
    rw [List.getElem?_set_ne (Ne.symm nj)]
    exact q3 j oj
/-- what is wanted of a target -/
def gT (X : Cx) (t : Tg) : TG := fun v σ H Q => ∃ g ε Z p ε', Good X.K g σ ε Z H ∧ Rp X.K Z p v ∧ asgT t p ε = some ε' ∧ ∀ σ', Good X.K g σ' ε' Z H → (∀ j, j ∉ tgS t → σ'[j]? = σ[j]?) → Q σ' H
def gTs (X : Cx) (ts : List Tg) : TGs := fun vs σ H Q => ∃ g ε Z ps ε', Good X.K g σ ε Z H ∧ RpL X.K Z ps vs ∧ asgTs ts ps ε = some ε' ∧ ∀ σ', Good X.K g σ' ε' Z H → (∀ j, j ∉ tgSs ts → σ'[j]? = σ[j]?) → Q σ' H
theorem assignEach_no : ∀ {es : List Expr} {env : Env}, (∀ e ∈ es, noStar e = true) → (assignEach es env).length = es.length ∧ (assignEach es env).findIdx? (·.1) = none
  | [], _, _ => ⟨rfl, rfl⟩
  | e :: es, env, h => by
    obtain ⟨h1, h2⟩ := assignEach_no (es := es) (env := env) fun x hx => h x (List.mem_cons_of_mem _ hx)
    have e1 : assignEach (e :: es) env = (false, assign e env) :: assignEach es env := by
      have := h e List.mem_cons_self
      cases e <;> first | rfl | cases this
    rw [e1]
    refine ⟨by rw [List.length_cons, h1, List.length_cons], ?_⟩
    rw [List.findIdx?_cons, h2]
    rfl
theorem stB_of {so : Scope} {x : Str} (h : stB so x = true) : so.names.lookup x = some .local ∨ so.names.lookup x = some .cell := by
  unfold stB at h
  split at h
  · exact .inl (by assumption)
  · exact .inr (by assumption)
  · cases h
theorem mtTs_star : ∀ {l : List Tg} {es : List Expr}, mtTs S l es = true → es.length = l.length ∧ ∀ e ∈ es, noStar e = true
  | [], [], _ => ⟨rfl, fun e he => absurd he (by simp)⟩
  | [], _ :: _, h => by cases h
  | _ :: _, [], h => by cases h
  | a :: l, e :: es, h => by
    unfold mtTs at h
    simp only [Bool.and_eq_true] at h
    obtain ⟨h1, h2⟩ := mtTs_star h.1.2
    refine ⟨by simp [h1], fun x hx => ?_⟩
    rcases List.mem_cons.mp hx with rfl | hx
    · exact h.2
    · exact h2 x hx
theorem asgTs_len : ∀ {ts : List Tg} {ps : List PV} {ε ε' : Sg}, asgTs ts ps ε = some ε' → ps.length = ts.length
  | [], [], _, _, _ => rfl
  | [], _ :: _, _, _, e => by cases e
  | _ :: _, [], _, _, e => by cases e
  | t :: ts, p :: ps, ε, ε', e => by
    unfold asgTs at e
    split at e
    · rw [List.length_cons, List.length_cons, asgTs_len e]
    · cases e
mutual
theorem s_tg (ok : Okx E Φ k S W X) : ∀ {t : Tg} {ex : Expr}, mtT S t ex = true → PG X ex (gT X t)
  | .nm i, ex, m => by
    cases ex <;> first | (exact absurd m Bool.false_ne_true) | skip
    rename_i x pos
    have m : (decide (S.N[i]? = some x) && stB S.so x) = true := m
    simp only [Bool.and_eq_true, decide_eq_true_eq] at m
    obtain ⟨lo, fn⟩ := ok.st x (stB_of m.2)
    refine ⟨fun pins s σ H v u Q I r hq => ?_⟩
    obtain ⟨g, ε, Z, p, ε', G, rp, e, q⟩ := hq
    have hi : X.N[i]? = some x := by rw [ok.N]; exact m.1
    refine (pg_name (by rw [ok.N]; exact ok.nd) hi lo fn).run pins s σ H v u Q I r ?_
    have e : (match ε[i]? with | some (.own false _) => none | some _ => some (ε.set i (.val p)) | none => none) = some ε' := e
    split at e
    · cases e
    · rename_i s' hno hs
      cases e
      refine q _ (G.setVal (List.getElem?_eq_some_iff.mp hs).1 (fun q z => by rw [hs] at z; cases z; exact hno _ rfl) rp) fun j hj => ?_
      have hj : j ∉ [i] := hj
      rw [List.getElem?_set_ne]
      intro z
      exact hj (by simp [z])
    · cases e
  | .tp l, ex, m => by
    cases ex <;> first | (exact absurd m Bool.false_ne_true) | skip
    rename_i es n pos
    have m : mtTs S l es = true := m
    obtain ⟨hlen, hst⟩ := mtTs_star m
    obtain ⟨a1, a2⟩ := assignEach_no (env := X.env) hst
    refine ⟨fun pins s σ H v u Q I r hq => ?_⟩
    obtain ⟨g, ε, Z, p, ε', G, rp, e, q⟩ := hq
    cases p <;> first | (cases e; done) | skip
    · rename_i ps
      have e : asgTs l ps ε = some ε' := e
      obtain ⟨a, vs, rfl, h1, h2⟩ := View.tup G.zh (.inl rp)
      refine (pg_tup ok.calm (s_tgs ok m) a1 a2).run pins s σ H _ u Q I r ?_
      exact ⟨a, vs, rfl, h1, by rw [h2.length, asgTs_len e, hlen], g, ε, Z, ps, ε', G, h2, e, q⟩
    · rename_i ps
      have e : asgTs l ps ε = some ε' := e
      obtain ⟨a, vs, rfl, h1, h2⟩ := View.lst G.zh (.inl rp)
      refine (pg_lst ok.calm (s_tgs ok m) a1 a2).run pins s σ H _ u Q I r ?_
      exact ⟨a, vs, rfl, .inl h1, by rw [h2.length, asgTs_len e, hlen], g, ε, Z, ps, ε', G, h2, e, q⟩
theorem s_tgs (ok : Okx E Φ k S W X) : ∀ {ts : List Tg} {es : List Expr}, mtTs S ts es = true → PGs X es (gTs X ts)
  | [], es, m => by
    cases es <;> first | (exact absurd m Bool.false_ne_true) | skip
    refine ⟨fun pins s σ H vs us Q I r hq => ?_⟩
    obtain ⟨g, ε, Z, ps, ε', G, rp, e, q⟩ := hq
    cases ps <;> first | (cases e; done) | skip
    cases e
    cases rp
    exact pgs_nil.run pins s σ H _ us Q I r ⟨rfl, q σ G fun _ _ => rfl⟩
  | t :: ts, es, m => by
    cases es with
    | nil => exact absurd m Bool.false_ne_true
    | cons e0 es =>
    have m : (mtT S t e0 && mtTs S ts es && noStar e0) = true := m
    simp only [Bool.and_eq_true] at m
    have ea : assignEach (e0 :: es) X.env = (false, assign e0 X.env) :: assignEach es X.env := by
      have := m.2
      cases e0 <;> first | rfl | cases this
    refine ⟨fun pins s σ H vs us Q I r hq => ?_⟩
    obtain ⟨g, ε, Z, ps, ε', G, rp, e, q⟩ := hq
    cases ps with
    | nil => cases e
    | cons p ps =>
    cases rp with
    | @cons _ v _ vs h t' =>
    unfold asgTs at e
    split at e
    · rename_i ε1 e1
      refine (pgs_cons (s_tg ok m.1.1) (s_tgs ok m.1.2) (by rw [ea]; rfl)).run pins s σ H _ us Q I r ?_
      refine ⟨v, vs, rfl, g, ε, Z, p, ε1, G, h, e1, fun σ1 G1 k1 => ?_⟩
      refine ⟨g, ε1, Z, ps, ε', G1, t', e, fun σ2 G2 k2 => q σ2 G2 fun j hj => ?_⟩
      have hj : j ∉ tgS t ++ tgSs ts := hj
      rw [List.mem_append, not_or] at hj
      rw [k2 j hj.2, k1 j hj.1]
    · cases e
end
end
end Eng

set_option maxHeartbeats 4000000
namespace Eng
open PySem PySem.Spec L2
open PyProof.Rows hiding St

/-! ### what is walked -/
structure SrcJ (X : Cx) (g : Ent) (r : Rv) (v : V) (po : Option PV) (items : List PV) (J : It) : Prop where
  stop : ∀ {i : Nat} {τ : St} {ε : Sg} {Z H : Hp}, Good X.K g τ ε Z H → r.peek ε = po → OpdR X.K τ Z r v → items.length ≤ i → J.stop i H
  go : ∀ {i : Nat} {τ : St} {ε : Sg} {Z H : Hp}, Good X.K g τ ε Z H → r.peek ε = po → OpdR X.K τ Z r v → i < items.length → J.go i H
  yld : ∀ {i : Nat} {τ : St} {ε : Sg} {Z H H' : Hp} {x : V} {p : PV}, Good X.K g τ ε Z H → r.peek ε = po → OpdR X.K τ Z r v → J.yld i H x H' → items[i]? = some p →
    ∃ Z', Same Z Z' ∧ Good X.K g τ ε Z' H' ∧ Rp X.K Z' p x ∧ ∀ b, H b ≠ none → H' b = H b ∧ Z' b = Z b
section
variable {X : Cx} {g : Ent} {r : Rv} {a : Addr} {l : List PV}
theorem src_tup : SrcJ X g r (.ref a) (some (.tup l)) l (Itt X.K a) where
  stop := fun {i τ ε Z H} G pk ro hl => by
    obtain ⟨a', vs, ea, h4, h5⟩ := (G.peek pk ro.rv).tup G.zh
    cases ea
    exact ⟨vs, h4, by rw [h5.length]; exact hl⟩
  go := fun {i τ ε Z H} G pk ro hl => by
    obtain ⟨a', vs, ea, h4, h5⟩ := (G.peek pk ro.rv).tup G.zh
    cases ea
    obtain ⟨x, hx, _⟩ := h5.get (List.getElem?_eq_getElem hl)
    exact ⟨vs, x, h4, hx⟩
  yld := fun {i τ ε Z H H' x p} G pk ro y hp => by
    obtain ⟨a', vs, ea, h4, h5⟩ := (G.peek pk ro.rv).tup G.zh
    cases ea
    obtain ⟨rfl, y⟩ := y
    obtain ⟨x', hx, rp⟩ := h5.get hp
    rw [y vs h4] at hx
    cases hx
    exact ⟨Z, .refl _, G, rp, fun _ _ => ⟨rfl, rfl⟩⟩
/-- a list, whichever -/
theorem view_list {K : Fg} {Z H : Hp} {p0 : PV} {v : V} (zh : Same Z H) (e : p0 = .lst l ∨ p0 = .scr l) (h : View K Z H p0 v) : ∃ a xs, v = .ref a ∧ SqL K H a xs ∧ RpL K Z l xs := by
  rcases e with rfl | rfl
  · obtain ⟨a, vs, rfl, h1, h2⟩ := h.lst zh
    exact ⟨a, vs, rfl, .inl h1, h2⟩
  · obtain ⟨a, vs, rfl, h1, h2⟩ := h.scr zh
    exact ⟨a, vs, rfl, h1, h2⟩
theorem src_lst {p0 : PV} (e0 : p0 = .lst l ∨ p0 = .scr l) : SrcJ X g r (.ref a) (some p0) l (Itl X.K a) where
  stop := fun {i τ ε Z H} G pk ro hl => by
    obtain ⟨a', vs, ea, h4, h5⟩ := view_list G.zh e0 (G.peek pk ro.rv)
    cases ea
    exact ⟨vs, h4, by rw [h5.length]; exact hl⟩
  go := fun {i τ ε Z H} G pk ro hl => by
    obtain ⟨a', vs, ea, h4, h5⟩ := view_list G.zh e0 (G.peek pk ro.rv)
    cases ea
    obtain ⟨x, hx, _⟩ := h5.get (List.getElem?_eq_getElem hl)
    exact ⟨vs, x, h4, hx⟩
  yld := fun {i τ ε Z H H' x p} G pk ro y hp => by
    obtain ⟨a', vs, ea, h4, h5⟩ := view_list G.zh e0 (G.peek pk ro.rv)
    cases ea
    obtain ⟨rfl, y⟩ := y
    obtain ⟨x', hx, rp⟩ := h5.get hp
    rw [y vs h4] at hx
    cases hx
    exact ⟨Z, .refl _, G, rp, fun _ _ => ⟨rfl, rfl⟩⟩
theorem src_rng {lo : Int} {n : Nat} {v : V} : SrcJ X g (.val .non) v (some .non) (rngL lo n) (Itr lo n) where
  stop := fun {i τ ε Z H} G pk ro hl => by
    have hl : ((List.range n).map fun k => PV.int (lo + (k : Nat))).length ≤ i := hl
    rw [List.length_map, List.length_range] at hl
    exact hl
  go := fun {i τ ε Z H} G pk ro hl => by
    have hl : i < ((List.range n).map fun k => PV.int (lo + (k : Nat))).length := hl
    rw [List.length_map, List.length_range] at hl
    exact hl
  yld := fun {i τ ε Z H H' x p} G pk ro y hp => by
    obtain ⟨rfl, rfl⟩ := y
    have hp : ((List.range n).map fun k => PV.int (lo + (k : Nat)))[i]? = some p := hp
    rw [List.getElem?_map] at hp
    cases e : (List.range n)[i]? with
    | none => rw [e] at hp; cases hp
    | some j =>
      rw [e] at hp
      cases hp
      have : j = i := by
        have h := List.getElem?_eq_some_iff.mp e
        obtain ⟨h1, h2⟩ := h
        rw [List.getElem_range] at h2
        exact h2.symm
      subst this
      exact ⟨Z, .refl _, G, .int _, fun _ _ => ⟨rfl, rfl⟩⟩
theorem src_rngC {lo c : Int} {n : Nat} {v : V} : SrcJ X g (.val .non) v (some .non) (rngC lo c n) (Itc lo c n) where
  stop := fun {i τ ε Z H} G pk ro hl => by
    have hl : ((List.range n).map fun k => PV.int (lo + (k : Nat) * c)).length ≤ i := hl
    rw [List.length_map, List.length_range] at hl
    exact hl
  go := fun {i τ ε Z H} G pk ro hl => by
    have hl : i < ((List.range n).map fun k => PV.int (lo + (k : Nat) * c)).length := hl
    rw [List.length_map, List.length_range] at hl
    exact hl
  yld := fun {i τ ε Z H H' x p} G pk ro y hp => by
    obtain ⟨rfl, rfl⟩ := y
    have hp : ((List.range n).map fun k => PV.int (lo + (k : Nat) * c))[i]? = some p := hp
    rw [List.getElem?_map] at hp
    cases e : (List.range n)[i]? with
    | none => rw [e] at hp; cases hp
    | some j =>
      rw [e] at hp
      cases hp
      have : j = i := by
        have h := List.getElem?_eq_some_iff.mp e
        obtain ⟨h1, h2⟩ := h
        rw [List.getElem_range] at h2
        exact h2.symm
      subst this
      exact ⟨Z, .refl _, G, .int _, fun _ _ => ⟨rfl, rfl⟩⟩
theorem rev_get {α : Type} {l : List α} {i : Nat} (h : i < l.length) : l.reverse[i]? = l[l.length - 1 - i]? := by
  rw [List.getElem?_reverse h]
theorem src_revL {p0 : PV} (e0 : p0 = .lst l ∨ p0 = .scr l) : SrcJ X g r (.ref a) (some p0) l.reverse (Itv X.K a l.length) where
  stop := fun {i τ ε Z H} G pk ro hl => by
    rw [List.length_reverse] at hl
    exact hl
  go := fun {i τ ε Z H} G pk ro hl => by
    rw [List.length_reverse] at hl
    obtain ⟨a', vs, ea, h4, h5⟩ := view_list G.zh e0 (G.peek pk ro.rv)
    cases ea
    obtain ⟨x, hx, _⟩ := h5.get (i := l.length - 1 - i) (List.getElem?_eq_getElem (by omega))
    exact ⟨hl, vs, x, h4, hx⟩
  yld := fun {i τ ε Z H H' x p} G pk ro y hp => by
    obtain ⟨a', vs, ea, h4, h5⟩ := view_list G.zh e0 (G.peek pk ro.rv)
    cases ea
    obtain ⟨rfl, y⟩ := y
    have hi : i < l.length := by
      have := (List.getElem?_eq_some_iff.mp hp).1
      rwa [List.length_reverse] at this
    rw [rev_get hi] at hp
    obtain ⟨x', hx, rp⟩ := h5.get hp
    rw [y vs h4] at hx
    cases hx
    exact ⟨Z, .refl _, G, rp, fun _ _ => ⟨rfl, rfl⟩⟩
theorem src_revT : SrcJ X g r (.ref a) (some (.tup l)) l.reverse (RT.ItvT X.K a l.length) where
  stop := fun {i τ ε Z H} G pk ro hl => by
    rw [List.length_reverse] at hl
    exact hl
  go := fun {i τ ε Z H} G pk ro hl => by
    rw [List.length_reverse] at hl
    obtain ⟨a', vs, ea, h4, h5⟩ := (G.peek pk ro.rv).tup G.zh
    cases ea
    obtain ⟨x, hx, _⟩ := h5.get (i := l.length - 1 - i) (List.getElem?_eq_getElem (by omega))
    exact ⟨hl, vs, x, h4, hx⟩
  yld := fun {i τ ε Z H H' x p} G pk ro y hp => by
    obtain ⟨a', vs, ea, h4, h5⟩ := (G.peek pk ro.rv).tup G.zh
    cases ea
    obtain ⟨rfl, y⟩ := y
    have hi : i < l.length := by
      have := (List.getElem?_eq_some_iff.mp hp).1
      rwa [List.length_reverse] at this
    rw [rev_get hi] at hp
    obtain ⟨x', hx, rp⟩ := h5.get hp
    rw [y vs h4] at hx
    cases hx
    exact ⟨Z, .refl _, G, rp, fun _ _ => ⟨rfl, rfl⟩⟩
theorem src_str {s : Str} {v : V} {po : Option PV} : SrcJ X g r v po (s.cps.toList.map fun c => .str ⟨#[c]⟩) (Its s) where
  stop := fun {i τ ε Z H} G pk ro hl => by
    rw [List.length_map, Array.length_toList] at hl
    exact hl
  go := fun {i τ ε Z H} G pk ro hl => by
    rw [List.length_map, Array.length_toList] at hl
    exact hl
  yld := fun {i τ ε Z H H' x p} G pk ro y hp => by
    obtain ⟨rfl, c, hc, rfl⟩ := y
    rw [List.getElem?_map, Array.getElem?_toList, hc] at hp
    cases hp
    exact ⟨Z, .refl _, G, .str _, fun _ _ => ⟨rfl, rfl⟩⟩
end

section
variable {E : Eng} {Φ : Nat → List PV → CO} {k : Nat} {S : Stc} {X : Cx} {W : WX}
def PI2 (X : Cx) (g : Ent) (σ : St) (R : It → Hp → Prop) : Rv × List PV → Sg → Hp → Hp → Prop := fun q ε' Z' H' => ∀ v J, OpdR X.K σ Z' q.1 v → SrcJ X g q.1 v (q.1.peek ε') q.2 J → R J H'
noncomputable def evI (E : Eng) (Φ : Nat → List PV → CO) (sk : Src) (its : List IE) (ε : Sg) : Out (Rv × List PV) := (evA E Φ its ε).bind fun rs ε1 => match srcI sk rs ε1 with
  | some q => .ok q ε1
  | none => .stuck
def tI (E : Eng) (Φ : Nat → List PV → CO) (X : Cx) (W : WX) (sk : Src) (its : List IE) : TI := fun σ H R => ∃ g ε Z, Good X.K g σ ε Z H ∧ Post E X W g σ Z (PI2 X g σ R) (evI E Φ sk its ε)
/-- one argument -/
theorem evI_one {sk : Src} {e : IE} {ε : Sg} : evI E Φ sk [e] ε = (evE E Φ e ε).bind fun r ε1 => match srcI sk [r.opd] ε1 with
  | some q => .ok q ε1
  | none => .stuck := by
  unfold evI
  show ((evE E Φ e ε).bind fun r ε1 => Out.ok [r.opd] ε1).bind _ = _
  cases evE E Φ e ε <;> rfl
theorem s_srcV {tg : Expr} {e : IE} {ex : Expr} (h : PE X ex (tE E Φ X W e)) : PI X tg ex (tI E Φ X W .val [e]) := by
  refine ⟨fun pins s σ H R I hq => ?_⟩
  obtain ⟨g, ε, Z, G, h1⟩ := hq
  rw [evI_one] at h1
  cases hev : evE E Φ e ε with
  | stuck => rw [hev] at h1; exact h1.elim
  | exc c ε1 =>
    rw [hev] at h1
    refine (pi_list h).run pins s σ H R I ⟨g, ε, Z, G, ?_⟩
    rw [hev]; exact h1
  | ok r ε1 =>
    rw [hev] at h1
    have h1 : Post E X W g σ Z (PI2 X g σ R) (match (r.opd.peek ε1).bind fun p => (itemsOf p).map fun l => (r.opd, l) with | some q => .ok q ε1 | none => .stuck) := h1
    cases ep : r.opd.peek ε1 with
    | none => rw [ep] at h1; exact h1.elim
    | some p0 =>
      rw [ep] at h1
      have h1 : Post E X W g σ Z (PI2 X g σ R) (match (itemsOf p0).map fun l => (r.opd, l) with | some q => .ok q ε1 | none => .stuck) := h1
      cases p0 <;> first | (exact h1.elim) | skip
      · -- a text
        rename_i x _
        refine (pi_str h).run pins s σ H R I ⟨g, ε, Z, G, ?_⟩
        rw [hev]
        intro Z1 H1 s1 G1 v rv
        obtain ⟨Z2, s2, G2, ro⟩ := G1.opd rv
        obtain rfl := (G2.peek ep ro.rv).str
        exact ⟨x, rfl, h1 Z2 H1 (s1.trans s2) G2 _ (Its x) ro src_str⟩
      · rename_i l _
        refine (pi_tup h).run pins s σ H R I ⟨g, ε, Z, G, ?_⟩
        rw [hev]
        intro Z1 H1 s1 G1 v rv
        obtain ⟨Z2, s2, G2, ro⟩ := G1.opd rv
        obtain ⟨a, vs, rfl, h4, h5⟩ := (G2.peek ep ro.rv).tup G2.zh
        refine ⟨a, rfl, ⟨vs, h4⟩, h1 Z2 H1 (s1.trans s2) G2 _ (Itt X.K a) ro ?_⟩
        show SrcJ X g r.opd _ (r.opd.peek ε1) l _
        rw [ep]
        exact src_tup
      · rename_i l _
        refine (pi_list h).run pins s σ H R I ⟨g, ε, Z, G, ?_⟩
        rw [hev]
        intro Z1 H1 s1 G1 v rv
        obtain ⟨Z2, s2, G2, ro⟩ := G1.opd rv
        obtain ⟨a, vs, rfl, h4, h5⟩ := view_list G2.zh (.inl rfl) (G2.peek ep ro.rv)
        refine ⟨a, rfl, ⟨vs, h4⟩, h1 Z2 H1 (s1.trans s2) G2 _ (Itl X.K a) ro ?_⟩
        show SrcJ X g r.opd _ (r.opd.peek ε1) l _
        rw [ep]
        exact src_lst (.inl rfl)
      · rename_i l _
        refine (pi_list h).run pins s σ H R I ⟨g, ε, Z, G, ?_⟩
        rw [hev]
        intro Z1 H1 s1 G1 v rv
        obtain ⟨Z2, s2, G2, ro⟩ := G1.opd rv
        obtain ⟨a, vs, rfl, h4, h5⟩ := view_list G2.zh (.inr rfl) (G2.peek ep ro.rv)
        refine ⟨a, rfl, ⟨vs, h4⟩, h1 Z2 H1 (s1.trans s2) G2 _ (Itl X.K a) ro ?_⟩
        show SrcJ X g r.opd _ (r.opd.peek ε1) l _
        rw [ep]
        exact src_lst (.inr rfl)
theorem s_srcRev {tg : Expr} {e : IE} {ex : Expr} {p pos : Pos} (hg : Gl X "reversed") (hm : X.mg "reversed" = none) (hs : noStar ex = true) (h : PE X ex (tE E Φ X W e)) : PI X tg (.Call (.Name "reversed" p) [ex] [] pos) (tI E Φ X W .rev [e]) := by
  refine ⟨fun pins s σ H R I hq => ?_⟩
  obtain ⟨g, ε, Z, G, h1⟩ := hq
  rw [evI_one] at h1
  refine (RT.pi_revA hg hm h (starEach_no hs)).run pins s σ H R I ⟨g, ε, Z, G, ?_⟩
  cases hev : evE E Φ e ε with
  | stuck => rw [hev] at h1; exact h1.elim
  | exc c ε1 => rw [hev] at h1; exact h1
  | ok r ε1 =>
    rw [hev] at h1
    intro Z1 H1 s1 G1 v rv
    obtain ⟨Z2, s2, G2, ro⟩ := G1.opd rv
    have h1 : Post E X W g σ Z (PI2 X g σ R) (match (match r.opd.peek ε1 with
      | some (.lst l) => some (r.opd, l.reverse)
      | some (.scr l) => some (r.opd, l.reverse)
      | some (.tup l) => some (r.opd, l.reverse)
      | _ => none) with | some q => .ok q ε1 | none => .stuck) := h1
    cases ep : r.opd.peek ε1 with
    | none => rw [ep] at h1; exact h1.elim
    | some p0 =>
      rw [ep] at h1
      cases p0 <;> first | (exact h1.elim) | skip
      · rename_i l
        obtain ⟨a, vs, rfl, h4, h5⟩ := (G2.peek ep ro.rv).tup G2.zh
        refine ⟨a, vs, rfl, .inr ⟨h4, ?_⟩⟩
        rw [h5.length]
        refine h1 Z2 H1 (s1.trans s2) G2 _ (RT.ItvT X.K a l.length) ro ?_
        show SrcJ X g r.opd _ (r.opd.peek ε1) l.reverse _
        rw [ep]
        exact src_revT
      · rename_i l
        obtain ⟨a, vs, rfl, h4, h5⟩ := view_list G2.zh (.inl rfl) (G2.peek ep ro.rv)
        refine ⟨a, vs, rfl, .inl ⟨h4, ?_⟩⟩
        rw [h5.length]
        refine h1 Z2 H1 (s1.trans s2) G2 _ (Itv X.K a l.length) ro ?_
        show SrcJ X g r.opd _ (r.opd.peek ε1) l.reverse _
        rw [ep]
        exact src_revL (.inl rfl)
      · rename_i l
        obtain ⟨a, vs, rfl, h4, h5⟩ := view_list G2.zh (.inr rfl) (G2.peek ep ro.rv)
        refine ⟨a, vs, rfl, .inl ⟨h4, ?_⟩⟩
        rw [h5.length]
        refine h1 Z2 H1 (s1.trans s2) G2 _ (Itv X.K a l.length) ro ?_
        show SrcJ X g r.opd _ (r.opd.peek ε1) l.reverse _
        rw [ep]
        exact src_revL (.inr rfl)
theorem evA_len : ∀ {l : List IE} {ε ε' : Sg} {rs : List Rv}, evA E Φ l ε = .ok rs ε' → rs.length = l.length
  | [], _, _, _, e => by cases e; rfl
  | a :: l, ε, ε', rs, e => by
    have e : ((evE E Φ a ε).bind fun r ε1 => (evA E Φ l ε1).bind fun rs ε2 => Out.ok (r.opd :: rs) ε2) = .ok rs ε' := e
    cases h1 : evE E Φ a ε with
    | stuck => rw [h1] at e; cases e
    | exc c ε1 => rw [h1] at e; cases e
    | ok r ε1 =>
      rw [h1] at e
      have e : ((evA E Φ l ε1).bind fun rs ε2 => Out.ok (r.opd :: rs) ε2) = .ok rs ε' := e
      cases h2 : evA E Φ l ε1 with
      | stuck => rw [h2] at e; cases e
      | exc c ε1 => rw [h2] at e; cases e
      | ok rs' ε2 =>
        rw [h2] at e
        cases e
        rw [List.length_cons, List.length_cons, evA_len h2]
theorem rgB_of {i : Int} (h : rgB i = true) : -(2 ^ 62) ≤ i ∧ i < 2 ^ 62 := of_decide_eq_true h
theorem view_ints {K : Fg} {Z H : Hp} : ∀ {l : List Int} {vs : List V}, ViewL K Z H (l.map PV.int) vs → vs = l.map V.int
  | [], _, h => by cases h; rfl
  | i :: l, _, h => by
    cases h with
    | cons h t =>
      obtain rfl := h.int
      rw [view_ints t]; rfl
theorem s_srcRng {tg : Expr} {its : List IE} {es : List Expr} {p pos : Pos} (hg : Gl X "range") (hm : X.mg "range" = none) (hs : ∀ e ∈ es, noStar e = true) (h1 : 1 ≤ es.length) (h3 : es.length ≤ 3) (hl : its.length = es.length) (h : PA X es (tA E Φ X W its)) :
    PI X tg (.Call (.Name "range" p) es [] pos) (tI E Φ X W .rng its) := by
  -- the ints behind it
  have key : ∀ {g : Ent} {σ : St} {ε : Sg} {Z H : Hp} {R : It → Hp → Prop}, Good X.K g σ ε Z H → Post E X W g σ Z (PI2 X g σ R) (evI E Φ .rng its ε) →
      Post E X W g σ Z (PL X σ (fun vs H' => ∃ l : List Int, vs = l.map V.int ∧ ((∃ j, l = [j] ∧ rgB j = true ∧ R (Itr 0 j.toNat) H') ∨ (∃ i j, l = [i, j] ∧ rgB i = true ∧ rgB j = true ∧ R (Itr i (j - i).toNat) H') ∨
        ∃ i j c, l = [i, j, c] ∧ ((c ≠ 0 ∧ c.natAbs < 1073741824) ∧ Builtin.Range.small i j c = true ∧ 0 ≤ Builtin.Range.rangeSize i j c) ∧ R (Itc i c (Builtin.Range.rangeSize i j c).toNat) H'))) (evA E Φ its ε) := fun {g σ ε Z H R} G h => by
    unfold evI at h
    cases hev : evA E Φ its ε with
    | stuck => rw [hev] at h; exact h.elim
    | exc c ε1 => rw [hev] at h; exact h
    | ok rs ε1 =>
      rw [hev] at h
      intro Z1 H1 s1 G1 vs pr
      have h : Post E X W g σ Z (PI2 X g σ R) (match srcI .rng rs ε1 with | some q => .ok q ε1 | none => .stuck) := h
      have hsr : srcI .rng rs ε1 = (match peekL ε1 rs with
        | some [.int j] => if rgB j = true then some (.val .non, rngL 0 j.toNat) else none
        | some [.int i, .int j] => if rgB i = true ∧ rgB j = true then some (.val .non, rngL i (j - i).toNat) else none
        | some [.int i, .int j, .int c] => if (c ≠ 0 ∧ c.natAbs < 1073741824) ∧ Builtin.Range.small i j c = true ∧ 0 ≤ Builtin.Range.rangeSize i j c then some (.val .non, rngC i c (Builtin.Range.rangeSize i j c).toNat) else none
        | _ => none) := by
          rcases rs with _ | ⟨r1, _ | ⟨r2, rs⟩⟩ <;> rfl
      rw [hsr] at h
      split at h
      · rename_i q eq
        split at eq
        · rename_i j ej
          split at eq
          · rename_i hb
            cases eq
            have e := view_ints (l := [j]) (G1.peekL ej pr)
            exact ⟨[j], e, .inl ⟨j, rfl, hb, h Z1 H1 s1 G1 .non _ .non src_rng⟩⟩
          · cases eq
        · rename_i i j ej
          split at eq
          · rename_i hb
            cases eq
            have e := view_ints (l := [i, j]) (G1.peekL ej pr)
            exact ⟨[i, j], e, .inr (.inl ⟨i, j, rfl, hb.1, hb.2, h Z1 H1 s1 G1 .non _ .non src_rng⟩)⟩
          · cases eq
        · rename_i i j c ej
          split at eq
          · rename_i hb
            cases eq
            have e := view_ints (l := [i, j, c]) (G1.peekL ej pr)
            exact ⟨[i, j, c], e, .inr (.inr ⟨i, j, c, rfl, hb, h Z1 H1 s1 G1 .non _ .non src_rngC⟩)⟩
          · cases eq
        · cases eq
      · exact h.elim
  have hlen : ∀ {g : Ent} {σ : St} {ε : Sg} {Z : Hp} {Q : List V → Hp → Prop}, Post E X W g σ Z (PL X σ Q) (evA E Φ its ε) → Post E X W g σ Z (PL X σ (fun vs H' => vs.length = its.length ∧ Q vs H')) (evA E Φ its ε) := fun {g σ ε Z Q} h => by
    cases hev : evA E Φ its ε with
    | stuck => rw [hev] at h; exact h.elim
    | exc c ε1 => rw [hev] at h; exact h
    | ok rs ε1 =>
      rw [hev] at h
      intro Z1 H1 s1 G1 vs pr
      refine ⟨?_, h Z1 H1 s1 G1 vs pr⟩
      rw [← evA_len hev, Paired.length pr]
  match es, hs, h1, h3, hl, h with
  | [a], hs, _, _, hl, h =>
    refine ⟨fun pins s σ H R I hq => ?_⟩
    obtain ⟨g, ε, Z, G, hq⟩ := hq
    refine (pi_range1 hg hm h (starEach_no (hs a List.mem_cons_self))).run pins s σ H R I ⟨g, ε, Z, G, (hlen (key G hq)).imp fun rs ε' Z1 H1 s1 G1 hh vs pr => ?_⟩
    obtain ⟨hn, l, rfl, hh⟩ := hh vs pr
    rcases hh with ⟨j, rfl, hb, q⟩ | ⟨i, j, rfl, hb, hc, q⟩ | ⟨i, j, c, rfl, hb, q⟩
    · exact ⟨j, rfl, (rgB_of hb).1, (rgB_of hb).2, q⟩
    · rw [hl] at hn; simp at hn
    · rw [hl] at hn; simp at hn
  | [a, b], hs, _, _, hl, h =>
    refine ⟨fun pins s σ H R I hq => ?_⟩
    obtain ⟨g, ε, Z, G, hq⟩ := hq
    have e1 := starEach_no (env := X.env) (es := [b]) (hs a List.mem_cons_self)
    have e2 := starEach_no (env := X.env) (es := []) (hs b (by simp))
    have e2' : starEach [b] X.env = [(false, eval b X.env)] := e2
    refine (pi_range2 hg hm h (by rw [e1, e2']) e2').run pins s σ H R I ⟨g, ε, Z, G, (hlen (key G hq)).imp fun rs ε' Z1 H1 s1 G1 hh vs pr => ?_⟩
    obtain ⟨hn, l, rfl, hh⟩ := hh vs pr
    rcases hh with ⟨j, rfl, hb, q⟩ | ⟨i, j, rfl, hb, hc, q⟩ | ⟨i, j, c, rfl, hb, q⟩
    · rw [hl] at hn; simp at hn
    · exact ⟨i, j, rfl, ⟨(rgB_of hb).1, (rgB_of hb).2, (rgB_of hc).1, (rgB_of hc).2⟩, q⟩
    · rw [hl] at hn; simp at hn
  | [a, b, c], hs, _, _, hl, h =>
    refine ⟨fun pins s σ H R I hq => ?_⟩
    obtain ⟨g, ε, Z, G, hq⟩ := hq
    refine (pi_range3 hg hm h (starEach_no (hs a List.mem_cons_self)) (star_any fun y hy => hs y (List.mem_cons_of_mem _ hy))).run pins s σ H R I ⟨g, ε, Z, G, (hlen (key G hq)).imp fun rs ε' Z1 H1 s1 G1 hh vs pr => ?_⟩
    obtain ⟨hn, l, rfl, hh⟩ := hh vs pr
    rcases hh with ⟨j, rfl, hb, q⟩ | ⟨i, j, rfl, hb, hc, q⟩ | ⟨i, j, c, rfl, hb, q⟩
    · rw [hl] at hn; simp at hn
    · rw [hl] at hn; simp at hn
    · exact ⟨i, j, c, _, rfl, ⟨hb.1.1, hb.1.2, hb.2.1, (Int.toNat_of_nonneg hb.2.2).symm⟩, q⟩
  | [], _, h1, _, _, _ => exact absurd h1 (by simp)
  | _ :: _ :: _ :: _ :: _, _, _, h3, _, _ => exact absurd h3 (by simp)
end
end Eng

namespace Eng
open PySem PySem.Spec L2
open PyProof.Rows hiding St

section
variable {E : Eng} {Φ : Nat → List PV → CO} {k : Nat} {S : Stc} {X : Cx} {W : WX}

/-! ### a comprehension's own names -/
theorem wipeS_get : ∀ {own : List Nat} {ε ε2 : Sg}, wipeS ε own = some ε2 → ε2.length = ε.length ∧ (∀ j, j ∉ own → ε2[j]? = ε[j]?) ∧ (∀ j, j ∈ own → ∀ s, ε2[j]? = some s → s = .none) ∧ ∀ j, j ∈ own → ¬ IsOwn ε j
  | [], ε, ε2, e => by cases e; exact ⟨rfl, fun _ _ => rfl, fun j h => absurd h (by simp), fun j h => absurd h (by simp)⟩
  | i :: is, ε, ε2, e => by
    unfold wipeS at e
    split at e
    · rename_i ε1 e1
      obtain ⟨h1, h2, h3, h4⟩ := wipeS_get e1
      split at e
      · cases e
      · rename_i hno
        cases e
        refine ⟨by rw [List.length_set, h1], fun j hj => ?_, fun j hj s hs => ?_, fun j hj oj => ?_⟩
        · rw [List.mem_cons, not_or] at hj
          rw [List.getElem?_set_ne (Ne.symm hj.1), h2 j hj.2]
        · rcases getElem?_set_eq hs with ⟨_, z⟩ | ⟨nj, hs⟩
          · exact z
          · rcases List.mem_cons.mp hj with z | z
            · exact absurd z nj
            · exact h3 j z s hs
        · rcases List.mem_cons.mp hj with rfl | z
          · by_cases hm : j ∈ is
            · exact h4 j hm oj
            · obtain ⟨kk, p, e⟩ := oj
              exact hno kk p (by rw [h2 j hm]; exact e)
          · exact h4 j z oj
    · cases e
theorem wipe_in {σ : St} : ∀ {own : List Nat} {j : Nat} {v : V}, j ∈ own → (wipe σ own)[j]? ≠ some (some v) := fun {own j v} hj h => (wipe_some h).2 hj
theorem Good.wipe {g : Ent} {σ : St} {ε ε2 : Sg} {Z H : Hp} {own : List Nat} (G : Good X.K g σ ε Z H) (e : wipeS ε own = some ε2) : Good X.K g (L2.wipe σ own) ε2 Z H := by
  obtain ⟨h1, h2, h3, h4⟩ := wipeS_get e
  have io : ∀ {j}, IsOwn ε2 j → j ∉ own ∧ IsOwn ε j := fun {j} oj => by
    obtain ⟨kk, p, q⟩ := oj
    have nj : j ∉ own := fun z => by have := h3 j z _ q; cases this
    exact ⟨nj, kk, p, by rw [← h2 j nj]; exact q⟩
  refine ⟨by rw [wipe_length, h1]; exact G.len, fun j s hs => ?_, fun j l a oj ol ej el => ?_, G.zh, G.hh, G.al, G.zf, G.zz, fun j a hj => ?_, fun q hq => ?_⟩
  · by_cases hj : j ∈ own
    · rw [h3 j hj s hs]; trivial
    · rw [h2 j hj] at hs
      have q := G.slot j s hs
      cases s with
      | none => trivial
      | val p => obtain ⟨v, q1, q2⟩ := q; exact ⟨v, by rw [wipe_out hj]; exact q1, q2⟩
      | own kk p => obtain ⟨b, q1, q2⟩ := q; exact ⟨b, by rw [wipe_out hj]; exact q1, q2⟩
  · obtain ⟨nj, oj⟩ := io oj
    obtain ⟨nl, ol⟩ := io ol
    rw [wipe_out nj] at ej
    rw [wipe_out nl] at el
    exact G.dis j l a oj ol ej el
  · obtain ⟨q1, p, q2⟩ := G.io j a hj
    have nj : j ∉ own := fun z => h4 j z ⟨_, _, q2⟩
    exact ⟨by rw [wipe_out nj]; exact q1, p, by rw [h2 j nj]; exact q2⟩
  · obtain ⟨q1, q2, q3⟩ := G.pr q hq
    refine ⟨q1, q2, fun j oj => ?_⟩
    obtain ⟨nj, oj⟩ := io oj
    rw [wipe_out nj]
    exact q3 j oj
theorem backS_get {ε0 : Sg} {ε : Sg} : ∀ {own : List Nat}, ε.length = ε0.length → (backS ε0 ε own).length = ε.length ∧ (∀ j, j ∉ own → (backS ε0 ε own)[j]? = ε[j]?) ∧ ∀ j, j ∈ own → (backS ε0 ε own)[j]? = ε0[j]?
  | [], _ => ⟨rfl, fun _ _ => rfl, fun j h => absurd h (by simp)⟩
  | i :: is, hl => by
    obtain ⟨h1, h2, h3⟩ := backS_get (own := is) hl
    cases e : ε0[i]? with
    | none =>
      have eb : backS ε0 ε (i :: is) = backS ε0 ε is := by rw [backS, e]
      rw [eb]
      refine ⟨h1, fun j hj => h2 j fun z => hj (List.mem_cons_of_mem _ z), fun j hj => ?_⟩
      rcases List.mem_cons.mp hj with rfl | z
      · rw [e]
        apply List.getElem?_eq_none
        rw [h1, hl]
        exact List.getElem?_eq_none_iff.mp e
      · exact h3 j z
    | some s =>
      have eb : backS ε0 ε (i :: is) = (backS ε0 ε is).set i s := by rw [backS, e]
      rw [eb]
      refine ⟨by rw [List.length_set, h1], fun j hj => ?_, fun j hj => ?_⟩
      · rw [List.mem_cons, not_or] at hj
        rw [List.getElem?_set_ne (Ne.symm hj.1), h2 j hj.2]
      · by_cases hji : j = i
        · subst hji
          rw [List.getElem?_set_self (by rw [h1, hl]; exact (List.getElem?_eq_some_iff.mp e).1), e]
        · rw [List.getElem?_set_ne (Ne.symm hji)]
          rcases List.mem_cons.mp hj with z | z
          · exact absurd z hji
          · exact h3 j z
/-- the names that the comprehension hid are there again -/
theorem Good.back {g : Ent} {σ : St} {ε1 ε7 : Sg} {Z1 H1 Z H : Hp} {own : List Nat} (G1 : Good X.K g σ ε1 Z1 H1) (hn : ∀ j, j ∈ own → ¬ IsOwn ε1 j) (G : Good X.K g (L2.wipe σ own) ε7 Z H) (s : Same Z1 Z) : Good X.K g σ (backS ε1 ε7 own) Z H := by
  have hl : ε7.length = ε1.length := by rw [← G.len, wipe_length, G1.len]
  obtain ⟨h1, h2, h3⟩ := backS_get (own := own) hl
  have io : ∀ {j}, IsOwn (backS ε1 ε7 own) j → j ∉ own ∧ IsOwn ε7 j := fun {j} oj => by
    obtain ⟨kk, p, q⟩ := oj
    have nj : j ∉ own := fun z => hn j z ⟨kk, p, by rw [← h3 j z]; exact q⟩
    exact ⟨nj, kk, p, by rw [← h2 j nj]; exact q⟩
  refine ⟨by rw [h1, hl]; exact G1.len, fun j s' hs => ?_, fun j l a oj ol ej el => ?_, G.zh, G.hh, G.al, G.zf, G.zz, fun j a hj => ?_, fun q hq => ?_⟩
  · by_cases hj : j ∈ own
    · rw [h3 j hj] at hs
      have q := G1.slot j s' hs
      cases s' with
      | none => trivial
      | val p => obtain ⟨v, q1, q2⟩ := q; exact ⟨v, q1, q2.mono s⟩
      | own kk p => exact absurd ⟨kk, p, hs⟩ (hn j hj)
    · rw [h2 j hj] at hs
      have q := G.slot j s' hs
      cases s' with
      | none => trivial
      | val p => obtain ⟨v, q1, q2⟩ := q; exact ⟨v, by rw [← wipe_out hj]; exact q1, q2⟩
      | own kk p => obtain ⟨b, q1, q2⟩ := q; exact ⟨b, by rw [← wipe_out hj]; exact q1, q2⟩
  · obtain ⟨nj, oj⟩ := io oj
    obtain ⟨nl, ol⟩ := io ol
    exact G.dis j l a oj ol (by rw [wipe_out nj]; exact ej) (by rw [wipe_out nl]; exact el)
  · obtain ⟨q1, p, q2⟩ := G.io j a hj
    have nj : j ∉ own := fun z => wipe_in z q1
    exact ⟨by rw [← wipe_out nj]; exact q1, p, by rw [h2 j nj]; exact q2⟩
  · obtain ⟨q1, q2, q3⟩ := G.pr q hq
    refine ⟨q1, q2, fun j oj => ?_⟩
    obtain ⟨nj, oj⟩ := io oj
    rw [← wipe_out nj]
    exact q3 j oj
/-- an object is looked after, from here on -/
theorem Good.prAdd {g : Ent} {σ : St} {ε : Sg} {Z H : Hp} {D : Addr} {o : HO} (G : Good X.K g σ ε Z H) (h : H D = some o) (hz : Z D = none) (hn : ∀ j, IsOwn ε j → σ[j]? ≠ some (some (V.ref D))) : Good X.K { g with pr := (D, o) :: g.pr } σ ε Z H :=
  ⟨G.len, G.slot, G.dis, G.zh, G.hh, G.al, G.zf, G.zz, G.io, fun q hq => by
    rcases List.mem_cons.mp hq with rfl | hq
    · exact ⟨h, hz, hn⟩
    · exact G.pr q hq⟩
theorem Good.prDrop {g : Ent} {σ : St} {ε : Sg} {Z H : Hp} {D : Addr} {o : HO} (G : Good X.K { g with pr := (D, o) :: g.pr } σ ε Z H) : Good X.K g σ ε Z H ∧ H D = some o ∧ Z D = none ∧ ∀ j, IsOwn ε j → σ[j]? ≠ some (some (V.ref D)) :=
  ⟨⟨G.len, G.slot, G.dis, G.zh, G.hh, G.al, G.zf, G.zz, G.io, fun q hq => G.pr q (List.mem_cons_of_mem _ hq)⟩, G.pr (D, o) List.mem_cons_self⟩

/-! ### the block -/
def W0 : WX := fun _ _ _ _ => False
theorem Okx.blk (ok : Okx E Φ k S W X) {scope : Scope} {own : List Nat} (bo : BlkOk S.N S.sc scope (ownL S.N own)) (s : Shared) (H : Hp) (C : Addr) (cl : List (Str × Addr)) (fp : List Addr) :
    Okx E Φ k (S.blk scope) W0 (X.blk s H scope (compEnvC scope cl C X.env) fp) where
  calm := ok.calm
  N := ok.N
  sc := by
    show relS scope X.env.scope = relS scope S.sc
    rw [ok.sc]
  nd := ok.nd
  kind := bo.kind
  st := fun x hx => by
    have hx : scope.names.lookup x = some .local ∨ scope.names.lookup x = some .cell := hx
    rcases hx with hx | hx
    · have q : (relS scope X.env.scope).names.lookup x = some .local := lookup_relS_keep (fun z => nomatch z) hx
      exact ⟨.inl q, .inr q⟩
    · have q : (relS scope X.env.scope).names.lookup x = some .cell := lookup_relS_keep (fun z => nomatch z) hx
      refine ⟨.inr q, .inl ?_⟩
      show (scope.names.lookup x == some .cell) = true
      rw [hx]; rfl
  room := ok.room
  tk := takes0
  fn := ok.fn
  bl := ok.bl
  ty := ok.ty
  gb := ok.gb
  fr := ok.fr
  gd := ok.gd

/-! ### a comprehension -/
def tC1 (E : Eng) (Φ : Nat → List PV → CO) (X : Cx) (W : WX) (l : List IE) : TT := fun σ H Q => ∃ g ε Z, Good X.K g σ ε Z H ∧ Post E X W g σ Z (PB Q) (evC E Φ l ε)
noncomputable def turnI (E : Eng) (Φ : Nat → List PV → CO) (elt : IE) (tg : Tg) (cond : List IE) : PV → Sg → Out (Option PV) := fun p ε => match asgT tg p ε with
  | some ε3 => (evC E Φ cond ε3).bind fun t ε4 => if t then (evE E Φ elt ε4).bind fun r ε5 => match frz r ε5 with
      | some (q, ε6) => .ok (some q) ε6
      | none => .stuck
    else .ok none ε4
  | none => .stuck
theorem wipe_eq {σ σ2 : St} {own : List Nat} (hl : σ2.length = (L2.wipe σ own).length) (h : ∀ j, j ∉ own → σ2[j]? = (L2.wipe σ own)[j]?) : L2.wipe σ2 own = L2.wipe σ own := by
  apply List.ext_getElem?
  intro j
  by_cases hj : j ∈ own
  · have key : ∀ τ : St, j < τ.length → (L2.wipe τ own)[j]? = some none := fun τ hlt => by
      have hw : j < (L2.wipe τ own).length := by rw [wipe_length]; exact hlt
      cases e : (L2.wipe τ own)[j]? with
      | none => rw [List.getElem?_eq_none_iff] at e; omega
      | some o =>
        cases o with
        | none => rfl
        | some v => exact absurd e (wipe_in hj)
    by_cases hlt : j < σ.length
    · rw [key σ hlt, key σ2 (by rw [hl, wipe_length]; exact hlt)]
    · rw [List.getElem?_eq_none, List.getElem?_eq_none]
      · rw [wipe_length]; omega
      · rw [wipe_length, hl, wipe_length]; omega
  · rw [wipe_out hj, h j hj]
theorem stays_peek {r : Rv} {ε ε' : Sg} {p : PV} (h : stays r ε ε' = true) (e : r.peek ε = some p) : r.peek ε' = some p := by
  cases r with
  | val q => exact e
  | fresh q => exact e
  | own i =>
    classical
    have h : peekS ε' i = peekS ε i := of_decide_eq_true (p := peekS ε' i = peekS ε i) (by simpa only [stays] using h)
    show peekS ε' i = some p
    rw [h]; exact e
theorem stays_eq {r : Rv} {ε ε' : Sg} (h : stays r ε ε' = true) : r.peek ε' = r.peek ε := by
  cases r with
  | val q => rfl
  | fresh q => rfl
  | own i =>
    classical
    exact of_decide_eq_true (p := peekS ε' i = peekS ε i) (by simpa only [stays] using h)
mutual
theorem asgT_len : ∀ {t : Tg} {p : PV} {ε ε' : Sg}, asgT t p ε = some ε' → ε'.length = ε.length
  | .nm i, p, ε, ε', e => by
    have e : (match ε[i]? with | some (.own false _) => none | some _ => some (ε.set i (.val p)) | none => none) = some ε' := e
    split at e
    · cases e
    · cases e; rw [List.length_set]
    · cases e
  | .tp l, .tup ps, ε, ε', e => asgTs_len' (show asgTs l ps ε = some ε' from e)
  | .tp l, .lst ps, ε, ε', e => asgTs_len' (show asgTs l ps ε = some ε' from e)
  | .tp _, .non, _, _, e => nomatch e
  | .tp _, .bl _, _, _, e => nomatch e
  | .tp _, .int _, _, _, e => nomatch e
  | .tp _, .str _, _, _, e => nomatch e
  | .tp _, .dct _, _, _, e => nomatch e
  | .tp _, .set _, _, _, e => nomatch e
  | .tp _, .scr _, _, _, e => nomatch e
theorem asgTs_len' : ∀ {ts : List Tg} {ps : List PV} {ε ε' : Sg}, asgTs ts ps ε = some ε' → ε'.length = ε.length
  | [], [], _, _, e => by cases e; rfl
  | [], _ :: _, _, _, e => by cases e
  | _ :: _, [], _, _, e => by cases e
  | t :: ts, p :: ps, ε, ε', e => by
    unfold asgTs at e
    split at e
    · rename_i ε1 e1
      rw [asgTs_len' e, asgT_len e1]
    · cases e
end
theorem cmp_ok {g : Ent} {σ : St} {ε1 : Sg} {Z1 H1 : Hp} {Q : VK} {elt : IE} {tg : Tg} {cond : List IE} {own : List Nat} {r : Rv} {items : List PV} {v0 : V}
    (G1 : Good X.K g σ ε1 Z1 H1) (hr : OpdR X.K σ Z1 r v0) (hw : walkOk r own = true) (hto : ∀ i ∈ tgS tg, i ∈ own) {ε2 : Sg} (ew : wipeS ε1 own = some ε2)
    (h : Post E X W g σ Z1 (PR X g σ Q) (match cmpI own r (turnI E Φ elt tg cond) items [] ε2 with | .ok acc ε7 => .ok (.fresh (.lst acc)) (backS ε1 ε7 own) | _ => .stuck)) (D : Addr) (hD : H1 D = none)
    (J : It) (SJ : SrcJ X g r v0 (r.peek ε1) items J) :
    ∃ W' : Nat → Nat → Hp → Prop, (∃ m, W' 0 m (upd H1 D (.lst []))) ∧ ∀ i m H, W' i m H →
      (J.stop i H ∧ Q (.ref D) H) ∨ (J.go i H ∧ ∃ Nx : Hp → Prop, (∀ H', Nx H' → ∃ m', m' < m ∧ W' (i + 1) m' H') ∧ ∀ x H', J.yld i H x H' → gT X tg x (L2.wipe σ own) H' fun σ2 H2 => L2.wipe σ2 own = L2.wipe σ own ∧ tC1 E Φ X W0 cond σ2 H2 fun b H3 =>
        if b = true then tE E Φ X W0 elt σ2 H3 fun y H4 => ∃ acc, H4 D = some (.lst acc) ∧ acc.length < sizeLine ∧ Nx (upd H4 D (.lst (acc ++ [y]))) else Nx H3) := by
  obtain ⟨w1, w2, w3, w4⟩ := wipeS_get ew
  have hD0 : g.H0 D = none := G1.al D hD
  have hDp := (G1.new hD).2
  let Wx : Nat → Nat → Hp → Prop := fun i m Hc => ∃ ε Z acc vs, m = items.length - i ∧ i ≤ items.length ∧ Same Z1 Z ∧ Good X.K g (L2.wipe σ own) ε Z Hc ∧ Hc D = some (.lst vs) ∧ RpL X.K Z acc vs ∧ Z D = none ∧
    (∀ j, IsOwn ε j → (L2.wipe σ own)[j]? ≠ some (some (V.ref D))) ∧ r.peek ε = r.peek ε1 ∧ OpdR X.K (L2.wipe σ own) Z r v0 ∧
    Post E X W g σ Z1 (PR X g σ Q) (match cmpI own r (turnI E Φ elt tg cond) (items.drop i) acc ε with | .ok acc ε7 => .ok (.fresh (.lst acc)) (backS ε1 ε7 own) | _ => .stuck)
  have hrw : ∀ Z, OpdR X.K σ Z r v0 → OpdR X.K (L2.wipe σ own) Z r v0 := fun Z hr => by
    cases r with
    | val q => exact hr
    | fresh q => exact hr
    | own i =>
      have hni : i ∉ own := of_decide_eq_true (p := i ∉ own) hw
      show (L2.wipe σ own)[i]? = _
      rw [wipe_out hni]; exact hr
  have hpk : r.peek ε2 = r.peek ε1 := by
    cases r with
    | val q => rfl
    | fresh q => rfl
    | own i =>
      have hni : i ∉ own := of_decide_eq_true (p := i ∉ own) hw
      show peekS ε2 i = peekS ε1 i
      unfold peekS
      rw [w2 i hni]
  refine ⟨Wx, ⟨items.length, ε2, Z1, [], [], rfl, Nat.zero_le _, .refl _, (G1.ext (Ext.new (o := .lst []) G1.zh hD)).wipe ew, upd_same, .nil, G1.zh.free hD, fun j oj z => ?_, hpk, hrw _ hr, h⟩, ?_⟩
  · by_cases hj : j ∈ own
    · exact wipe_in hj z
    · rw [wipe_out hj] at z
      obtain ⟨kk, p, e⟩ := oj
      exact (G1.new hD).1 j ⟨kk, p, by rw [← w2 j hj]; exact e⟩ z
  · rintro i m Hc ⟨ε, Z, acc, vs, rfl, hi, s1, G, d1, d2, d3, d4, pk, ro, rest⟩
    by_cases hlt : i < items.length
    · right
      have hdrop : items.drop i = items[i] :: items.drop (i + 1) := List.drop_eq_getElem_cons hlt
      refine ⟨SJ.go G pk ro hlt, Wx (i + 1) (items.length - (i + 1)), fun H' w => ⟨_, by omega, w⟩, fun x H' y => ?_⟩
      obtain ⟨Zy, sy, Gy, rp0, ky⟩ := SJ.yld G pk ro y (List.getElem?_eq_getElem hlt)
      have hne : Hc D ≠ none := by rw [d1]; exact fun z => nomatch z
      have d1 : H' D = some (.lst vs) := by rw [(ky D hne).1]; exact d1
      have d3 : Zy D = none := by rw [(ky D hne).2]; exact d3
      have d2 := d2.mono sy
      have s1 := s1.trans sy
      have ro := ro.mono sy
      rw [hdrop] at rest
      unfold cmpI at rest
      cases et : turnI E Φ elt tg cond items[i] ε with
      | stuck => rw [et] at rest; exact rest.elim
      | exc c e' => rw [et] at rest; exact rest.elim
      | ok o ε6 =>
        rw [et] at rest
        dsimp only at rest
        cases ew6 : wipeS ε6 own with
        | none => rw [ew6] at rest; exact rest.elim
        | some ε8 =>
          rw [ew6] at rest
          dsimp only at rest
          cases est : stays r ε ε8 with
          | false => rw [est, if_neg Bool.false_ne_true] at rest; exact rest.elim
          | true =>
            rw [est, if_pos rfl] at rest
            unfold turnI at et
            cases ea : asgT tg items[i] ε with
            | none => rw [ea] at et; cases et
            | some ε3 =>
              rw [ea] at et
              dsimp only at et
              have GD := Gy.prAdd (D := D) (o := .lst vs) d1 d3 d4
              refine ⟨_, ε, Zy, items[i], ε3, GD, rp0, ea, fun σ2 G3 k3 => ?_⟩
              have hl2 : σ2.length = (L2.wipe σ own).length := by
                rw [G3.len, GD.len]
                exact asgT_len ea
              have hwe : L2.wipe σ2 own = L2.wipe σ own := wipe_eq hl2 fun j hj => k3 j fun z => hj (hto j z)
              refine ⟨hwe, ?_⟩
              cases ec : evC E Φ cond ε3 with
              | stuck => rw [ec] at et; cases et
              | exc c e' => rw [ec] at et; cases et
              | ok t ε4 =>
                rw [ec] at et
                have et : (if t then (evE E Φ elt ε4).bind fun r ε5 => match frz r ε5 with
                  | some (q, ε6) => Out.ok (some q) ε6
                  | none => .stuck
                  else Out.ok none ε4) = .ok o ε6 := et
                refine ⟨_, ε3, Zy, G3, ?_⟩
                rw [ec]
                intro Z4 H4 s4 G4
                -- the next state
                have next : ∀ {Z5 H5 : Hp} {acc' : List PV} {vs' : List V} {ε5 : Sg}, Same Zy Z5 → Good X.K g σ2 ε5 Z5 H5 → wipeS ε5 own = some ε8 → H5 D = some (.lst vs') → RpL X.K Z5 acc' vs' → Z5 D = none → (∀ j, IsOwn ε5 j → σ2[j]? ≠ some (some (V.ref D))) →
                    Post E X W g σ Z1 (PR X g σ Q) (match cmpI own r (turnI E Φ elt tg cond) (items.drop (i + 1)) acc' ε8 with | .ok acc ε7 => .ok (.fresh (.lst acc)) (backS ε1 ε7 own) | _ => .stuck) → Wx (i + 1) (items.length - (i + 1)) H5 := fun {Z5 H5 acc' vs' ε5} s5 G5 e5 h1 h2 h3 h4 h5 => by
                  have G5' := G5.wipe e5
                  rw [hwe] at G5'
                  obtain ⟨v1, v2, v3, v4⟩ := wipeS_get e5
                  refine ⟨ε8, Z5, acc', vs', rfl, hlt, s1.trans s5, G5', h1, h2, h3, fun j oj z => ?_, (stays_eq est).trans pk, ro.mono s5, h5⟩
                  by_cases hj : j ∈ own
                  · exact wipe_in hj z
                  · obtain ⟨kk, p, e⟩ := oj
                    rw [← hwe, wipe_out hj] at z
                    exact h4 j ⟨kk, p, by rw [← v2 j hj]; exact e⟩ z
                cases t with
                | false =>
                  rw [if_neg Bool.false_ne_true] at et
                  cases et
                  show Wx (i + 1) (items.length - (i + 1)) H4
                  obtain ⟨G5, q1, q2, q3⟩ := G4.prDrop
                  exact next s4 G5 ew6 q1 (d2.mono s4) q2 q3 rest
                | true =>
                  rw [if_pos rfl] at et
                  show tE E Φ X W0 elt σ2 H4 _
                  cases ee : evE E Φ elt ε4 with
                  | stuck => rw [ee] at et; cases et
                  | exc c e' => rw [ee] at et; cases et
                  | ok r5 ε5 =>
                    rw [ee] at et
                    have et : (match frz r5 ε5 with | some (q, ε6) => Out.ok (some q) ε6 | none => .stuck) = .ok o ε6 := et
                    refine ⟨_, ε4, Z4, G4, ?_⟩
                    rw [ee]
                    intro Z5 H5 s5 G5 v rv
                    split at et
                    · rename_i q ε6' ef
                      cases et
                      obtain ⟨Z6, s6, G6, rq⟩ := G5.frz ef rv
                      obtain ⟨G7, q1, q2, q3⟩ := G6.prDrop
                      dsimp only at rest
                      have hls := d2.length
                      by_cases hz : acc.length < sizeLine
                      · rw [if_pos hz] at rest
                        refine ⟨vs, q1, by rw [hls]; exact hz, ?_⟩
                        have s46 := (s4.trans s5).trans s6
                        exact next s46 (G7.away q1 hD0 q2 q3 hDp) ew6 upd_same ((d2.mono s46).snoc rq) q2 q3 rest
                      · rw [if_neg hz] at rest
                        exact rest.elim
                    · cases et
    · left
      have e : i = items.length := by omega
      subst e
      rw [List.drop_length] at rest
      have rest : Post E X W g σ Z1 (PR X g σ Q) (.ok (.fresh (.lst acc)) (backS ε1 ε own)) := rest
      refine ⟨SJ.stop G pk ro (Nat.le_refl _), ?_⟩
      have hl : ε.length = ε1.length := by rw [← G.len, wipe_length, G1.len]
      obtain ⟨b1, b2, b3⟩ := backS_get (own := own) hl
      refine rest Z Hc s1 (G1.back w4 G s1) _ ⟨D, rfl, d3, hD0, ⟨vs, d1, d2⟩, fun j oj z => ?_, hDp⟩
      obtain ⟨kk, p, e⟩ := oj
      by_cases hj : j ∈ own
      · rw [b3 j hj] at e
        exact w4 j hj ⟨kk, p, e⟩
      · rw [b2 j hj] at e
        exact d4 j ⟨kk, p, e⟩ (by rw [wipe_out hj]; exact z)
theorem ownL_map {N : List Str} {own : List Nat} : (ownL N own).map (·.2) = own := by
  unfold ownL
  rw [List.map_map]
  exact List.map_id _
theorem cmp_read {elt : IE} {tg : Tg} {sk : Src} {its : List IE} {cond : List IE} {own : List Nat} (hto : ∀ i ∈ tgS tg, i ∈ own) {σ : St} {H : Hp} {Q : VK} (hq : tE E Φ X W (.cmpr elt tg sk its cond own) σ H Q) :
    tLc (tI E Φ X W sk its) (gT X tg) (tC1 E Φ X W0 cond) (tE E Φ X W0 elt) own σ H Q := by
  obtain ⟨g, ε, Z, G, h1⟩ := hq
  refine ⟨g, ε, Z, G, ?_⟩
  have h1 : Post E X W g σ Z (PR X g σ Q) ((evA E Φ its ε).bind fun rs ε1 => match srcI sk rs ε1, wipeS ε1 own with
        | some (r, ps), some ε2 => if walkOk r own = true then match cmpI own r (turnI E Φ elt tg cond) ps [] ε2 with
            | .ok acc ε7 => .ok (.fresh (.lst acc)) (backS ε1 ε7 own)
            | _ => .stuck
          else .stuck
        | _, _ => .stuck) := h1
  unfold evI
  cases hev : evA E Φ its ε with
  | stuck => rw [hev] at h1; exact h1.elim
  | exc c e' => rw [hev] at h1; exact h1
  | ok rs ε1 =>
    rw [hev] at h1
    have h1 : Post E X W g σ Z (PR X g σ Q) (match srcI sk rs ε1, wipeS ε1 own with
        | some (r, ps), some ε2 => if walkOk r own = true then match cmpI own r (turnI E Φ elt tg cond) ps [] ε2 with
            | .ok acc ε7 => .ok (.fresh (.lst acc)) (backS ε1 ε7 own)
            | _ => .stuck
          else .stuck
        | _, _ => .stuck) := h1
    show Post E X W g σ Z (PI2 X g σ _) (match srcI sk rs ε1 with | some q => .ok q ε1 | none => .stuck)
    cases es : srcI sk rs ε1 with
    | none => rw [es] at h1; exact h1.elim
    | some q =>
      obtain ⟨r, items⟩ := q
      rw [es] at h1
      cases ew : wipeS ε1 own with
      | none => rw [ew] at h1; exact h1.elim
      | some ε2 =>
        rw [ew] at h1
        dsimp only at h1
        by_cases hw : walkOk r own = true
        · rw [if_pos hw] at h1
          intro Z1 H1 s1 G1 v J ro SJ D hD
          exact cmp_ok G1 ro hw hto ew (h1.mono s1) D hD J SJ
        · rw [if_neg hw] at h1
          exact h1.elim
theorem s_cmpr (ok : Okx E Φ k S W X) {elt : IE} {tg : Tg} {sk : Src} {its : List IE} {cond : List IE} {own : List Nat} {eelt etg eit : Expr} {eifs : List Expr} {scope : Scope} {pos : Pos} (hit : PI X etg eit (tI E Φ X W sk its)) (hns : ∀ x, foldedSetIterable eit X.env x = pure x)
    (bo : BlkOk S.N S.sc scope (ownL S.N own)) (hto : ∀ i ∈ tgS tg, i ∈ own)
    (hg : ∀ (s : Shared) (H : Hp) (C : Addr) (cl : List (Str × Addr)) (fp : List Addr), PG (X.blk s H scope (compEnvC scope cl C X.env) fp) etg (gT X tg))
    (ht : ∀ (s : Shared) (H : Hp) (C : Addr) (cl : List (Str × Addr)) (fp : List Addr), PTs (X.blk s H scope (compEnvC scope cl C X.env) fp) eifs (tC1 E Φ X W0 cond))
    (he : ∀ (s : Shared) (H : Hp) (C : Addr) (cl : List (Str × Addr)) (fp : List Addr), PE (X.blk s H scope (compEnvC scope cl C X.env) fp) eelt (tE E Φ X W0 elt)) :
    PE X (.ListComp eelt [⟨etg, eit, eifs, 0⟩] scope pos) (tE E Φ X W (.cmpr elt tg sk its cond own)) := by
  have bo' : BlkOk X.N X.env.scope scope (ownL S.N own) := by rw [ok.N, ok.sc]; exact bo
  have hnd : X.N.Nodup := by rw [ok.N]; exact ok.nd
  refine ⟨fun pins s σ H Q I hq => ?_⟩
  exact (pe_lc ok.calm hnd hit bo' hg ht he hns).run pins s σ H Q I (by rw [ownL_map]; exact cmp_read hto hq)
/-- x = [..] on one line -/
theorem s_setLc (ok : Okx E Φ k S W X) {i : Nat} {y : Str} {py spos : Pos} {elt : IE} {tg : Tg} {sk : Src} {its : List IE} {cond : List IE} {own : List Nat} {eelt etg eit : Expr} {eifs : List Expr} {scope : Scope} {pos : Pos} (hy : S.N[i]? = some y) (hyl : X.env.scope.names.lookup y = some .local)
    (hsw : swapsWith (.ListComp eelt [⟨etg, eit, eifs, 0⟩] scope pos) (some (.Name y py)) spos.line X.env = pure true) (hit : PI X etg eit (tI E Φ X W sk its)) (hns : ∀ x, foldedSetIterable eit X.env x = pure x)
    (bo : BlkOk S.N S.sc scope (ownL S.N own)) (hto : ∀ i ∈ tgS tg, i ∈ own)
    (hg : ∀ (s : Shared) (H : Hp) (C : Addr) (cl : List (Str × Addr)) (fp : List Addr), PG (X.blk s H scope (compEnvC scope cl C X.env) fp) etg (gT X tg))
    (ht : ∀ (s : Shared) (H : Hp) (C : Addr) (cl : List (Str × Addr)) (fp : List Addr), PTs (X.blk s H scope (compEnvC scope cl C X.env) fp) eifs (tC1 E Φ X W0 cond))
    (he : ∀ (s : Shared) (H : Hp) (C : Addr) (cl : List (Str × Addr)) (fp : List Addr), PE (X.blk s H scope (compEnvC scope cl C X.env) fp) eelt (tE E Φ X W0 elt)) :
    PS X (.Assign [.Name y py] (.ListComp eelt [⟨etg, eit, eifs, 0⟩] scope pos) spos) (tAsg (tE E Φ X W (.cmpr elt tg sk its cond own)) (gName i)) := by
  have bo' : BlkOk X.N X.env.scope scope (ownL S.N own) := by rw [ok.N, ok.sc]; exact bo
  have hnd : X.N.Nodup := by rw [ok.N]; exact ok.nd
  have hy' : X.N[i]? = some y := by rw [ok.N]; exact hy
  refine ⟨fun pins s σ H D I hq => ?_⟩
  have hq : tE E Φ X W (.cmpr elt tg sk its cond own) σ H (fun x H1 => gName i x σ H1 D.nx) := hq
  refine (ps_setLc ok.calm hnd hy' hyl hsw hit bo' hg ht he hns).run pins s σ H D I ?_
  show tLc _ _ _ _ _ _ _ _
  rw [ownL_map]; exact cmp_read hto hq
end
end Eng

set_option maxHeartbeats 4000000
namespace Eng
open PySem PySem.Spec L2
open PyProof.Rows hiding St

section
variable {E : Eng} {Φ : Nat → List PV → CO} {k : Nat}

/-- what a comprehension's parts give -/
structure CmpOk (E : Eng) (Φ : Nat → List PV → CO) (X : Cx) (W : WX) (S : Stc) (elt : IE) (tg : Tg) (sk : Src) (its : List IE) (cond : List IE) (own : List Nat) (eelt etg eit : Expr) (eifs : List Expr) (scope : Scope) : Prop where
  hit : PI X etg eit (tI E Φ X W sk its)
  hns : ∀ x, foldedSetIterable eit X.env x = pure x
  bo : BlkOk S.N S.sc scope (ownL S.N own)
  hto : ∀ i ∈ tgS tg, i ∈ own
  hg : ∀ (s : Shared) (H : Hp) (C : Addr) (cl : List (Str × Addr)) (fp : List Addr), PG (X.blk s H scope (compEnvC scope cl C X.env) fp) etg (gT X tg)
  ht : ∀ (s : Shared) (H : Hp) (C : Addr) (cl : List (Str × Addr)) (fp : List Addr), PTs (X.blk s H scope (compEnvC scope cl C X.env) fp) eifs (tC1 E Φ X W0 cond)
  he : ∀ (s : Shared) (H : Hp) (C : Addr) (cl : List (Str × Addr)) (fp : List Addr), PE (X.blk s H scope (compEnvC scope cl C X.env) fp) eelt (tE E Φ X W0 elt)

theorem sc_nil {X : Cx} : PTs X [] (tC1 E Φ X W0 []) := by
  refine ⟨fun pins s σ H Q I hq => ?_⟩
  obtain ⟨g, ε, Z, G, h1⟩ := hq
  exact pts_nil.run pins s σ H Q I (h1 Z H (.refl _) G)
theorem sc_one {X : Cx} {c : IE} {ec : Expr} (h : PT X ec (tT E Φ X W0 c)) : PTs X [ec] (tC1 E Φ X W0 [c]) := by
  refine ⟨fun pins s σ H Q I hq => ?_⟩
  obtain ⟨g, ε, Z, G, h1⟩ := hq
  exact (pts_one h).run pins s σ H Q I ⟨g, ε, Z, G, h1⟩

theorem t_stuck {X : Cx} {W : WX} {e : IE} {ex : Expr} (h : ∀ ε, evT E Φ e ε = .stuck) : PT X ex (tT E Φ X W e) := by
  refine ⟨fun pins s σ H Q I hq => ?_⟩
  obtain ⟨g, ε, Z, G, h1⟩ := hq
  rw [h] at h1
  exact h1.elim
section
variable {S : Stc} {ex : Expr}
theorem soundCst (p : PV) {X : Cx} {W : WX} (ok : Okx E Φ k S W X) (m : mtE E S (.cst p) ex = true) : PE X ex (tE E Φ X W (.cst p)) := by
  cases p <;> cases ex <;> first | (exact absurd m Bool.false_ne_true) | skip
  all_goals
    rename_i c _ _
    cases c <;> first | (exact absurd m Bool.false_ne_true) | skip
  · exact s_cst pe_non fun _ => .non
  · rename_i b _ _ c
    have e := beq_iff_eq.mp (show (b == c) = true from m)
    subst e
    exact s_cst pe_bl fun _ => .bl _
  · rename_i b _ _ c
    have e := beq_iff_eq.mp (show (b == c) = true from m)
    subst e
    exact s_cst pe_int fun _ => .int _
  · rename_i b _ _ c
    have e := beq_iff_eq.mp (show (b == c) = true from m)
    subst e
    exact s_cst pe_str fun _ => .str _
theorem mt_cmp {op : CmpOp} {a b : IE} (m : mtE E S (.cmp op a b) ex = true) : ∃ ea eb pos, ex = .Compare ea [op] [eb] pos ∧ behindInMarks op eb = false ∧ mtE E S a ea = true ∧ mtE E S b eb = true := by
  cases ex <;> first | (exact absurd m Bool.false_ne_true) | skip
  rename_i ea ops es pos
  match ops, es, m with
  | [op'], [eb], m =>
    have m1 : (decide (op = op') && !behindInMarks op eb && mtE E S a ea && mtE E S b eb) = true := m
    simp only [Bool.and_eq_true, decide_eq_true_eq, Bool.not_eq_true'] at m1
    obtain ⟨⟨⟨h1, h2⟩, h3⟩, h4⟩ := m1
    subst h1
    exact ⟨_, _, _, rfl, h2, h3, h4⟩
  | [], _, m => exact absurd m Bool.false_ne_true
  | _ :: _ :: _, _, m => exact absurd m Bool.false_ne_true
  | [_], [], m => exact absurd m Bool.false_ne_true
  | [_], _ :: _ :: _, m => exact absurd m Bool.false_ne_true
theorem mt_chn {o1 o2 : CmpOp} {a b c : IE} (m : mtE E S (.chn o1 o2 a b c) ex = true) : ∃ ea eb ec pos, ex = .Compare ea [o1, o2] [eb, ec] pos ∧ lastMarks [o1, o2] [eb, ec] = false ∧ mtE E S a ea = true ∧ mtE E S b eb = true ∧ mtE E S c ec = true := by
  cases ex <;> first | (exact absurd m Bool.false_ne_true) | skip
  rename_i ea ops es pos
  match ops, es, m with
  | [p1, p2], [eb, ec], m =>
    have m1 : (decide (o1 = p1) && decide (o2 = p2) && !lastMarks [o1, o2] [eb, ec] && mtE E S a ea && mtE E S b eb && mtE E S c ec) = true := m
    simp only [Bool.and_eq_true, decide_eq_true_eq, Bool.not_eq_true'] at m1
    obtain ⟨⟨⟨⟨⟨h1, h2⟩, h3⟩, h4⟩, h5⟩, h6⟩ := m1
    subst h1
    subst h2
    exact ⟨_, _, _, _, rfl, h3, h4, h5, h6⟩
  | [], _, m => exact absurd m Bool.false_ne_true
  | [_], _, m => exact absurd m Bool.false_ne_true
  | [_, _], [], m => exact absurd m Bool.false_ne_true
  | [_, _], [_], m => exact absurd m Bool.false_ne_true
  | [_, _], _ :: _ :: _ :: _, m => exact absurd m Bool.false_ne_true
  | _ :: _ :: _ :: _, _, m => exact absurd m Bool.false_ne_true
theorem mt_lrev {a : IE} (m : mtE E S (.lrev a) ex = true) : ∃ p p2 e pos pos2, ex = .Call (.Name "list" p) [.Call (.Name "reversed" p2) [e] [] pos2] [] pos ∧ ("list" : Str) ∈ E.fre ∧ ("reversed" : Str) ∈ E.fre ∧ glB S.sc "list" = true ∧ glB S.sc "reversed" = true ∧ mtE E S a e = true ∧ noStar e = true := by
  cases ex <;> first | (exact absurd m Bool.false_ne_true) | skip
  rename_i fn es ks pos
  cases fn <;> first | (exact absurd m Bool.false_ne_true) | skip
  rename_i x p
  cases es with
  | nil => cases ks <;> exact absurd m Bool.false_ne_true
  | cons e1 rest =>
    cases e1 <;> first | (exact absurd m Bool.false_ne_true) | (cases ks <;> cases rest <;> exact absurd m Bool.false_ne_true) | skip
    rename_i fn2 es2 ks2 pos2
    cases fn2 <;> first | (exact absurd m Bool.false_ne_true) | (cases ks <;> cases rest <;> exact absurd m Bool.false_ne_true) | skip
    rename_i y p2
    match es2, ks2, rest, ks, m with
    | [e], [], [], [], m =>
      have m1 : (decide (x = "list") && decide (y = "reversed") && decide (("list" : Str) ∈ E.fre) && decide (("reversed" : Str) ∈ E.fre) && glB S.sc x && glB S.sc y && mtE E S a e && noStar e) = true := m
      rw [Bool.and_eq_true, Bool.and_eq_true, Bool.and_eq_true, Bool.and_eq_true, Bool.and_eq_true, Bool.and_eq_true, Bool.and_eq_true] at m1
      obtain ⟨⟨⟨⟨⟨⟨⟨h1, h2⟩, h3⟩, h4⟩, h5⟩, h6⟩, h7⟩, h8⟩ := m1
      have h1 := of_decide_eq_true h1
      have h2 := of_decide_eq_true h2
      subst h1
      subst h2
      exact ⟨p, p2, e, pos, pos2, rfl, of_decide_eq_true h3, of_decide_eq_true h4, h5, h6, h7, h8⟩
    | [], k2, r, kk, m => cases k2 <;> cases r <;> cases kk <;> exact absurd m Bool.false_ne_true
    | [_], _ :: _, r, kk, m => cases r <;> cases kk <;> exact absurd m Bool.false_ne_true
    | _ :: _ :: _, k2, r, kk, m => cases k2 <;> cases r <;> cases kk <;> exact absurd m Bool.false_ne_true
    | [_], [], _ :: _, kk, m => cases kk <;> exact absurd m Bool.false_ne_true
    | [_], [], [], _ :: _, m => exact absurd m Bool.false_ne_true
theorem mt_split {a b : IE} (m : mtE E S (.split a b) ex = true) : ∃ ea eb apos cpos, ex = .Call (.Attribute ea "split" apos) [eb] [] cpos ∧ (apos.endLine == cpos.line) = true ∧ mtE E S a ea = true ∧ mtE E S b eb = true ∧ noStar eb = true ∧ plainO ea = true := by
  cases ex <;> first | (exact absurd m Bool.false_ne_true) | skip
  rename_i fn es ks cpos
  cases fn <;> first | (exact absurd m Bool.false_ne_true) | skip
  rename_i ea nm apos
  match es, ks, m with
  | [eb], [], m =>
    have m1 : (decide (nm = "split") && (apos.endLine == cpos.line) && mtE E S a ea && mtE E S b eb && noStar eb && plainO ea) = true := m
    rw [Bool.and_eq_true, Bool.and_eq_true, Bool.and_eq_true, Bool.and_eq_true, Bool.and_eq_true] at m1
    obtain ⟨⟨⟨⟨⟨h1, h2⟩, h3⟩, h4⟩, h5⟩, h6⟩ := m1
    have h1 := of_decide_eq_true h1
    subst h1
    exact ⟨ea, eb, apos, cpos, rfl, h2, h3, h4, h5, h6⟩
  | [], [], m => exact absurd m Bool.false_ne_true
  | [], _ :: _, m => exact absurd m Bool.false_ne_true
  | [_], _ :: _, m => exact absurd m Bool.false_ne_true
  | _ :: _ :: _, [], m => exact absurd m Bool.false_ne_true
  | _ :: _ :: _, _ :: _, m => exact absurd m Bool.false_ne_true
theorem mt_isN {a : IE} {n : Bool} (m : mtE E S (.isN a n) ex = true) : ∃ ea op j pos pos', ex = .Compare ea [op] [.Constant .none j pos'] pos ∧ (op = if n = true then .IsNot else .Is) ∧ mtE E S a ea = true := by
  cases ex <;> first | (exact absurd m Bool.false_ne_true) | skip
  rename_i ea ops es pos
  match ops, es, m with
  | [op'], [eb], m =>
    cases eb <;> first | (exact absurd m Bool.false_ne_true) | skip
    rename_i c j pos'
    cases c <;> first | (exact absurd m Bool.false_ne_true) | skip
    have m1 : (decide (op' = if n then .IsNot else .Is) && mtE E S a ea) = true := m
    simp only [Bool.and_eq_true, decide_eq_true_eq] at m1
    exact ⟨_, _, _, _, _, rfl, m1.1, m1.2⟩
  | [], _, m => exact absurd m Bool.false_ne_true
  | _ :: _ :: _, _, m => exact absurd m Bool.false_ne_true
  | [_], [], m => exact absurd m Bool.false_ne_true
  | [_], e1 :: _ :: _, m =>
    cases e1 <;> first | (exact absurd m Bool.false_ne_true) | skip
    rename_i c _ _
    cases c <;> exact absurd m Bool.false_ne_true
theorem mt_slc {a : IE} {lo hi : Option IE} (m : mtE E S (.slc a lo hi) ex = true) : ∃ ea elo ehi pos p2, ex = .Subscript ea (.Slice elo ehi none p2) pos ∧ mtE E S a ea = true ∧ mtO E S lo elo = true ∧ mtO E S hi ehi = true := by
  cases ex <;> first | (exact absurd m Bool.false_ne_true) | skip
  rename_i ea es pos
  cases es <;> first | (exact absurd m Bool.false_ne_true) | skip
  rename_i l u st p2
  cases st <;> first | (exact absurd m Bool.false_ne_true) | skip
  have m1 : (mtE E S a ea && mtO E S lo l && mtO E S hi u) = true := m
  simp only [Bool.and_eq_true] at m1
  exact ⟨_, _, _, _, _, rfl, m1.1.1, m1.1.2, m1.2⟩
theorem mt_call {f : Nat} {as : List IE} (m : mtE E S (.call f as) ex = true) : ∃ fi x e es p pos, ex = .Call (.Name x p) (e :: es) [] pos ∧ E.fns[f]? = some fi ∧ fi.name = x ∧ glB S.sc x = true ∧ mtL E S as (e :: es) = true := by
  cases ex <;> first | (exact absurd m Bool.false_ne_true) | skip
  rename_i fn es ks pos
  cases fn <;> first | (exact absurd m Bool.false_ne_true) | skip
  rename_i x p
  match es, ks, m with
  | e :: es, [], m =>
    have m1 : ((match E.fns[f]? with
      | some fi => decide (fi.name = x)
      | none => false) && glB S.sc x && mtL E S as (e :: es)) = true := m
    rw [Bool.and_eq_true, Bool.and_eq_true] at m1
    obtain ⟨⟨h1, h2⟩, h3⟩ := m1
    cases hf : E.fns[f]? with
    | none => rw [hf] at h1; exact absurd h1 Bool.false_ne_true
    | some fi =>
      rw [hf] at h1
      exact ⟨fi, x, e, es, p, pos, rfl, rfl, of_decide_eq_true h1, h2, h3⟩
  | [], _, m => exact absurd m Bool.false_ne_true
  | _ :: _, _ :: _, m => exact absurd m Bool.false_ne_true
theorem mt_blt {b : Blt} {as : List IE} (m : mtE E S (.blt b as) ex = true) : ∃ x e es p pos, ex = .Call (.Name x p) (e :: es) [] pos ∧ bltN b = x ∧ b ∈ E.blts ∧ glB S.sc x = true ∧ mtL E S as (e :: es) = true := by
  cases ex <;> first | (exact absurd m Bool.false_ne_true) | skip
  rename_i fn es ks pos
  cases fn <;> first | (exact absurd m Bool.false_ne_true) | skip
  rename_i x p
  match es, ks, m with
  | e :: es, [], m =>
    have m1 : (decide (bltN b = x) && decide (b ∈ E.blts) && glB S.sc x && mtL E S as (e :: es)) = true := m
    simp only [Bool.and_eq_true, decide_eq_true_eq] at m1
    exact ⟨x, e, es, p, pos, rfl, m1.1.1.1, m1.1.1.2, m1.1.2, m1.2⟩
  | [], _, m => exact absurd m Bool.false_ne_true
  | _ :: _, _ :: _, m => exact absurd m Bool.false_ne_true
theorem mt_isi {a : IE} {ty : String} (m : mtE E S (.isi a ty) ex = true) : ∃ e y p p2 pos, ex = .Call (.Name "isinstance" p) [e, .Name y p2] [] pos ∧ Str.ofString ty = y ∧ ty ∈ E.tys ∧ glB S.sc "isinstance" = true ∧ glB S.sc y = true ∧ mtE E S a e = true ∧ noStar e = true := by
  cases ex <;> first | (exact absurd m Bool.false_ne_true) | skip
  rename_i fn es ks pos
  cases fn <;> first | (exact absurd m Bool.false_ne_true) | skip
  rename_i x p
  match es, ks, m with
  | [e, e2], [], m =>
    cases e2 <;> first | (exact absurd m Bool.false_ne_true) | skip
    rename_i y p2
    have m1 : (decide (x = "isinstance") && decide (Str.ofString ty = y) && decide (ty ∈ E.tys) && glB S.sc x && glB S.sc y && mtE E S a e && noStar e) = true := m
    simp only [Bool.and_eq_true, decide_eq_true_eq] at m1
    obtain ⟨⟨⟨⟨⟨⟨h1, h2⟩, h3⟩, h4⟩, h5⟩, h6⟩, h7⟩ := m1
    subst h1
    exact ⟨e, y, p, p2, pos, rfl, h2, h3, h4, h5, h6, h7⟩
  | [], _, m => exact absurd m Bool.false_ne_true
  | [_], _, m => exact absurd m Bool.false_ne_true
  | _ :: e2 :: _ :: _, _, m => cases e2 <;> exact absurd m Bool.false_ne_true
  | [_, e2], _ :: _, m => cases e2 <;> exact absurd m Bool.false_ne_true
theorem mt_cmpr {elt : IE} {tg : Tg} {sk : Src} {its : List IE} {cond : List IE} {own : List Nat} (m : mtE E S (.cmpr elt tg sk its cond own) ex = true) : ∃ eelt etg eit eifs scope pos, ex = .ListComp eelt [⟨etg, eit, eifs, 0⟩] scope pos ∧ noSet eit = true ∧ (srcHd E S sk eit = true ∧ mtL E S its (srcAs sk eit) = true) ∧
    blkC S.N S.sc scope (ownL S.N own) = true ∧ mtT (S.blk scope) tg etg = true ∧ mtL E (S.blk scope) cond eifs = true ∧ mtE E (S.blk scope) elt eelt = true ∧ cond.length ≤ 1 ∧ ∀ i ∈ tgS tg, i ∈ own := by
  cases ex <;> first | (exact absurd m Bool.false_ne_true) | skip
  rename_i eelt gs scope pos
  match gs, m with
  | [⟨etg, eit, eifs, ia⟩], m =>
    have m1 : (noSet eit && srcHd E S sk eit && mtL E S its (srcAs sk eit) && blkC S.N S.sc scope (ownL S.N own) && mtT (S.blk scope) tg etg && mtL E (S.blk scope) cond eifs && mtE E (S.blk scope) elt eelt && decide (ia = 0) && decide (cond.length ≤ 1) && (tgS tg).all (fun i => decide (i ∈ own))) = true := m
    simp only [Bool.and_eq_true, decide_eq_true_eq, List.all_eq_true] at m1
    obtain ⟨⟨⟨⟨⟨⟨⟨⟨⟨h1, h2⟩, h2'⟩, h3⟩, h4⟩, h5⟩, h6⟩, h7⟩, h8⟩, h9⟩ := m1
    subst h7
    exact ⟨_, _, _, _, _, _, rfl, h1, ⟨h2, h2'⟩, h3, h4, h5, h6, h8, h9⟩
  | [], m => exact absurd m Bool.false_ne_true
  | ⟨_, _, _, _⟩ :: _ :: _, m => exact absurd m Bool.false_ne_true
theorem mt_mut {mm : Mu} {i : Nat} {as : List IE} (m : mtE E S (.mut mm i as) ex = true) : ∃ x px apos es cpos, ex = .Call (.Attribute (.Name x px) (muN mm) apos) es [] cpos ∧ (decide (S.N[i]? = some x) && visB S.sc x && okN x) = true ∧ (apos.endLine == cpos.line) = true ∧ mtL E S as es = true := by
  cases ex <;> first | (exact absurd m Bool.false_ne_true) | skip
  rename_i fn es ks cpos
  cases fn <;> first | (exact absurd m Bool.false_ne_true) | skip
  rename_i o nm apos
  cases o <;> first | (exact absurd m Bool.false_ne_true) | skip
  rename_i x px
  cases ks with
  | cons _ _ => exact absurd m Bool.false_ne_true
  | nil =>
    have m1 : (decide (S.N[i]? = some x) && visB S.sc x && okN x && decide (nm = muN mm) && (apos.endLine == cpos.line) && mtL E S as es && decide (es.length < 20)) = true := m
    rw [Bool.and_eq_true, Bool.and_eq_true, Bool.and_eq_true, Bool.and_eq_true] at m1
    obtain ⟨⟨⟨⟨h1, h2⟩, h3⟩, h4⟩, h5⟩ := m1
    have h2 := of_decide_eq_true h2
    subst h2
    exact ⟨x, px, apos, es, cpos, rfl, h1, h3, h4⟩
end

theorem plain_base {ea : Expr} {nm : Str} {env : Env} (h : plainO ea = true) : attributeBase ea nm env (eval ea env) = eval ea env := by
  cases ea <;> first | rfl | exact absurd h Bool.false_ne_true
theorem mtL_len {S : Stc} : ∀ {l : List IE} {es : List Expr}, mtL E S l es = true → l.length = es.length
  | [], [], _ => rfl
  | [], _ :: _, h => absurd h Bool.false_ne_true
  | _ :: _, [], h => absurd h Bool.false_ne_true
  | a :: l, e :: es, h => by
    have h : (mtE E S a e && mtL E S l es && noStar e) = true := h
    simp only [Bool.and_eq_true] at h
    rw [List.length_cons, List.length_cons, mtL_len h.1.2]
theorem hd_rng {S : Stc} {X : Cx} {W : WX} {ex : Expr} (ok : Okx E Φ k S W X) (m : srcHd E S .rng ex = true) : ∃ p es pos, ex = .Call (.Name "range" p) es [] pos ∧ 1 ≤ es.length ∧ es.length ≤ 3 ∧ Gl X "range" ∧ X.mg "range" = none := by
  cases ex <;> first | (exact absurd m Bool.false_ne_true) | skip
  rename_i fn es ks pos
  cases fn <;> first | (exact absurd m Bool.false_ne_true) | skip
  rename_i x p
  cases ks with
  | cons _ _ => exact absurd m Bool.false_ne_true
  | nil =>
    have m : (decide (x = "range") && decide (("range" : Str) ∈ E.fre) && glB S.sc x && decide (1 ≤ es.length) && decide (es.length ≤ 3)) = true := m
    rw [Bool.and_eq_true, Bool.and_eq_true, Bool.and_eq_true, Bool.and_eq_true] at m
    obtain ⟨⟨⟨⟨h1, h2⟩, h3⟩, h4⟩, h5⟩ := m
    have h1 := of_decide_eq_true h1
    subst h1
    exact ⟨p, es, pos, rfl, of_decide_eq_true h4, of_decide_eq_true h5, (ok.gl h3).1, ok.fr _ (of_decide_eq_true h2)⟩
theorem hd_rev {S : Stc} {X : Cx} {W : WX} {ex : Expr} (ok : Okx E Φ k S W X) (m : srcHd E S .rev ex = true) : ∃ p e pos, ex = .Call (.Name "reversed" p) [e] [] pos ∧ Gl X "reversed" ∧ X.mg "reversed" = none := by
  cases ex <;> first | (exact absurd m Bool.false_ne_true) | skip
  rename_i fn es ks pos
  cases fn <;> first | (exact absurd m Bool.false_ne_true) | skip
  rename_i x p
  match es, ks, m with
  | [e], [], m =>
    have m : (decide (x = "reversed") && decide (("reversed" : Str) ∈ E.fre) && glB S.sc x) = true := m
    rw [Bool.and_eq_true, Bool.and_eq_true] at m
    obtain ⟨⟨h1, h2⟩, h3⟩ := m
    have h1 := of_decide_eq_true h1
    subst h1
    exact ⟨p, e, pos, rfl, (ok.gl h3).1, ok.fr _ (of_decide_eq_true h2)⟩
  | [], [], m => exact absurd m Bool.false_ne_true
  | [], _ :: _, m => exact absurd m Bool.false_ne_true
  | [_], _ :: _, m => exact absurd m Bool.false_ne_true
  | _ :: _ :: _, [], m => exact absurd m Bool.false_ne_true
  | _ :: _ :: _, _ :: _, m => exact absurd m Bool.false_ne_true
theorem s_srcAll {S : Stc} {X : Cx} {W : WX} {sk : Src} {its : List IE} {tg ex : Expr} (ok : Okx E Φ k S W X) (m1 : srcHd E S sk ex = true) (m2 : mtL E S its (srcAs sk ex) = true) (hA : PA X (srcAs sk ex) (tA E Φ X W its))
    (hE : ∀ e ex', its = [e] → mtE E S e ex' = true → PE X ex' (tE E Φ X W e)) : PI X tg ex (tI E Φ X W sk its) := by
  cases sk with
  | val =>
    match its, m2, hE with
    | [], m2, _ => exact absurd m2 Bool.false_ne_true
    | [e], m2, hE =>
      have m : (mtE E S e ex && mtL E S [] [] && noStar ex) = true := m2
      simp only [Bool.and_eq_true] at m
      exact s_srcV (hE e ex rfl m.1.1)
    | e :: e2 :: l, m2, _ =>
      have m : (mtE E S e ex && false && noStar ex) = true := m2
      simp at m
  | rev =>
    obtain ⟨p, e', pos, rfl, hg, hm⟩ := hd_rev ok m1
    match its, m2, hE with
    | [], m2, _ => exact absurd m2 Bool.false_ne_true
    | [e], m2, hE =>
      have m : (mtE E S e e' && mtL E S [] [] && noStar e') = true := m2
      simp only [Bool.and_eq_true] at m
      exact s_srcRev hg hm m.2 (hE e e' rfl m.1.1)
    | e :: e2 :: l, m2, _ =>
      have m : (mtE E S e e' && false && noStar e') = true := m2
      simp at m
  | rng =>
    obtain ⟨p, es, pos, rfl, h1, h3, hg, hm⟩ := hd_rng ok m1
    have m : mtL E S its es = true := m2
    exact s_srcRng hg hm (mtL_star m) h1 h3 (mtL_len m) hA
mutual
theorem soundE : (e : IE) → ∀ {S : Stc} {X : Cx} {W : WX} {ex : Expr}, Okx E Φ k S W X → mtE E S e ex = true → PE X ex (tE E Φ X W e)
  | .var i, S, X, W, ex, ok, m => by
    cases ex <;> first | (exact absurd m Bool.false_ne_true) | skip
    exact s_var ok m
  | .cst p, S, X, W, ex, ok, m => soundCst p ok m
  | .glb x, S, X, W, ex, ok, m => by
    cases ex <;> first | (exact absurd m Bool.false_ne_true) | skip
    rename_i y _
    have m1 : (decide (x = y) && glB S.sc x) = true := m
    simp only [Bool.and_eq_true, decide_eq_true_eq] at m1
    obtain ⟨e, m2⟩ := m1
    subst e
    exact s_glb ok m2
  | .bin op a b, S, X, W, ex, ok, m => by
    cases ex <;> first | (exact absurd m Bool.false_ne_true) | skip
    rename_i ea op' eb _
    have m : (decide (op = op') && mtE E S a ea && mtE E S b eb) = true := m
    simp only [Bool.and_eq_true, decide_eq_true_eq] at m
    obtain ⟨⟨rfl, m1⟩, m2⟩ := m
    exact s_bin (soundE a ok m1) (soundE b ok m2)
  | .neg a, S, X, W, ex, ok, m => by
    cases ex <;> first | (exact absurd m Bool.false_ne_true) | skip
    rename_i op ea _
    cases op <;> first | (exact absurd m Bool.false_ne_true) | skip
    exact s_neg (soundE a ok m)
  | .cmp op a b, S, X, W, ex, ok, m => by
    obtain ⟨ea, eb, pos, rfl, hop, m1, m2⟩ := mt_cmp m
    exact s_cmp ok hop (soundE a ok m1) (soundE b ok m2)
  | .chn o1 o2 a b c, S, X, W, ex, ok, m => by
    obtain ⟨ea, eb, ec, pos, rfl, hm, m1, m2, m3⟩ := mt_chn m
    exact s_chn ok hm (soundE a ok m1) (soundE b ok m2) (soundE c ok m3)
  | .split a b, S, X, W, ex, ok, m => by
    obtain ⟨ea, eb, apos, cpos, rfl, hl, m1, m2, hs, hp⟩ := mt_split m
    exact s_split (soundE a ok m1) (soundE b ok m2) hs hl (plain_base hp)
  | .lrev a, S, X, W, ex, ok, m => by
    obtain ⟨p, p2, e, pos, pos2, rfl, f1, f2, g1, g2, m1, hs⟩ := mt_lrev m
    exact s_lrev ok (ok.gl g1).1 (ok.fr _ f1) (ok.gl g2).1 (ok.fr _ f2) (soundE a ok m1) hs
  | .isN a n, S, X, W, ex, ok, m => by
    obtain ⟨ea, op, j, pos, pos', rfl, hop, m1⟩ := mt_isN m
    exact s_isN hop (soundE a ok m1)
  | .and l, S, X, W, ex, ok, m => by
    cases ex <;> first | (exact absurd m Bool.false_ne_true) | skip
    rename_i op es _
    cases op <;> first | (exact absurd m Bool.false_ne_true) | skip
    exact soundAnd l ok m
  | .or l, S, X, W, ex, ok, m => by
    cases ex <;> first | (exact absurd m Bool.false_ne_true) | skip
    rename_i op es _
    cases op <;> first | (exact absurd m Bool.false_ne_true) | skip
    exact soundOr l ok m
  | .not a, S, X, W, ex, ok, m => by
    cases ex <;> first | (exact absurd m Bool.false_ne_true) | skip
    rename_i op ea _
    cases op <;> first | (exact absurd m Bool.false_ne_true) | skip
    exact s_not (soundE a ok m)
  | .ite c a b, S, X, W, ex, ok, m => by
    cases ex <;> first | (exact absurd m Bool.false_ne_true) | skip
    rename_i ec ea eb _
    have m : (mtE E S c ec && mtE E S a ea && mtE E S b eb) = true := m
    simp only [Bool.and_eq_true] at m
    exact s_ite (soundT c ok m.1.1) (soundE a ok m.1.2) (soundE b ok m.2)
  | .tup l, S, X, W, ex, ok, m => by
    cases ex <;> first | (exact absurd m Bool.false_ne_true) | skip
    exact s_tup (soundA l ok m)
  | .lst l, S, X, W, ex, ok, m => by
    cases ex <;> first | (exact absurd m Bool.false_ne_true) | skip
    exact s_lst (soundA l ok m)
  | .sub a i, S, X, W, ex, ok, m => by
    cases ex <;> first | (exact absurd m Bool.false_ne_true) | skip
    rename_i ea ei _
    have m : (mtE E S a ea && mtE E S i ei && noSlc ei) = true := m
    simp only [Bool.and_eq_true] at m
    exact s_sub m.2 (soundE a ok m.1.1) (soundE i ok m.1.2)
  | .slc a lo hi, S, X, W, ex, ok, m => by
    obtain ⟨ea, elo, ehi, pos, p2, rfl, m1, m2, m3⟩ := mt_slc m
    exact s_slc (soundE a ok m1) (soundO lo ok m2) (soundO hi ok m3)
  | .call f as, S, X, W, ex, ok, m => by
    obtain ⟨fi, x, e, es, p, pos, rfl, hf, hx, hg, m1⟩ := mt_call m
    exact s_call ok hf hx hg (mtL_star m1) (soundA as ok m1)
  | .blt b as, S, X, W, ex, ok, m => by
    obtain ⟨x, e, es, p, pos, rfl, hx, hb, hg, m1⟩ := mt_blt m
    exact s_blt ok hx hb hg (mtL_star m1) (soundA as ok m1)
  | .isi a ty, S, X, W, ex, ok, m => by
    obtain ⟨e, y, p, p2, pos, rfl, hy, ht, hg, hgy, m1, hs⟩ := mt_isi m
    exact s_isi ok hy ht hg hgy hs (soundE a ok m1)
  | .cmpr elt tg sk its cond own, S, X, W, ex, ok, m => by
    obtain ⟨eelt, etg, eit, eifs, scope, pos, rfl, m1, m2, m3, m4, m5, m6, m7, m8⟩ := mt_cmpr m
    have hcond : ∀ (Y : Cx), Okx E Φ k (S.blk scope) W0 Y → PTs Y eifs (tC1 E Φ Y W0 cond) := fun Y okY => soundC cond okY m5 m7
    have hE : ∀ e ex', its = [e] → mtE E S e ex' = true → PE X ex' (tE E Φ X W e) := match its with
      | [e] => fun e' ex' h m => by
        cases h
        exact soundE e ok m
      | [] => fun _ _ h _ => nomatch h
      | _ :: _ :: _ => fun _ _ h _ => by simp at h
    have hit : PI X etg eit (tI E Φ X W sk its) := s_srcAll ok m2.1 m2.2 (soundA its ok m2.2) hE
    have C : CmpOk E Φ X W S elt tg sk its cond own eelt etg eit eifs scope := by
      refine ⟨hit, noSet_fold m1, blkOk_by m3, m8, fun s H C cl fp => ?_, fun s H C cl fp => ?_, fun s H C cl fp => ?_⟩
      · exact s_tg (ok.blk (blkOk_by m3) s H C cl fp) m4
      · exact hcond _ (ok.blk (blkOk_by m3) s H C cl fp)
      · exact soundE elt (ok.blk (blkOk_by m3) s H C cl fp) m6
    exact s_cmpr ok C.hit C.hns C.bo C.hto C.hg C.ht C.he
  | .mut mm i as, S, X, W, ex, ok, m => by
    obtain ⟨x, px, apos, es, cpos, rfl, hv, hl, ml⟩ := mt_mut m
    by_cases hn : as.length = muA mm
    · cases mm with
      | append =>
        match as, es, ml, hn with
        | [a], [e], ml, _ => exact s_append ok hv hl (mtL_star ml e List.mem_cons_self) (soundA [a] ok ml)
        | [a], [], ml, _ => exact absurd ml Bool.false_ne_true
        | [a], e :: e2 :: es, ml, _ => exact absurd (show (mtE E S a e && false && noStar e) = true from ml) (by simp)
      | pop =>
        match as, es, ml, hn with
        | [], [], ml, _ => exact s_pop ok hv hl
        | [], _ :: _, ml, _ => exact absurd ml Bool.false_ne_true
    · refine ⟨fun pins s σ H Q I hq => ?_⟩
      obtain ⟨g, ε, Z, G, h1⟩ := hq
      have h1 : Post E X W g σ Z (PR X g σ Q) (if as.length = muA mm then _ else .stuck) := h1
      rw [if_neg hn] at h1
      exact h1.elim
theorem soundT : (e : IE) → ∀ {S : Stc} {X : Cx} {W : WX} {ex : Expr}, Okx E Φ k S W X → mtE E S e ex = true → PT X ex (tT E Φ X W e)
  | .var i, S, X, W, ex, ok, m => by
    cases ex <;> first | (exact absurd m Bool.false_ne_true) | skip
    exact t_val (s_var ok m) (v_var i) fun _ => rfl
  | .cst p, S, X, W, ex, ok, m => by
    have h := soundCst p ok m
    cases p <;> cases ex <;> first | (exact absurd m Bool.false_ne_true) | skip
    all_goals exact t_val h (v_cst _) fun _ => rfl
  | .cmp op a b, S, X, W, ex, ok, m => by
    obtain ⟨ea, eb, pos, rfl, hop, m1, m2⟩ := mt_cmp m
    exact t_cmp ok hop (soundE a ok m1) (soundE b ok m2)
  | .chn o1 o2 a b c, S, X, W, ex, ok, m => by
    obtain ⟨ea, eb, ec, pos, rfl, hm, m1, m2, m3⟩ := mt_chn m
    exact t_chn ok hm (soundE a ok m1) (soundE b ok m2) (soundE c ok m3)
  | .lrev _, _, _, _, _, _, _ => t_stuck fun _ => rfl
  | .split _ _, _, _, _, _, _, _ => t_stuck fun _ => rfl
  | .isN a n, S, X, W, ex, ok, m => by
    obtain ⟨ea, op, j, pos, pos', rfl, hop, m1⟩ := mt_isN m
    exact t_isN hop (soundE a ok m1)
  | .and l, S, X, W, ex, ok, m => by
    cases ex <;> first | (exact absurd m Bool.false_ne_true) | skip
    rename_i op es _
    cases op <;> first | (exact absurd m Bool.false_ne_true) | skip
    exact (soundAndT l ok m).pt
  | .or l, S, X, W, ex, ok, m => by
    cases ex <;> first | (exact absurd m Bool.false_ne_true) | skip
    rename_i op es _
    cases op <;> first | (exact absurd m Bool.false_ne_true) | skip
    exact (soundOrT l ok m).pt
  | .not a, S, X, W, ex, ok, m => by
    cases ex <;> first | (exact absurd m Bool.false_ne_true) | skip
    rename_i op ea _
    cases op <;> first | (exact absurd m Bool.false_ne_true) | skip
    exact t_not (soundT a ok m)
  | .sub a i, S, X, W, ex, ok, m => by
    cases ex <;> first | (exact absurd m Bool.false_ne_true) | skip
    rename_i ea ei _
    have m' : (mtE E S a ea && mtE E S i ei && noSlc ei) = true := m
    simp only [Bool.and_eq_true] at m'
    exact t_val (s_sub m'.2 (soundE a ok m'.1.1) (soundE i ok m'.1.2)) (v_sub a i) fun _ => rfl
  | .call f as, S, X, W, ex, ok, m => by
    obtain ⟨fi, x, e, es, p, pos, rfl, hf, hx, hg, m1⟩ := mt_call m
    exact t_val (s_call ok hf hx hg (mtL_star m1) (soundA as ok m1)) (v_call f as) fun _ => rfl
  | .blt b as, S, X, W, ex, ok, m => by
    obtain ⟨x, e, es, p, pos, rfl, hx, hb, hg, m1⟩ := mt_blt m
    exact t_val (s_blt ok hx hb hg (mtL_star m1) (soundA as ok m1)) (v_blt b as) fun _ => rfl
  | .isi a ty, S, X, W, ex, ok, m => by
    obtain ⟨e, y, p, p2, pos, rfl, hy, ht, hg, hgy, m1, hs⟩ := mt_isi m
    exact t_val (s_isi ok hy ht hg hgy hs (soundE a ok m1)) (v_isi a ty) fun _ => rfl
  | .glb _, _, _, _, _, _, _ => t_stuck fun _ => rfl
  | .bin _ _ _, _, _, _, _, _, _ => t_stuck fun _ => rfl
  | .neg _, _, _, _, _, _, _ => t_stuck fun _ => rfl
  | .ite _ _ _, _, _, _, _, _, _ => t_stuck fun _ => rfl
  | .tup _, _, _, _, _, _, _ => t_stuck fun _ => rfl
  | .lst _, _, _, _, _, _, _ => t_stuck fun _ => rfl
  | .slc _ _ _, _, _, _, _, _, _ => t_stuck fun _ => rfl
  | .cmpr _ _ _ _ _ _, _, _, _, _, _, _ => t_stuck fun _ => rfl
  | .mut _ _ _, _, _, _, _, _, _ => t_stuck fun _ => rfl
theorem soundA : (l : List IE) → ∀ {S : Stc} {X : Cx} {W : WX} {es : List Expr}, Okx E Φ k S W X → mtL E S l es = true → PA X es (tA E Φ X W l)
  | [], S, X, W, es, ok, m => by
    cases es with
    | nil => exact s_nil
    | cons _ _ => exact absurd m Bool.false_ne_true
  | a :: l, S, X, W, es, ok, m => by
    cases es with
    | nil => exact absurd m Bool.false_ne_true
    | cons e es =>
      have m : (mtE E S a e && mtL E S l es && noStar e) = true := m
      simp only [Bool.and_eq_true] at m
      exact s_cons m.2 (soundE a ok m.1.1) (soundA l ok m.1.2)
theorem soundO : (o : Option IE) → ∀ {S : Stc} {X : Cx} {W : WX} {eo : Option Expr}, Okx E Φ k S W X → mtO E S o eo = true → PO X eo (tO E Φ X W o)
  | none, S, X, W, eo, ok, m => by
    cases eo with
    | none => exact s_none
    | some _ => exact absurd m Bool.false_ne_true
  | some a, S, X, W, eo, ok, m => by
    cases eo with
    | none => exact absurd m Bool.false_ne_true
    | some e => exact s_some (soundE a ok m)
theorem soundAnd : (l : List IE) → ∀ {S : Stc} {X : Cx} {W : WX} {es : List Expr} {pos : Pos}, Okx E Φ k S W X → mtL E S l es = true → PE X (.BoolOp .And es pos) (tAndL E Φ X W l)
  | [], S, X, W, es, pos, ok, m => ⟨fun pins s σ H Q I ⟨g, ε, Z, G, h⟩ => h.elim⟩
  | [a], S, X, W, es, pos, ok, m => by
    cases es with
    | nil => exact absurd m Bool.false_ne_true
    | cons e es =>
      have m : (mtE E S a e && mtL E S [] es && noStar e) = true := m
      simp only [Bool.and_eq_true] at m
      cases es with
      | nil => exact s_and1 (soundE a ok m.1.1)
      | cons _ _ => exact absurd m.1.2 Bool.false_ne_true
  | a :: b :: l, S, X, W, es, pos, ok, m => by
    cases es with
    | nil => exact absurd m Bool.false_ne_true
    | cons e es =>
      have m : (mtE E S a e && mtL E S (b :: l) es && noStar e) = true := m
      simp only [Bool.and_eq_true] at m
      have h := soundAnd (b :: l) (pos := pos) ok m.1.2
      cases es with
      | nil => exact absurd m.1.2 Bool.false_ne_true
      | cons e2 es => exact s_and2 (soundE a ok m.1.1) h
theorem soundOr : (l : List IE) → ∀ {S : Stc} {X : Cx} {W : WX} {es : List Expr} {pos : Pos}, Okx E Φ k S W X → mtL E S l es = true → PE X (.BoolOp .Or es pos) (tOrL E Φ X W l)
  | [], S, X, W, es, pos, ok, m => ⟨fun pins s σ H Q I ⟨g, ε, Z, G, h⟩ => h.elim⟩
  | [a], S, X, W, es, pos, ok, m => by
    cases es with
    | nil => exact absurd m Bool.false_ne_true
    | cons e es =>
      have m : (mtE E S a e && mtL E S [] es && noStar e) = true := m
      simp only [Bool.and_eq_true] at m
      cases es with
      | nil => exact s_or1 (soundE a ok m.1.1)
      | cons _ _ => exact absurd m.1.2 Bool.false_ne_true
  | a :: b :: l, S, X, W, es, pos, ok, m => by
    cases es with
    | nil => exact absurd m Bool.false_ne_true
    | cons e es =>
      have m : (mtE E S a e && mtL E S (b :: l) es && noStar e) = true := m
      simp only [Bool.and_eq_true] at m
      have h := soundOr (b :: l) (pos := pos) ok m.1.2
      cases es with
      | nil => exact absurd m.1.2 Bool.false_ne_true
      | cons e2 es => exact s_or2 (soundE a ok m.1.1) h
theorem soundAndT : (l : List IE) → ∀ {S : Stc} {X : Cx} {W : WX} {es : List Expr} {pos : Pos}, Okx E Φ k S W X → mtL E S l es = true → PW X (.BoolOp .And es pos) (tAndLT E Φ X W l)
  | [], S, X, W, es, pos, ok, m => ⟨fun wh pins s σ H Q I ⟨g, ε, Z, G, h⟩ => h.elim⟩
  | [a], S, X, W, es, pos, ok, m => by
    cases es with
    | nil => exact absurd m Bool.false_ne_true
    | cons e es =>
      have m : (mtE E S a e && mtL E S [] es && noStar e) = true := m
      simp only [Bool.and_eq_true] at m
      cases es with
      | nil => exact t_and1 (soundT a ok m.1.1)
      | cons _ _ => exact absurd m.1.2 Bool.false_ne_true
  | a :: b :: l, S, X, W, es, pos, ok, m => by
    cases es with
    | nil => exact absurd m Bool.false_ne_true
    | cons e es =>
      have m : (mtE E S a e && mtL E S (b :: l) es && noStar e) = true := m
      simp only [Bool.and_eq_true] at m
      have h := soundAndT (b :: l) (pos := pos) ok m.1.2
      cases es with
      | nil => exact absurd m.1.2 Bool.false_ne_true
      | cons e2 es => exact t_and2 (soundT a ok m.1.1) h
theorem soundOrT : (l : List IE) → ∀ {S : Stc} {X : Cx} {W : WX} {es : List Expr} {pos : Pos}, Okx E Φ k S W X → mtL E S l es = true → PW X (.BoolOp .Or es pos) (tOrLT E Φ X W l)
  | [], S, X, W, es, pos, ok, m => ⟨fun wh pins s σ H Q I ⟨g, ε, Z, G, h⟩ => h.elim⟩
  | [a], S, X, W, es, pos, ok, m => by
    cases es with
    | nil => exact absurd m Bool.false_ne_true
    | cons e es =>
      have m : (mtE E S a e && mtL E S [] es && noStar e) = true := m
      simp only [Bool.and_eq_true] at m
      cases es with
      | nil => exact t_or1 (soundT a ok m.1.1)
      | cons _ _ => exact absurd m.1.2 Bool.false_ne_true
  | a :: b :: l, S, X, W, es, pos, ok, m => by
    cases es with
    | nil => exact absurd m Bool.false_ne_true
    | cons e es =>
      have m : (mtE E S a e && mtL E S (b :: l) es && noStar e) = true := m
      simp only [Bool.and_eq_true] at m
      have h := soundOrT (b :: l) (pos := pos) ok m.1.2
      cases es with
      | nil => exact absurd m.1.2 Bool.false_ne_true
      | cons e2 es => exact t_or2 (soundT a ok m.1.1) h
theorem soundC : (l : List IE) → ∀ {S : Stc} {X : Cx} {es : List Expr}, Okx E Φ k S W0 X → mtL E S l es = true → l.length ≤ 1 → PTs X es (tC1 E Φ X W0 l)
  | [], S, X, es, ok, m, _ => by
    cases es with
    | nil => exact sc_nil
    | cons _ _ => exact absurd m Bool.false_ne_true
  | [a], S, X, es, ok, m, _ => by
    cases es with
    | nil => exact absurd m Bool.false_ne_true
    | cons e es =>
      have m : (mtE E S a e && mtL E S [] es && noStar e) = true := m
      simp only [Bool.and_eq_true] at m
      cases es with
      | nil => exact sc_one (soundT a ok m.1.1)
      | cons _ _ => exact absurd m.1.2 Bool.false_ne_true
  | _ :: _ :: _, S, X, es, ok, m, h => absurd h (by simp)
end
theorem soundI (sk : Src) (its : List IE) {S : Stc} {X : Cx} {W : WX} {tg ex : Expr} (ok : Okx E Φ k S W X) (m1 : srcHd E S sk ex = true) (m2 : mtL E S its (srcAs sk ex) = true) : PI X tg ex (tI E Φ X W sk its) :=
  s_srcAll ok m1 m2 (soundA its ok m2) fun e ex' _ m => soundE e ok m
end
end Eng

set_option maxHeartbeats 4000000
namespace Eng
open PySem PySem.Spec L2
open PyProof.Rows hiding St

/-! ### statements against the text -/
def noComp : Expr → Bool
  | .ListComp _ _ _ _ => false
  | .SetComp _ _ _ _ => false
  | .DictComp _ _ _ _ _ => false
  | _ => true
def noTup : Expr → Bool
  | .Tuple _ _ _ => false
  | _ => true
def isNm : Expr → Bool
  | .Name _ _ => true
  | _ => false
/-- nothing is swapped: other names, more of them, or constants -/
def noSwp (es : List Expr) : Expr → Bool
  | .Tuple vs _ _ => (es.length != 2 && es.length != 3) || vs.all (foldedForSure 8)
  | _ => true
/-- a, b = x, y -/
def par2 (S : Stc) (t : Tg) (e : IE) (es : List Expr) : Expr → Bool
  | .Tuple [a, b] _ _ => match t, e, es with
    | .tp [.nm i, .nm j], .tup [_, _], [.Name x px, .Name y py] => decide (S.N[i]? = some x) && decide (S.N[j]? = some y) && decide (i ≠ j) && decide (S.sc.names.lookup x = some .local) && decide (S.sc.names.lookup y = some .local) && (py.line == px.line) && noStar a && noStar b && !([a, b].all (foldedForSure 8)) && !([a, b].all (constantsAlone 8)) && !(x == y)
    | _, _, _ => false
  | _ => false
/-- y = [..]: the name is swapped with the comprehension's -/
def swB (sc : Scope) (y : Str) (py : Pos) (e : Expr) : Bool := match e with
  | .ListComp _ _ scope pos => decide (sc.names.lookup y = some .local) && (py.line == pos.line) && !(scope.names.any fun (n, k) => n == y && (k == .local || k == .cell))
  | _ => false
def mtHs (E : Eng) (S : Stc) : List (Nat × PV) → List ExceptHandler → Bool
  | [], [] => true
  | (c, p) :: hs, .ExceptHandler (some (.Name x _)) none [.Return (some ex) _] _ :: hds => decide (E.cls[c]? = some x) && glB S.sc x && mtE E S (.cst p) ex && mtHs E S hs hds
  | _, _ => false
mutual
def mtS (E : Eng) (S : Stc) : IS → Stmt → Bool
  | .tryn body hs, .Try ebody hds [] [] _ => mtSs E S body ebody && mtHs E S hs hds && !hds.isEmpty
  | .pass, .Pass _ => true
  | .brk, .Break _ => true
  | .cont, .Continue _ => true
  | .expr e, .Expr ex _ => mtE E S e ex && noComp ex
  | .asg i e, .Assign [.Name y _] ex _ => decide (S.N[i]? = some y) && stB S.so y && mtE E S e ex
  | .asgT t e, .Assign [.Tuple es n pos'] ex _ => mtT S t (.Tuple es n pos') && mtE E S e ex && (noSwp es ex || par2 S t e es ex)
  | .ret e, .Return (some ex) _ => mtE E S e ex
  | .retN, .Return none _ => true
  | .ifs c a b, .If ec ea eb _ => mtE E S c ec && mtSs E S a ea && mtSs E S b eb
  | .raise c msg, .Raise (some (.Call (.Name x _) [.Constant (.str m) _ _] [] _)) none _ => decide (E.cls[c]? = some x) && decide (m = msg) && glB S.sc x
  | .tryx body c suite, .Try ebody [.ExceptHandler (some (.Name x _)) none esuite _] [] [] _ => mtSs E S body ebody && decide (E.cls[c]? = some x) && glB S.sc x && mtSs E S suite esuite && !esuite.isEmpty
  | .for_ tg k its body, .For etg eit ebody [] _ => mtT S tg etg && srcHd E S k eit && mtL E S its (srcAs k eit) && mtSs E S body ebody && noSet eit
  | .whl c body, .While ec ebody [] _ => mtE E S c ec && mtSs E S body ebody
  | _, _ => false
def mtSs (E : Eng) (S : Stc) : List IS → List Stmt → Bool
  | [], [] => true
  | s :: l, st :: sts => mtS E S s st && mtSs E S l sts
  | _, _ => false
end

/-- an exception class of the text -/
structure ExF (X : Cx) (C : Addr) : Prop where
  inn : PySem.W.excIn X.K C HandSPX.veTail "ValueError.__new__" = true
  kp : PySem.W.keepIn X.K (.ref C) = true
  rs : Raises X (.ref C)
structure OkS (E : Eng) (Φ : Nat → List PV → CO) (k : Nat) (S : Stc) (W : WX) (X : Cx) : Prop where
  x : Okx E Φ k S W X
  hs : X.stack = X.env :: X.outer
  hf : X.env.frame = some X.env.locals
  po : PassesOwn (model X.prog X.w) X.A X.env X.xe
  ex : ∀ (c : Nat) (nm : Str), E.cls[c]? = some nm → ∃ C, X.mg nm = some (.ref C) ∧ ExF X C
  sb : ∀ (c d : Nat) (nc nd : Str) (C D : Addr), E.cls[c]? = some nc → E.cls[d]? = some nd → X.mg nc = some (.ref C) → X.mg nd = some (.ref D) → PySem.W.exmOne X.K (.ref C) (.ref D) = some (E.sub c d)

def SPost (E : Eng) (X : Cx) (W : WX) (g : Ent) (σ : St) (Z : Hp) (A : List Nat) (D : Ends) : SO → Prop
  | .nx ε' => ∀ σ' Z' H', Same Z Z' → Good X.K g σ' ε' Z' H' → (∀ j, j ∉ A → σ'[j]? = σ[j]?) → D.nx σ' H'
  | .bk ε' => ∀ σ' Z' H', Same Z Z' → Good X.K g σ' ε' Z' H' → (∀ j, j ∉ A → σ'[j]? = σ[j]?) → D.bk σ' H'
  | .ct ε' => ∀ σ' Z' H', Same Z Z' → Good X.K g σ' ε' Z' H' → (∀ j, j ∉ A → σ'[j]? = σ[j]?) → D.ct σ' H'
  | .rt r ε' => ∀ σ' v Z' H', Same Z Z' → Good X.K g σ' ε' Z' H' → RvR X.K g σ' ε' Z' H' r v → D.rt v H'
  | .exc c ε' => ∀ σ' Z' H' C, Same Z Z' → Good X.K g σ' ε' Z' H' → (∀ j, j ∉ A → σ'[j]? = σ[j]?) → ClsA E X.mg c C → W (.ref C) none σ' H'
  | .stuck => False
def tS (E : Eng) (Φ : Nat → List PV → CO) (X : Cx) (W : WX) (s : IS) : TS := fun D σ H => ∃ g ε Z, Good X.K g σ ε Z H ∧ SPost E X W g σ Z (asgsS s) D (exS E Φ s ε)
def tL (E : Eng) (Φ : Nat → List PV → CO) (X : Cx) (W : WX) (l : List IS) : TS := fun D σ H => ∃ g ε Z, Good X.K g σ ε Z H ∧ SPost E X W g σ Z (asgsL l) D (exL E Φ l ε)
section
variable {E : Eng} {Φ : Nat → List PV → CO} {k : Nat} {S : Stc} {X : Cx} {W : WX} {g : Ent} {σ : St} {ε : Sg} {Z H : Hp}
/-- from a later state -/
theorem SPost.from {A B : List Nat} {D : Ends} {o : SO} {σ1 : St} {Z1 : Hp} (h : SPost E X W g σ Z A D o) (s : Same Z Z1) (kp : ∀ j, j ∉ A → σ1[j]? = σ[j]?) (hb : ∀ j, j ∈ B → j ∈ A) : SPost E X W g σ1 Z1 B D o := by
  have kk : ∀ {σ' : St}, (∀ j, j ∉ B → σ'[j]? = σ1[j]?) → ∀ j, j ∉ A → σ'[j]? = σ[j]? := fun {σ'} q j hj => (q j fun z => hj (hb j z)).trans (kp j hj)
  cases o with
  | nx ε' => exact fun σ' Z' H' s' G q => h σ' Z' H' (s.trans s') G (kk q)
  | bk ε' => exact fun σ' Z' H' s' G q => h σ' Z' H' (s.trans s') G (kk q)
  | ct ε' => exact fun σ' Z' H' s' G q => h σ' Z' H' (s.trans s') G (kk q)
  | rt r ε' => exact fun σ' v Z' H' s' G q => h σ' v Z' H' (s.trans s') G q
  | exc c ε' => exact fun σ' Z' H' C s' G q cl => h σ' Z' H' C (s.trans s') G (kk q) cl
  | stuck => exact h
/-- an expression ahead of a statement's rest -/
theorem tE_s {A : List Nat} {D : Ends} {e : IE} {f : Rv → Sg → SO} {Ψ : VK} (G : Good X.K g σ ε Z H) (h : SPost E X W g σ Z A D (match evE E Φ e ε with | .ok r ε1 => f r ε1 | .exc c ε1 => .exc c ε1 | .stuck => .stuck))
    (k : ∀ r ε1 Z1 H1 v, Same Z Z1 → Good X.K g σ ε1 Z1 H1 → RvR X.K g σ ε1 Z1 H1 r v → SPost E X W g σ Z1 A D (f r ε1) → Ψ v H1) : tE E Φ X W e σ H Ψ := by
  refine ⟨g, ε, Z, G, ?_⟩
  cases hev : evE E Φ e ε with
  | ok r ε1 =>
    rw [hev] at h
    exact fun Z1 H1 s1 G1 v rv => k r ε1 Z1 H1 v s1 G1 rv (h.from s1 (fun _ _ => rfl) fun _ z => z)
  | exc c ε1 =>
    rw [hev] at h
    exact fun Z1 H1 C s1 G1 cl => h σ Z1 H1 C s1 G1 (fun _ _ => rfl) cl
  | stuck => rw [hev] at h; exact h.elim
theorem tT_s {A : List Nat} {D : Ends} {e : IE} {f : Bool → Sg → SO} {Ψ : Bool → Hp → Prop} (G : Good X.K g σ ε Z H) (h : SPost E X W g σ Z A D (match evT E Φ e ε with | .ok r ε1 => f r ε1 | .exc c ε1 => .exc c ε1 | .stuck => .stuck))
    (k : ∀ r ε1 Z1 H1, Same Z Z1 → Good X.K g σ ε1 Z1 H1 → SPost E X W g σ Z1 A D (f r ε1) → Ψ r H1) : tT E Φ X W e σ H Ψ := by
  refine ⟨g, ε, Z, G, ?_⟩
  cases hev : evT E Φ e ε with
  | ok r ε1 =>
    rw [hev] at h
    exact fun Z1 H1 s1 G1 => k r ε1 Z1 H1 s1 G1 (h.from s1 (fun _ _ => rfl) fun _ z => z)
  | exc c ε1 =>
    rw [hev] at h
    exact fun Z1 H1 C s1 G1 cl => h σ Z1 H1 C s1 G1 (fun _ _ => rfl) cl
  | stuck => rw [hev] at h; exact h.elim

/-! ### slots -/
theorem isOwn_set {i j : Nat} {s : Slot} (h : IsOwn (ε.set i s) j) : (j = i ∧ ∃ k p, s = .own k p) ∨ (j ≠ i ∧ IsOwn ε j) := by
  obtain ⟨k, q, e⟩ := h
  rcases getElem?_set_eq e with ⟨z, y⟩ | ⟨n, z⟩
  · exact .inl ⟨z, k, q, y.symm⟩
  · exact .inr ⟨n, k, q, z⟩
theorem Good.setFresh {i : Nat} {p : PV} {a : Addr} (G : Good X.K g σ ε Z H) (hi : i < ε.length) (hn : ∀ q, ε[i]? ≠ some (.own false q)) (r : RvR X.K g σ ε Z H (.fresh p) (.ref a)) : Good X.K g (σ.set i (some (.ref a))) (ε.set i (.own true p)) Z H := by
  obtain ⟨b, e, z0, h0, o, no, np⟩ := r
  cases e
  refine ⟨by rw [List.length_set, List.length_set]; exact G.len, fun j s hs => ?_, fun j l b oj ol ej el => ?_, G.zh, G.hh, G.al, G.zf, G.zz, fun j b hj => ?_, fun q hq => ?_⟩
  · rcases getElem?_set_eq hs with ⟨rfl, rfl⟩ | ⟨nj, hs⟩
    · exact ⟨a, by rw [List.getElem?_set_self (by rw [G.len]; exact hi)], z0, o, fun _ => h0, fun z => nomatch z⟩
    · have q := G.slot j s hs
      cases s with
      | none => trivial
      | val p => obtain ⟨u, q1, q2⟩ := q; exact ⟨u, by rw [List.getElem?_set_ne (Ne.symm nj)]; exact q1, q2⟩
      | own k p => obtain ⟨b, q1, q2⟩ := q; exact ⟨b, by rw [List.getElem?_set_ne (Ne.symm nj)]; exact q1, q2⟩
  · have hiσ : i < σ.length := by rw [G.len]; exact hi
    rcases isOwn_set oj with ⟨rfl, _⟩ | ⟨nj, oj'⟩ <;> rcases isOwn_set ol with ⟨rfl, _⟩ | ⟨nl, ol'⟩
    · rfl
    · rw [List.getElem?_set_self hiσ] at ej
      cases ej
      rw [List.getElem?_set_ne (Ne.symm nl)] at el
      exact absurd el (no l ol')
    · rw [List.getElem?_set_self hiσ] at el
      cases el
      rw [List.getElem?_set_ne (Ne.symm nj)] at ej
      exact absurd ej (no j oj')
    · rw [List.getElem?_set_ne (Ne.symm nj)] at ej
      rw [List.getElem?_set_ne (Ne.symm nl)] at el
      exact G.dis j l b oj' ol' ej el
  · obtain ⟨h1, p', h2⟩ := G.io j b hj
    have nj : i ≠ j := fun z => by subst z; exact hn _ h2
    exact ⟨by rw [List.getElem?_set_ne nj]; exact h1, p', by rw [List.getElem?_set_ne nj]; exact h2⟩
  · obtain ⟨q1, q2, q3⟩ := G.pr q hq
    refine ⟨q1, q2, fun j oj => ?_⟩
    rcases isOwn_set oj with ⟨rfl, _⟩ | ⟨nj, oj⟩
    · rw [List.getElem?_set_self (by rw [G.len]; exact hi)]
      intro z
      cases z
      exact np q hq rfl
    · rw [List.getElem?_set_ne (Ne.symm nj)]
      exact q3 j oj
theorem frzS_len {i : Nat} {p : PV} {ε' : Sg} (e : frzS ε i = some (p, ε')) : ε'.length = ε.length := by
  unfold Eng.frzS at e
  split at e <;> cases e <;> simp
theorem Good.put {i : Nat} {r : Rv} {v : V} {ε2 : Sg} (G : Good X.K g σ ε Z H) (e : putR i r ε = some ε2) (rv : RvR X.K g σ ε Z H r v) : ∃ Z2, Same Z Z2 ∧ Good X.K g (σ.set i (some v)) ε2 Z2 H := by
  unfold putR at e
  split at e
  · cases e
  · cases e
  · rename_i s hno hs
    have hi := (List.getElem?_eq_some_iff.mp hs).1
    have hn : ∀ q, ε[i]? ≠ some (.own false q) := fun q z => by rw [hs] at z; cases z; exact hno _ rfl
    cases r with
    | val p => cases e; exact ⟨Z, .refl _, G.setVal hi hn rv⟩
    | fresh p =>
      cases e
      obtain ⟨a, rfl, q⟩ := id rv
      exact ⟨Z, .refl _, G.setFresh hi hn rv⟩
    | own j =>
      dsimp only at e
      split at e
      · rename_i p ε1 ef
        cases e
        obtain ⟨u, Z2, h1, s2, G2, rp⟩ := G.frzS ef
        have rv : σ[j]? = some (some v) := rv
        rw [rv] at h1
        cases h1
        refine ⟨Z2, s2, G2.setVal (by rw [frzS_len ef]; exact hi) (fun q z => ?_) rp⟩
        unfold Eng.frzS at ef
        split at ef <;> cases ef
        · exact hn q z
        · rcases getElem?_set_eq z with ⟨_, y⟩ | ⟨_, y⟩
          · cases y
          · exact hn q y
      · cases e
theorem Good.drop {i : Nat} (G : Good X.K g σ ε Z H) (hn : ∀ q, ε[i]? ≠ some (.own false q)) : Good X.K g σ (ε.set i .none) Z H where
  len := by rw [List.length_set]; exact G.len
  slot := fun j s hs => by
    rcases getElem?_set_eq hs with ⟨rfl, rfl⟩ | ⟨nj, hs⟩
    · trivial
    · exact G.slot j s hs
  dis := fun j l a oj ol ej el => by
    rcases isOwn_set oj with ⟨_, _, _, z⟩ | ⟨nj, oj⟩
    · cases z
    · rcases isOwn_set ol with ⟨_, _, _, z⟩ | ⟨nl, ol⟩
      · cases z
      · exact G.dis j l a oj ol ej el
  zh := G.zh
  hh := G.hh
  al := G.al
  zf := G.zf
  zz := G.zz
  io := fun j a hj => by
    obtain ⟨h1, p, h2⟩ := G.io j a hj
    have nj : i ≠ j := fun z => by subst z; exact hn _ h2
    exact ⟨h1, p, by rw [List.getElem?_set_ne nj]; exact h2⟩
  pr := fun q hq => by
    obtain ⟨q1, q2, q3⟩ := G.pr q hq
    refine ⟨q1, q2, fun j oj => ?_⟩
    rcases isOwn_set oj with ⟨_, _, _, z⟩ | ⟨nj, oj⟩
    · cases z
    · exact q3 j oj
theorem Good.ret {r r' : Rv} {v : V} {ε2 : Sg} (G : Good X.K g σ ε Z H) (e : retR r ε = some (r', ε2)) (rv : RvR X.K g σ ε Z H r v) : Good X.K g σ ε2 Z H ∧ RvR X.K g σ ε2 Z H r' v := by
  cases r with
  | val p => cases e; exact ⟨G, rv⟩
  | fresh p => cases e; exact ⟨G, rv⟩
  | own j =>
    have e : (match ε[j]? with | some (.own true p) => some (Rv.fresh p, ε.set j .none) | some (.val p) => some (.val p, ε) | _ => none) = some (r', ε2) := e
    have rv : σ[j]? = some (some v) := rv
    split at e
    · rename_i p hs
      cases e
      obtain ⟨a, h1, h2, h3, h4, _⟩ := G.slot _ _ hs
      rw [rv] at h1
      cases h1
      refine ⟨G.drop fun q z => (by rw [hs] at z; cases z), a, rfl, h2, h4 rfl, h3, fun i oi z => ?_, fun q hq z => ?_⟩
      · rcases isOwn_set oi with ⟨_, _, _, y⟩ | ⟨nj, oi⟩
        · cases y
        · exact nj (G.dis i j a oi ⟨_, _, hs⟩ z rv)
      · exact (G.pr q hq).2.2 j ⟨_, _, hs⟩ (by rw [z]; exact rv)
    · rename_i p hs
      cases e
      obtain ⟨u, h1, h2⟩ := G.slot _ _ hs
      rw [rv] at h1
      cases h1
      exact ⟨G, h2⟩
    · cases e
end
end Eng

set_option maxHeartbeats 4000000
namespace Eng
open PySem PySem.Spec L2
open PyProof.Rows hiding St

section
variable {E : Eng} {Φ : Nat → List PV → CO} {k : Nat} {S : Stc} {X : Cx} {W : WX}

theorem swaps_no {e : Expr} {t : Option Expr} {l : Nat} {env : PySem.Env} (h : noComp e = true) : swapsWith e t l env = pure false := by
  cases e <;> first | rfl | cases h
theorem swaps_tup {e : Expr} {es : List Expr} {n : Nat} {p : Pos} {l : Nat} {env : PySem.Env} : swapsWithSole [.Tuple es n p] e l env = pure false := by
  cases e <;> rfl
theorem swapped_no {es : List Expr} {n : Nat} {p : Pos} {e : Expr} {env : PySem.Env} (h : noTup e = true) : swappedStores [.Tuple es n p] e env = pure none := by
  cases e <;> first | rfl | cases h
theorem swapped_nos {es : List Expr} {n : Nat} {p : Pos} {e : Expr} {env : PySem.Env} (h : noSwp es e = true) : swappedStores [.Tuple es n p] e env = pure none := by
  cases e <;> first | rfl | skip
  rename_i vs k2 p2
  have h : ((es.length != 2 && es.length != 3) || vs.all (foldedForSure 8)) = true := h
  unfold swappedStores
  simp only [pure_bind]
  rcases Bool.or_eq_true_iff.mp h with h | h
  · have : (es.length == 2 || es.length == 3) = false := by
      simp only [Bool.and_eq_true, bne_iff_ne, ne_eq] at h
      simp [h.1, h.2]
    simp [this]
  · simp only [h, if_true]
    split
    · rfl
    · split
      · rfl
      · split <;> rfl
theorem swapped_two {a b : Expr} {x y : Str} {px py pt : Pos} {kt k2 : Nat} {pt2 : Pos} {env : PySem.Env} (hb : env.blockKind = .function) (hx : env.scope.names.lookup x = some .local) (hy : env.scope.names.lookup y = some .local) (hl : (py.line == px.line) = true) (ha : noStar a = true) (hb2 : noStar b = true)
    (h1 : ([a, b].all (foldedForSure 8)) = false) (h2 : ([a, b].all (constantsAlone 8)) = false) (h3 : (x == y) = false) :
    swappedStores [.Tuple [.Name x px, .Name y py] kt pt] (.Tuple [a, b] k2 pt2) env = pure (some [x, y]) := by
  unfold swappedStores
  have k1 : env.kindOf x = some .local := hx
  have k3 : env.kindOf y = some .local := hy
  have hl' : py.line = px.line := beq_iff_eq.mp hl
  have h3' : x ≠ y := fun e => by rw [e, beq_self_eq_true] at h3; cases h3
  dsimp only
  have st : ∀ (g : Expr → Bool), (∀ e, noStar e = true → g e = false) → ([a, b].any g) = false := fun g hg => by simp [hg a ha, hg b hb2]
  rw [st _ (fun e he => by cases e <;> first | rfl | exact absurd he Bool.false_ne_true)]
  have fm : ∀ (g : Expr → Option Str), g (.Name x px) = some x → g (.Name y py) = some y → [Expr.Name x px, Expr.Name y py].filterMap g = [x, y] := fun g e1 e2 => by simp [e1, e2]
  rw [fm _ (by simp [k1]; rfl) (by simp [k3, hl']; rfl)]
  simp only [hb, h1, h2]
  have h4 : (y == x) = false := beq_eq_false_iff_ne.mpr (Ne.symm h3')
  simp [List.eraseDups_cons, h4]
theorem mt_asg {i : Nat} {e : IE} {st : Stmt} (m : mtS E S (.asg i e) st = true) : ∃ y py ex pos, st = .Assign [.Name y py] ex pos ∧ S.N[i]? = some y ∧ stB S.so y = true ∧ mtE E S e ex = true := by
  cases st <;> first | (exact absurd m Bool.false_ne_true) | skip
  rename_i ts ex pos
  match ts, m with
  | [], m => exact absurd m Bool.false_ne_true
  | t :: t2 :: ts, m => cases t <;> exact absurd m Bool.false_ne_true
  | [t], m =>
    cases t <;> first | (exact absurd m Bool.false_ne_true) | skip
    rename_i y py
    have m : (decide (S.N[i]? = some y) && stB S.so y && mtE E S e ex) = true := m
    simp only [Bool.and_eq_true, decide_eq_true_eq] at m
    exact ⟨y, py, ex, pos, rfl, m.1.1, m.1.2, m.2⟩
theorem mt_asgT {t : Tg} {e : IE} {st : Stmt} (m : mtS E S (.asgT t e) st = true) : ∃ es n p ex pos, st = .Assign [.Tuple es n p] ex pos ∧ mtT S t (.Tuple es n p) = true ∧ mtE E S e ex = true ∧ (noSwp es ex = true ∨ par2 S t e es ex = true) := by
  cases st <;> first | (exact absurd m Bool.false_ne_true) | skip
  rename_i ts ex pos
  match ts, m with
  | [], m => exact absurd m Bool.false_ne_true
  | t1 :: t2 :: ts, m => cases t1 <;> exact absurd m Bool.false_ne_true
  | [t1], m =>
    cases t1 <;> first | (exact absurd m Bool.false_ne_true) | skip
    rename_i es n p
    have m : (mtT S t (.Tuple es n p) && mtE E S e ex && (noSwp es ex || par2 S t e es ex)) = true := m
    simp only [Bool.and_eq_true, Bool.or_eq_true] at m
    exact ⟨es, n, p, ex, pos, rfl, m.1.1, m.1.2, m.2⟩

theorem s_expr {e : IE} {ex : Expr} {pos : Pos} (he : PE X ex (tE E Φ X W e)) (hn : noComp ex = true) : PS X (.Expr ex pos) (tS E Φ X W (.expr e)) := by
  refine ⟨fun pins s σ H D I hq => ?_⟩
  obtain ⟨g, ε, Z, G, h⟩ := hq
  exact (ps_expr he (swaps_no hn)).run pins s σ H D I (tE_s G h fun r ε1 Z1 H1 v s1 G1 rv h1 => h1 σ Z1 H1 (.refl _) G1 fun _ _ => rfl)
theorem asg_read {i : Nat} {e : IE} {D : Ends} {σ : St} {H : Hp} (hq : tS E Φ X W (.asg i e) D σ H) : tAsg (tE E Φ X W e) (gName i) D σ H := by
  obtain ⟨g, ε, Z, G, h⟩ := hq
  refine tE_s (A := asgsS (.asg i e)) (D := D) (f := fun r ε1 => match putR i r ε1 with | some ε2 => .nx ε2 | none => .stuck) G h fun r ε1 Z1 H1 v s1 G1 rv h1 => ?_
  split at h1
  · rename_i ε2 ep
    obtain ⟨Z2, s2, G2⟩ := G1.put ep rv
    refine h1 _ Z2 H1 s2 G2 fun j hj => ?_
    have hj : j ∉ [i] := hj
    rw [List.getElem?_set_ne]
    intro z
    exact hj (by simp [z])
  · exact h1.elim
theorem mt_lc {e : IE} {a : Expr} {gs : List Comprehension} {sc : Scope} {p : Pos} (m : mtE E S e (.ListComp a gs sc p) = true) : ∃ elt tg sk its cond own, e = .cmpr elt tg sk its cond own := by
  cases e <;> first | (exact absurd m Bool.false_ne_true) | skip
  · rename_i q
    cases q <;> exact absurd m Bool.false_ne_true
  · exact ⟨_, _, _, _, _, _, rfl⟩
theorem mt_sc {e : IE} {a : Expr} {gs : List Comprehension} {sc : Scope} {p : Pos} : ¬ mtE E S e (.SetComp a gs sc p) = true := fun m => by
  cases e <;> first | (exact absurd m Bool.false_ne_true) | skip
  rename_i q
  cases q <;> exact absurd m Bool.false_ne_true
theorem mt_dc {e : IE} {a b : Expr} {gs : List Comprehension} {sc : Scope} {p : Pos} : ¬ mtE E S e (.DictComp a b gs sc p) = true := fun m => by
  cases e <;> first | (exact absurd m Bool.false_ne_true) | skip
  rename_i q
  cases q <;> exact absurd m Bool.false_ne_true
theorem s_asg (ok : Okx E Φ k S W X) {i : Nat} {e : IE} {y : Str} {py : Pos} {ex : Expr} {pos : Pos} (hy : S.N[i]? = some y) (hst : stB S.so y = true) (m : mtE E S e ex = true) : PS X (.Assign [.Name y py] ex pos) (tS E Φ X W (.asg i e)) := by
  obtain ⟨lo, fn⟩ := ok.st y (stB_of hst)
  have hy' : X.N[i]? = some y := by rw [ok.N]; exact hy
  have hnd : X.N.Nodup := by rw [ok.N]; exact ok.nd
  by_cases hsw : swapsWith ex (some (.Name y py)) pos.line X.env = pure false
  · refine ⟨fun pins s σ H D I hq => ?_⟩
    exact (ps_set hnd hy' lo (soundE e ok m) hsw fn).run pins s σ H D I (asg_read hq)
  · -- a comprehension that is swapped with the name
    cases ex with
    | ListComp eelt gs scope cpos =>
      obtain ⟨elt, tg, sk, its, cond, own, rfl⟩ := mt_lc m
      obtain ⟨eelt', etg, eit, eifs, scope', pos', heq, m1, m2, m3, m4, m5, m6, m7, m8⟩ := mt_cmpr m
      cases heq
      have hb : X.env.blockKind = .function := by unfold Env.blockKind; rw [ok.kind]; rfl
      have key : swapsWith (.ListComp eelt [⟨etg, eit, eifs, 0⟩] scope cpos) (some (.Name y py)) pos.line X.env = pure (X.env.blockKind == .function && X.env.kindOf y == some .local && py.line == cpos.line && !(scope.names.any fun (n, k) => n == y && (k == .local || k == .cell))) := rfl
      rw [key] at hsw
      cases hc : (X.env.blockKind == .function && X.env.kindOf y == some .local && py.line == cpos.line && !(scope.names.any fun (n, k) => n == y && (k == .local || k == .cell))) with
      | false => rw [hc] at hsw; exact absurd rfl hsw
      | true =>
        have hyl : X.env.scope.names.lookup y = some .local := by
          simp only [Bool.and_eq_true] at hc
          exact beq_iff_eq.mp hc.1.1.2
        rw [hc] at key
        refine ⟨fun pins s σ H D I hq => ?_⟩
        refine (s_setLc ok hy hyl key (soundI sk its ok m2.1 m2.2) (noSet_fold m1) (blkOk_by m3) m8 (fun s H C cl fp => s_tg (ok.blk (blkOk_by m3) s H C cl fp) m4) (fun s H C cl fp => soundC cond (ok.blk (blkOk_by m3) s H C cl fp) m5 m7) (fun s H C cl fp => soundE elt (ok.blk (blkOk_by m3) s H C cl fp) m6)).run pins s σ H D I (asg_read hq)
    | SetComp _ _ _ _ => exact absurd m mt_sc
    | DictComp _ _ _ _ _ => exact absurd m mt_dc
    | _ => exact absurd (swaps_no rfl) hsw
theorem Good.setNm {g : Ent} {σ : St} {ε ε' : Sg} {Z H : Hp} {i : Nat} {p : PV} {v : V} (G : Good X.K g σ ε Z H) (e : asgT (.nm i) p ε = some ε') (r : Rp X.K Z p v) : Good X.K g (σ.set i (some v)) ε' Z H := by
  have e : (match ε[i]? with | some (.own false _) => none | some _ => some (ε.set i (.val p)) | none => none) = some ε' := e
  split at e
  · cases e
  · rename_i s' hn hs
    cases e
    exact G.setVal (List.getElem?_eq_some_iff.mp hs).1 (fun q z => by rw [hs] at z; cases z; exact hn q rfl) r
  · cases e
theorem s_asgT0 (ok : Okx E Φ k S W X) {t : Tg} {e : IE} {es : List Expr} {n : Nat} {p : Pos} {ex : Expr} {pos : Pos} (mt : mtT S t (.Tuple es n p) = true) (m : mtE E S e ex = true) (hn : noSwp es ex = true) : PS X (.Assign [.Tuple es n p] ex pos) (tS E Φ X W (.asgT t e)) := by
  refine ⟨fun pins s σ H D I hq => ?_⟩
  obtain ⟨g, ε, Z, G, h⟩ := hq
  refine (ps_asg (soundE e ok m) (s_tg ok mt) swaps_tup (swapped_nos hn)).run pins s σ H D I ?_
  refine tE_s (A := asgsS (.asgT t e)) (D := D) (f := fun r ε1 => match Eng.frz r ε1 with | some (p, ε2) => (match asgT t p ε2 with | some ε3 => .nx ε3 | none => .stuck) | none => .stuck) G h fun r ε1 Z1 H1 v s1 G1 rv h1 => ?_
  split at h1
  · rename_i p ε2 ef
    obtain ⟨Z2, s2, G2, rp⟩ := G1.frz ef rv
    split at h1
    · rename_i ε3 ea
      exact ⟨g, ε2, Z2, p, ε3, G2, rp, ea, fun σ' G' kp => h1 σ' Z2 H1 s2 G' kp⟩
    · exact h1.elim
  · exact h1.elim
/-- a, b = x, y -/
theorem s_par (ok : Okx E Φ k S W X) {i j : Nat} {ia ib : IE} {a b : Expr} {x y : Str} {px py pt pos pt2 : Pos} {kt k2 : Nat} (hi : S.N[i]? = some x) (hj : S.N[j]? = some y) (hij : i ≠ j) (hx : S.sc.names.lookup x = some .local) (hy : S.sc.names.lookup y = some .local)
    (hl : (py.line == px.line) = true) (ha : noStar a = true) (hb : noStar b = true) (h1 : ([a, b].all (foldedForSure 8)) = false) (h2 : ([a, b].all (constantsAlone 8)) = false) (h3 : (x == y) = false) (ml : mtL E S [ia, ib] [a, b] = true) :
    PS X (.Assign [.Tuple [.Name x px, .Name y py] kt pt] (.Tuple [a, b] k2 pt2) pos) (tS E Φ X W (.asgT (.tp [.nm i, .nm j]) (.tup [ia, ib]))) := by
  have hx' : X.env.scope.names.lookup x = some .local := by rw [ok.sc]; exact hx
  have hy' : X.env.scope.names.lookup y = some .local := by rw [ok.sc]; exact hy
  have bk : X.env.blockKind = .function := by unfold Env.blockKind; rw [ok.kind]; rfl
  refine ⟨fun pins s σ H D I hq => ?_⟩
  obtain ⟨g, ε, Z, G, h⟩ := hq
  refine (ps_par ok.calm (by rw [ok.N]; exact ok.nd) (by rw [ok.N]; exact hi) (by rw [ok.N]; exact hj) hij hx' hy' (soundA [ia, ib] ok ml) (swapped_two bk hx' hy' hl ha hb h1 h2 h3)).run pins s σ H D I ?_
  refine ⟨g, ε, Z, G, ?_⟩
  have h : SPost E X W g σ Z [i, j] D (match (evA E Φ [ia, ib] ε).bind (fun rs ε1 => match Eng.frzL rs ε1 with
      | some (ps, ε2) => if ps.length ≤ sizeLine then Out.ok (Rv.val (.tup ps)) ε2 else .stuck
      | none => .stuck) with
    | .ok r ε1 => (match Eng.frz r ε1 with | some (p, ε2) => (match asgT (.tp [.nm i, .nm j]) p ε2 with | some ε3 => .nx ε3 | none => .stuck) | none => .stuck)
    | .exc c ε1 => .exc c ε1
    | .stuck => .stuck) := h
  cases hev : evA E Φ [ia, ib] ε with
  | stuck => rw [hev] at h; exact h.elim
  | exc c ε1 =>
    rw [hev] at h
    exact fun Z1 H1 C s1 G1 cl => h σ Z1 H1 C s1 G1 (fun _ _ => rfl) cl
  | ok rs ε1 =>
    rw [hev] at h
    intro Z1 H1 s1 G1 vs pr
    have h : SPost E X W g σ Z [i, j] D (match (match Eng.frzL rs ε1 with
      | some (ps, ε2) => if ps.length ≤ sizeLine then Out.ok (Rv.val (.tup ps)) ε2 else .stuck
      | none => .stuck) with
    | .ok r ε1 => (match Eng.frz r ε1 with | some (p, ε2) => (match asgT (.tp [.nm i, .nm j]) p ε2 with | some ε3 => .nx ε3 | none => .stuck) | none => .stuck)
    | .exc c ε1 => .exc c ε1
    | .stuck => .stuck) := h
    cases ef : Eng.frzL rs ε1 with
    | none => rw [ef] at h; exact h.elim
    | some q =>
      obtain ⟨ps, ε2⟩ := q
      rw [ef] at h
      obtain ⟨Z2, s2, G2, r2⟩ := G1.frzL ef pr
      dsimp only at h
      by_cases hz : ps.length ≤ sizeLine
      · rw [if_pos hz] at h
        have h : SPost E X W g σ Z [i, j] D (match asgTs [.nm i, .nm j] ps ε2 with | some ε3 => .nx ε3 | none => .stuck) := h
        cases r2 with
        | nil => exact h.elim
        | @cons p v ps' vs' rp t =>
          have h : SPost E X W g σ Z [i, j] D (match (match asgT (.nm i) p ε2 with | some ε3 => asgTs [.nm j] ps' ε3 | none => none) with | some ε3 => .nx ε3 | none => .stuck) := h
          cases e1 : asgT (.nm i) p ε2 with
          | none => rw [e1] at h; exact h.elim
          | some ε3 =>
            rw [e1] at h
            cases t with
            | nil => exact h.elim
            | @cons q w qs ws rq t =>
              have h : SPost E X W g σ Z [i, j] D (match (match asgT (.nm j) q ε3 with | some ε4 => asgTs [] qs ε4 | none => none) with | some ε3 => .nx ε3 | none => .stuck) := h
              cases e2 : asgT (.nm j) q ε3 with
              | none => rw [e2] at h; exact h.elim
              | some ε4 =>
                rw [e2] at h
                cases t with
                | cons _ _ => exact h.elim
                | nil =>
                  have h : SPost E X W g σ Z [i, j] D (.nx ε4) := h
                  refine ⟨v, w, rfl, h _ Z2 H1 (s1.trans s2) ((G2.setNm e1 rp).setNm e2 rq) fun l hl => ?_⟩
                  rw [List.getElem?_set_ne (fun z => hl (by simp [z])), List.getElem?_set_ne (fun z => hl (by simp [z]))]
      · rw [if_neg hz] at h
        exact h.elim
theorem s_asgT (ok : Okx E Φ k S W X) {t : Tg} {e : IE} {es : List Expr} {n : Nat} {p : Pos} {ex : Expr} {pos : Pos} (mt : mtT S t (.Tuple es n p) = true) (m : mtE E S e ex = true) (hn : noSwp es ex = true ∨ par2 S t e es ex = true) : PS X (.Assign [.Tuple es n p] ex pos) (tS E Φ X W (.asgT t e)) := by
  rcases hn with hn | hn
  · exact s_asgT0 ok mt m hn
  · unfold par2 at hn
    split at hn
    · rename_i a b k2 p2
      split at hn
      · rename_i i j ia ib x px y py
        simp only [Bool.and_eq_true, decide_eq_true_eq, Bool.not_eq_true'] at hn
        obtain ⟨⟨⟨⟨⟨⟨⟨⟨⟨⟨q1, q2⟩, q3⟩, q4⟩, q5⟩, q6⟩, q7⟩, q8⟩, q9⟩, q10⟩, q11⟩ := hn
        exact s_par ok q1 q2 q3 q4 q5 q6 q7 q8 q9 q10 q11 m
      · cases hn
    · cases hn
theorem s_ret {e : IE} {ex : Expr} {pos : Pos} (he : PE X ex (tE E Φ X W e)) : PS X (.Return (some ex) pos) (tS E Φ X W (.ret e)) := by
  refine ⟨fun pins s σ H D I hq => ?_⟩
  obtain ⟨g, ε, Z, G, h⟩ := hq
  refine (ps_ret he).run pins s σ H D I ?_
  refine tE_s (A := asgsS (.ret e)) (D := D) (f := fun r ε1 => match retR r ε1 with | some (r', ε2) => .rt r' ε2 | none => .stuck) G h fun r ε1 Z1 H1 v s1 G1 rv h1 => ?_
  split at h1
  · rename_i r' ε2 er
    obtain ⟨G2, rv2⟩ := G1.ret er rv
    exact h1 σ v Z1 H1 (.refl _) G2 rv2
  · exact h1.elim
theorem s_retN {pos : Pos} : PS X (.Return none pos) (tS E Φ X W .retN) := by
  refine ⟨fun pins s σ H D I hq => ?_⟩
  obtain ⟨g, ε, Z, G, h⟩ := hq
  exact ps_retN.run pins s σ H D I (h σ .non Z H (.refl _) G .non)
theorem s_if {c : IE} {a b : List IS} {ec : Expr} {ea eb : List Stmt} {pos : Pos} (hc : PT X ec (tT E Φ X W c)) (ha : PSs X ea (tL E Φ X W a)) (hb : PSs X eb (tL E Φ X W b)) : PS X (.If ec ea eb pos) (tS E Φ X W (.ifs c a b)) := by
  refine ⟨fun pins s σ H D I hq => ?_⟩
  obtain ⟨g, ε, Z, G, h⟩ := hq
  refine (ps_if hc ha hb).run pins s σ H D I ?_
  refine tT_s (A := asgsS (.ifs c a b)) (D := D) (f := fun t ε1 => if t = true then exL E Φ a ε1 else exL E Φ b ε1) G h fun t ε1 Z1 H1 s1 G1 h1 => ?_
  cases t with
  | true =>
    rw [if_pos rfl] at h1
    rw [if_pos rfl]
    exact ⟨g, ε1, Z1, G1, h1.from (.refl _) (fun _ _ => rfl) fun j hj => List.mem_append_left _ hj⟩
  | false =>
    rw [if_neg Bool.false_ne_true] at h1
    rw [if_neg Bool.false_ne_true]
    exact ⟨g, ε1, Z1, G1, h1.from (.refl _) (fun _ _ => rfl) fun j hj => List.mem_append_right _ hj⟩
theorem s_raise (ok : OkS E Φ k S W X) {c : Nat} {msg x : Str} {j : Nat} {p p2 p3 pos : Pos} (hx : E.cls[c]? = some x) (hg : glB S.sc x = true) : PS X (.Raise (some (.Call (.Name x p) [.Constant (.str msg) j p2] [] p3)) none pos) (tS E Φ X W (.raise c msg)) := by
  obtain ⟨C, m, F⟩ := ok.ex c x hx
  refine ⟨fun pins s σ H D I hq => ?_⟩
  obtain ⟨g, ε, Z, G, h⟩ := hq
  refine (ps_raise ok.x.calm ok.x.tk (pmk_own PySem.F.excBase_ValueError F.inn m F.kp F.rs (ok.x.gl hg).1 (okN_1 (ok.x.gl hg).2))).run pins s σ H D I ?_
  exact h σ Z H C (.refl _) G (fun _ _ => rfl) ⟨x, hx, m⟩

/-! ### try -/
def tSu (E : Eng) (X : Cx) (W : WX) (suite : List IS) : TS := fun D σ H => ∃ g ε Z, Good X.K g σ ε Z H ∧ SPost E X W g σ Z (asgsL suite) D (suI suite ε)
theorem s_suite (ok : Okx E Φ k S W X) {suite : List IS} {b0 : Stmt} {es : List Stmt} (m : mtSs E S suite (b0 :: es) = true) {W' : WX} (a : Addr) (pn : List (Addr × Obj)) : PSs (X.suite a pn) (b0 :: es) (tSu E X W' suite) := by
  have stuck : (∀ ε, suI suite ε = .stuck) → PSs (X.suite a pn) (b0 :: es) (tSu E X W' suite) := fun h => ⟨fun pins s σ H D I ⟨g, ε, Z, G, q⟩ => by rw [h] at q; exact q.elim⟩
  have hst : ∀ x, stB S.so x = true → Loc X.env.scope x ∧ (X.fn x = true ∨ X.env.scope.names.lookup x = some .local) := fun x hx => ok.st x (stB_of hx)
  have cst : ∀ {p : PV} {ex : Expr}, mtE E S (.cst p) ex = true → ∃ v, PE (X.suite a pn) ex (tC v) ∧ (∀ Z, Rp X.K Z p v) ∧ noComp ex = true := fun {p ex} m => by
    cases p <;> cases ex <;> first | (exact absurd m Bool.false_ne_true) | skip
    all_goals
      rename_i c _ _
      cases c <;> first | (exact absurd m Bool.false_ne_true) | skip
    · exact ⟨_, pe_non, fun _ => .non, rfl⟩
    · rename_i b _ _ c
      have e := beq_iff_eq.mp (show (b == c) = true from m)
      subst e
      exact ⟨_, pe_bl, fun _ => .bl _, rfl⟩
    · rename_i b _ _ c
      have e := beq_iff_eq.mp (show (b == c) = true from m)
      subst e
      exact ⟨_, pe_int, fun _ => .int _, rfl⟩
    · rename_i b _ _ c
      have e := beq_iff_eq.mp (show (b == c) = true from m)
      subst e
      exact ⟨_, pe_str, fun _ => .str _, rfl⟩
  rcases suite with _ | ⟨s1, _ | ⟨s2, t⟩⟩
  · exact stuck fun _ => rfl
  · have m1 : (mtS E S s1 b0 && mtSs E S [] es) = true := m
    simp only [Bool.and_eq_true] at m1
    cases s1 <;> first | (exact stuck fun _ => rfl) | skip
    · cases b0 <;> first | (exact absurd m1.1 Bool.false_ne_true) | skip
      cases es with
      | cons _ _ => exact absurd m1.2 Bool.false_ne_true
      | nil => exact ⟨fun pins s σ H D I ⟨g, ε, Z, G, q⟩ => (pss_one ps_pass).run pins s σ H D I (q σ Z H (.refl _) G fun _ _ => rfl)⟩
    · rename_i i e
      cases e <;> first | (exact stuck fun _ => rfl) | skip
      rename_i p
      obtain ⟨y, py, ex, pos, rfl, h1, h2, h3⟩ := mt_asg m1.1
      obtain ⟨v, pe, rp, hnc⟩ := cst h3
      obtain ⟨lo, fn⟩ := hst y h2
      cases es with
      | cons _ _ => exact absurd m1.2 Bool.false_ne_true
      | nil =>
        refine ⟨fun pins s σ H D I ⟨g, ε, Z, G, q⟩ => ?_⟩
        have hnd : X.N.Nodup := by rw [ok.N]; exact ok.nd
        refine (pss_one (ps_set (X := X.suite a pn) hnd (by rw [← ok.N] at h1; exact h1) lo pe (swaps_no hnc) fn)).run pins s σ H D I ?_
        have q : SPost E X W' g σ Z (asgsL [.asg i (.cst p)]) D (match putR i (.val p) ε with | some ε1 => .nx ε1 | none => .stuck) := q
        split at q
        · rename_i ε1 ep
          obtain ⟨Z2, s2, G2⟩ := G.put ep (v := v) (rp Z)
          refine q _ Z2 H s2 G2 fun j hj => ?_
          have hj : j ∉ [i] ++ [] := hj
          rw [List.getElem?_set_ne]
          intro z
          exact hj (by simp [z])
        · exact q.elim
    · rename_i e
      cases e <;> first | (exact stuck fun _ => rfl) | skip
      rename_i p
      cases b0 <;> first | (exact absurd m1.1 Bool.false_ne_true) | skip
      rename_i o pos
      cases o with
      | none => exact absurd m1.1 Bool.false_ne_true
      | some ex =>
        obtain ⟨v, pe, rp, _⟩ := cst (show mtE E S (.cst p) ex = true from m1.1)
        cases es with
        | cons _ _ => exact absurd m1.2 Bool.false_ne_true
        | nil => exact ⟨fun pins s σ H D I ⟨g, ε, Z, G, q⟩ => (pss_one (ps_ret pe)).run pins s σ H D I (q σ v Z H (.refl _) G (rp Z))⟩
  · exact stuck fun ε => by
      cases s1 <;> first | rfl | (rename_i e; cases e <;> rfl)
theorem s_try (ok : OkS E Φ k S W X) {body suite : List IS} {c : Nat} {ebody esuite : List Stmt} {x : Str} {b0 : Stmt} {np pos pos' : Pos} (hx : E.cls[c]? = some x) (hg : glB S.sc x = true)
    (hb : ∀ (W' : WX) (pn : List (Addr × Obj)) (xe : Value → Shared → Prop), OkS E Φ k S W' (X.tr pn xe) → PSs (X.tr pn xe) ebody (tL E Φ X W' body)) (ms : mtSs E S suite (b0 :: esuite) = true) :
    PS X (.Try ebody [.ExceptHandler (some (.Name x np)) none (b0 :: esuite) pos'] [] [] pos) (tS E Φ X W (.tryx body c suite)) := by
  obtain ⟨C, m, F⟩ := ok.ex c x hx
  have nm : Names X x (.ref C) := ⟨(ok.x.gl hg).1, okN_1 (ok.x.gl hg).2, .inl m⟩
  refine ⟨fun pins s σ H D I hq => ?_⟩
  obtain ⟨g, ε, Z, G, h⟩ := hq
  refine (ps_try_only (tb := fun W' => tL E Φ X W' body) (ts := fun _ _ _ => tSu E X W suite) ok.hs ok.hf nm ok.x.tk (fun W' pn xe tk po => hb W' pn xe ?_) (fun a oe cls d pn _ _ => s_suite ok.x ms a _)).run pins s σ H D I ?_
  · exact ⟨⟨ok.x.calm, ok.x.N, ok.x.sc, ok.x.nd, ok.x.kind, ok.x.st, ok.x.room, tk, ok.x.fn, ok.x.bl, ok.x.ty, ok.x.gb, ok.x.fr, ok.x.gd⟩, ok.hs, ok.hf, po, fun c nm h => (by
      obtain ⟨C, m, F⟩ := ok.ex c nm h
      exact ⟨C, m, F.inn, F.kp, F.rs⟩), ok.sb⟩
  · refine ⟨g, ε, Z, G, ?_⟩
    have h : SPost E X W g σ Z (asgsL body ++ asgsL suite) D (match exL E Φ body ε with | .exc c' ε1 => if E.sub c' c then suI suite ε1 else .exc c' ε1 | o => o) := h
    have mono : ∀ {σ' : St}, (∀ j, j ∉ asgsL body → σ'[j]? = σ[j]?) → ∀ j, j ∉ asgsL body ++ asgsL suite → σ'[j]? = σ[j]? := fun q j hj => q j fun z => hj (List.mem_append_left _ z)
    cases he : exL E Φ body ε with
    | stuck => rw [he] at h; exact h.elim
    | nx ε1 => rw [he] at h; exact fun σ' Z' H' s' G' q => h σ' Z' H' s' G' (mono q)
    | bk ε1 => rw [he] at h; exact fun σ' Z' H' s' G' q => h σ' Z' H' s' G' (mono q)
    | ct ε1 => rw [he] at h; exact fun σ' Z' H' s' G' q => h σ' Z' H' s' G' (mono q)
    | rt r ε1 => rw [he] at h; exact fun σ' v Z' H' s' G' q => h σ' v Z' H' s' G' q
    | exc c' ε1 =>
      rw [he] at h
      dsimp only at h
      intro σ' Z' H' C' s' G' q ⟨nm', hc', m'⟩
      refine ⟨E.sub c' c, ok.sb c' c nm' x C' C hc' hx m' m, fun hy a _ => ?_, fun hn => ?_⟩
      · rw [if_pos hy] at h
        exact ⟨g, ε1, Z', G', h.from s' (mono q) fun j hj => List.mem_append_right _ hj⟩
      · rw [hn, if_neg Bool.false_ne_true] at h
        exact h σ' Z' H' C' s' G' (mono q) ⟨nm', hc', m'⟩
/-! ### several clauses -/
/-- the clauses' wishes -/
theorem hds_ok (ok : OkS E Φ k S W X) : ∀ {hs : List (Nat × PV)} {hds : List ExceptHandler}, mtHs E S hs hds = true → ∃ l : List (Value × (Addr → Value → Option Addr → TS)), HdsOk X hds l ∧
    ∀ {g : Ent} {σ σ' : St} {Z Z' H' : Hp} {A : List Nat} {D : Ends} {c' : Nat} {ε1 : Sg} {C' : Addr} {nm' : Str}, Same Z Z' → Good X.K g σ' ε1 Z' H' → (∀ j, j ∉ A → σ'[j]? = σ[j]?) → E.cls[c']? = some nm' → X.mg nm' = some (.ref C') →
      SPost E X W g σ Z A D (hsI E.sub c' ε1 hs) → wMany X.K W D l (.ref C') none σ' H'
  | [], [], _ => ⟨[], .nil, fun {g σ σ' Z Z' H' A D c' ε1 C' nm'} s' G' q hc' m' h => h σ' Z' H' C' s' G' q ⟨nm', hc', m'⟩⟩
  | [], _ :: _, m => absurd m Bool.false_ne_true
  | (c, p) :: hs, [], m => absurd m Bool.false_ne_true
  | (c, p) :: hs, ⟨ty, nm, su, hp⟩ :: hds, m => by
    cases ty with
    | none => exact absurd m Bool.false_ne_true
    | some t =>
      cases t <;> first | (exact absurd m Bool.false_ne_true) | skip
      rename_i x np
      cases nm with
      | some _ => exact absurd m Bool.false_ne_true
      | none =>
        match su, m with
        | [], m => exact absurd m Bool.false_ne_true
        | s1 :: s2 :: su, m => cases s1 <;> first | (exact absurd m Bool.false_ne_true) | (rename_i o _; cases o <;> exact absurd m Bool.false_ne_true)
        | [s1], m =>
          cases s1 <;> first | (exact absurd m Bool.false_ne_true) | skip
          rename_i o rp
          cases o with
          | none => exact absurd m Bool.false_ne_true
          | some ex =>
            have m1 : (decide (E.cls[c]? = some x) && glB S.sc x && mtE E S (.cst p) ex && mtHs E S hs hds) = true := m
            simp only [Bool.and_eq_true, decide_eq_true_eq] at m1
            obtain ⟨⟨⟨hx, hg⟩, m2⟩, m3⟩ := m1
            obtain ⟨l, hl, wish⟩ := hds_ok ok m3
            obtain ⟨C, mm, F⟩ := ok.ex c x hx
            have nm : Names X x (.ref C) := ⟨(ok.x.gl hg).1, okN_1 (ok.x.gl hg).2, .inl mm⟩
            have ms : mtSs E S [.ret (.cst p)] [.Return (some ex) rp] = true := by
              show (mtE E S (.cst p) ex && true) = true
              rw [m2]; rfl
            refine ⟨(.ref C, fun _ _ _ => tSu E X W [.ret (.cst p)]) :: l, .cons nm (fun a oe cls d pn _ _ => s_suite ok.x ms a _) hl, fun {g σ σ' Z Z' H' A D c' ε1 C' nm'} s' G' q hc' m' h => ?_⟩
            refine ⟨E.sub c' c, ok.sb c' c nm' x C' C hc' hx m' mm, fun hy a _ => ?_, fun hn => ?_⟩
            · have h : SPost E X W g σ Z A D (if E.sub c' c = true then .rt (.val p) ε1 else hsI E.sub c' ε1 hs) := h
              rw [if_pos hy] at h
              exact ⟨g, ε1, Z', G', fun τ v Z2 H2 s2 G2 rv => h τ v Z2 H2 (s'.trans s2) G2 rv⟩
            · have h : SPost E X W g σ Z A D (if E.sub c' c = true then .rt (.val p) ε1 else hsI E.sub c' ε1 hs) := h
              rw [hn, if_neg Bool.false_ne_true] at h
              exact wish s' G' q hc' m' h
theorem s_tryn (ok : OkS E Φ k S W X) {body : List IS} {hs : List (Nat × PV)} {ebody : List Stmt} {h0 : ExceptHandler} {hds : List ExceptHandler} {pos : Pos}
    (hb : ∀ (W' : WX) (pn : List (Addr × Obj)) (xe : Value → Shared → Prop), OkS E Φ k S W' (X.tr pn xe) → PSs (X.tr pn xe) ebody (tL E Φ X W' body)) (mh : mtHs E S hs (h0 :: hds) = true) :
    PS X (.Try ebody (h0 :: hds) [] [] pos) (tS E Φ X W (.tryn body hs)) := by
  obtain ⟨l, hl, wish⟩ := hds_ok ok mh
  refine ⟨fun pins s σ H D I hq => ?_⟩
  obtain ⟨g, ε, Z, G, h⟩ := hq
  refine (ps_try_many (tb := fun W' => tL E Φ X W' body) ok.hs ok.hf ok.x.tk (fun W' pn xe tk po => hb W' pn xe ?_) hl).run pins s σ H D I ?_
  · exact ⟨⟨ok.x.calm, ok.x.N, ok.x.sc, ok.x.nd, ok.x.kind, ok.x.st, ok.x.room, tk, ok.x.fn, ok.x.bl, ok.x.ty, ok.x.gb, ok.x.fr, ok.x.gd⟩, ok.hs, ok.hf, po, fun c nm h => (by
      obtain ⟨C, m, F⟩ := ok.ex c nm h
      exact ⟨C, m, F.inn, F.kp, F.rs⟩), ok.sb⟩
  · refine ⟨g, ε, Z, G, ?_⟩
    have h : SPost E X W g σ Z (asgsL body) D (match exL E Φ body ε with | .exc c' ε1 => hsI E.sub c' ε1 hs | o => o) := h
    cases he : exL E Φ body ε with
    | stuck => rw [he] at h; exact h.elim
    | nx ε1 => rw [he] at h; exact h
    | bk ε1 => rw [he] at h; exact h
    | ct ε1 => rw [he] at h; exact h
    | rt r ε1 => rw [he] at h; exact h
    | exc c' ε1 =>
      rw [he] at h
      dsimp only at h
      intro σ' Z' H' C' s' G' q ⟨nm', hc', m'⟩
      exact wish s' G' q hc' m' h
end
end Eng

set_option maxHeartbeats 4000000
namespace Eng
open PySem PySem.Spec L2
open PyProof.Rows hiding St

section
variable {E : Eng} {Φ : Nat → List PV → CO} {k : Nat} {S : Stc} {X : Cx} {W : WX}

theorem for_ok {g : Ent} {σ : St} {ε1 : Sg} {Z1 H1 : Hp} {D : Ends} {tg : Tg} {A : List Nat} {body : List IS} {r : Rv} {items : List PV} {v0 : V} (hA1 : ∀ j ∈ tgS tg, j ∈ A) (hA2 : ∀ j ∈ asgsL body, j ∈ A)
    (G1 : Good X.K g σ ε1 Z1 H1) (hr : OpdR X.K σ Z1 r v0) (hw : walkOk r A = true)
    (h : SPost E X W g σ Z1 A D (forI r (fun p ε => asgT tg p ε) (fun ε => exL E Φ body ε) items ε1))
    (J : It) (SJ : SrcJ X g r v0 (r.peek ε1) items J) :
    ∃ W' : Nat → Nat → St → Hp → Prop, (∃ m, W' 0 m σ H1) ∧ ∀ i m σ H, W' i m σ H →
      (J.stop i H ∧ D.nx σ H) ∨ (J.go i H ∧ ∃ N : St → Hp → Prop, (∀ σ' H', N σ' H' → ∃ m', m' < m ∧ W' (i + 1) m' σ' H') ∧ ∀ x H', J.yld i H x H' → gT X tg x σ H' fun σ2 H2 => tL E Φ X W body { D with nx := N, ct := N, bk := D.nx } σ2 H2) := by
  let Wx : Nat → Nat → St → Hp → Prop := fun i m τ Hc => ∃ ε Z, m = items.length - i ∧ i ≤ items.length ∧ Same Z1 Z ∧ Good X.K g τ ε Z Hc ∧ (∀ j, j ∉ A → τ[j]? = σ[j]?) ∧ r.peek ε = r.peek ε1 ∧ OpdR X.K τ Z r v0 ∧
    SPost E X W g σ Z1 A D (forI r (fun p ε => asgT tg p ε) (fun ε => exL E Φ body ε) (items.drop i) ε)
  have hro : ∀ {τ : St} {Z Z' : Hp} {τ' : St}, OpdR X.K τ Z r v0 → Same Z Z' → (∀ j, j ∉ A → τ[j]? = σ[j]?) → (∀ j, j ∉ A → τ'[j]? = σ[j]?) → OpdR X.K τ' Z' r v0 := fun {τ Z Z' τ'} ro s k1 k2 => by
    cases r with
    | val q => exact Rp.mono s ro
    | fresh q => exact ro
    | own i =>
      have hni : i ∉ A := of_decide_eq_true (p := i ∉ A) hw
      have ro : τ[i]? = some (some v0) := ro
      show τ'[i]? = _
      rw [k2 i hni, ← k1 i hni]; exact ro
  refine ⟨Wx, ⟨items.length, ε1, Z1, rfl, Nat.zero_le _, .refl _, G1, fun _ _ => rfl, rfl, hr, h⟩, ?_⟩
  rintro i m τ Hc ⟨ε, Z, rfl, hi, s1, G, kp, pk, ro, rest⟩
  by_cases hlt : i < items.length
  · right
    have hdrop : items.drop i = items[i] :: items.drop (i + 1) := List.drop_eq_getElem_cons hlt
    refine ⟨SJ.go G pk ro hlt, Wx (i + 1) (items.length - (i + 1)), fun τ' H' w => ⟨_, by omega, w⟩, fun x H' y => ?_⟩
    obtain ⟨Zy, sy, Gy, rp0, ky⟩ := SJ.yld G pk ro y (List.getElem?_eq_getElem hlt)
    have s1 := s1.trans sy
    have ro := hro ro sy kp kp
    rw [hdrop] at rest
    unfold forI at rest
    cases ea : asgT tg items[i] ε with
    | none => rw [ea] at rest; exact rest.elim
    | some ε2 =>
      rw [ea] at rest
      dsimp only at rest
      refine ⟨g, ε, Zy, items[i], ε2, Gy, rp0, ea, fun τ2 G2 k2 => ?_⟩
      have kp2 : ∀ j, j ∉ A → τ2[j]? = σ[j]? := fun j hj => (k2 j fun z => hj (hA1 j z)).trans (kp j hj)
      refine ⟨g, ε2, Zy, G2, ?_⟩
      have mono : ∀ {τ3 : St}, (∀ j, j ∉ asgsL body → τ3[j]? = τ2[j]?) → ∀ j, j ∉ A → τ3[j]? = σ[j]? := fun {τ3} q j hj => (q j fun z => hj (hA2 j z)).trans (kp2 j hj)
      have next : ∀ {ε3 : Sg} {τ3 : St} {Z3 H3 : Hp}, SPost E X W g σ Z1 A D (if stays r ε ε3 = true then forI r (fun p ε => asgT tg p ε) (fun ε => exL E Φ body ε) (items.drop (i + 1)) ε3 else .stuck) → Same Zy Z3 → Good X.K g τ3 ε3 Z3 H3 → (∀ j, j ∉ asgsL body → τ3[j]? = τ2[j]?) → Wx (i + 1) (items.length - (i + 1)) τ3 H3 := fun {ε3 τ3 Z3 H3} hh s3 G3 q => by
        by_cases hst : stays r ε ε3 = true
        · rw [if_pos hst] at hh
          exact ⟨ε3, Z3, rfl, hlt, s1.trans s3, G3, mono q, (stays_eq hst).trans pk, hro ro s3 kp (mono q), hh⟩
        · rw [if_neg hst] at hh
          exact hh.elim
      cases he : exL E Φ body ε2 with
      | stuck => rw [he] at rest; exact rest.elim
      | nx ε3 => rw [he] at rest; exact fun τ3 Z3 H3 s3 G3 q => next rest s3 G3 q
      | ct ε3 => rw [he] at rest; exact fun τ3 Z3 H3 s3 G3 q => next rest s3 G3 q
      | bk ε3 => rw [he] at rest; exact fun τ3 Z3 H3 s3 G3 q => rest τ3 Z3 H3 (s1.trans s3) G3 (mono q)
      | rt r3 ε3 => rw [he] at rest; exact fun τ3 v Z3 H3 s3 G3 q => rest τ3 v Z3 H3 (s1.trans s3) G3 q
      | exc c ε3 => rw [he] at rest; exact fun τ3 Z3 H3 C s3 G3 q cl => rest τ3 Z3 H3 C (s1.trans s3) G3 (mono q) cl
  · left
    have e : i = items.length := by omega
    subst e
    rw [List.drop_length] at rest
    have rest : SPost E X W g σ Z1 A D (.nx ε) := rest
    exact ⟨SJ.stop G pk ro (Nat.le_refl _), rest τ Z Hc s1 G kp⟩
theorem s_for (ok : OkS E Φ k S W X) {tg : Tg} {sk : Src} {its : List IE} {body : List IS} {etg eit : Expr} {ebody : List Stmt} {pos : Pos} (mt : mtT S tg etg = true) (mi : srcHd E S sk eit = true ∧ mtL E S its (srcAs sk eit) = true) (hb : PSs X ebody (tL E Φ X W body)) (hn : noSet eit = true) :
    PS X (.For etg eit ebody [] pos) (tS E Φ X W (.for_ tg sk its body)) := by
  refine ⟨fun pins s σ H D I hq => ?_⟩
  obtain ⟨g, ε, Z, G, h⟩ := hq
  have h : SPost E X W g σ Z (asgsS (.for_ tg sk its body)) D (match evA E Φ its ε with
    | .ok rs ε1 => match srcI sk rs ε1 with
      | some (r, ps) => if walkOk r (asgsS (.for_ tg sk its body)) = true then forI r (fun p ε => asgT tg p ε) (fun ε => exL E Φ body ε) ps ε1 else .stuck
      | none => .stuck
    | .exc c ε1 => .exc c ε1
    | .stuck => .stuck) := h
  have hA1 : ∀ j ∈ tgS tg, j ∈ asgsS (.for_ tg sk its body) := fun j hj => List.mem_append_left _ hj
  have hA2 : ∀ j ∈ asgsL body, j ∈ asgsS (.for_ tg sk its body) := fun j hj => List.mem_append_right _ hj
  refine (ps_for ok.po ok.x.calm (soundI sk its ok.x mi.1 mi.2) (s_tg ok.x mt) hb (noSet_fold hn)).run pins s σ H D I ⟨g, ε, Z, G, ?_⟩
  unfold evI
  cases hev : evA E Φ its ε with
  | stuck => rw [hev] at h; exact h.elim
  | exc c ε1 =>
    rw [hev] at h
    exact fun Z1 H1 C s1 G1 cl => h σ Z1 H1 C s1 G1 (fun _ _ => rfl) cl
  | ok rs ε1 =>
    rw [hev] at h
    dsimp only at h
    show Post E X W g σ Z (PI2 X g σ _) (match srcI sk rs ε1 with | some q => .ok q ε1 | none => .stuck)
    cases es : srcI sk rs ε1 with
    | none => rw [es] at h; exact h.elim
    | some q =>
      obtain ⟨r, items⟩ := q
      rw [es] at h
      dsimp only at h
      by_cases hw : walkOk r (asgsS (.for_ tg sk its body)) = true
      · rw [if_pos hw] at h
        intro Z1 H1 s1 G1 v J ro SJ
        exact for_ok hA1 hA2 G1 ro hw (h.from s1 (fun _ _ => rfl) fun _ z => z) J SJ
      · rw [if_neg hw] at h
        exact h.elim
theorem s_whl (ok : OkS E Φ k S W X) {c : IE} {body : List IS} {ec : Expr} {ebody : List Stmt} {pos : Pos} (mc : mtE E S c ec = true) (hb : PSs X ebody (tL E Φ X W body)) : PS X (.While ec ebody [] pos) (tS E Φ X W (.whl c body)) := by
  refine ⟨fun pins s σ H D I hq => ?_⟩
  obtain ⟨g, ε, Z, G, h⟩ := hq
  have h : SPost E X W g σ Z (asgsL body) D (whlI (fun ε => evT E Φ c ε) (fun ε => exL E Φ body ε) whlN ε) := h
  refine (ps_while ok.po (soundT c ok.x mc) hb).run pins s σ H D I ⟨fun n τ Hc => ∃ ε Zc, Same Z Zc ∧ Good X.K g τ ε Zc Hc ∧ (∀ j, j ∉ asgsL body → τ[j]? = σ[j]?) ∧ SPost E X W g σ Z (asgsL body) D (whlI (fun ε => evT E Φ c ε) (fun ε => exL E Φ body ε) n ε), ⟨whlN, ε, Z, .refl _, G, fun _ _ => rfl, h⟩, ?_⟩
  rintro n τ Hc ⟨ε, Zc, s1, G, kp, rest⟩
  cases n with
  | zero => exact rest.elim
  | succ n =>
    unfold whlI at rest
    refine ⟨g, ε, Zc, G, ?_⟩
    have mono : ∀ {τ3 : St}, (∀ j, j ∉ asgsL body → τ3[j]? = τ[j]?) → ∀ j, j ∉ asgsL body → τ3[j]? = σ[j]? := fun {τ3} q j hj => (q j hj).trans (kp j hj)
    cases hc : evT E Φ c ε with
    | stuck => rw [hc] at rest; exact rest.elim
    | exc c' ε1 =>
      rw [hc] at rest
      exact fun Z1 H1 C s2 G1 cl => rest τ Z1 H1 C (s1.trans s2) G1 kp cl
    | ok t ε1 =>
      rw [hc] at rest
      intro Z1 H1 s2 G1
      cases t with
      | false =>
        show D.nx τ H1
        exact rest τ Z1 H1 (s1.trans s2) G1 kp
      | true =>
        show ∃ N : St → Hp → Prop, _ ∧ tL E Φ X W body _ τ H1
        dsimp only at rest
        refine ⟨fun τ' H' => ∃ ε Zc, Same Z Zc ∧ Good X.K g τ' ε Zc H' ∧ (∀ j, j ∉ asgsL body → τ'[j]? = σ[j]?) ∧ SPost E X W g σ Z (asgsL body) D (whlI (fun ε => evT E Φ c ε) (fun ε => exL E Φ body ε) n ε), fun τ' H' w => ⟨n, Nat.lt_succ_self n, w⟩, g, ε1, Z1, G1, ?_⟩
        cases he : exL E Φ body ε1 with
        | stuck => rw [he] at rest; exact rest.elim
        | nx ε3 => rw [he] at rest; exact fun τ3 Z3 H3 s3 G3 q => ⟨ε3, Z3, (s1.trans s2).trans s3, G3, mono q, rest⟩
        | ct ε3 => rw [he] at rest; exact fun τ3 Z3 H3 s3 G3 q => ⟨ε3, Z3, (s1.trans s2).trans s3, G3, mono q, rest⟩
        | bk ε3 => rw [he] at rest; exact fun τ3 Z3 H3 s3 G3 q => rest τ3 Z3 H3 ((s1.trans s2).trans s3) G3 (mono q)
        | rt r3 ε3 => rw [he] at rest; exact fun τ3 v Z3 H3 s3 G3 q => rest τ3 v Z3 H3 ((s1.trans s2).trans s3) G3 q
        | exc c ε3 => rw [he] at rest; exact fun τ3 Z3 H3 C s3 G3 q cl => rest τ3 Z3 H3 C ((s1.trans s2).trans s3) G3 (mono q) cl

theorem s_nilS : PSs X [] (tL E Φ X W []) := by
  refine ⟨fun pins s σ H D I hq => ?_⟩
  obtain ⟨g, ε, Z, G, h⟩ := hq
  exact pss_nil.run pins s σ H D I (h σ Z H (.refl _) G fun _ _ => rfl)
theorem s_consS {s0 : IS} {l : List IS} {st : Stmt} {sts : List Stmt} (h1 : PS X st (tS E Φ X W s0)) (h2 : PSs X sts (tL E Φ X W l)) : PSs X (st :: sts) (tL E Φ X W (s0 :: l)) := by
  refine ⟨fun pins s σ H D I hq => ?_⟩
  obtain ⟨g, ε, Z, G, h⟩ := hq
  refine (pss_cons h1 h2).run pins s σ H D I ⟨g, ε, Z, G, ?_⟩
  have h : SPost E X W g σ Z (asgsS s0 ++ asgsL l) D ((exS E Φ s0 ε).seq fun ε1 => exL E Φ l ε1) := h
  have mono : ∀ {τ3 : St}, (∀ j, j ∉ asgsS s0 → τ3[j]? = σ[j]?) → ∀ j, j ∉ asgsS s0 ++ asgsL l → τ3[j]? = σ[j]? := fun {τ3} q j hj => q j fun z => hj (List.mem_append_left _ z)
  cases he : exS E Φ s0 ε with
  | stuck => rw [he] at h; exact h.elim
  | nx ε1 =>
    rw [he] at h
    have h : SPost E X W g σ Z (asgsS s0 ++ asgsL l) D (exL E Φ l ε1) := h
    exact fun τ Z1 H1 s1 G1 q => ⟨g, ε1, Z1, G1, h.from s1 (mono q) fun j hj => List.mem_append_right _ hj⟩
  | ct ε3 => rw [he] at h; exact fun τ3 Z3 H3 s3 G3 q => h τ3 Z3 H3 s3 G3 (mono q)
  | bk ε3 => rw [he] at h; exact fun τ3 Z3 H3 s3 G3 q => h τ3 Z3 H3 s3 G3 (mono q)
  | rt r3 ε3 => rw [he] at h; exact fun τ3 v Z3 H3 s3 G3 q => h τ3 v Z3 H3 s3 G3 q
  | exc c ε3 => rw [he] at h; exact fun τ3 Z3 H3 C s3 G3 q cl => h τ3 Z3 H3 C s3 G3 (mono q) cl
end
section
variable {E : Eng} {S : Stc} {st : Stmt}
theorem mt_raise {c : Nat} {msg : Str} (m : mtS E S (.raise c msg) st = true) : ∃ x j p p2 p3 pos, st = .Raise (some (.Call (.Name x p) [.Constant (.str msg) j p2] [] p3)) none pos ∧ E.cls[c]? = some x ∧ glB S.sc x = true := by
  cases st <;> first | (exact absurd m Bool.false_ne_true) | skip
  rename_i o o2 pos
  cases o with
  | none => exact absurd m Bool.false_ne_true
  | some ex =>
    cases ex <;> first | (exact absurd m Bool.false_ne_true) | skip
    rename_i fn es ks p3
    cases fn <;> first | (exact absurd m Bool.false_ne_true) | skip
    rename_i x p
    match es, m with
    | [], m => exact absurd m Bool.false_ne_true
    | e :: e2 :: es, m =>
      cases e <;> first | (exact absurd m Bool.false_ne_true) | skip
      rename_i cc _ _
      cases cc <;> exact absurd m Bool.false_ne_true
    | [e], m =>
      cases e <;> first | (exact absurd m Bool.false_ne_true) | skip
      rename_i cc j p2
      cases cc <;> first | (exact absurd m Bool.false_ne_true) | skip
      rename_i m0
      cases ks with
      | cons _ _ => exact absurd m Bool.false_ne_true
      | nil =>
        cases o2 with
        | some _ => exact absurd m Bool.false_ne_true
        | none =>
          have m : (decide (E.cls[c]? = some x) && decide (m0 = msg) && glB S.sc x) = true := m
          simp only [Bool.and_eq_true, decide_eq_true_eq] at m
          obtain ⟨⟨h1, h2⟩, h3⟩ := m
          subst h2
          exact ⟨x, j, p, p2, p3, pos, rfl, h1, h3⟩
theorem mt_try {body suite : List IS} {c : Nat} (m : mtS E S (.tryx body c suite) st = true) : ∃ ebody x np b0 esuite pos' pos, st = .Try ebody [.ExceptHandler (some (.Name x np)) none (b0 :: esuite) pos'] [] [] pos ∧ mtSs E S body ebody = true ∧ E.cls[c]? = some x ∧ glB S.sc x = true ∧ mtSs E S suite (b0 :: esuite) = true := by
  cases st <;> first | (exact absurd m Bool.false_ne_true) | skip
  rename_i ebody hs oe fb pos
  match hs, m with
  | [], m => exact absurd m Bool.false_ne_true
  | ⟨ty, nm, es, p⟩ :: h2 :: hs, m =>
    cases ty with
    | none => exact absurd m Bool.false_ne_true
    | some t =>
      cases t <;> first | (exact absurd m Bool.false_ne_true) | skip
      cases nm <;> exact absurd m Bool.false_ne_true
  | [⟨ty, nm, es, p⟩], m =>
    cases ty with
    | none => exact absurd m Bool.false_ne_true
    | some t =>
      cases t <;> first | (exact absurd m Bool.false_ne_true) | skip
      rename_i x np
      cases nm with
      | some _ => exact absurd m Bool.false_ne_true
      | none =>
        cases oe with
        | cons _ _ => exact absurd m Bool.false_ne_true
        | nil =>
          cases fb with
          | cons _ _ => exact absurd m Bool.false_ne_true
          | nil =>
            have m : (mtSs E S body ebody && decide (E.cls[c]? = some x) && glB S.sc x && mtSs E S suite es && !es.isEmpty) = true := m
            simp only [Bool.and_eq_true, decide_eq_true_eq] at m
            obtain ⟨⟨⟨⟨h1, h2⟩, h3⟩, h4⟩, h5⟩ := m
            cases es with
            | nil => exact absurd h5 (by decide)
            | cons b0 es => exact ⟨_, _, _, _, _, _, _, rfl, h1, h2, h3, h4⟩
theorem mt_tryn {body : List IS} {hs : List (Nat × PV)} (m : mtS E S (.tryn body hs) st = true) : ∃ ebody h0 hds pos, st = .Try ebody (h0 :: hds) [] [] pos ∧ mtSs E S body ebody = true ∧ mtHs E S hs (h0 :: hds) = true := by
  cases st <;> first | (exact absurd m Bool.false_ne_true) | skip
  rename_i ebody hds oe fb pos
  cases oe with
  | cons _ _ => exact absurd m Bool.false_ne_true
  | nil =>
    cases fb with
    | cons _ _ => exact absurd m Bool.false_ne_true
    | nil =>
      have m : (mtSs E S body ebody && mtHs E S hs hds && !hds.isEmpty) = true := m
      simp only [Bool.and_eq_true] at m
      cases hds with
      | nil => exact absurd m.2 (by decide)
      | cons h0 hds => exact ⟨_, _, _, _, rfl, m.1.1, m.1.2⟩
theorem mt_for {tg : Tg} {sk : Src} {its : List IE} {body : List IS} (m : mtS E S (.for_ tg sk its body) st = true) : ∃ etg eit ebody pos, st = .For etg eit ebody [] pos ∧ mtT S tg etg = true ∧ (srcHd E S sk eit = true ∧ mtL E S its (srcAs sk eit) = true) ∧ mtSs E S body ebody = true ∧ noSet eit = true := by
  cases st <;> first | (exact absurd m Bool.false_ne_true) | skip
  rename_i etg eit ebody oe pos
  cases oe with
  | cons _ _ => exact absurd m Bool.false_ne_true
  | nil =>
    have m : (mtT S tg etg && srcHd E S sk eit && mtL E S its (srcAs sk eit) && mtSs E S body ebody && noSet eit) = true := m
    simp only [Bool.and_eq_true] at m
    exact ⟨_, _, _, _, rfl, m.1.1.1.1, ⟨m.1.1.1.2, m.1.1.2⟩, m.1.2, m.2⟩
theorem mt_whl {c : IE} {body : List IS} (m : mtS E S (.whl c body) st = true) : ∃ ec ebody pos, st = .While ec ebody [] pos ∧ mtE E S c ec = true ∧ mtSs E S body ebody = true := by
  cases st <;> first | (exact absurd m Bool.false_ne_true) | skip
  rename_i ec ebody oe pos
  cases oe with
  | cons _ _ => exact absurd m Bool.false_ne_true
  | nil =>
    have m : (mtE E S c ec && mtSs E S body ebody) = true := m
    simp only [Bool.and_eq_true] at m
    exact ⟨_, _, _, rfl, m.1, m.2⟩
end
section
variable {E : Eng} {Φ : Nat → List PV → CO} {k : Nat}
mutual
theorem soundS : (s : IS) → ∀ {S : Stc} {X : Cx} {W : WX} {st : Stmt}, OkS E Φ k S W X → mtS E S s st = true → PS X st (tS E Φ X W s)
  | .pass, S, X, W, st, ok, m => by
    cases st <;> first | (exact absurd m Bool.false_ne_true) | skip
    exact ⟨fun pins s σ H D I ⟨g, ε, Z, G, h⟩ => ps_pass.run pins s σ H D I (h σ Z H (.refl _) G fun _ _ => rfl)⟩
  | .brk, S, X, W, st, ok, m => by
    cases st <;> first | (exact absurd m Bool.false_ne_true) | skip
    exact ⟨fun pins s σ H D I ⟨g, ε, Z, G, h⟩ => ps_break.run pins s σ H D I (h σ Z H (.refl _) G fun _ _ => rfl)⟩
  | .cont, S, X, W, st, ok, m => by
    cases st <;> first | (exact absurd m Bool.false_ne_true) | skip
    exact ⟨fun pins s σ H D I ⟨g, ε, Z, G, h⟩ => ps_continue.run pins s σ H D I (h σ Z H (.refl _) G fun _ _ => rfl)⟩
  | .expr e, S, X, W, st, ok, m => by
    cases st <;> first | (exact absurd m Bool.false_ne_true) | skip
    rename_i ex pos
    have m : (mtE E S e ex && noComp ex) = true := m
    simp only [Bool.and_eq_true] at m
    exact s_expr (soundE e ok.x m.1) m.2
  | .asg i e, S, X, W, st, ok, m => by
    obtain ⟨y, py, ex, pos, rfl, h1, h2, h3⟩ := mt_asg m
    exact s_asg ok.x h1 h2 h3
  | .asgT t e, S, X, W, st, ok, m => by
    obtain ⟨es, n, p, ex, pos, rfl, h1, h2, h3⟩ := mt_asgT m
    exact s_asgT ok.x h1 h2 h3
  | .ret e, S, X, W, st, ok, m => by
    cases st <;> first | (exact absurd m Bool.false_ne_true) | skip
    rename_i o pos
    cases o with
    | none => exact absurd m Bool.false_ne_true
    | some ex => exact s_ret (soundE e ok.x m)
  | .retN, S, X, W, st, ok, m => by
    cases st <;> first | (exact absurd m Bool.false_ne_true) | skip
    rename_i o pos
    cases o with
    | none => exact s_retN
    | some ex => exact absurd m Bool.false_ne_true
  | .ifs c a b, S, X, W, st, ok, m => by
    cases st <;> first | (exact absurd m Bool.false_ne_true) | skip
    rename_i ec ea eb pos
    have m : (mtE E S c ec && mtSs E S a ea && mtSs E S b eb) = true := m
    simp only [Bool.and_eq_true] at m
    exact s_if (soundT c ok.x m.1.1) (soundL a ok m.1.2) (soundL b ok m.2)
  | .raise c msg, S, X, W, st, ok, m => by
    obtain ⟨x, j, p, p2, p3, pos, rfl, h1, h2⟩ := mt_raise m
    exact s_raise ok h1 h2
  | .tryx body c suite, S, X, W, st, ok, m => by
    obtain ⟨ebody, x, np, b0, esuite, pos', pos, rfl, h1, h2, h3, h4⟩ := mt_try m
    exact s_try ok h2 h3 (fun W' pn xe ok' => soundL body ok' h1) h4
  | .tryn body hs, S, X, W, st, ok, m => by
    obtain ⟨ebody, h0, hds, pos, rfl, h1, h2⟩ := mt_tryn m
    exact s_tryn ok (fun W' pn xe ok' => soundL body ok' h1) h2
  | .for_ tg sk its body, S, X, W, st, ok, m => by
    obtain ⟨etg, eit, ebody, pos, rfl, h1, h2, h3, h4⟩ := mt_for m
    exact s_for ok h1 h2 (soundL body ok h3) h4
  | .whl c body, S, X, W, st, ok, m => by
    obtain ⟨ec, ebody, pos, rfl, h1, h2⟩ := mt_whl m
    exact s_whl ok h1 (soundL body ok h2)
theorem soundL : (l : List IS) → ∀ {S : Stc} {X : Cx} {W : WX} {sts : List Stmt}, OkS E Φ k S W X → mtSs E S l sts = true → PSs X sts (tL E Φ X W l)
  | [], S, X, W, sts, ok, m => by
    cases sts with
    | nil => exact s_nilS
    | cons _ _ => exact absurd m Bool.false_ne_true
  | s :: l, S, X, W, sts, ok, m => by
    cases sts with
    | nil => exact absurd m Bool.false_ne_true
    | cons st sts =>
      have m : (mtS E S s st && mtSs E S l sts) = true := m
      simp only [Bool.and_eq_true] at m
      exact s_consS (soundS s ok m.1) (soundL l ok m.2)
end
end
end Eng

set_option maxHeartbeats 4000000
namespace Eng
open PySem PySem.Spec L2
open PyProof.Rows hiding St

/-! ### a def's body -/
def ioL : List Bool → List Addr → Nat → List (Nat × Addr)
  | true :: ms, a :: as, i => (i, a) :: ioL ms as (i + 1)
  | false :: ms, as, i => ioL ms as (i + 1)
  | _, _, _ => []
section
variable {K : Fg} {Z H : Hp}
theorem ioL_snd : ∀ {ms : List Bool} {ps : List PV} {vs : List V} {as : List Addr} {i : Nat}, ArgR K Z H ms ps vs as → (ioL ms as i).map (·.2) = as
  | [], [], [], [], _, _ => rfl
  | [], [], [], _ :: _, _, h => h.elim
  | [], [], _ :: _, _, _, h => h.elim
  | [], _ :: _, _, _, _, h => h.elim
  | true :: _, [], _, _, _, h => h.elim
  | true :: _, _ :: _, [], _, _, h => h.elim
  | true :: _, _ :: _, _ :: _, [], _, h => h.elim
  | true :: ms, p :: ps, v :: vs, a :: as, i, h => by
    show a :: (ioL ms as (i + 1)).map (·.2) = _
    rw [ioL_snd h.2.2.2]
  | false :: _, [], _, _, _, h => h.elim
  | false :: _, _ :: _, [], _, _, h => h.elim
  | false :: ms, p :: ps, v :: vs, as, i, h => ioL_snd (ms := ms) (i := i + 1) h.2
theorem startS_len : ∀ {ms : List Bool} {ps : List PV}, ms.length = ps.length → (startS ms ps).length = ps.length
  | [], [], _ => rfl
  | [], _ :: _, h => by simp at h
  | _ :: _, [], h => by simp at h
  | true :: ms, p :: ps, h => by simp [startS, startS_len (ms := ms) (ps := ps) (by simpa using h)]
  | false :: ms, p :: ps, h => by simp [startS, startS_len (ms := ms) (ps := ps) (by simpa using h)]
/-- the slots of the parameters -/
theorem startS_get : ∀ {ms : List Bool} {ps : List PV} {vs : List V} {as : List Addr} {n i : Nat} {s : Slot}, ArgR K Z H ms ps vs as → (startS ms ps)[i]? = some s →
    ∃ v, vs[i]? = some v ∧ ((∃ p, s = .val p ∧ Rp K Z p v) ∨ ∃ p a, s = .own false p ∧ v = .ref a ∧ Z a = none ∧ OwnR K Z H a p ∧ (n + i, a) ∈ ioL ms as n)
  | [], [], [], [], _, _, _, _, e => by simp [startS] at e
  | [], [], [], _ :: _, _, _, _, h, _ => h.elim
  | [], [], _ :: _, _, _, _, _, h, _ => h.elim
  | [], _ :: _, _, _, _, _, _, h, _ => h.elim
  | true :: _, [], _, _, _, _, _, h, _ => h.elim
  | true :: _, _ :: _, [], _, _, _, _, h, _ => h.elim
  | true :: _, _ :: _, _ :: _, [], _, _, _, h, _ => h.elim
  | true :: ms, p :: ps, v :: vs, a :: as, n, 0, s, h, e => by
    have e : s = .own false p := by
      have : some (Slot.own false p) = some s := e
      exact (Option.some.inj this).symm
    subst e
    exact ⟨v, rfl, .inr ⟨p, a, rfl, h.1, h.2.1, h.2.2.1, List.mem_cons_self⟩⟩
  | true :: ms, p :: ps, v :: vs, a :: as, n, i + 1, s, h, e => by
    have e : (startS ms ps)[i]? = some s := by simpa [startS] using e
    obtain ⟨w, h1, h2⟩ := startS_get (n := n + 1) h.2.2.2 e
    refine ⟨w, by simpa using h1, ?_⟩
    rcases h2 with h2 | ⟨q, b, q1, q2, q3, q4, q5⟩
    · exact .inl h2
    · refine .inr ⟨q, b, q1, q2, q3, q4, List.mem_cons_of_mem _ ?_⟩
      have : n + (i + 1) = n + 1 + i := by omega
      rw [this]; exact q5
  | false :: _, [], _, _, _, _, _, h, _ => h.elim
  | false :: _, _ :: _, [], _, _, _, _, h, _ => h.elim
  | false :: ms, p :: ps, v :: vs, as, n, 0, s, h, e => by
    have e : s = .val p := by
      have : some (Slot.val p) = some s := e
      exact (Option.some.inj this).symm
    subst e
    exact ⟨v, rfl, .inl ⟨p, rfl, h.1⟩⟩
  | false :: ms, p :: ps, v :: vs, as, n, i + 1, s, h, e => by
    have e : (startS ms ps)[i]? = some s := by simpa [startS] using e
    obtain ⟨w, h1, h2⟩ := startS_get (n := n + 1) (as := as) h.2 e
    refine ⟨w, by simpa using h1, ?_⟩
    rcases h2 with h2 | ⟨q, b, q1, q2, q3, q4, q5⟩
    · exact .inl h2
    · refine .inr ⟨q, b, q1, q2, q3, q4, ?_⟩
      have : n + (i + 1) = n + 1 + i := by omega
      rw [this]; exact q5
theorem ioL_get : ∀ {ms : List Bool} {ps : List PV} {vs : List V} {as : List Addr} {n j : Nat} {a : Addr}, ArgR K Z H ms ps vs as → (j, a) ∈ ioL ms as n → ∃ i p, j = n + i ∧ vs[i]? = some (.ref a) ∧ (startS ms ps)[i]? = some (.own false p)
  | [], [], [], [], _, _, _, _, m => by simp [ioL] at m
  | [], [], [], _ :: _, _, _, _, h, _ => h.elim
  | [], [], _ :: _, _, _, _, _, h, _ => h.elim
  | [], _ :: _, _, _, _, _, _, h, _ => h.elim
  | true :: _, [], _, _, _, _, _, h, _ => h.elim
  | true :: _, _ :: _, [], _, _, _, _, h, _ => h.elim
  | true :: _, _ :: _, _ :: _, [], _, _, _, h, _ => h.elim
  | true :: ms, p :: ps, v :: vs, a :: as, n, j, b, h, m => by
    rcases List.mem_cons.mp (show (j, b) ∈ (n, a) :: ioL ms as (n + 1) from m) with e | m
    · cases e
      exact ⟨0, p, rfl, by rw [h.1]; rfl, rfl⟩
    · obtain ⟨i, q, e, h1, h2⟩ := ioL_get h.2.2.2 m
      exact ⟨i + 1, q, by omega, by simpa using h1, by simpa [startS] using h2⟩
  | false :: _, [], _, _, _, _, _, h, _ => h.elim
  | false :: _, _ :: _, [], _, _, _, _, h, _ => h.elim
  | false :: ms, p :: ps, v :: vs, as, n, j, b, h, m => by
    obtain ⟨i, q, e, h1, h2⟩ := ioL_get (ms := ms) (as := as) (n := n + 1) h.2 m
    exact ⟨i + 1, q, by omega, by simpa using h1, by simpa [startS] using h2⟩
/-- what lies at the parameters that are changed, at the end -/
theorem outs_ok {g : Ent} {σ : St} {ε : Sg} {Z' H' : Hp} : ∀ {ms : List Bool} {as : List Addr} {n : Nat} {os : List PV}, Good K g σ ε Z' H' → (∀ q ∈ ioL ms as n, q ∈ g.io) → ms.countP id = as.length → outsS ms n ε = some os → Paired (fun a p => OwnR K Z' H' a p) as os
  | [], [], _, os, _, _, _, e => by cases e; exact .nil
  | [], _ :: _, _, _, _, _, c, _ => by simp at c
  | true :: ms, [], _, _, _, _, c, _ => by simp at c
  | true :: ms, a :: as, n, os, G, hm, c, e => by
    unfold outsS at e
    split at e
    · rename_i kk p ps e1 e2
      cases e
      obtain ⟨h1, p', h2⟩ := G.io n a (hm _ List.mem_cons_self)
      rw [e1] at h2
      cases h2
      obtain ⟨b, h3, _, h4, _⟩ := G.slot _ _ e1
      rw [h1] at h3
      cases h3
      exact .cons h4 (outs_ok G (fun q hq => hm q (List.mem_cons_of_mem _ hq)) (by simpa using c) e2)
    · cases e
  | false :: ms, as, n, os, G, hm, c, e => outs_ok (ms := ms) (n := n + 1) G hm (by simpa using c) e
theorem argR_count : ∀ {ms : List Bool} {ps : List PV} {vs : List V} {as : List Addr}, ArgR K Z H ms ps vs as → ms.countP id = as.length
  | [], [], [], [], _ => rfl
  | [], [], [], _ :: _, h => h.elim
  | [], [], _ :: _, _, h => h.elim
  | [], _ :: _, _, _, h => h.elim
  | true :: _, [], _, _, h => h.elim
  | true :: _, _ :: _, [], _, h => h.elim
  | true :: _, _ :: _, _ :: _, [], h => h.elim
  | true :: ms, p :: ps, v :: vs, a :: as, h => by
    have := argR_count h.2.2.2
    simp [this]
  | false :: _, [], _, _, h => h.elim
  | false :: _, _ :: _, [], _, h => h.elim
  | false :: ms, p :: ps, v :: vs, as, h => by
    have := argR_count (ms := ms) h.2
    simp [this]
end

/-- a def of the text, with what is known of it -/
structure FnF (E : Eng) (K : Fg) (mg : Str → Option Value) (fi : FnI) : Prop where
  ex : ∃ (qual : Str) (params : Arguments) (body : List Stmt) (scope : Scope) (N ps : List Str) (fa : Addr) (fd : FuncData) (dvs : List V) (dv : List Value),
    FunD K fi.name qual params body scope dvs [] fa fd ∧ mg fi.name = some (.ref fa) ∧ FnScope N ps scope ∧ N.length = fi.nsl ∧ ps.length = fi.np ∧ mtSs E ⟨N, scope, scope⟩ fi.body body = true ∧
      Binds K fd ps [] ∧ Binds K fd ps dv ∧ Vals dvs dv ∧ ∀ Z, RpL K Z fi.dfl dvs
/-- the program behind its top -/
structure PF (E : Eng) (K : Fg) (mg : Str → Option Value) : Prop where
  fr : ∀ x ∈ E.fre, mg x = none
  fn : ∀ (f : Nat) (fi : FnI), E.fns[f]? = some fi → FnF E K mg fi
  bl : ∀ b ∈ E.blts, if bltG b = true then mg (bltN b) = some (bltV b) else mg (bltN b) = none
  ty : ∀ t ∈ E.tys, mg (Str.ofString t) = none ∧ bootBuiltins (Str.ofString t) = some (.type t) ∧ mg "isinstance" = none
  gb : ∀ x p, E.glb.lookup x = some p → ∃ u v, mg x = some u ∧ RelV v u ∧ ∀ Z, Rp K Z p v
  ex : ∀ (c : Nat) (nm : Str), E.cls[c]? = some nm → ∃ C, mg nm = some (.ref C) ∧ PySem.W.excIn K C HandSPX.veTail "ValueError.__new__" = true ∧ PySem.W.keepIn K (.ref C) = true ∧ PySem.W.subIn K (.ref C) (.type "BaseException") = some true ∧ PySem.W.typeIn K (.ref C) = some (.type "type")
  sb : ∀ (c d : Nat) (nc nd : Str) (C D : Addr), E.cls[c]? = some nc → E.cls[d]? = some nd → mg nc = some (.ref C) → mg nd = some (.ref D) → PySem.W.exmOne K (.ref C) (.ref D) = some (E.sub c d)

section
variable {E : Eng} {P : Program} {w : World} {K : Fg} {mg : Str → Option Value} {base : Heap}
theorem fn_zero {f : Nat} {fi : FnI} {fa : Addr} {fd : FuncData} {ps : List Str} : FnG P w K mg base (L2.CX P w) 0 fa fd ps (spF E (callF E 0) mg K fi f) :=
  ⟨fun vs H Q E' ⟨_, _, _, _, _, _, _, h⟩ => h.elim, fun _ _ _ _ _ ⟨_, _, _, _, _, _, _, h⟩ => h.elim⟩
/-- a def by its body, entered where no text of an object is being made -/
theorem fnG_of {x qual : Str} {params : Arguments} {body : List Stmt} {scope : Scope} {N ps : List Str} {fa : Addr} {fd : FuncData} {dvs : List V} {k : Nat} {sp : Sp} {CXx : CXT} (D : FunD K x qual params body scope dvs [] fa fd) (S : FnScope N ps scope) (ar : ∀ vs H Q E, sp vs H Q E → vs.length = ps.length)
    (hb : ∀ (cdv : Value) (A : Around) (outer : List Env) (s : Shared) (H : Hp) (vs : List V) (Q : VK) (E : XK), A.guards = some [] → Room k (A.deeper (envOfC qual scope s.heap.objs.size fa cdv)) → sp vs H Q E →
      ∃ t, PSs (cxOf CXx P w K mg base N qual scope fa cdv A outer s H E) body t ∧ t { rt := Q, nx := fun _ H' => Q .non H' } (start N vs) H) : FnG P w K mg base CXx (k + 1) fa fd ps sp := by
  obtain ⟨oc, od, dV, kV, doc, pm, an, cdv, ct, osl, e, lk, cd, -, -⟩ := D.ex
  subst e
  constructor
  · exact ar
  intro A outer s H args us vs Q E gd room en binds rel prom
  have keep : ∀ b o, base.get? b = some o → s.heap.get? b = some o := fun b o z => (en.bs b o z).1
  have kin := en.mod.kin.keeps keep
  have kinds : ∀ y ∈ ps.zip us, scope.names.lookup y.1 = some .local ∨ (scope.names.lookup y.1 = some .cell ∧ ((cellsFrom (s.heap.objs.size + 1) scope.names []).lookup y.1).isSome = true) := by
    intro y hy
    cases S.par y.1 (List.of_mem_zip hy).1 with
    | inl q => left; exact q
    | inr q => right; exact ⟨q, PySem.W.cellsFrom_some _ _ _ (Or.inl q)⟩
  apply codeAny_call_function room.depth (kin _ _ lk) rfl S.co S.gen rfl (PySem.W.codeRec_of kin cd)
  apply binds
  apply wpAny_newFunctionEnv_cells S.kind kinds
  intro env ee s1 entered
  subst ee
  constructor
  · exact (en.mod.nolimit.keeps keep).keeps entered.toInCall.keep
  obtain ⟨t, judged, reads⟩ := hb cdv A outer s H vs Q E gd (room.deeper _) prom
  have first := inv_start (CX := CXx) (cd := cdv) (E := E) S room.hd en (ar _ _ _ _ prom) rel entered
  apply codeAny_func
  refine wpAny_mono (judged.run [] s1 (start N vs) H _ first reads) ?_ fun _ _ z => z
  intro fl s2 ended
  have leave : ∀ {τ : St} {H2 : Hp} {v : V} {u : Value}, Inv (cxOf CXx P w K mg base N qual scope fa cdv A outer s H E) [] τ H2 s2 → RelV v u → Q v H2 → CE outer P w H s Q u s2 := by
    intro τ H2 v u J rv q
    exact ⟨v, H2, J.os, J.bare, J.base, J.hok, rv, q⟩
  match fl, ended with
  | .next, ⟨_, _, J, q⟩ => exact leave (v := V.non) (u := Value.none) J rfl q
  | .ret _, ⟨_, _, _, J, rv, q⟩ => exact leave J rv q
  | .brk, ⟨_, _, _, q⟩ => exact q.elim
  | .cont, ⟨_, _, _, q⟩ => exact q.elim
theorem fn_core (F : PF E K mg) {k f : Nat} {fi : FnI} (hf : E.fns[f]? = some fi) (ih : ∀ (f : Nat) (fi : FnI), E.fns[f]? = some fi → ∃ fa fd ps, FnX E (callF E k) k P w K mg base f fi fa fd ps)
    {qual : Str} {params : Arguments} {body : List Stmt} {scope : Scope} {N ps : List Str} {fa : Addr} {fd : FuncData} {dvs : List V} (D : FunD K fi.name qual params body scope dvs [] fa fd) (S : FnScope N ps scope) (hN : N.length = fi.nsl) (hp : ps.length = fi.np) (mt : mtSs E ⟨N, scope, scope⟩ fi.body body = true) :
    FnG P w K mg base (L2.CX P w) (k + 1) fa fd ps (spF E (callF E (k + 1)) mg K fi f) := by
  have hcall : ∀ qs, callF E (k + 1) f qs = callB E (callF E k) fi qs := fun qs => by
    show (match E.fns[f]? with | some fi => callB E (callF E k) fi qs | none => .stuck) = _
    rw [hf]
  refine fnG_of D S (fun vs H Q E' hsp => ?_) (fun cdv A outer s H vs Q E' hgd hr hsp => ?_)
  · obtain ⟨Z, qs, as, zh, hl, ar, nd, post⟩ := hsp
    rw [hcall] at post
    have hal := argR_len ar
    omega
  · obtain ⟨Z, qs, as, zh, hl, ar, nd, post⟩ := hsp
    rw [hcall] at post
    have hal := argR_len ar
    let X : Cx := cxOf (L2.CX P w) P w K mg base N qual scope fa cdv A outer s H E'
    have okx : OkS E (callF E k) k ⟨N, scope, scope⟩ (fun cls d _ H' => E' cls d H') X := by
      refine ⟨⟨rfl, rfl, rfl, S.nd, S.kind, fun x hx => ⟨hx, .inl rfl⟩, hr, takes_of rfl rfl rfl rfl, ih, F.bl, F.ty, F.gb, F.fr, hgd⟩, rfl, rfl, passes_of rfl, fun c nm h => ?_, F.sb⟩
      obtain ⟨C, m, e1, e2, e3, e4⟩ := F.ex c nm h
      exact ⟨C, m, e1, e2, raises_own e3 e4⟩
    refine ⟨_, soundL fi.body okx mt, ?_⟩
    unfold callB at post
    by_cases hc : qs.length = fi.np ∧ fi.mask.length = fi.np ∧ fi.np ≤ fi.nsl
    · rw [if_pos hc] at post
      let g : Ent := ⟨H, Z, ioL fi.mask as 0, []⟩
      have hsl : (startS fi.mask qs).length = qs.length := startS_len (by omega)
      have hvl : vs.length = fi.np := by omega
      have hio : (ioL fi.mask as 0).map (·.2) = as := ioL_snd ar
      have get0 : ∀ (i : Nat) (sl : Slot), (startS fi.mask qs ++ List.replicate (fi.nsl - fi.np) Slot.none)[i]? = some sl → ((startS fi.mask qs)[i]? = some sl) ∨ sl = .none := fun i sl h => by
        by_cases hi : i < (startS fi.mask qs).length
        · rw [List.getElem?_append_left hi] at h; exact .inl h
        · rw [List.getElem?_append_right (by omega), List.getElem?_replicate] at h
          split at h <;> cases h
          exact .inr rfl
      have st : ∀ (i : Nat) (v : V), vs[i]? = some v → (start N vs)[i]? = some (some v) := fun i v h => by
        have hi := (List.getElem?_eq_some_iff.mp h).1
        unfold L2.start
        rw [List.getElem?_append_left (by simpa using hi), List.getElem?_map, h]
        rfl
      have G : Good K g (start N vs) (startS fi.mask qs ++ List.replicate (fi.nsl - fi.np) Slot.none) Z H := by
        refine ⟨?_, fun i sl h => ?_, fun i j a oi oj ei ej => ?_, zh, fun b o h _ => h, fun _ h => h, fun b z => .inl z, .refl _, fun i a h => ?_, fun q hq => absurd hq (by simp [g])⟩
        · unfold L2.start
          simp only [List.length_append, List.length_map, List.length_replicate]
          omega
        · rcases get0 i sl h with h | rfl
          · obtain ⟨v, h1, h2⟩ := startS_get (n := 0) ar h
            rcases h2 with ⟨p, rfl, h2⟩ | ⟨p, a, rfl, rfl, h3, h4, h5⟩
            · exact ⟨v, st i v h1, h2⟩
            · exact ⟨a, st i _ h1, h3, h4, fun z => (nomatch z), fun _ => by rw [Nat.zero_add] at h5; exact h5⟩
          · trivial
        · have loc : ∀ {i}, IsOwn (startS fi.mask qs ++ List.replicate (fi.nsl - fi.np) Slot.none) i → (start N vs)[i]? = some (some (V.ref a)) → (i, a) ∈ ioL fi.mask as 0 := fun {i} ⟨kk, p, h⟩ e => by
            rcases get0 i _ h with h | h
            · obtain ⟨v, h1, h2⟩ := startS_get (n := 0) ar h
              rw [st i v h1] at e
              cases e
              rcases h2 with ⟨p, z, _⟩ | ⟨p, b, _, e2, _, _, h5⟩
              · cases z
              · cases e2
                rw [Nat.zero_add] at h5
                exact h5
            · cases h
          have m1 := loc oi ei
          have m2 := loc oj ej
          -- one address stands once
          have nd' : ((ioL fi.mask as 0).map (·.2)).Nodup := by rw [hio]; exact nd
          have uniq : ∀ {l : List (Nat × Addr)} {x y : Nat} {b : Addr}, (l.map (·.2)).Nodup → (x, b) ∈ l → (y, b) ∈ l → x = y := by
            intro l
            induction l with
            | nil => intro x y b _ h _; simp at h
            | cons q l ih =>
              intro x y b hn h1 h2
              rw [List.map_cons, List.nodup_cons] at hn
              rcases List.mem_cons.mp h1 with e1 | h1 <;> rcases List.mem_cons.mp h2 with e2 | h2
              · rw [← e1] at e2; cases e2; rfl
              · exact absurd (List.mem_map.mpr ⟨_, h2, by rw [← e1]⟩) hn.1
              · exact absurd (List.mem_map.mpr ⟨_, h1, by rw [← e2]⟩) hn.1
              · exact ih hn.2 h1 h2
          exact uniq nd' m1 m2
        · obtain ⟨j, p, e, h1, h2⟩ := ioL_get ar h
          rw [Nat.zero_add] at e
          subst e
          refine ⟨st i _ h1, p, ?_⟩
          rw [List.getElem?_append_left (by rw [hsl]; have := (List.getElem?_eq_some_iff.mp h2).1; omega)]
          exact h2
      refine ⟨g, _, Z, G, ?_⟩
      have aft : ∀ {σ' : St} {ε' : Sg} {Z' H' : Hp} {os : List PV}, Good K g σ' ε' Z' H' → outsS fi.mask 0 ε' = some os → Aft K Z H Z' H' as os := fun {σ' ε' Z' H' os} G' eo =>
        ⟨G'.zz, G'.zh, fun b o h nb => G'.hh b o h (by rw [show g.io = ioL fi.mask as 0 from rfl, hio]; exact nb), G'.al, G'.zf, outs_ok G' (fun q hq => hq) (argR_count ar) eo⟩
      cases he : exL E (callF E k) fi.body (startS fi.mask qs ++ List.replicate (fi.nsl - fi.np) Slot.none) with
      | stuck => rw [he] at post; exact post.elim
      | bk ε1 => rw [he] at post; exact post.elim
      | ct ε1 => rw [he] at post; exact post.elim
      | nx ε1 =>
        rw [he] at post
        intro σ' Z' H' s' G' _
        dsimp only at post
        cases eo : outsS fi.mask 0 ε1 with
        | none => rw [eo] at post; exact post.elim
        | some os =>
          rw [eo] at post
          exact post .non Z' H' (aft G' eo) .non
      | rt r ε1 =>
        rw [he] at post
        intro σ' v Z' H' s' G' rv
        cases r with
        | own _ => exact post.elim
        | val p =>
          dsimp only at post
          cases eo : outsS fi.mask 0 ε1 with
          | none => rw [eo] at post; exact post.elim
          | some os => rw [eo] at post; exact post v Z' H' (aft G' eo) rv
        | fresh p =>
          dsimp only at post
          cases eo : outsS fi.mask 0 ε1 with
          | none => rw [eo] at post; exact post.elim
          | some os =>
            rw [eo] at post
            obtain ⟨a, e1, e2, e3, e4, _⟩ := rv
            exact post v Z' H' (aft G' eo) ⟨a, e1, e2, e3, e4⟩
      | exc c ε1 =>
        rw [he] at post
        intro σ' Z' H' C s' G' _ cl
        dsimp only at post
        cases eo : outsS fi.mask 0 ε1 with
        | none => rw [eo] at post; exact post.elim
        | some os => rw [eo] at post; exact post C Z' H' (aft G' eo) cl
    · rw [if_neg hc] at post
      exact post.elim
theorem fn_succ (F : PF E K mg) {k f : Nat} {fi : FnI} (hf : E.fns[f]? = some fi) (ih : ∀ (f : Nat) (fi : FnI), E.fns[f]? = some fi → ∃ fa fd ps, FnX E (callF E k) k P w K mg base f fi fa fd ps) :
    ∃ fa fd ps, FnX E (callF E (k + 1)) (k + 1) P w K mg base f fi fa fd ps := by
  obtain ⟨qual, params, body, scope, N, ps, fa, fd, dvs, dv, D, m, S, hN, hp, mt, b0, b1, hv, hd⟩ := (F.fn f fi hf).ex
  exact ⟨fa, fd, ps, m, D.kp, fn_core F hf ih D S hN hp mt, b0, dvs, dv, b1, hv, hd⟩
/-- every def of the text, calls nested at most k deep -/
theorem fn_all (F : PF E K mg) : ∀ (k f : Nat) (fi : FnI), E.fns[f]? = some fi → ∃ fa fd ps, FnX E (callF E k) k P w K mg base f fi fa fd ps
  | 0, f, fi, hf => by
    obtain ⟨qual, params, body, scope, N, ps, fa, fd, dvs, dv, D, m, S, hN, hp, mt, b0, b1, hv, hd⟩ := (F.fn f fi hf).ex
    exact ⟨fa, fd, ps, m, D.kp, fn_zero, b0, dvs, dv, b1, hv, hd⟩
  | k + 1, f, fi, hf => fn_succ F hf (fn_all F k)
end
end Eng

namespace Eng
open PySem PySem.Spec L2
open PyProof.Rows hiding St

theorem exm_pair {K : PySem.W.Frag} {S D : Addr} {b : Bool} (h1 : PySem.W.subIn K (.ref D) (.type "BaseException") = some true) (h2 : PySem.W.isClsIn K D = true) (h3 : PySem.W.typeIn K (.ref D) = some (.type "type")) (h4 : PySem.W.subIn K (.ref S) (.ref D) = some b) :
    PySem.W.exmOne K (.ref S) (.ref D) = some b := by
  have e1 : (PySem.W.subIn K (.ref D) (.type "BaseException") == some true) = true := by rw [h1] <;> rfl
  have e2 : ((PySem.W.clsIn K D).isSome && PySem.W.typeIn K (.ref D) == some (.type "type")) = true := by
    have h2' : (PySem.W.clsIn K D).isSome = true := h2
    rw [h2', h3] <;> rfl
  show (if (PySem.W.subIn K (.ref D) (.type "BaseException") == some true) = true then (if ((PySem.W.clsIn K D).isSome && PySem.W.typeIn K (.ref D) == some (.type "type")) = true then PySem.W.subIn K (.ref S) (.ref D) else none) else none) = some b
  rw [if_pos e1, if_pos e2]
  exact h4

section
variable {E : Eng} {K : Fg} {mg : Str → Option Value} {fi : FnI} {qual : Str} {params : Arguments} {body : List Stmt} {scope : Scope} {N ps : List Str} {fa : Addr} {fd : FuncData} {dvs : List V}
theorem fnF_mk (D : FunD K fi.name qual params body scope [] [] fa fd) (m : mg fi.name = some (.ref fa)) (S : FnScope N ps scope) (hN : N.length = fi.nsl) (hp : ps.length = fi.np) (mt : mtSs E ⟨N, scope, scope⟩ fi.body body = true) (hd : fi.dfl = [])
    (b : ∀ (kV doc pm : Value) (an : Option Addr) (cdv ct : Value) (us : List Value), us.length = ps.length → bindArgs (PySem.W.fnOf fi.name qual params body scope .none kV doc pm an cdv ct) ⟨us, []⟩ = pure (ps.zip us)) : FnF E K mg fi :=
  ⟨qual, params, body, scope, N, ps, fa, fd, [], [], D, m, S, hN, hp, mt, D.bindsN b, D.bindsN b, .nil, fun Z => hd ▸ .nil⟩
/-- defaults: n parameters ahead of them -/
theorem fnF_mkD (n : Nat) (D : FunD K fi.name qual params body scope dvs [] fa fd) (m : mg fi.name = some (.ref fa)) (S : FnScope N ps scope) (hN : N.length = fi.nsl) (hp : ps.length = fi.np) (mt : mtSs E ⟨N, scope, scope⟩ fi.body body = true)
    (hd : ∀ Z, RpL K Z fi.dfl dvs) (h0 : dvs ≠ []) (hn : n + dvs.length = ps.length)
    (b0 : ∀ (T : Addr) (kV doc pm : Value) (an : Option Addr) (cdv ct : Value) (us its : List Value), us.length = ps.length → its.length = dvs.length →
      ∃ k, bindArgs (PySem.W.fnOf fi.name qual params body scope (.ref T) kV doc pm an cdv ct) ⟨us, []⟩ = seqItems? (.ref T) >>= k ∧ k (some its.toArray) = pure (ps.zip us))
    (b1 : ∀ (T : Addr) (kV doc pm : Value) (an : Option Addr) (cdv ct : Value) (us its : List Value), us.length = n → its.length = dvs.length →
      ∃ k, bindArgs (PySem.W.fnOf fi.name qual params body scope (.ref T) kV doc pm an cdv ct) ⟨us, []⟩ = seqItems? (.ref T) >>= k ∧ k (some its.toArray) = pure (ps.zip (us ++ its))) : FnF E K mg fi := by
  obtain ⟨d0, v0, e0⟩ := D.binds1 (ps := ps) ps.length dvs.length h0 (by simp) fun T kV doc pm an cdv ct us its hu hi => by
    obtain ⟨k, e1, e2⟩ := b0 T kV doc pm an cdv ct us its hu hi
    refine ⟨k, e1, ?_⟩
    rw [e2, ← hi, List.drop_length, List.append_nil]
  obtain ⟨d1, v1, e1⟩ := D.binds1 (ps := ps) n 0 h0 (by simpa using hn) fun T kV doc pm an cdv ct us its hu hi => by
    obtain ⟨k, e1, e2⟩ := b1 T kV doc pm an cdv ct us its hu hi
    exact ⟨k, e1, by rw [e2, List.drop_zero]⟩
  rw [List.drop_length] at v0
  cases v0
  rw [List.drop_zero] at v1
  exact ⟨qual, params, body, scope, N, ps, fa, fd, dvs, d1, D, m, S, hN, hp, mt, e0, e1, v1, hd⟩
end
theorem funD_mk {K : Fg} {x qual : Str} {st : Stmt} {fa : Addr} {oc : Value} {od an : Option Addr} {sl : Array (Option Value)} {kV dc pm cd ct : Value}
    (l : K.lookup fa = some ⟨oc, od, .func (PySem.W.fnOf x qual (defArgs st) (defBody st) (defScope st) .none kV dc pm an cd ct), sl⟩) (c : PySem.W.codeIn K cd qual = true) (k : PySem.W.keepIn K (.ref fa) = true) :
    FunD K x qual (defArgs st) (defBody st) (defScope st) [] [] fa (PySem.W.fnOf x qual (defArgs st) (defBody st) (defScope st) .none kV dc pm an cd ct) :=
  ⟨⟨oc, od, .none, kV, dc, pm, an, cd, ct, sl, rfl, l, c, .inl ⟨rfl, rfl⟩, .inl rfl⟩, k⟩
theorem funD_mkD {K : Fg} {x qual : Str} {st : Stmt} {fa T : Addr} {oc : Value} {od an : Option Addr} {sl : Array (Option Value)} {kV dc pm cd ct : Value} {o : Obj} {its : List Value} {n : Nat} {dvs : List V}
    (l : K.lookup fa = some ⟨oc, od, .func (PySem.W.fnOf x qual (defArgs st) (defBody st) (defScope st) (.ref T) kV dc pm an cd ct), sl⟩) (c : PySem.W.codeIn K cd qual = true) (k : PySem.W.keepIn K (.ref fa) = true)
    (lT : K.lookup T = some o) (hT : o.data = .seq its.toArray n) (h0 : dvs ≠ []) (hv : Vals dvs its) :
    FunD K x qual (defArgs st) (defBody st) (defScope st) dvs [] fa (PySem.W.fnOf x qual (defArgs st) (defBody st) (defScope st) (.ref T) kV dc pm an cd ct) :=
  ⟨⟨oc, od, .ref T, kV, dc, pm, an, cd, ct, sl, rfl, l, c, .inr ⟨h0, T, o, its, n, rfl, lT, hT, hv⟩, .inl rfl⟩, k⟩

/-- the law's own def -/
structure LawX (E : Eng) (K : Fg) (mg : Str → Option Value) (fi : FnI) (x : Str) (fa : Addr) : Prop where
  ex : ∃ (qual : Str) (params : Arguments) (body : List Stmt) (scope : Scope) (N : List Str) (fd : FuncData),
    FunD K fi.name qual params body scope [] [] fa fd ∧ FnScope N [x] scope ∧ N.length = fi.nsl ∧ mtSs E ⟨N, scope, scope⟩ fi.body body = true ∧ ∀ (s : Shared) (u : Value), BindsTo s fd ⟨[u], []⟩ [(x, u)]
theorem lawX_mk {E : Eng} {K : Fg} {mg : Str → Option Value} {fi : FnI} {x : Str} {fa : Addr} {st : Stmt} {N : List Str} {oc : Value} {od an : Option Addr} {sl : Array (Option Value)} {kV dc pm cd ct : Value}
    (l : K.lookup fa = some ⟨oc, od, .func (PySem.W.fnOf fi.name fi.name (defArgs st) (defBody st) (defScope st) .none kV dc pm an cd ct), sl⟩) (c : PySem.W.codeIn K cd fi.name = true) (k : PySem.W.keepIn K (.ref fa) = true)
    (S : FnScope N [x] (defScope st)) (hN : N.length = fi.nsl) (mt : mtSs E ⟨N, defScope st, defScope st⟩ fi.body (defBody st) = true)
    (b : ∀ (kV doc pm : Value) (an : Option Addr) (cdv ct : Value) (us : List Value), us.length = [x].length → bindArgs (PySem.W.fnOf fi.name fi.name (defArgs st) (defBody st) (defScope st) .none kV doc pm an cdv ct) ⟨us, []⟩ = pure ([x].zip us)) : LawX E K mg fi x fa :=
  ⟨_, _, _, _, N, _, funD_mk l c k, S, hN, mt, fun s u => (funD_mk l c k).bindsA b s [u] rfl⟩

theorem rpL_ints {K : Fg} {Z : Hp} : ∀ ns : List Int, RpL K Z (ns.map PV.int) (ns.map V.int)
  | [] => .nil
  | n :: ns => .cons (.int n) (rpL_ints ns)
open Classical in
/-- the heap that is known at the entry: the script alone -/
noncomputable def scrH (K : Fg) (a : Addr) (o : Obj) (l : List V) : Hp := fun b => if b = a ∧ K.lookup a = none then some (.frz o (.lst l)) else none
theorem scrH_some {K : Fg} {a b : Addr} {o : Obj} {l : List V} {u : HO} (h : scrH K a o l b = some u) : b = a ∧ K.lookup a = none ∧ u = .frz o (.lst l) := by
  unfold scrH at h
  split at h
  · rename_i q
    cases h
    exact ⟨q.1, q.2, rfl⟩
  · cases h
theorem law_enter {P : Program} {w : World} {K : Fg} {mg mb : Str → Option Value} {CXx : CXT} {k : Nat} {fa a : Addr} {fd : FuncData} {x : Str} {sp : Sp} {sh : Shared} {vs : List Value} {ns : List Int}
    (kin : K.In sh.heap) (glo : sh.heap.Ns mainGlobals mg) (blt : sh.heap.Ns builtinsNs mb) (boot : ∀ y : Str, y ≠ "__name__" → mb y = bootBuiltins y) (nol : sh.heap.NoLimit) (gens : sh.gens = #[])
    (obj : sh.heap.get? a = some { cls := .type "list", data := .seq vs.toArray }) (arei : IntsAre vs ns) (len : ns.length ≤ sizeLine) (room : Room k callerA)
    (promise : ∀ base : Heap, K.In base → base.Ns mainGlobals mg → FnG P w K mg base CXx k fa fd [x] sp) (binds : ∀ (s : Shared) (u : Value), BindsTo s fd ⟨[u], []⟩ [(x, u)])
    (given : ∀ H : Hp, Only H → SqL K H a (ns.map V.int) → sp [.ref a] H (fun v _ => v = .bl true) fun _ _ _ => False)
    (noExc : ∀ H e s', CXx [] H sh (fun _ _ _ => False) e s' → False) :
    codeAny (model P w) callerA (.call (.ref fa) ⟨[.ref a], []⟩) (fun r s' => r = .ok (.ret (.bool true)) ∧ OldK sh.heap s'.heap ∧ s'.os = sh.os ∧ AllBare s'.gens) sh := by
  obtain ⟨ob, hob⟩ : ∃ ob : Obj, ob = { cls := .type "list", data := .seq vs.toArray } := ⟨_, rfl⟩
  rw [← hob] at obj
  let H := scrH K a ob (ns.map V.int)
  have onlyH : Only H := fun b => by
    cases e : H b with
    | none => exact .inl rfl
    | some u =>
      obtain ⟨_, _, rfl⟩ := scrH_some e
      exact .inr ⟨_, _, rfl⟩
  have rel : Vals (ns.map V.int) vs := vals_ints arei
  have lens : vs.length = ns.length := by rw [← rel.length, List.length_map]
  have seqH : SqL K H a (ns.map V.int) := by
    cases lk : K.lookup a with
    | none => exact .inl (.inr ⟨ob, if_pos ⟨rfl, lk⟩⟩)
    | some o =>
      have same := kin a o lk
      rw [obj] at same
      cases same
      subst hob
      exact .inr ⟨_, vs.toArray, _, lk, rfl, rfl, rfl, by rw [List.size_toArray, lens]; exact len, by simpa using rel⟩
  have okH : HOk P w H sh.heap := fun b u e => by
    obtain ⟨rfl, _, rfl⟩ := scrH_some e
    subst hob
    exact ⟨obj, by rw [List.length_map]; exact len, vs, _, rel, obj⟩
  have outH : ∀ {b : Addr} {o : Obj}, K.lookup b = some o → H b = none := fun {b o} e => by
    cases q : H b with
    | none => rfl
    | some u =>
      obtain ⟨rfl, z, _⟩ := scrH_some q
      rw [z] at e; cases e
  have nsH : ∀ {b : Addr} {m : Str → Option Value}, sh.heap.Ns b m → (hidT sh.heap H).Ns b m := fun {b m} ⟨o, es, ep, e, d, r⟩ => by
    refine ⟨o, es, ep, hidT_get e ?_, d, r⟩
    cases q : H b with
    | none => rfl
    | some u =>
      obtain ⟨rfl, _, _⟩ := scrH_some q
      rw [obj] at e
      cases e
      subst hob
      have d' : Data.seq vs.toArray _ = Data.dict es ep := d
      cases d'
  have kinB : K.In (hidT sh.heap H) := fun b o e => hidT_get (kin b o e) (outH e)
  obtain ⟨mc, l1, l2⟩ := nol
  have env : Env0 P w K mg (hidT sh.heap H) callerA [] sh H :=
    { frames := rfl, mod := ⟨kinB, nsH glo, ⟨mb, nsH blt, boot⟩, ⟨mc, nsH l1, l2⟩⟩, bs := fun b o e => of_hidT e, bsz := Nat.le_of_eq (hidT_size _ _), funs := trivial, frf := fun b z => absurd (show b ∈ ([] : List Addr) from z) (by simp), hok := okH, bare := .of_eq gens }
  refine codeAny_mono ((promise _ kinB (nsH glo)).go (us := [.ref a]) rfl room env (binds sh (.ref a)) (show Vals [V.ref a] [Value.ref a] from .cons rfl .nil) (show sp [.ref a] H _ _ from given H onlyH seqH)) ?_
  rintro (e | fl) s2 done
  · exact (noExc H e s2 done).elim
  match fl, done with
  | .ret u, ⟨v, H2, os, bare, un, ok2, rv, q⟩ =>
    obtain rfl : v = .bl true := q
    obtain rfl : u = Value.bool true := rv
    refine ⟨rfl, OldK.of_keep fun b o e => ?_, os, bare⟩
    cases q : H b with
    | none => exact un.keep b o e q (fun z => absurd (show b ∈ ([] : List Addr) from z) (by simp)) (by simp)
    | some u =>
      obtain ⟨rfl, _, rfl⟩ := scrH_some q
      obtain ⟨e2, _⟩ := ok2 b _ (un.frzs b ob _ q)
      rw [obj] at e
      cases e
      exact e2
theorem walk {l : PySem.W.OpenLaw} {q : Program} {loose : List Str} {XP : (Str → Option Value) → Heap → Prop} {YP : World → Heap → Prop} {d : DefRec} {K : Params → Fg} {E : Eng} {fi : FnI} {x : Str} {k iLaw : Nat}
    (hn : l.most = some 63) (hdf : d.params.defaults = [])
    (hr : Room (k + 1) callerA) (hfi : E.fns[iLaw]? = some fi) (hnp : fi.np = 1) (hm : fi.mask = [false])
    (hlaw : ∀ ns : List Int, ns.length ≤ 63 → (∀ z ∈ ns, Builtin.Int.intBits z ≤ 1048576) → callF E (k + 1) iLaw [.scr (ns.map PV.int)] = .ok (.bl true) false [])
    (hY : ∀ (w : World) (h : Heap), YP w h → (K w.params).In h)
    (F : ∀ (w : World) (mg : Str → Option Value) (fa : Addr) (h : Heap), (K w.params).In h → h.Ns mainGlobals mg → mg d.name = some (.ref fa) → PF E (K w.params) mg ∧ LawX E (K w.params) mg fi x fa) :
    PySem.W.WalkO q loose XP YP l.row.toRowW d [] (fun f vs => PySem.call f vs) := by
  refine Att.attach_callB hn hdf fun w s₀ s₁ mg mb fa o pm cd doc a vs ns G Y ho hd hcd hmg hobj hints hlen hbits hg => ?_
  have kin := hY w _ Y
  obtain ⟨top, L⟩ := F w mg fa _ kin G.T.g hmg
  obtain ⟨qual, params, body, scope, N, fd, D, S, hN, mt, hb⟩ := L.ex
  refine law_enter (CXx := L2.CX l.prog w) kin G.T.g G.T.b G.T.builtins G.T.nolimit hg hobj hints (Nat.le_trans hlen (by decide)) hr (sp := spF E (callF E (k + 1)) mg (K w.params) fi iLaw) (fun base X1 G1 => fn_core top hfi (fn_all top k) D S hN (by rw [hnp]; rfl) mt) hb (fun H hO hS => ?_) fun H e s' h => ?_
  · refine ⟨H, [.scr (ns.map PV.int)], [], fun _ _ h => h, by rw [hnp]; rfl, ?_, .nil, ?_⟩
    · rw [hm]
      exact ⟨.scr hS (rpL_ints ns), trivial⟩
    · rw [hlaw ns hlen hbits]
      intro v Z' H' _ r
      have r' : Rp (K w.params) Z' (.bl true) v := r
      cases r'
      rfl
  · obtain ⟨a, B, H', cls, dd, _, _, _, _, _, _, _, h⟩ := h
    exact h
end Eng

namespace Eng
open PySem PySem.Spec L2
open PyProof.Rows hiding St
def AllF {α : Type} (P : α → Prop) : List α → Prop
  | [] => True
  | a :: l => P a ∧ AllF P l
theorem all_ix {α : Type} {P : α → Prop} : ∀ {l : List α}, AllF P l → ∀ (i : Nat) (a : α), l[i]? = some a → P a
  | [], _, i, a, e => by simp at e
  | b :: l, h, 0, a, e => by cases e; exact h.1
  | b :: l, h, i + 1, a, e => all_ix h.2 i a (by simpa using e)
theorem all_mem {α : Type} {P : α → Prop} : ∀ {l : List α}, AllF P l → ∀ a ∈ l, P a
  | [], _, a, e => by cases e
  | b :: l, h, a, e => by
    rcases List.mem_cons.mp e with rfl | e
    · exact h.1
    · exact all_mem h.2 a e
theorem all_look {P : Str → PV → Prop} : ∀ {l : List (Str × PV)}, AllF (fun q => P q.1 q.2) l → ∀ x p, l.lookup x = some p → P x p
  | [], _, _, _, e => by cases e
  | (y, b) :: l, h, x, p, e => by
    rw [List.lookup_cons] at e
    cases c : (x == y) with
    | true =>
      rw [c] at e
      cases e
      rw [eq_of_beq c]
      exact h.1
    | false =>
      rw [c] at e
      exact all_look h.2 x p e
def AllI {α : Type} (P : Nat → α → Prop) : Nat → List α → Prop
  | _, [] => True
  | n, a :: l => P n a ∧ AllI P (n + 1) l
theorem allI_get {α : Type} {P : Nat → α → Prop} : ∀ {l : List α} {n : Nat}, AllI P n l → ∀ (i : Nat) (a : α), l[i]? = some a → P (n + i) a
  | [], _, _, i, a, e => by simp at e
  | b :: l, n, h, 0, a, e => by cases e; exact h.1
  | b :: l, n, h, i + 1, a, e => by
    have := allI_get h.2 i a (by simpa using e)
    rwa [show n + 1 + i = n + (i + 1) by omega] at this
/-- the classes' addresses -/
def Adr (mg : Str → Option Value) : List Str → List Addr → Prop
  | [], [] => True
  | c :: l, a :: as => mg c = some (.ref a) ∧ Adr mg l as
  | _, _ => False
theorem adr_get {mg : Str → Option Value} : ∀ {l : List Str} {as : List Addr}, Adr mg l as → ∀ (i : Nat) (c : Str), l[i]? = some c → ∃ a, as[i]? = some a ∧ mg c = some (.ref a)
  | [], [], _, i, c, e => by simp at e
  | [], _ :: _, h, _, _, _ => h.elim
  | _ :: _, [], h, _, _, _ => h.elim
  | b :: l, a :: as, h, 0, c, e => by cases e; exact ⟨a, rfl, h.1⟩
  | b :: l, a :: as, h, i + 1, c, e => by
    obtain ⟨x, h1, h2⟩ := adr_get h.2 i c (by simpa using e)
    exact ⟨x, by simpa using h1, h2⟩
theorem sb_mk {mg : Str → Option Value} {K : Fg} {sub : Nat → Nat → Bool} {l : List Str} {As : List Addr} (ha : Adr mg l As) (h : AllI (fun j D => AllI (fun i C => PySem.W.exmOne K (.ref C) (.ref D) = some (sub i j)) 0 As) 0 As) :
    ∀ (c d : Nat) (nc nd : Str) (C D : Addr), l[c]? = some nc → l[d]? = some nd → mg nc = some (.ref C) → mg nd = some (.ref D) → PySem.W.exmOne K (.ref C) (.ref D) = some (sub c d) := by
  intro c d nc nd C D ec ed mc md
  obtain ⟨C', e1, m1⟩ := adr_get ha c nc ec
  obtain ⟨D', e2, m2⟩ := adr_get ha d nd ed
  rw [mc] at m1; cases m1
  rw [md] at m2; cases m2
  have := allI_get (allI_get h d D e2) c C e1
  rwa [Nat.zero_add, Nat.zero_add] at this
end Eng

namespace Rt
/-- the number that is divided by -/
def cm (a b : Int) : Int := if b < 0 then -(Int.gcd a b : Int) else (Int.gcd a b : Int)
def rN (a b : Int) : Int := a.fdiv (cm a b)
def rD (a b : Int) : Int := b.fdiv (cm a b)
structure IsR (p q : Int) : Prop where
  pos : 1 ≤ q
  co : Int.gcd p q = 1
theorem cm_ne {a b : Int} (h : b ≠ 0) : cm a b ≠ 0 := by
  have : (Int.gcd a b : Int) ≠ 0 := by
    have := Int.gcd_pos_of_ne_zero_right a h
    omega
  unfold cm
  split <;> omega
theorem cm_dvdN (a b : Int) : cm a b ∣ a := by
  unfold cm
  split
  · exact Int.neg_dvd.mpr (Int.gcd_dvd_left ..)
  · exact Int.gcd_dvd_left ..
theorem cm_dvdD (a b : Int) : cm a b ∣ b := by
  unfold cm
  split
  · exact Int.neg_dvd.mpr (Int.gcd_dvd_right ..)
  · exact Int.gcd_dvd_right ..
theorem mul_fdiv {a c : Int} (h : c ∣ a) (hc : c ≠ 0) : c * a.fdiv c = a := by
  obtain ⟨k, rfl⟩ := h
  rw [Int.mul_fdiv_cancel_left _ hc]
theorem rN_mul {a b : Int} (h : b ≠ 0) : cm a b * rN a b = a := mul_fdiv (cm_dvdN a b) (cm_ne h)
theorem rD_mul {a b : Int} (h : b ≠ 0) : cm a b * rD a b = b := mul_fdiv (cm_dvdD a b) (cm_ne h)
theorem r_eq {a b : Int} (h : b ≠ 0) : rN a b * b = a * rD a b := by
  have h1 := rN_mul (a := a) h
  have h2 := rD_mul (a := a) h
  generalize rN a b = p at *
  generalize rD a b = q at *
  generalize cm a b = c at *
  subst h2
  rw [← h1]
  grind
theorem r_is {a b : Int} (h : b ≠ 0) : IsR (rN a b) (rD a b) := by
  have h1 := rN_mul (a := a) h
  have h2 := rD_mul (a := a) h
  have hg : (cm a b).natAbs = Int.gcd a b := by unfold cm; split <;> simp
  have hg0 : 0 < Int.gcd a b := Int.gcd_pos_of_ne_zero_right a h
  have hs : (cm a b < 0) ↔ b < 0 := by unfold cm; split <;> omega
  have hc := cm_ne (a := a) h
  generalize rN a b = p at *
  generalize rD a b = q at *
  generalize hcm : cm a b = c at *
  constructor
  · rcases Int.lt_or_lt_of_ne hc with hn | hp
    · have hb : b < 0 := hs.mp hn
      rcases Int.lt_or_le q 1 with z | z
      · have : 0 ≤ c * q := Int.mul_nonneg_of_nonpos_of_nonpos (by omega) (by omega)
        omega
      · exact z
    · have hb : ¬ b < 0 := fun z => by have := hs.mpr z; omega
      rcases Int.lt_or_le q 1 with z | z
      · have : c * q ≤ 0 := Int.mul_nonpos_of_nonneg_of_nonpos (by omega) (by omega)
        have : c * q ≠ 0 := by rw [h2]; exact h
        omega
      · exact z
  · have e : Int.gcd (c * p) (c * q) = c.natAbs * Int.gcd p q := Int.gcd_mul_left c p q
    rw [h1, h2, hg] at e
    have : Int.gcd a b * 1 = Int.gcd a b * Int.gcd p q := by omega
    exact (Nat.eq_of_mul_eq_mul_left hg0 this).symm
theorem dvd_co {k m n : Int} (h : k ∣ m * n) (c : Int.gcd m k = 1) : k ∣ n := by
  have h' := Int.natAbs_dvd_natAbs.mpr h
  rw [Int.natAbs_mul] at h'
  have c' : Nat.Coprime k.natAbs m.natAbs := by
    show Nat.gcd k.natAbs m.natAbs = 1
    rw [Nat.gcd_comm]
    exact c
  exact Int.natAbs_dvd_natAbs.mp (c'.dvd_of_dvd_mul_left h')
theorem uniq {p q p' q' : Int} (h : IsR p q) (h' : IsR p' q') (e : p * q' = p' * q) : p = p' ∧ q = q' := by
  have d1 : q ∣ q' := by
    have : q ∣ p * q' := ⟨p', by rw [e]; exact Int.mul_comm ..⟩
    exact dvd_co this h.co
  have d2 : q' ∣ q := by
    have : q' ∣ p' * q := ⟨p, by rw [← e]; exact Int.mul_comm ..⟩
    exact dvd_co this h'.co
  have e2 : q = q' := Int.dvd_antisymm (by have := h.pos; omega) (by have := h'.pos; omega) d1 d2
  subst e2
  exact ⟨Int.eq_of_mul_eq_mul_right (by have := h.pos; omega) e, rfl⟩
theorem dv_le {a c : Int} (h : c ∣ a) (hc : c ≠ 0) : (a.fdiv c).natAbs ≤ a.natAbs := by
  have e := mul_fdiv h hc
  have : a.natAbs = c.natAbs * (a.fdiv c).natAbs := by rw [← Int.natAbs_mul, e]
  rw [this]
  exact Nat.le_mul_of_pos_left _ (by omega)
theorem rN_le {a b : Int} (h : b ≠ 0) : (rN a b).natAbs ≤ a.natAbs := dv_le (cm_dvdN a b) (cm_ne h)
theorem rD_le {a b : Int} (h : b ≠ 0) : (rD a b).natAbs ≤ b.natAbs := dv_le (cm_dvdD a b) (cm_ne h)
theorem r_self {p q : Int} (h : IsR p q) : rN p q = p ∧ rD p q = q := by
  have h0 : q ≠ 0 := by have := h.pos; omega
  exact uniq (r_is h0) h (r_eq h0)
theorem r_id {a b p q : Int} (hb : b ≠ 0) (h : IsR p q) (e : a * q = p * b) : rN a b = p ∧ rD a b = q := by
  refine uniq (r_is hb) h ?_
  have := r_eq (a := a) hb
  refine Int.eq_of_mul_eq_mul_right hb ?_
  grind
/-- a small number -/
def Sm (n : Nat) (i : Int) : Prop := i.natAbs < 2 ^ n
theorem Sm.mul {n m : Nat} {i j : Int} (h : Sm n i) (h' : Sm m j) : Sm (n + m) (i * j) := by
  unfold Sm at *
  rw [Int.natAbs_mul, Nat.pow_add]
  exact Nat.mul_lt_mul'' h h'
theorem Sm.le {n m : Nat} {i : Int} (h : Sm n i) (e : n ≤ m) : Sm m i := Nat.lt_of_lt_of_le h (Nat.pow_le_pow_right (by omega) e)
theorem Sm.add {n : Nat} {i j : Int} (h : Sm n i) (h' : Sm n j) : Sm (n + 1) (i + j) := by
  unfold Sm at *
  rw [Nat.pow_succ]
  omega
theorem Sm.sub {n : Nat} {i j : Int} (h : Sm n i) (h' : Sm n j) : Sm (n + 1) (i - j) := by
  unfold Sm at *
  rw [Nat.pow_succ]
  omega
theorem Sm.neg {n : Nat} {i : Int} (h : Sm n i) : Sm n (-i) := by
  unfold Sm at *
  omega
theorem Sm.log {n : Nat} {i : Int} (h : Sm n i) : i.natAbs.log2 ≤ n := by
  unfold Sm at h
  by_cases z : i.natAbs = 0
  · rw [z]; exact Nat.zero_le _
  · have := (Nat.log2_lt z).mpr h
    omega
theorem mul_ok {n m : Nat} {i j : Int} (h : Sm n i) (h' : Sm m j) (e : n + m < 134217000) : Eng.mulOk i j = true := by
  have := h.log
  have := h'.log
  unfold Eng.mulOk
  rw [decide_eq_true_iff]
  omega
theorem div_ok {i j : Int} (h : Sm 8000 j) : PySem.Builtin.divisionGoesByPylong i j = false := by
  have := h.log
  unfold PySem.Builtin.divisionGoesByPylong
  have : ¬ (if (j == 0) = true then 0 else j.natAbs.log2 / 30 + 1) > 300 := by
    split <;> omega
  simp only [this, decide_false, Bool.false_and]
theorem rN_sm {n : Nat} {a b : Int} (h : b ≠ 0) (s : Sm n a) : Sm n (rN a b) := Nat.lt_of_le_of_lt (rN_le h) s
theorem rD_sm {n : Nat} {a b : Int} (h : b ≠ 0) (s : Sm n b) : Sm n (rD a b) := Nat.lt_of_le_of_lt (rD_le h) s
theorem cm_sm {n : Nat} {a b : Int} (h : b ≠ 0) (s : Sm n b) : Sm n (cm a b) := by
  have : (cm a b).natAbs ≤ b.natAbs := Nat.le_of_dvd (by omega) (Int.natAbs_dvd_natAbs.mpr (cm_dvdD a b))
  exact Nat.lt_of_le_of_lt this s
end Rt

namespace Eng
open PySem PySem.Spec L2 Rt
open PyProof.Rows hiding St
@[simp] theorem size_line : sizeLine = 16777216 := rfl
@[simp] theorem eqp_int (a b : Int) : eqPV (.int a) (.int b) = some (decide (a = b)) := by
  have h : ∀ i : Int, SeqAt.shaped (.int i) = true := fun i => by
    unfold SeqAt.shaped
    simp [PyData.canLay0, PyData.depth]
  show (if SeqAt.shaped (.int a) = true ∧ SeqAt.shaped (.int b) = true then some (PyData.eqv (.int a) (.int b)) else none) = _
  rw [if_pos ⟨h a, h b⟩, PyData.eqv]
  rfl
@[simp] theorem eqp_bl (a b : Bool) : eqPV (.bl a) (.bl b) = some (a == b) := by
  have h : ∀ i : Bool, SeqAt.shaped (.bool i) = true := fun i => by
    unfold SeqAt.shaped
    simp [PyData.canLay0, PyData.depth]
  show (if SeqAt.shaped (.bool a) = true ∧ SeqAt.shaped (.bool b) = true then some (PyData.eqv (.bool a) (.bool b)) else none) = _
  rw [if_pos ⟨h a, h b⟩, PyData.eqv]
@[simp] theorem eqp_int2 (a b c d : Int) : eqPV (.tup [.int a, .int b]) (.tup [.int c, .int d]) = some (decide (a = c) && decide (b = d)) := by
  have h : ∀ i j : Int, SeqAt.shaped (.tuple [.int i, .int j]) = true := fun i j => by
    unfold SeqAt.shaped
    simp [PyData.canLay0, PyData.canLayAll0, PyData.depth, PyData.depthAll]
  show (if SeqAt.shaped (.tuple [.int a, .int b]) = true ∧ SeqAt.shaped (.tuple [.int c, .int d]) = true then some (PyData.eqv (.tuple [.int a, .int b]) (.tuple [.int c, .int d])) else none) = _
  rw [if_pos ⟨h a b, h c d⟩]
  simp only [PyData.eqv, PyData.eqvAll, Bool.and_true]
  rfl
theorem gcd_cm (a b : Int) : ((a.natAbs.gcd b.natAbs : Nat) : Int) = (Int.gcd a b : Int) := rfl

@[simp] theorem isi_non_int : opIsi (.non) "int" = some false := by decide +kernel
@[simp] theorem isi_non_bool : opIsi (.non) "bool" = some false := by decide +kernel
@[simp] theorem isi_non_tuple : opIsi (.non) "tuple" = some false := by decide +kernel
@[simp] theorem isi_non_str : opIsi (.non) "str" = some false := by decide +kernel
@[simp] theorem isi_non_list : opIsi (.non) "list" = some false := by decide +kernel
@[simp] theorem isi_non_dict : opIsi (.non) "dict" = some false := by decide +kernel
@[simp] theorem isi_bl_int (b : Bool) : opIsi (.bl b) "int" = some true := by
  show kitB "bool" "int" = _
  decide +kernel
@[simp] theorem isi_bl_bool (b : Bool) : opIsi (.bl b) "bool" = some true := by
  show kitB "bool" "bool" = _
  decide +kernel
@[simp] theorem isi_bl_tuple (b : Bool) : opIsi (.bl b) "tuple" = some false := by
  show kitB "bool" "tuple" = _
  decide +kernel
@[simp] theorem isi_bl_str (b : Bool) : opIsi (.bl b) "str" = some false := by
  show kitB "bool" "str" = _
  decide +kernel
@[simp] theorem isi_bl_list (b : Bool) : opIsi (.bl b) "list" = some false := by
  show kitB "bool" "list" = _
  decide +kernel
@[simp] theorem isi_bl_dict (b : Bool) : opIsi (.bl b) "dict" = some false := by
  show kitB "bool" "dict" = _
  decide +kernel
@[simp] theorem isi_int_int (b : Int) : opIsi (.int b) "int" = some true := by
  show kitB "int" "int" = _
  decide +kernel
@[simp] theorem isi_int_bool (b : Int) : opIsi (.int b) "bool" = some false := by
  show kitB "int" "bool" = _
  decide +kernel
@[simp] theorem isi_int_tuple (b : Int) : opIsi (.int b) "tuple" = some false := by
  show kitB "int" "tuple" = _
  decide +kernel
@[simp] theorem isi_int_str (b : Int) : opIsi (.int b) "str" = some false := by
  show kitB "int" "str" = _
  decide +kernel
@[simp] theorem isi_int_list (b : Int) : opIsi (.int b) "list" = some false := by
  show kitB "int" "list" = _
  decide +kernel
@[simp] theorem isi_int_dict (b : Int) : opIsi (.int b) "dict" = some false := by
  show kitB "int" "dict" = _
  decide +kernel
@[simp] theorem isi_str_int (b : Str) : opIsi (.str b) "int" = some false := by
  show kitB "str" "int" = _
  decide +kernel
@[simp] theorem isi_str_bool (b : Str) : opIsi (.str b) "bool" = some false := by
  show kitB "str" "bool" = _
  decide +kernel
@[simp] theorem isi_str_tuple (b : Str) : opIsi (.str b) "tuple" = some false := by
  show kitB "str" "tuple" = _
  decide +kernel
@[simp] theorem isi_str_str (b : Str) : opIsi (.str b) "str" = some true := by
  show kitB "str" "str" = _
  decide +kernel
@[simp] theorem isi_str_list (b : Str) : opIsi (.str b) "list" = some false := by
  show kitB "str" "list" = _
  decide +kernel
@[simp] theorem isi_str_dict (b : Str) : opIsi (.str b) "dict" = some false := by
  show kitB "str" "dict" = _
  decide +kernel
@[simp] theorem isi_tup_int (b : List PV) : opIsi (.tup b) "int" = some false := by
  show kitB "tuple" "int" = _
  decide +kernel
@[simp] theorem isi_tup_bool (b : List PV) : opIsi (.tup b) "bool" = some false := by
  show kitB "tuple" "bool" = _
  decide +kernel
@[simp] theorem isi_tup_tuple (b : List PV) : opIsi (.tup b) "tuple" = some true := by
  show kitB "tuple" "tuple" = _
  decide +kernel
@[simp] theorem isi_tup_str (b : List PV) : opIsi (.tup b) "str" = some false := by
  show kitB "tuple" "str" = _
  decide +kernel
@[simp] theorem isi_tup_list (b : List PV) : opIsi (.tup b) "list" = some false := by
  show kitB "tuple" "list" = _
  decide +kernel
@[simp] theorem isi_tup_dict (b : List PV) : opIsi (.tup b) "dict" = some false := by
  show kitB "tuple" "dict" = _
  decide +kernel
@[simp] theorem isi_lst_int (b : List PV) : opIsi (.lst b) "int" = some false := by
  show kitB "list" "int" = _
  decide +kernel
@[simp] theorem isi_lst_bool (b : List PV) : opIsi (.lst b) "bool" = some false := by
  show kitB "list" "bool" = _
  decide +kernel
@[simp] theorem isi_lst_tuple (b : List PV) : opIsi (.lst b) "tuple" = some false := by
  show kitB "list" "tuple" = _
  decide +kernel
@[simp] theorem isi_lst_str (b : List PV) : opIsi (.lst b) "str" = some false := by
  show kitB "list" "str" = _
  decide +kernel
@[simp] theorem isi_lst_list (b : List PV) : opIsi (.lst b) "list" = some true := by
  show kitB "list" "list" = _
  decide +kernel
@[simp] theorem isi_lst_dict (b : List PV) : opIsi (.lst b) "dict" = some false := by
  show kitB "list" "dict" = _
  decide +kernel
@[simp] theorem isi_scr_int (b : List PV) : opIsi (.scr b) "int" = some false := by
  show kitB "list" "int" = _
  decide +kernel
@[simp] theorem isi_scr_bool (b : List PV) : opIsi (.scr b) "bool" = some false := by
  show kitB "list" "bool" = _
  decide +kernel
@[simp] theorem isi_scr_tuple (b : List PV) : opIsi (.scr b) "tuple" = some false := by
  show kitB "list" "tuple" = _
  decide +kernel
@[simp] theorem isi_scr_str (b : List PV) : opIsi (.scr b) "str" = some false := by
  show kitB "list" "str" = _
  decide +kernel
@[simp] theorem isi_scr_list (b : List PV) : opIsi (.scr b) "list" = some true := by
  show kitB "list" "list" = _
  decide +kernel
@[simp] theorem isi_scr_dict (b : List PV) : opIsi (.scr b) "dict" = some false := by
  show kitB "list" "dict" = _
  decide +kernel
theorem call_top {E : Eng} {k f : Nat} {fi : FnI} {ps : List PV} (h : E.fns[f]? = some fi) : callF E (k + 1) f ps = callB E (callF E k) fi ps := by
  show (match E.fns[f]? with | some fi => callB E (callF E k) fi ps | none => .stuck) = _
  rw [h]
theorem atI_n {α : Type} (xs : List α) (j : Nat) : L2.atI xs (j : Int) = xs[j]? := by
  unfold L2.atI L2.ixN
  rw [if_pos (by omega)]
  by_cases h : (j : Int) < (xs.length : Int)
  · rw [if_pos h]; rfl
  · rw [if_neg h]
    show none = xs[j]?
    rw [List.getElem?_eq_none (by omega)]
@[simp] theorem atI_m1 {α : Type} (a : α) (xs : List α) : L2.atI (a :: xs) (-1) = (a :: xs)[xs.length]? := by
  unfold L2.atI L2.ixN
  rw [if_neg (by omega), if_pos (by simp only [List.length_cons]; omega)]
  have : (-1 + ((a :: xs).length : Int)).toNat = xs.length := by simp only [List.length_cons]; omega
  rw [this]; rfl
@[simp] theorem atI_0l {α : Type} (xs : List α) : L2.atI xs 0 = xs[0]? := atI_n xs 0
@[simp] theorem atI_1l {α : Type} (xs : List α) : L2.atI xs 1 = xs[1]? := atI_n xs 1
@[simp] theorem atI_2l {α : Type} (xs : List α) : L2.atI xs 2 = xs[2]? := atI_n xs 2
@[simp] theorem atI_3l {α : Type} (xs : List α) : L2.atI xs 3 = xs[3]? := atI_n xs 3
@[simp] theorem atI_4l {α : Type} (xs : List α) : L2.atI xs 4 = xs[4]? := atI_n xs 4
@[simp] theorem atI_5l {α : Type} (xs : List α) : L2.atI xs 5 = xs[5]? := atI_n xs 5
@[simp] theorem atI_6l {α : Type} (xs : List α) : L2.atI xs 6 = xs[6]? := atI_n xs 6
@[simp] theorem atI_7l {α : Type} (xs : List α) : L2.atI xs 7 = xs[7]? := atI_n xs 7
@[simp] theorem atI_8l {α : Type} (xs : List α) : L2.atI xs 8 = xs[8]? := atI_n xs 8
@[simp] theorem atI_9l {α : Type} (xs : List α) : L2.atI xs 9 = xs[9]? := atI_n xs 9
@[simp] theorem atI_10l {α : Type} (xs : List α) : L2.atI xs 10 = xs[10]? := atI_n xs 10
@[simp] theorem atI_11l {α : Type} (xs : List α) : L2.atI xs 11 = xs[11]? := atI_n xs 11
theorem exL_step {E : Eng} {Φ : Nat → List PV → CO} {s : IS} {l : List IS} {ε ε1 : Sg} (h : exS E Φ s ε = .nx ε1) : exL E Φ (s :: l) ε = exL E Φ l ε1 := by
  rw [exL, h]; rfl
theorem exL_ret {E : Eng} {Φ : Nat → List PV → CO} {s : IS} {l : List IS} {ε ε1 : Sg} {r : Rv} (h : exS E Φ s ε = .rt r ε1) : exL E Φ (s :: l) ε = .rt r ε1 := by
  rw [exL, h]; rfl
theorem stays_refl (r : Rv) (ε : Sg) : stays r ε ε = true := by
  cases r <;> simp [stays]
theorem cmp_map {own : List Nat} {r : Rv} {turn : PV → Sg → Out (Option PV)} {f : PV → PV} {ε : Sg} : ∀ {ps acc : List PV}, (∀ p ∈ ps, ∃ ε1, turn p ε = .ok (some (f p)) ε1 ∧ wipeS ε1 own = some ε) → acc.length + ps.length ≤ sizeLine →
    cmpI own r turn ps acc ε = .ok (acc ++ ps.map f) ε
  | [], acc, _, _ => by simp [cmpI]
  | p :: ps, acc, h, hl => by
    obtain ⟨ε1, h1, h2⟩ := h p List.mem_cons_self
    rw [List.length_cons] at hl
    rw [cmpI, h1]
    simp only [h2, stays_refl, if_true]
    rw [if_pos (by omega), cmp_map (fun q hq => h q (List.mem_cons_of_mem _ hq)) (by rw [List.length_append, List.length_singleton]; omega)]
    simp
theorem cut_mem {l : List PV} {lo hi : Option Int} {p : PV} (h : p ∈ cutP l lo hi) : p ∈ l := List.mem_of_mem_drop (List.mem_of_mem_take h)
theorem cut_len (l : List PV) (lo hi : Option Int) : (cutP l lo hi).length ≤ l.length := by
  unfold cutP
  rw [List.length_take, List.length_drop]
  omega
theorem sm_iff {n : Nat} {i : Int} (h1 : -(2 ^ n : Nat) < i) (h2 : i < (2 ^ n : Nat)) : Sm n i := by
  unfold Sm; omega
/-- the statements end by handing v back -/
def Ret (E : Eng) (Φ : Nat → List PV → CO) (l : List IS) (ε : Sg) (v : Rv) : Prop := ∃ ε', exL E Φ l ε = .rt v ε'
theorem Ret.step {E : Eng} {Φ : Nat → List PV → CO} {s : IS} {l : List IS} {ε : Sg} {v : Rv} (ε1 : Sg) (h : exS E Φ s ε = .nx ε1) (k : Ret E Φ l ε1 v) : Ret E Φ (s :: l) ε v := by
  obtain ⟨ε', k⟩ := k
  exact ⟨ε', (exL_step h).trans k⟩
theorem Ret.now {E : Eng} {Φ : Nat → List PV → CO} {s : IS} {l : List IS} {ε : Sg} {v : Rv} (ε1 : Sg) (h : exS E Φ s ε = .rt v ε1) : Ret E Φ (s :: l) ε v := ⟨ε1, exL_ret h⟩
/-- one turn of a comprehension -/
@[simp] noncomputable def turnC (E : Eng) (Φ : Nat → List PV → CO) (elt : IE) (tg : Tg) (cond : List IE) (p : PV) (ε : Sg) : Out (Option PV) := match asgT tg p ε with
  | some ε3 => (evC E Φ cond ε3).bind fun t ε4 => if t then (evE E Φ elt ε4).bind fun r ε5 => match frz r ε5 with
      | some (q, ε6) => .ok (some q) ε6
      | none => .stuck
    else .ok none ε4
  | none => .stuck
theorem ev_map {E : Eng} {Φ : Nat → List PV → CO} {elt : IE} {tg : Tg} {sk : Src} {its : List IE} {cond : List IE} {own : List Nat} {ε ε1 ε2 : Sg} {rs : List Rv} {r : Rv} {ps : List PV} (f : PV → PV) (h1 : evA E Φ its ε = .ok rs ε1) (h2 : srcI sk rs ε1 = some (r, ps)) (h3 : wipeS ε1 own = some ε2) (h4 : walkOk r own = true)
    (h5 : ∀ p ∈ ps, ∃ ε3, turnC E Φ elt tg cond p ε2 = .ok (some (f p)) ε3 ∧ wipeS ε3 own = some ε2) (h6 : ps.length ≤ sizeLine) : evE E Φ (.cmpr elt tg sk its cond own) ε = .ok (.fresh (.lst (ps.map f))) (backS ε1 ε2 own) := by
  have h : cmpI own r (turnC E Φ elt tg cond) ps [] ε2 = .ok ([] ++ ps.map f) ε2 := cmp_map h5 (by simpa using h6)
  rw [List.nil_append] at h
  rw [evE, h1]
  simp only [Out.bind, h2, h3, h4, if_true]
  show (match cmpI own r (turnC E Φ elt tg cond) ps [] ε2 with | .ok acc ε7 => Out.ok (Rv.fresh (.lst acc)) (backS ε1 ε7 own) | _ => .stuck) = _
  rw [h]
end Eng

namespace Eng
open PySem PySem.Spec L2 Rt
open PyProof.Rows hiding St
/-! ### loops by an invariant -/
theorem forI_wp {r : Rv} {set : PV → Sg → Option Sg} {body : Sg → SO} {Q : SO → Prop} : ∀ {ps : List PV} (I : List PV → Sg → Prop) {ε : Sg}, I ps ε →
    (∀ p ps ε, I (p :: ps) ε → ∃ ε1, set p ε = some ε1 ∧ (match body ε1 with | .nx ε2 => stays r ε ε2 = true ∧ I ps ε2 | .ct ε2 => stays r ε ε2 = true ∧ I ps ε2 | .bk ε2 => Q (.nx ε2) | o => Q o)) → (∀ ε, I [] ε → Q (.nx ε)) → Q (forI r set body ps ε)
  | [], I, ε, h0, _, hd => hd ε h0
  | p :: ps, I, ε, h0, hs, hd => by
    obtain ⟨ε1, h1, h2⟩ := hs p ps ε h0
    unfold forI
    rw [h1]
    dsimp only
    cases hb : body ε1 with
    | nx ε2 => rw [hb] at h2; dsimp only at h2 ⊢; rw [if_pos h2.1]; exact forI_wp I h2.2 hs hd
    | ct ε2 => rw [hb] at h2; dsimp only at h2 ⊢; rw [if_pos h2.1]; exact forI_wp I h2.2 hs hd
    | bk ε2 => rw [hb] at h2; exact h2
    | rt a b => rw [hb] at h2; exact h2
    | exc a b => rw [hb] at h2; exact h2
    | stuck => rw [hb] at h2; exact h2
/-! ### the law's draws -/
def fDraws : FnI := ⟨"_law_draws", 1, [false], 7, [], [
    .asg 1 (.lst []),
    .for_ (.nm 2) .val [.var 0] [.asg 5 (.blt .abs [.var 2]),
    .ifs (.cmp .Lt (.var 5) (.bin .Pow (.cst (.int 10)) (.cst (.int 18)))) [.asg 6 (.bin .Mod (.blt .int [.bin .Add (.bin .Mult (.var 5) (.cst (.int 48271))) (.cst (.int 11))]) (.cst (.int 2147483647))),
    .expr (.mut .append 1 [.bin .Mod (.blt .int [.bin .Add (.bin .Mult (.var 6) (.cst (.int 69621))) (.var 5)]) (.cst (.int 2147483629))]),
    .expr (.mut .append 1 [.bin .Mod (.blt .int [.bin .Add (.var 6) (.bin .FloorDiv (.var 5) (.cst (.int 7)))]) (.cst (.int 1000003))]),
    .asg 5 (.cst (.int 0))] [],
    .for_ (.nm 4) .rng [.cst (.int 60)] [.ifs (.cmp .Gt (.var 5) (.cst (.int 0))) [.expr (.mut .append 1 [.bin .Mod (.blt .int [.var 5]) (.cst (.int 997))]),
    .asg 5 (.bin .FloorDiv (.var 5) (.cst (.int 997)))] []]],
    .asg 3 (.cst (.int 1)),
    .ifs (.cmp .Gt (.blt .len [.var 0]) (.cst (.int 0))) [.asg 3 (.bin .Add (.cst (.int 1)) (.blt .abs [.sub (.var 0) (.cst (.int 0))]))] [],
    .for_ (.nm 4) .rng [.cst (.int 900)] [.asg 3 (.bin .Mod (.blt .int [.bin .Add (.bin .Mult (.var 3) (.cst (.int 48271))) (.cst (.int 69621))]) (.cst (.int 2147483647))),
    .expr (.mut .append 1 [.bin .FloorDiv (.var 3) (.cst (.int 5))])],
    .ret (.lrev (.var 1))]⟩

def fTake : FnI := ⟨"_law_take", 2, [true, false], 2, [], [
    .ifs (.cmp .Eq (.blt .len [.var 0]) (.cst (.int 0))) [.ret (.cst (.int 0))] [],
    .ret (.bin .Mod (.blt .int [.mut .pop 0 []]) (.var 1))]⟩


theorem call_take {E : Eng} {k i : Nat} (h : E.fns[i]? = some fTake) (ds : List Int) {b : Int} (hb : 0 < b) : ∃ (v : Int) (ds' : List Int), 0 ≤ v ∧ v < b ∧ ds'.length ≤ ds.length ∧ callF E (k + 1) i [.lst (ds.map .int), .int b] = .ok (.int v) false [.lst (ds'.map .int)] := by
  rw [call_top h]
  rcases List.eq_nil_or_concat ds with rfl | ⟨l, z, rfl⟩
  · refine ⟨0, [], by omega, hb, Nat.le_refl _, ?_⟩
    simp [fTake]
  · refine ⟨z.fmod b, l, Int.fmod_nonneg_of_pos _ hb, Int.fmod_lt_of_pos _ hb, by simp, ?_⟩
    have hne : ((l.length : Int) + 1 = 0) = False := by simp; omega
    have hb0 : b ≠ 0 := by omega
    simp [fTake, muA, opMut, hne, hb0]
end Eng

namespace Eng
open PySem PySem.Spec L2 Rt
open PyProof.Rows hiding St
/-- a slot with a value, or none -/
def Fs (s : Slot) : Prop := s = .none ∨ ∃ p, s = .val p
theorem fs_none : Fs .none := .inl rfl
theorem fs_val (p : PV) : Fs (.val p) := .inr ⟨p, rfl⟩
/-- for k in range(60): .. -/
theorem draws_in {E : Eng} {Φ : Nat → List PV → CO} (x0 s2 s3 s4 s6 : Slot) (h4 : Fs s4) (n : Int) (ds : List Int) (hl : ds.length ≤ 10000) {body : List IS}
    (hb : body = [.ifs (.cmp .Gt (.var 5) (.cst (.int 0))) [.expr (.mut .append 1 [.bin .Mod (.blt .int [.var 5]) (.cst (.int 997))]), .asg 5 (.bin .FloorDiv (.var 5) (.cst (.int 997)))] []]) :
    ∃ (s4' : Slot) (n' : Int) (ds' : List Int), Fs s4' ∧ ds'.length ≤ ds.length + 60 ∧ exS E Φ (.for_ (.nm 4) .rng [.cst (.int 60)] body) [x0, .own true (.lst (ds.map .int)), s2, s3, s4, .val (.int n), s6] = .nx [x0, .own true (.lst (ds'.map .int)), s2, s3, s4', .val (.int n'), s6] := by
  subst hb
  have r60 : rgB 60 = true := by decide
  rw [exS]
  simp only [evA, evE, Out.bind, Rv.opd, srcI, peekL, Rv.peek, r60, if_true, walkOk]
  have key : ∃ ε', (∃ (s4' : Slot) (n' : Int) (ds' : List Int), Fs s4' ∧ ds'.length ≤ ds.length + 60 ∧ ε' = [x0, .own true (.lst (ds'.map .int)), s2, s3, s4', .val (.int n'), s6]) ∧ forI (.val .non) (fun p ε => asgT (.nm 4) p ε) (fun ε => exL E Φ [.ifs (.cmp .Gt (.var 5) (.cst (.int 0))) [.expr (.mut .append 1 [.bin .Mod (.blt .int [.var 5]) (.cst (.int 997))]), .asg 5 (.bin .FloorDiv (.var 5) (.cst (.int 997)))] []] ε) (rngL 0 (60 : Int).toNat)
      [x0, .own true (.lst (ds.map .int)), s2, s3, s4, .val (.int n), s6] = .nx ε' := by
    refine forI_wp (Q := fun o => ∃ ε', (∃ (s4' : Slot) (n' : Int) (ds' : List Int), Fs s4' ∧ ds'.length ≤ ds.length + 60 ∧ ε' = [x0, .own true (.lst (ds'.map .int)), s2, s3, s4', .val (.int n'), s6]) ∧ o = .nx ε')
      (fun ps ε => ∃ (s4' : Slot) (n' : Int) (ds' : List Int), Fs s4' ∧ ds'.length + ps.length ≤ ds.length + 60 ∧ ε = [x0, .own true (.lst (ds'.map .int)), s2, s3, s4', .val (.int n'), s6]) ⟨s4, n, ds, h4, by simp, rfl⟩ ?_ ?_
    · rintro p ps _ ⟨t4, m, es, f4, hle, rfl⟩
      rw [List.length_cons] at hle
      refine ⟨[x0, .own true (.lst (es.map .int)), s2, s3, .val p, .val (.int m), s6], ?_, ?_⟩
      · rcases f4 with rfl | ⟨q, rfl⟩ <;> rfl
      · by_cases hm : 0 < m
        · have hsz : es.length < 16777216 := by omega
          have hd := div_ok (i := m) (j := 997) ((show Sm 10 997 by unfold Sm; decide).le (by decide))
          have ev : exL E Φ [.ifs (.cmp .Gt (.var 5) (.cst (.int 0))) [.expr (.mut .append 1 [.bin .Mod (.blt .int [.var 5]) (.cst (.int 997))]), .asg 5 (.bin .FloorDiv (.var 5) (.cst (.int 997)))] []] [x0, .own true (.lst (es.map .int)), s2, s3, .val p, .val (.int m), s6] = .nx [x0, .own true (.lst ((es ++ [m.fmod 997]).map .int)), s2, s3, .val p, .val (.int (m.fdiv 997)), s6] := by
            simp [hm, muA, opMut, hsz, hd]
          rw [ev]
          exact ⟨rfl, _, _, _, fs_val p, by rw [List.length_append, List.length_singleton]; omega, rfl⟩
        · have ev : exL E Φ [.ifs (.cmp .Gt (.var 5) (.cst (.int 0))) [.expr (.mut .append 1 [.bin .Mod (.blt .int [.var 5]) (.cst (.int 997))]), .asg 5 (.bin .FloorDiv (.var 5) (.cst (.int 997)))] []] [x0, .own true (.lst (es.map .int)), s2, s3, .val p, .val (.int m), s6] = .nx [x0, .own true (.lst (es.map .int)), s2, s3, .val p, .val (.int m), s6] := by
            simp [hm]
          rw [ev]
          exact ⟨rfl, _, _, _, fs_val p, by omega, rfl⟩
    · rintro _ ⟨t4, m, es, f4, hle, rfl⟩
      exact ⟨_, ⟨t4, m, es, f4, by simpa using hle, rfl⟩, rfl⟩
  obtain ⟨ε', ⟨s4', n', ds', f, hle, rfl⟩, e⟩ := key
  exact ⟨s4', n', ds', f, hle, e⟩

/-- one cell of the script -/
theorem draws_cell {E : Eng} {Φ : Nat → List PV → CO} (x0 s2 s3 s4 s5 s6 : Slot) (h2 : Fs s2) (h4 : Fs s4) (h5 : Fs s5) (h6 : Fs s6) (z : Int) (ds : List Int) (hl : ds.length ≤ 8000) {body : List IS} (hb : ∃ t r, fDraws.body = t :: .for_ (.nm 2) .val [.var 0] body :: r) :
    ∃ (s4' s6' : Slot) (n' : Int) (ds' : List Int), Fs s4' ∧ Fs s6' ∧ ds'.length ≤ ds.length + 62 ∧ exL E Φ body [x0, .own true (.lst (ds.map .int)), .val (.int z), s3, s4, s5, s6] = .nx [x0, .own true (.lst (ds'.map .int)), .val (.int z), s3, s4', .val (.int n'), s6'] := by
  obtain ⟨t, r, hb⟩ := hb
  cases hb
  have e0 : exS E Φ (.asg 5 (.blt .abs [.var 2])) [x0, .own true (.lst (ds.map .int)), .val (.int z), s3, s4, s5, s6] = .nx [x0, .own true (.lst (ds.map .int)), .val (.int z), s3, s4, .val (.int (if z < 0 then -z else z)), s6] := by
    rcases h5 with rfl | ⟨q, rfl⟩ <;> simp
  generalize hn : (if z < 0 then -z else z) = n at e0
  have hn0 : 0 ≤ n := by split at hn <;> omega
  rw [exL_step e0]
  by_cases hs : n < 1000000000000000000
  · have sn : Sm 60 n := by unfold Sm; omega
    have m1 := mul_ok sn (show Sm 16 48271 by unfold Sm; decide) (by decide)
    have f1 := Int.fmod_nonneg_of_pos (a := n * 48271 + 11) (b := 2147483647) (by decide)
    have f2 := Int.fmod_lt_of_pos (n * 48271 + 11) (b := 2147483647) (by decide)
    have sf : Sm 31 ((n * 48271 + 11).fmod 2147483647) := by unfold Sm; omega
    have m2 := mul_ok sf (show Sm 17 69621 by unfold Sm; decide) (by decide)
    have d7 := div_ok (i := n) (j := 7) ((show Sm 3 7 by unfold Sm; decide).le (by decide))
    have z1 : ds.length < 16777216 := by omega
    have z2 : ds.length + 1 < 16777216 := by omega
    have pw : (10 : Int) ^ 18 = 1000000000000000000 := by decide
    generalize hf : (n * 48271 + 11).fmod 2147483647 = f at *
    have e1 : exS E Φ (.ifs (.cmp .Lt (.var 5) (.bin .Pow (.cst (.int 10)) (.cst (.int 18)))) [.asg 6 (.bin .Mod (.blt .int [.bin .Add (.bin .Mult (.var 5) (.cst (.int 48271))) (.cst (.int 11))]) (.cst (.int 2147483647))), .expr (.mut .append 1 [.bin .Mod (.blt .int [.bin .Add (.bin .Mult (.var 6) (.cst (.int 69621))) (.var 5)]) (.cst (.int 2147483629))]),
        .expr (.mut .append 1 [.bin .Mod (.blt .int [.bin .Add (.var 6) (.bin .FloorDiv (.var 5) (.cst (.int 7)))]) (.cst (.int 1000003))]), .asg 5 (.cst (.int 0))] []) [x0, .own true (.lst (ds.map .int)), .val (.int z), s3, s4, .val (.int n), s6] =
      .nx [x0, .own true (.lst ((ds ++ [(f * 69621 + n).fmod 2147483629, (f + n.fdiv 7).fmod 1000003]).map .int)), .val (.int z), s3, s4, .val (.int 0), .val (.int f)] := by
      rcases h6 with rfl | ⟨q, rfl⟩ <;> simp [muA, opMut, hs, pw, m1, m2, d7, hf, z1, z2]
    rw [exL_step e1]
    obtain ⟨s4', n', ds', g4, hle, e⟩ := draws_in x0 (.val (.int z)) s3 s4 (.val (.int f)) h4 0 (ds ++ [(f * 69621 + n).fmod 2147483629, (f + n.fdiv 7).fmod 1000003]) (by simp; omega) (E := E) (Φ := Φ) rfl
    refine ⟨s4', .val (.int f), n', ds', g4, fs_val _, by simp at hle; omega, ?_⟩
    rw [exL_step e, exL]
  · have pw : (10 : Int) ^ 18 = 1000000000000000000 := by decide
    have e1 : exS E Φ (.ifs (.cmp .Lt (.var 5) (.bin .Pow (.cst (.int 10)) (.cst (.int 18)))) [.asg 6 (.bin .Mod (.blt .int [.bin .Add (.bin .Mult (.var 5) (.cst (.int 48271))) (.cst (.int 11))]) (.cst (.int 2147483647))), .expr (.mut .append 1 [.bin .Mod (.blt .int [.bin .Add (.bin .Mult (.var 6) (.cst (.int 69621))) (.var 5)]) (.cst (.int 2147483629))]),
        .expr (.mut .append 1 [.bin .Mod (.blt .int [.bin .Add (.var 6) (.bin .FloorDiv (.var 5) (.cst (.int 7)))]) (.cst (.int 1000003))]), .asg 5 (.cst (.int 0))] []) [x0, .own true (.lst (ds.map .int)), .val (.int z), s3, s4, .val (.int n), s6] =
      .nx [x0, .own true (.lst (ds.map .int)), .val (.int z), s3, s4, .val (.int n), s6] := by
      simp [hs, pw]
    rw [exL_step e1]
    obtain ⟨s4', n', ds', g4, hle, e⟩ := draws_in x0 (.val (.int z)) s3 s4 s6 h4 n ds (by omega) (E := E) (Φ := Φ) rfl
    refine ⟨s4', s6, n', ds', g4, h6, by omega, ?_⟩
    rw [exL_step e, exL]

/-- the loop over the script -/
theorem draws_scr {E : Eng} {Φ : Nat → List PV → CO} (l : List Int) (hl : l.length ≤ 63) (s3 : Slot) {body : List IS} (hb : ∃ t r, fDraws.body = t :: .for_ (.nm 2) .val [.var 0] body :: r) :
    ∃ (s2 s4 s5 s6 : Slot) (ds : List Int), Fs s4 ∧ ds.length ≤ 3906 ∧ exS E Φ (.for_ (.nm 2) .val [.var 0] body) [.val (.scr (l.map .int)), .own true (.lst []), .none, s3, .none, .none, .none] = .nx [.val (.scr (l.map .int)), .own true (.lst (ds.map .int)), s2, s3, s4, s5, s6] := by
  rw [exS]
  simp only [evA, evE, Out.bind, Rv.opd, srcI, Rv.peek, List.getElem?_cons_zero, itemsOf, Option.bind_some, Option.map_some, walkOk, if_true]
  have key : ∃ ε', (∃ (s2 s4 s5 s6 : Slot) (ds : List Int), Fs s2 ∧ Fs s4 ∧ Fs s5 ∧ Fs s6 ∧ ds.length ≤ 62 * l.length ∧ ε' = [.val (.scr (l.map .int)), .own true (.lst (ds.map .int)), s2, s3, s4, s5, s6]) ∧
      forI (.val (.scr (l.map .int))) (fun p ε => asgT (.nm 2) p ε) (fun ε => exL E Φ body ε) (l.map .int) [.val (.scr (l.map .int)), .own true (.lst []), .none, s3, .none, .none, .none] = .nx ε' := by
    refine forI_wp (Q := fun o => ∃ ε', (∃ (s2 s4 s5 s6 : Slot) (ds : List Int), Fs s2 ∧ Fs s4 ∧ Fs s5 ∧ Fs s6 ∧ ds.length ≤ 62 * l.length ∧ ε' = [.val (.scr (l.map .int)), .own true (.lst (ds.map .int)), s2, s3, s4, s5, s6]) ∧ o = .nx ε')
      (fun ps ε => ∃ (m : List Int) (s2 s4 s5 s6 : Slot) (ds : List Int), ps = m.map .int ∧ Fs s2 ∧ Fs s4 ∧ Fs s5 ∧ Fs s6 ∧ ds.length + 62 * m.length ≤ 62 * l.length ∧ ε = [.val (.scr (l.map .int)), .own true (.lst (ds.map .int)), s2, s3, s4, s5, s6])
      ⟨l, .none, .none, .none, .none, [], rfl, fs_none, fs_none, fs_none, fs_none, by simp, rfl⟩ ?_ ?_
    · rintro p ps _ ⟨m, s2, s4, s5, s6, ds, em, h2, h4, h5, h6, hle, rfl⟩
      cases m with
      | nil => cases em
      | cons z m =>
        cases em
        rw [List.length_cons] at hle
        obtain ⟨s4', s6', n', ds', g4, g6, gl, e⟩ := draws_cell (E := E) (Φ := Φ) (.val (.scr (l.map .int))) s2 s3 s4 s5 s6 h2 h4 h5 h6 z ds (by omega) hb
        refine ⟨[.val (.scr (l.map .int)), .own true (.lst (ds.map .int)), .val (.int z), s3, s4, s5, s6], ?_, ?_⟩
        · rcases h2 with rfl | ⟨q, rfl⟩ <;> rfl
        · rw [e]
          exact ⟨rfl, m, _, _, _, _, ds', rfl, fs_val _, g4, fs_val _, g6, by omega, rfl⟩
    · rintro _ ⟨m, s2, s4, s5, s6, ds, em, h2, h4, h5, h6, hle, rfl⟩
      exact ⟨_, ⟨s2, s4, s5, s6, ds, h2, h4, h5, h6, by omega, rfl⟩, rfl⟩
  obtain ⟨ε', ⟨s2, s4, s5, s6, ds, h2, h4, h5, h6, hle, rfl⟩, e⟩ := key
  exact ⟨s2, s4, s5, s6, ds, h4, by omega, e⟩
/-- the 900 that follow -/
theorem draws_more {E : Eng} {Φ : Nat → List PV → CO} (x0 s2 s4 s5 s6 : Slot) (h4 : Fs s4) (n : Int) (hn : Sm 1048600 n) (ds : List Int) (hl : ds.length ≤ 10000) :
    ∃ (s4' : Slot) (n' : Int) (ds' : List Int), ds'.length ≤ ds.length + 900 ∧ exS E Φ (.for_ (.nm 4) .rng [.cst (.int 900)] [.asg 3 (.bin .Mod (.blt .int [.bin .Add (.bin .Mult (.var 3) (.cst (.int 48271))) (.cst (.int 69621))]) (.cst (.int 2147483647))), .expr (.mut .append 1 [.bin .FloorDiv (.var 3) (.cst (.int 5))])])
      [x0, .own true (.lst (ds.map .int)), s2, .val (.int n), s4, s5, s6] = .nx [x0, .own true (.lst (ds'.map .int)), s2, .val (.int n'), s4', s5, s6] := by
  have r9 : rgB 900 = true := by decide
  rw [exS]
  simp only [evA, evE, Out.bind, Rv.opd, srcI, peekL, Rv.peek, r9, if_true, walkOk]
  have key : ∃ ε', (∃ (s4' : Slot) (n' : Int) (ds' : List Int), ds'.length ≤ ds.length + 900 ∧ ε' = [x0, .own true (.lst (ds'.map .int)), s2, .val (.int n'), s4', s5, s6]) ∧ forI (.val .non) (fun p ε => asgT (.nm 4) p ε) (fun ε => exL E Φ [.asg 3 (.bin .Mod (.blt .int [.bin .Add (.bin .Mult (.var 3) (.cst (.int 48271))) (.cst (.int 69621))]) (.cst (.int 2147483647))), .expr (.mut .append 1 [.bin .FloorDiv (.var 3) (.cst (.int 5))])] ε) (rngL 0 (900 : Int).toNat)
      [x0, .own true (.lst (ds.map .int)), s2, .val (.int n), s4, s5, s6] = .nx ε' := by
    refine forI_wp (Q := fun o => ∃ ε', (∃ (s4' : Slot) (n' : Int) (ds' : List Int), ds'.length ≤ ds.length + 900 ∧ ε' = [x0, .own true (.lst (ds'.map .int)), s2, .val (.int n'), s4', s5, s6]) ∧ o = .nx ε')
      (fun ps ε => ∃ (s4' : Slot) (n' : Int) (ds' : List Int), Fs s4' ∧ Sm 1048600 n' ∧ ds'.length + ps.length ≤ ds.length + 900 ∧ ε = [x0, .own true (.lst (ds'.map .int)), s2, .val (.int n'), s4', s5, s6]) ⟨s4, n, ds, h4, hn, by simp, rfl⟩ ?_ ?_
    · rintro p ps _ ⟨t4, m, es, f4, sm, hle, rfl⟩
      rw [List.length_cons] at hle
      refine ⟨[x0, .own true (.lst (es.map .int)), s2, .val (.int m), .val p, s5, s6], ?_, ?_⟩
      · rcases f4 with rfl | ⟨q, rfl⟩ <;> rfl
      · have hsz : es.length < 16777216 := by omega
        have m1 := mul_ok sm (show Sm 16 48271 by unfold Sm; decide) (by decide)
        have d5 := fun i => div_ok (i := i) (j := 5) ((show Sm 3 5 by unfold Sm; decide).le (by decide))
        have f1 := Int.fmod_nonneg_of_pos (a := m * 48271 + 69621) (b := 2147483647) (by decide)
        have f2 := Int.fmod_lt_of_pos (m * 48271 + 69621) (b := 2147483647) (by decide)
        have sf : Sm 31 ((m * 48271 + 69621).fmod 2147483647) := by unfold Sm; omega
        generalize hf : (m * 48271 + 69621).fmod 2147483647 = f at *
        have ev : exL E Φ [.asg 3 (.bin .Mod (.blt .int [.bin .Add (.bin .Mult (.var 3) (.cst (.int 48271))) (.cst (.int 69621))]) (.cst (.int 2147483647))), .expr (.mut .append 1 [.bin .FloorDiv (.var 3) (.cst (.int 5))])] [x0, .own true (.lst (es.map .int)), s2, .val (.int m), .val p, s5, s6] = .nx [x0, .own true (.lst ((es ++ [f.fdiv 5]).map .int)), s2, .val (.int f), .val p, s5, s6] := by
          simp [muA, opMut, hsz, m1, hf, d5]
        rw [ev]
        exact ⟨rfl, _, _, _, fs_val p, sf.le (by decide), by rw [List.length_append, List.length_singleton]; omega, rfl⟩
    · rintro _ ⟨t4, m, es, f4, sm, hle, rfl⟩
      exact ⟨_, ⟨t4, m, es, by simpa using hle, rfl⟩, rfl⟩
  obtain ⟨ε', ⟨s4', n', ds', hle, rfl⟩, e⟩ := key
  exact ⟨s4', n', ds', hle, e⟩
theorem sm_bits {z : Int} (h : Builtin.Int.intBits z ≤ 1048576) : Sm 1048577 z := by
  unfold Sm
  by_cases hz : z.natAbs = 0
  · rw [hz]; exact Nat.two_pow_pos _
  · have : Builtin.Int.intBits z = z.natAbs.log2 + 1 := by
      unfold Builtin.Int.intBits
      rw [if_neg (by simp; omega)]
    rw [← Nat.log2_lt hz]
    omega
theorem call_draws {E : Eng} {k i : Nat} (h : E.fns[i]? = some fDraws) (l : List Int) (hl : l.length ≤ 63) (hb : ∀ z ∈ l, Builtin.Int.intBits z ≤ 1048576) :
    ∃ ds : List Int, ds.length ≤ 5000 ∧ callF E (k + 1) i [.scr (l.map .int)] = .ok (.lst (ds.map .int)) true [] := by
  rw [call_top h]
  obtain ⟨s2, s4, s5, s6, ds, h4, hd, e2⟩ := draws_scr (E := E) (Φ := callF E k) l hl .none ⟨_, _, rfl⟩
  have fin : ∃ (n : Int), Sm 1048600 n ∧ exL E (callF E k) [.asg 3 (.cst (.int 1)), .ifs (.cmp .Gt (.blt .len [.var 0]) (.cst (.int 0))) [.asg 3 (.bin .Add (.cst (.int 1)) (.blt .abs [.sub (.var 0) (.cst (.int 0))]))] []] [.val (.scr (l.map .int)), .own true (.lst (ds.map .int)), s2, .none, s4, s5, s6] = .nx [.val (.scr (l.map .int)), .own true (.lst (ds.map .int)), s2, .val (.int n), s4, s5, s6] := by
    cases l with
    | nil => exact ⟨1, (show Sm 1 1 by unfold Sm; decide).le (by decide), by simp⟩
    | cons z m =>
      have sz := sm_bits (hb z List.mem_cons_self)
      refine ⟨1 + (if z < 0 then -z else z), ?_, ?_⟩
      · refine (Sm.add (n := 1048577) ((show Sm 1 1 by unfold Sm; decide).le (by decide)) ?_).le (by decide)
        split
        · exact sz.neg
        · exact sz
      · have : (0 : Int) < (m.length : Int) + 1 := by omega
        simp [this]
  obtain ⟨n, sn, e3⟩ := fin
  obtain ⟨s4', n', ds', hle, e4⟩ := draws_more (E := E) (Φ := callF E k) (.val (.scr (l.map .int))) s2 s4 s5 s6 h4 n sn ds (by omega)
  refine ⟨ds'.reverse, by simp; omega, ?_⟩
  have key : exL E (callF E k) fDraws.body [.val (.scr (l.map .int)), .none, .none, .none, .none, .none, .none] = .rt (.fresh (.lst (ds'.reverse.map .int))) [.val (.scr (l.map .int)), .own true (.lst (ds'.map .int)), s2, .val (.int n'), s4', s5, s6] := by
    have e1 : exS E (callF E k) (.asg 1 (.lst [])) [.val (.scr (l.map .int)), .none, .none, .none, .none, .none, .none] = .nx [.val (.scr (l.map .int)), .own true (.lst []), .none, .none, .none, .none, .none] := by simp
    refine (exL_step e1).trans ((exL_step e2).trans ?_)
    have q : ∀ (a b : IS) (r : List IS) {ε ε' : Sg}, exL E (callF E k) [a, b] ε = .nx ε' → exL E (callF E k) (a :: b :: r) ε = exL E (callF E k) r ε' := fun a b r {ε ε'} e => by
      rw [exL] at e
      cases ha : exS E (callF E k) a ε with
      | nx ε1 =>
        rw [ha] at e
        rw [exL_step ha]
        have e : exL E (callF E k) [b] ε1 = .nx ε' := e
        rw [exL] at e
        cases hb : exS E (callF E k) b ε1 with
        | nx ε2 =>
          rw [hb] at e
          have e : exL E (callF E k) [] ε2 = .nx ε' := e
          rw [exL] at e
          cases e
          rw [exL_step hb]
        | rt _ _ => rw [hb] at e; cases e
        | bk _ => rw [hb] at e; cases e
        | ct _ => rw [hb] at e; cases e
        | exc _ _ => rw [hb] at e; cases e
        | stuck => rw [hb] at e; cases e
      | rt _ _ => rw [ha] at e; cases e
      | bk _ => rw [ha] at e; cases e
      | ct _ => rw [ha] at e; cases e
      | exc _ _ => rw [ha] at e; cases e
      | stuck => rw [ha] at e; cases e
    refine (q _ _ _ e3).trans ((exL_step e4).trans (exL_ret ?_))
    simp
  have eb : startS fDraws.mask [.scr (l.map PV.int)] ++ List.replicate (fDraws.nsl - fDraws.np) Slot.none = [.val (.scr (l.map .int)), .none, .none, .none, .none, .none, .none] := rfl
  rw [callB, if_pos ⟨rfl, rfl, by decide⟩, eb, key]
  rfl
end Eng

namespace Eng
open PySem PySem.Spec L2 Rt
open PyProof.Rows hiding St
/-! ### the ratios' defs, whatever their places in the text -/
def fRatio (c : Nat) : FnI := ⟨"ratio", 2, [false, false], 3, [.int 1], [
    .ifs (.cmp .Eq (.var 1) (.cst (.int 0))) [.raise c "nothing is divided by 0"] [],
    .asg 2 (.blt .gcd [.var 0, .var 1]),
    .ifs (.cmp .Lt (.var 1) (.cst (.int 0))) [.asg 2 (.neg (.var 2))] [],
    .ret (.tup [.bin .FloorDiv (.var 0) (.var 2), .bin .FloorDiv (.var 1) (.var 2)])]⟩
@[simp] theorem fRatio_m {c : Nat} : (fRatio c).mask = [false, false] := rfl
@[simp] theorem fRatio_n {c : Nat} : (fRatio c).np = 2 := rfl
@[simp] theorem fRatio_d {c : Nat} : (fRatio c).dfl = [.int 1] := rfl
def fIsInt : FnI := ⟨"is_integer", 1, [false], 1, [], [
    .ret (.and [.isi (.var 0) "int", .not (.isi (.var 0) "bool")])]⟩
@[simp] theorem fIsInt_m  : fIsInt.mask = [false] := rfl
@[simp] theorem fIsInt_n  : fIsInt.np = 1 := rfl
@[simp] theorem fIsInt_d  : fIsInt.dfl = [] := rfl
def fIsRatio (ii : Nat) : FnI := ⟨"is_ratio", 1, [false], 2, [], [
    .ifs (.or [.not (.isi (.var 0) "tuple"), .cmp .NotEq (.blt .len [.var 0]) (.cst (.int 2)), .not (.blt .all [.cmpr (.call ii [.var 1]) (.nm 1) .val [.var 0] [] [1]])]) [.ret (.cst (.bl false))] [],
    .ret (.and [.cmp .GtE (.sub (.var 0) (.cst (.int 1))) (.cst (.int 1)), .cmp .Eq (.blt .gcd [.sub (.var 0) (.cst (.int 0)), .sub (.var 0) (.cst (.int 1))]) (.cst (.int 1))])]⟩
@[simp] theorem fIsRatio_m {ii : Nat} : (fIsRatio ii).mask = [false] := rfl
@[simp] theorem fIsRatio_n {ii : Nat} : (fIsRatio ii).np = 1 := rfl
@[simp] theorem fIsRatio_d {ii : Nat} : (fIsRatio ii).dfl = [] := rfl
def fPlus (ir : Nat) : FnI := ⟨"plus", 2, [false, false], 2, [], [
    .ret (.call ir [.bin .Add (.bin .Mult (.sub (.var 0) (.cst (.int 0))) (.sub (.var 1) (.cst (.int 1)))) (.bin .Mult (.sub (.var 1) (.cst (.int 0))) (.sub (.var 0) (.cst (.int 1)))), .bin .Mult (.sub (.var 0) (.cst (.int 1))) (.sub (.var 1) (.cst (.int 1)))])]⟩
@[simp] theorem fPlus_m {ir : Nat} : (fPlus ir).mask = [false, false] := rfl
@[simp] theorem fPlus_n {ir : Nat} : (fPlus ir).np = 2 := rfl
@[simp] theorem fPlus_d {ir : Nat} : (fPlus ir).dfl = [] := rfl
def fOpp : FnI := ⟨"opposite", 1, [false], 1, [], [
    .ret (.tup [.neg (.sub (.var 0) (.cst (.int 0))), .sub (.var 0) (.cst (.int 1))])]⟩
@[simp] theorem fOpp_m  : fOpp.mask = [false] := rfl
@[simp] theorem fOpp_n  : fOpp.np = 1 := rfl
@[simp] theorem fOpp_d  : fOpp.dfl = [] := rfl
def fMinus (ip io : Nat) : FnI := ⟨"minus", 2, [false, false], 2, [], [
    .ret (.call ip [.var 0, .call io [.var 1]])]⟩
@[simp] theorem fMinus_m {ip io : Nat} : (fMinus ip io).mask = [false, false] := rfl
@[simp] theorem fMinus_n {ip io : Nat} : (fMinus ip io).np = 2 := rfl
@[simp] theorem fMinus_d {ip io : Nat} : (fMinus ip io).dfl = [] := rfl
def fTimes (ir : Nat) : FnI := ⟨"times", 2, [false, false], 2, [], [
    .ret (.call ir [.bin .Mult (.sub (.var 0) (.cst (.int 0))) (.sub (.var 1) (.cst (.int 0))), .bin .Mult (.sub (.var 0) (.cst (.int 1))) (.sub (.var 1) (.cst (.int 1)))])]⟩
@[simp] theorem fTimes_m {ir : Nat} : (fTimes ir).mask = [false, false] := rfl
@[simp] theorem fTimes_n {ir : Nat} : (fTimes ir).np = 2 := rfl
@[simp] theorem fTimes_d {ir : Nat} : (fTimes ir).dfl = [] := rfl
def fOver (c ir : Nat) : FnI := ⟨"over", 2, [false, false], 2, [], [
    .ifs (.cmp .Eq (.sub (.var 1) (.cst (.int 0))) (.cst (.int 0))) [.raise c "nothing is divided by 0"] [],
    .ret (.call ir [.bin .Mult (.sub (.var 0) (.cst (.int 0))) (.sub (.var 1) (.cst (.int 1))), .bin .Mult (.sub (.var 0) (.cst (.int 1))) (.sub (.var 1) (.cst (.int 0)))])]⟩
@[simp] theorem fOver_m {c ir : Nat} : (fOver c ir).mask = [false, false] := rfl
@[simp] theorem fOver_n {c ir : Nat} : (fOver c ir).np = 2 := rfl
@[simp] theorem fOver_d {c ir : Nat} : (fOver c ir).dfl = [] := rfl
def fSign : FnI := ⟨"sign", 1, [false], 1, [], [
    .ret (.bin .Sub (.cmp .Gt (.sub (.var 0) (.cst (.int 0))) (.cst (.int 0))) (.cmp .Lt (.sub (.var 0) (.cst (.int 0))) (.cst (.int 0))))]⟩
@[simp] theorem fSign_m  : fSign.mask = [false] := rfl
@[simp] theorem fSign_n  : fSign.np = 1 := rfl
@[simp] theorem fSign_d  : fSign.dfl = [] := rfl
def fLess : FnI := ⟨"is_less", 2, [false, false], 2, [], [
    .ret (.cmp .Lt (.bin .Mult (.sub (.var 0) (.cst (.int 0))) (.sub (.var 1) (.cst (.int 1)))) (.bin .Mult (.sub (.var 1) (.cst (.int 0))) (.sub (.var 0) (.cst (.int 1)))))]⟩
@[simp] theorem fLess_m  : fLess.mask = [false, false] := rfl
@[simp] theorem fLess_n  : fLess.np = 2 := rfl
@[simp] theorem fLess_d  : fLess.dfl = [] := rfl
section
variable {E : Eng} {c ir ii ip io i : Nat}
theorem call_ratio (hr : E.fns[ir]? = some (fRatio c)) (k : Nat) {a b : Int} (h : b ≠ 0) (sb : Sm 8000 b) : callF E (k+1) ir [.int a, .int b] = .ok (.tup [.int (rN a b), .int (rD a b)]) false [] := by
  have hc := cm_ne (a := a) h
  have hd := fun i => div_ok (i := i) (cm_sm (a := a) h sb)
  have e1 : rN a b = a.fdiv (cm a b) := rfl
  have e2 : rD a b = b.fdiv (cm a b) := rfl
  rw [e1, e2, call_top hr]
  unfold cm at *
  by_cases hb : b < 0
  · simp only [if_pos hb] at *
    simp [fRatio, h, hb, gcd_cm, hc, hd]
  · simp only [if_neg hb] at *
    simp [fRatio, h, hb, gcd_cm, hc, hd]
theorem call_ratio0 (hr : E.fns[ir]? = some (fRatio c)) (k : Nat) {a : Int} : callF E (k+1) ir [.int a, .int 0] = .exc c [] := by
  rw [call_top hr]
  simp [fRatio]
theorem call_isint (hi : E.fns[ii]? = some fIsInt) (k : Nat) (a : Int) : callF E (k+1) ii [.int a] = .ok (.bl true) false [] := by
  rw [call_top hi]
  simp [fIsInt]
theorem call_isratio (h : E.fns[i]? = some (fIsRatio ii)) (hi : E.fns[ii]? = some fIsInt) (k : Nat) {p q : Int} (hr : IsR p q) : callF E (k+2) i [.tup [.int p, .int q]] = .ok (.bl true) false [] := by
  have h1 := hr.pos
  have h2 : (Int.gcd p q : Int) = 1 := by rw [hr.co]; rfl
  rw [call_top h]
  simp [fIsRatio, hi, call_isint hi, h1]
  exact h2
theorem call_plus (h : E.fns[i]? = some (fPlus ir)) (hr : E.fns[ir]? = some (fRatio c)) (k : Nat) {a b x d : Int} (hb : b ≠ 0) (hd : d ≠ 0) (sa : Sm 1000 a) (sb : Sm 1000 b) (sc : Sm 1000 x) (sd : Sm 1000 d) :
    callF E (k+2) i [.tup [.int a, .int b], .tup [.int x, .int d]] = .ok (.tup [.int (rN (a * d + x * b) (b * d)), .int (rD (a * d + x * b) (b * d))]) false [] := by
  have h0 := Int.mul_ne_zero hb hd
  have s := (sb.mul sd).le (m := 8000) (by decide)
  rw [call_top h]
  simp [fPlus, hr, mul_ok sa sd (by decide), mul_ok sc sb (by decide), mul_ok sb sd (by decide), call_ratio hr k h0 s]
theorem call_opp (h : E.fns[io]? = some fOpp) (k : Nat) {a b : Int} : callF E (k+1) io [.tup [.int a, .int b]] = .ok (.tup [.int (-a), .int b]) false [] := by
  rw [call_top h]
  simp [fOpp]
theorem call_minus (h : E.fns[i]? = some (fMinus ip io)) (hp : E.fns[ip]? = some (fPlus ir)) (ho : E.fns[io]? = some fOpp) (hr : E.fns[ir]? = some (fRatio c)) (k : Nat) {a b x d : Int} (hb : b ≠ 0) (hd : d ≠ 0) (sa : Sm 1000 a) (sb : Sm 1000 b) (sc : Sm 1000 x) (sd : Sm 1000 d) :
    callF E (k+3) i [.tup [.int a, .int b], .tup [.int x, .int d]] = .ok (.tup [.int (rN (a * d + -x * b) (b * d)), .int (rD (a * d + -x * b) (b * d))]) false [] := by
  rw [call_top h]
  simp [fMinus, hp, ho, call_opp ho, call_plus hp hr k hb hd sa sb sc.neg sd]
theorem call_times (h : E.fns[i]? = some (fTimes ir)) (hr : E.fns[ir]? = some (fRatio c)) (k : Nat) {a b x d : Int} (hb : b ≠ 0) (hd : d ≠ 0) (sa : Sm 1000 a) (sb : Sm 1000 b) (sc : Sm 1000 x) (sd : Sm 1000 d) :
    callF E (k+2) i [.tup [.int a, .int b], .tup [.int x, .int d]] = .ok (.tup [.int (rN (a * x) (b * d)), .int (rD (a * x) (b * d))]) false [] := by
  have h0 := Int.mul_ne_zero hb hd
  have s := (sb.mul sd).le (m := 8000) (by decide)
  rw [call_top h]
  simp [fTimes, hr, mul_ok sa sc (by decide), mul_ok sb sd (by decide), call_ratio hr k h0 s]
theorem call_over (h : E.fns[i]? = some (fOver c ir)) (hr : E.fns[ir]? = some (fRatio c)) (k : Nat) {a b x d : Int} (hb : b ≠ 0) (hc : x ≠ 0) (sa : Sm 1000 a) (sb : Sm 1000 b) (sc : Sm 1000 x) (sd : Sm 1000 d) :
    callF E (k+2) i [.tup [.int a, .int b], .tup [.int x, .int d]] = .ok (.tup [.int (rN (a * d) (b * x)), .int (rD (a * d) (b * x))]) false [] := by
  have h0 := Int.mul_ne_zero hb hc
  have s := (sb.mul sc).le (m := 8000) (by decide)
  rw [call_top h]
  simp [fOver, hc, hr, mul_ok sa sd (by decide), mul_ok sb sc (by decide), call_ratio hr k h0 s]
theorem call_over0 (h : E.fns[i]? = some (fOver c ir)) (k : Nat) {a b d : Int} : callF E (k+1) i [.tup [.int a, .int b], .tup [.int 0, .int d]] = .exc c [] := by
  rw [call_top h]
  simp [fOver]
theorem call_sign (h : E.fns[i]? = some fSign) (k : Nat) {a b : Int} : callF E (k+1) i [.tup [.int a, .int b]] = .ok (.int ((if 0 < a then 1 else 0) - (if a < 0 then 1 else 0))) false [] := by
  rw [call_top h]
  simp [fSign]
theorem call_less (h : E.fns[i]? = some fLess) (k : Nat) {a b x d : Int} (sa : Sm 1000 a) (sb : Sm 1000 b) (sc : Sm 1000 x) (sd : Sm 1000 d) : callF E (k+1) i [.tup [.int a, .int b], .tup [.int x, .int d]] = .ok (.bl (decide (a * d < x * b))) false [] := by
  rw [call_top h]
  simp [fLess, mul_ok sa sd (by decide), mul_ok sc sb (by decide)]
end
end Eng

namespace Eng
open PySem PySem.Spec L2 Rt TL
open PyProof.Rows hiding St
/-! ### data of a bounded depth and text -/
/-- p is data of depth at most k, its text at most n signs -/
def Shp (k n : Nat) (p : PV) : Prop := ∃ d, toD p = some d ∧ d.canLay0 = true ∧ d.depth ≤ k ∧ d.showable = true ∧ d.shown.length ≤ n
def ShpL (k n : Nat) (ps : List PV) : Prop := ∃ ds, toDL ps = some ds ∧ PyData.canLayAll0 ds = true ∧ PyData.depthAll ds ≤ k ∧ PyData.showableAll ds = true ∧ ((PyData.shownAll ds).map (·.length)).sum + 2 * (PyData.shownAll ds).length ≤ n
theorem Shp.le {k n k' n' : Nat} {p : PV} (h : Shp k n p) (hk : k ≤ k') (hn : n ≤ n') : Shp k' n' p := by
  obtain ⟨d, h1, h2, h3, h4, h5⟩ := h
  exact ⟨d, h1, h2, by omega, h4, by omega⟩
theorem ShpL.le {k n k' n' : Nat} {p : List PV} (h : ShpL k n p) (hk : k ≤ k') (hn : n ≤ n') : ShpL k' n' p := by
  obtain ⟨d, h1, h2, h3, h4, h5⟩ := h
  exact ⟨d, h1, h2, by omega, h4, by omega⟩
theorem shp_non : Shp 0 4 .non := ⟨.none, rfl, by simp [PyData.canLay0], by simp [PyData.depth], by simp [PyData.showable], by simp only [PyData.shown]; decide⟩
theorem shp_bl (b : Bool) : Shp 0 5 (.bl b) := ⟨.bool b, rfl, by simp [PyData.canLay0], by simp [PyData.depth], by simp [PyData.showable], by cases b <;> simp only [PyData.shown] <;> decide⟩
theorem shp_nil : ShpL 0 0 [] := ⟨[], rfl, by simp [PyData.canLayAll0], by simp [PyData.depthAll], by simp [PyData.showableAll], by simp [PyData.shownAll]⟩
theorem ShpL.cons {k n m : Nat} {p : PV} {ps : List PV} (h : Shp k n p) (t : ShpL k m ps) : ShpL k (n + m + 2) (p :: ps) := by
  obtain ⟨d, h1, h2, h3, h4, h5⟩ := h
  obtain ⟨ds, t1, t2, t3, t4, t5⟩ := t
  refine ⟨d :: ds, ?_, ?_, ?_, ?_, ?_⟩
  · rw [toDL, h1, t1]
  · simp [PyData.canLayAll0, h2, t2]
  · simp only [PyData.depthAll]; omega
  · simp [PyData.showableAll, h4, t4]
  · simp only [PyData.shownAll, List.map_cons, List.sum_cons, List.length_cons]; omega
theorem ShpL.tup {k n : Nat} {ps : List PV} (h : ShpL k n ps) : Shp (k + 1) (n + 3) (.tup ps) := by
  obtain ⟨ds, t1, t2, t3, t4, t5⟩ := h
  refine ⟨.tuple ds, ?_, ?_, ?_, ?_, ?_⟩
  · rw [toD, t1]; rfl
  · simp [PyData.canLay0, t2]
  · simp only [PyData.depth]; omega
  · simp [PyData.showable, t4]
  · simp only [PyData.shown]
    have := tupleText_len_le (PyData.shownAll ds)
    omega
theorem ShpL.lst {k n : Nat} {ps : List PV} (h : ShpL k n ps) : Shp (k + 1) (n + 3) (.lst ps) := by
  obtain ⟨ds, t1, t2, t3, t4, t5⟩ := h
  refine ⟨.list ds, ?_, ?_, ?_, ?_, ?_⟩
  · rw [toD, t1]; rfl
  · simp [PyData.canLay0, t2]
  · simp only [PyData.depth]; omega
  · simp [PyData.showable, t4]
  · simp only [PyData.shown]
    have := listText_len_le (PyData.shownAll ds)
    omega
theorem digits_len (n : Nat) : (Nat.toDigits 10 n).length ≤ n.log2 + 1 := by
  have h : (numL n).length ≤ n.log2 + 1 := by
    refine numL_len (by omega) ?_
    have h1 : n < 2 ^ (n.log2 + 1) := Nat.lt_log2_self
    exact Nat.lt_of_lt_of_le h1 (Nat.pow_le_pow_left (by omega) _)
  unfold numL at h
  simpa using h
theorem tl_strI (i : Int) : tl (strI i) = if i < 0 then 45 :: numL i.natAbs else numL i.natAbs := by
  by_cases h : i < 0
  · rw [if_pos h]
    obtain ⟨n, rfl⟩ : ∃ n : Nat, i = -(n : Int) := ⟨i.natAbs, by omega⟩
    have hn : n ≠ 0 := by omega
    have e : (-(n : Int)).natAbs = n := by omega
    rw [e]
    obtain ⟨m, rfl⟩ : ∃ m, n = m + 1 := ⟨n - 1, by omega⟩
    show tl (Str.ofString (toString (Int.negSucc m))) = _
    rw [tl_ofString]
    show (toString (Int.negSucc m)).toList.map Char.toNat = _
    have : toString (Int.negSucc m) = "-" ++ toString (m + 1) := rfl
    rw [this, String.toList_append, List.map_append]
    have h2 : (toString (m + 1)).toList = Nat.toDigits 10 (m + 1) := by
      show (Nat.repr (m + 1)).toList = _
      simp [Nat.repr]
    rw [h2]
    rfl
  · rw [if_neg h]
    obtain ⟨n, rfl⟩ : ∃ n : Nat, i = (n : Int) := ⟨i.natAbs, by omega⟩
    have e : ((n : Int)).natAbs = n := by omega
    rw [e]
    exact tl_num n
theorem strI_len (i : Int) : (strI i).length ≤ i.natAbs.log2 + 2 := by
  rw [len_tl, tl_strI]
  have h : (numL i.natAbs).length ≤ i.natAbs.log2 + 1 := by
    have := digits_len i.natAbs
    unfold numL
    simpa using this
  split
  · rw [List.length_cons]; omega
  · omega
theorem shp_int {n : Nat} {i : Int} (h : Sm n i) (hn : n < 1900) : Shp 0 (n + 2) (.int i) := by
  have := h.log
  refine ⟨.int i, rfl, by simp [PyData.canLay0], by simp [PyData.depth], ?_, ?_⟩
  · simp only [PyData.showable, decide_eq_true_eq]; omega
  · simp only [PyData.shown]
    have := strI_len i
    show (strI i).length ≤ _
    omega
/-- signs that stand -/
def okT (s : Str) : Prop := ∀ c ∈ tl s, c < 0x110000
theorem shp_str {n : Nat} {s : Str} (h : okT s) (hn : s.length ≤ n) : Shp 0 (10 * n + 2) (.str s) := by
  refine ⟨.str s, rfl, ?_, by simp [PyData.depth], by simp [PyData.showable], ?_⟩
  · simp only [PyData.canLay0, PyData.strOk]
    rw [← Array.all_toList, List.all_eq_true]
    intro c hc
    exact decide_eq_true (h c hc)
  · simp only [PyData.shown]
    have := StrLaws.reprText_len s fun c hc => by have := h c hc; omega
    omega
/-- a value's text -/
def shw (p : PV) : Str := (encP p).shown
theorem Shp.repr {k n : Nat} {p : PV} (h : Shp k n p) (hk : k ≤ 64) (hn : n ≤ 16777216) : opBlt .repr [p] = some (.val (.str (shw p))) := by
  obtain ⟨d, h1, h2, h3, h4, h5⟩ := h
  have e : shw p = d.shown := by unfold shw encP; rw [h1]; rfl
  have hs : SeqAt.shaped d = true := by
    unfold SeqAt.shaped
    rw [h2, Bool.true_and, decide_eq_true_eq]
    omega
  rw [e]
  simp only [opBlt, h1]
  rw [if_pos ⟨hs, h4, by rw [size_line]; omega⟩]
theorem eqPV_D {p q : PV} {d e : PyData} (h1 : toD p = some d) (h2 : toD q = some e) (h3 : SeqAt.shaped d = true) (h4 : SeqAt.shaped e = true) : eqPV p q = some (PyData.eqv d e) := by
  unfold eqPV
  split
  · cases h1
    cases h2
    simp only [PyData.eqv]
    rfl
  · rw [h1, h2]
    exact if_pos ⟨h3, h4⟩
theorem Shp.self {k n : Nat} {p : PV} (h : Shp k n p) (hk : k ≤ 64) : eqPV p p = some true := by
  obtain ⟨d, h1, h2, h3, h4, h5⟩ := h
  have hs : SeqAt.shaped d = true := by
    unfold SeqAt.shaped
    rw [h2, Bool.true_and, decide_eq_true_eq]
    omega
  rw [eqPV_D h1 h1 hs hs, SeqAt.eqv_refl d h2]
@[simp] theorem eqp_str {s t : Str} : eqPV (.str s) (.str t) = some (decide (s = t)) := rfl
/-! ### texts by their signs -/
def sT (d : List Nat) : Str := ⟨d.toArray⟩
@[simp] theorem sT_l (d : List Nat) : (sT d).cps.toList = d := rfl
@[simp] theorem sT_len (d : List Nat) : (sT d).length = d.length := rfl
theorem sT_of (w : Str) : w = sT w.cps.toList := rfl
theorem sT_inj {a b : List Nat} : sT a = sT b ↔ a = b := ⟨fun h => by
  have := congrArg (fun s : Str => s.cps.toList) h
  simpa using this, fun h => by rw [h]⟩
@[simp] theorem sT_app (a b : List Nat) : sT a ++ sT b = sT (a ++ b) := by
  apply ext_tl
  rw [tl_append]
  rfl
/-- signs that stand -/
def okD (d : List Nat) : Prop := ∀ c ∈ d, c < 0x110000
theorem okD_of {d : List Nat} (h : (d.all fun c => decide (c < 0x110000)) = true) : okD d := fun c hc => of_decide_eq_true (List.all_eq_true.mp h c hc)
theorem okD_app {a b : List Nat} (h : okD a) (h2 : okD b) : okD (a ++ b) := fun c hc => (List.mem_append.mp hc).elim (h c) (h2 c)
theorem okD_cons {a : Nat} {b : List Nat} (h : a < 0x110000) (h2 : okD b) : okD (a :: b) := fun c hc => (List.mem_cons.mp hc).elim (fun e => e ▸ h) (h2 c)
theorem okD_take {a : List Nat} (n : Nat) (h : okD a) : okD (a.take n) := fun c hc => h c (List.mem_of_mem_take hc)
theorem okD_drop {a : List Nat} (n : Nat) (h : okD a) : okD (a.drop n) := fun c hc => h c (List.mem_of_mem_drop hc)
theorem okD_numL (n : Nat) : okD (numL n) := fun c hc => by have := numL_digits n c hc; omega
@[simp] theorem sT_inj' {a b : List Nat} : (sT a = sT b) = (a = b) := propext sT_inj
theorem eqp_sT {a b : List Nat} : eqPV (.str (sT a)) (.str (sT b)) = some (decide (a = b)) := by
  simp
theorem shp_sT {n : Nat} {d : List Nat} (h : okD d) (hn : d.length ≤ n) : Shp 0 (10 * n + 2) (.str (sT d)) := shp_str (s := sT d) h hn
/-- an int's signs -/
def iL (i : Int) : List Nat := if i < 0 then 45 :: numL i.natAbs else numL i.natAbs
theorem strI_eq (i : Int) : strI i = sT (iL i) := ext_tl (tl_strI i)
theorem okD_iL (i : Int) : okD (iL i) := by
  unfold iL
  split
  · exact okD_cons (by omega) (okD_numL _)
  · exact okD_numL _
theorem sign_eq (c : Nat) : (⟨#[c]⟩ : Str) = sT [c] := rfl
/-- a slice's signs -/
theorem sIx_pos (n d : Nat) {i : Int} (h : 0 ≤ i) : HT.sIx n d (some i) = min i.toNat n := by
  show (if i < 0 then (i + (n : Int)).toNat else min i.toNat n) = min i.toNat n
  rw [if_neg (by omega)]
theorem cutL_hd {α : Type} (d : List α) (i : Int) (h : 0 ≤ i) : (d.drop (HT.sIx d.length 0 none)).take (HT.sIx d.length d.length (some i) - HT.sIx d.length 0 none) = d.take i.toNat := by
  rw [sIx_pos _ _ h, HT.sIx_none]
  simp only [List.drop_zero, Nat.sub_zero]
  by_cases hn : i.toNat ≤ d.length
  · rw [Nat.min_eq_left hn]
  · rw [Nat.min_eq_right (by omega), List.take_of_length_le (Nat.le_refl _), List.take_of_length_le (by omega)]
theorem cutL_tl {α : Type} (d : List α) (i : Int) (h : 0 ≤ i) : (d.drop (HT.sIx d.length 0 (some i))).take (HT.sIx d.length d.length none - HT.sIx d.length 0 (some i)) = d.drop i.toNat := by
  rw [sIx_pos _ _ h, HT.sIx_none, List.take_of_length_le (by rw [List.length_drop]; omega)]
  by_cases hn : i.toNat ≤ d.length
  · rw [Nat.min_eq_left hn]
  · rw [Nat.min_eq_right (by omega), List.drop_of_length_le (Nat.le_refl _), List.drop_of_length_le (by omega)]
theorem cut_hd (d : List Nat) (i : Int) (h : 0 ≤ i) : cutS (sT d) none (some i) = sT (d.take i.toNat) := ext_tl (cutL_hd d i h)
theorem cut_tl (d : List Nat) (i : Int) (h : 0 ≤ i) : cutS (sT d) (some i) none = sT (d.drop i.toNat) := ext_tl (cutL_tl d i h)
theorem cutP_hd (d : List PV) (i : Int) (h : 0 ≤ i) : cutP d none (some i) = d.take i.toNat := cutL_hd d i h
theorem cutP_tl (d : List PV) (i : Int) (h : 0 ≤ i) : cutP d (some i) none = d.drop i.toNat := cutL_tl d i h
theorem split_sT {c : Nat} (hc : c < 256) (d : List Nat) : Txt.split (sT d) (sT [c]) = (spl [c] 0 [] d).map sT := by
  refine map_tl_inj ?_
  rw [split_spl (sT d) (sT [c]) (by simp [tl]) (kind_ok (by rw [← Array.all_toList]; simp [hc])), List.map_map]
  show spl [c] 0 [] d = List.map (tl ∘ sT) (spl [c] 0 [] d)
  have : (tl ∘ sT) = id := by funext x; rfl
  rw [this, List.map_id]
theorem iL_len {n : Nat} {i : Int} (h : Sm n i) : (iL i).length ≤ n + 2 := by
  have h1 := strI_len i
  have h2 := h.log
  rw [strI_eq, sT_len] at h1
  omega
/-! ### the ends of a def's body -/
inductive Rz where
  | val (p : PV) | fr (p : PV) | exc (c : Nat)
def SO.is : SO → Rz → Prop
  | .rt (.val p) _, .val q => p = q
  | .rt (.fresh p) _, .fr q => p = q
  | .exc c _, .exc d => c = d
  | .nx _, .val q => q = .non
  | _, _ => False
def Rz.co : Rz → CO
  | .val p => .ok p false []
  | .fr p => .ok p true []
  | .exc c => .exc c []
/-- the statements end so -/
def Ends (E : Eng) (Φ : Nat → List PV → CO) (l : List IS) (ε : Sg) (z : Rz) : Prop := (exL E Φ l ε).is z
theorem Ends.step {E : Eng} {Φ : Nat → List PV → CO} {s : IS} {l : List IS} {ε : Sg} {z : Rz} (ε1 : Sg) (h : exS E Φ s ε = .nx ε1) (k : Ends E Φ l ε1 z) : Ends E Φ (s :: l) ε z := by
  unfold Ends
  rw [exL_step h]
  exact k
theorem Ends.ret {E : Eng} {Φ : Nat → List PV → CO} {s : IS} {l : List IS} {ε : Sg} {v : PV} (ε1 : Sg) (h : exS E Φ s ε = .rt (.val v) ε1) : Ends E Φ (s :: l) ε (.val v) := by
  unfold Ends
  rw [exL_ret h]
  rfl
theorem Ends.fr {E : Eng} {Φ : Nat → List PV → CO} {s : IS} {l : List IS} {ε : Sg} {v : PV} (ε1 : Sg) (h : exS E Φ s ε = .rt (.fresh v) ε1) : Ends E Φ (s :: l) ε (.fr v) := by
  unfold Ends
  rw [exL_ret h]
  rfl
theorem exL_exc {E : Eng} {Φ : Nat → List PV → CO} {s : IS} {l : List IS} {ε ε1 : Sg} {c : Nat} (h : exS E Φ s ε = .exc c ε1) : exL E Φ (s :: l) ε = .exc c ε1 := by
  rw [exL, h]; rfl
theorem Ends.exc {E : Eng} {Φ : Nat → List PV → CO} {s : IS} {l : List IS} {ε : Sg} {c : Nat} (ε1 : Sg) (h : exS E Φ s ε = .exc c ε1) : Ends E Φ (s :: l) ε (.exc c) := by
  unfold Ends
  rw [exL_exc h]
  rfl
theorem outs_no : ∀ {ms : List Bool} {i : Nat} {ε : Sg}, ms.all (! ·) = true → outsS ms i ε = some []
  | [], _, _, _ => rfl
  | true :: _, _, _, h => by simp at h
  | false :: ms, i, ε, h => by
    rw [outsS]
    exact outs_no (by simpa using h)
theorem call_ends {E : Eng} {k f : Nat} {fi : FnI} {ps : List PV} {z : Rz} (ε0 : Sg) (h : E.fns[f]? = some fi) (hn : ps.length = fi.np ∧ fi.mask.length = fi.np ∧ fi.np ≤ fi.nsl) (hm : fi.mask.all (! ·) = true)
    (e0 : startS fi.mask ps ++ List.replicate (fi.nsl - fi.np) Slot.none = ε0) (he : Ends E (callF E k) fi.body ε0 z) : callF E (k + 1) f ps = z.co := by
  rw [call_top h, callB, if_pos hn, e0]
  unfold Ends at he
  generalize exL E (callF E k) fi.body ε0 = o at he
  have ho := fun ε => outs_no (i := 0) (ε := ε) hm
  match o, z, he with
  | .rt (.val p) ε, .val q, he => cases he; dsimp only; rw [ho]; rfl
  | .rt (.fresh p) ε, .fr q, he => cases he; dsimp only; rw [ho]; rfl
  | .exc c ε, .exc d, he => cases he; dsimp only; rw [ho]; rfl
  | .nx ε, .val q, he => cases he; dsimp only; rw [ho]; rfl
/-! ### comprehensions with a test -/
theorem cmp_fm {own : List Nat} {r : Rv} {turn : PV → Sg → Out (Option PV)} {f : PV → Option PV} {ε : Sg} : ∀ {ps acc : List PV}, (∀ p ∈ ps, ∃ ε1, turn p ε = .ok (f p) ε1 ∧ wipeS ε1 own = some ε) → acc.length + ps.length ≤ sizeLine →
    cmpI own r turn ps acc ε = .ok (acc ++ ps.filterMap f) ε
  | [], acc, _, _ => by simp [cmpI]
  | p :: ps, acc, h, hl => by
    obtain ⟨ε1, h1, h2⟩ := h p List.mem_cons_self
    rw [List.length_cons] at hl
    rw [cmpI, h1]
    simp only [h2, stays_refl, if_true]
    cases hf : f p with
    | none =>
      dsimp only
      rw [cmp_fm (fun q hq => h q (List.mem_cons_of_mem _ hq)) (by omega), List.filterMap_cons, hf]
    | some q =>
      dsimp only
      rw [if_pos (by omega), cmp_fm (fun q hq => h q (List.mem_cons_of_mem _ hq)) (by rw [List.length_append, List.length_singleton]; omega), List.filterMap_cons, hf]
      simp
theorem ev_fm {E : Eng} {Φ : Nat → List PV → CO} {elt : IE} {tg : Tg} {sk : Src} {its : List IE} {cond : List IE} {own : List Nat} {ε ε1 ε2 : Sg} {rs : List Rv} {r : Rv} {ps : List PV} (f : PV → Option PV) (h1 : evA E Φ its ε = .ok rs ε1) (h2 : srcI sk rs ε1 = some (r, ps)) (h3 : wipeS ε1 own = some ε2) (h4 : walkOk r own = true)
    (h5 : ∀ p ∈ ps, ∃ ε3, turnC E Φ elt tg cond p ε2 = .ok (f p) ε3 ∧ wipeS ε3 own = some ε2) (h6 : ps.length ≤ sizeLine) : evE E Φ (.cmpr elt tg sk its cond own) ε = .ok (.fresh (.lst (ps.filterMap f))) (backS ε1 ε2 own) := by
  have h : cmpI own r (turnC E Φ elt tg cond) ps [] ε2 = .ok ([] ++ ps.filterMap f) ε2 := cmp_fm h5 (by simpa using h6)
  rw [List.nil_append] at h
  rw [evE, h1]
  simp only [Out.bind, h2, h3, h4, if_true]
  show (match cmpI own r (turnC E Φ elt tg cond) ps [] ε2 with | .ok acc ε7 => Out.ok (Rv.fresh (.lst acc)) (backS ε1 ε7 own) | _ => .stuck) = _
  rw [h]
/-- a slot that may be stored to -/
def Wr (s : Slot) : Prop := ∀ p, s ≠ .own false p
theorem wr_none : Wr .none := fun _ h => nomatch h
theorem wr_val (p : PV) : Wr (.val p) := fun _ h => nomatch h
theorem wr_own (p : PV) : Wr (.own true p) := fun _ h => nomatch h
theorem put_val {ε : Sg} {i : Nat} {s : Slot} {p : PV} (hs : ε[i]? = some s) (h : Wr s) : putR i (.val p) ε = some (ε.set i (.val p)) := by
  unfold putR
  rw [hs]
  cases s with
  | none => rfl
  | val q => rfl
  | own k q =>
    cases k with
    | true => rfl
    | false => exact absurd rfl (h q)
theorem put_fr {ε : Sg} {i : Nat} {s : Slot} {p : PV} (hs : ε[i]? = some s) (h : Wr s) : putR i (.fresh p) ε = some (ε.set i (.own true p)) := by
  unfold putR
  rw [hs]
  cases s with
  | none => rfl
  | val q => rfl
  | own k q =>
    cases k with
    | true => rfl
    | false => exact absurd rfl (h q)
theorem ex_val {E : Eng} {Φ : Nat → List PV → CO} {ε ε1 : Sg} {i : Nat} {s : Slot} {e : IE} {p : PV} (he : evE E Φ e ε = .ok (.val p) ε1) (hs : ε1[i]? = some s) (h : Wr s) : exS E Φ (.asg i e) ε = .nx (ε1.set i (.val p)) := by
  rw [exS, he]
  dsimp only
  rw [put_val hs h]
theorem ex_fr {E : Eng} {Φ : Nat → List PV → CO} {ε ε1 : Sg} {i : Nat} {s : Slot} {e : IE} {p : PV} (he : evE E Φ e ε = .ok (.fresh p) ε1) (hs : ε1[i]? = some s) (h : Wr s) : exS E Φ (.asg i e) ε = .nx (ε1.set i (.own true p)) := by
  rw [exS, he]
  dsimp only
  rw [put_fr hs h]
theorem asg_nm {ε : Sg} {i : Nat} {s : Slot} {p : PV} (hs : ε[i]? = some s) (h : Wr s) : asgT (.nm i) p ε = some (ε.set i (.val p)) := by
  unfold asgT
  rw [hs]
  cases s with
  | none => rfl
  | val q => rfl
  | own k q =>
    cases k with
    | true => rfl
    | false => exact absurd rfl (h q)
end Eng

namespace K01
open PySem PySem.Spec L2 Eng
open PyProof.Rows hiding St
def f_ratio : FnI := ⟨"ratio", 2, [false, false], 3, [.int 1], [
    .ifs (.cmp .Eq (.var 1) (.cst (.int 0))) [.raise 0 "nothing is divided by 0"] [],
    .asg 2 (.blt .gcd [.var 0, .var 1]),
    .ifs (.cmp .Lt (.var 1) (.cst (.int 0))) [.asg 2 (.neg (.var 2))] [],
    .ret (.tup [.bin .FloorDiv (.var 0) (.var 2), .bin .FloorDiv (.var 1) (.var 2)])]⟩

def f_is_integer : FnI := ⟨"is_integer", 1, [false], 1, [], [
    .ret (.and [.isi (.var 0) "int", .not (.isi (.var 0) "bool")])]⟩

def f_is_ratio : FnI := ⟨"is_ratio", 1, [false], 2, [], [
    .ifs (.or [.not (.isi (.var 0) "tuple"), .cmp .NotEq (.blt .len [.var 0]) (.cst (.int 2)), .not (.blt .all [.cmpr (.call 1 [.var 1]) (.nm 1) .val [.var 0] [] [1]])]) [.ret (.cst (.bl false))] [],
    .ret (.and [.cmp .GtE (.sub (.var 0) (.cst (.int 1))) (.cst (.int 1)), .cmp .Eq (.blt .gcd [.sub (.var 0) (.cst (.int 0)), .sub (.var 0) (.cst (.int 1))]) (.cst (.int 1))])]⟩

def f_write_ratio : FnI := ⟨"write_ratio", 1, [false], 1, [], [
    .ret (.ite (.cmp .Eq (.sub (.var 0) (.cst (.int 1))) (.cst (.int 1))) (.blt .str [.sub (.var 0) (.cst (.int 0))]) (.bin .Add (.bin .Add (.blt .str [.sub (.var 0) (.cst (.int 0))]) (.cst (.str "/"))) (.blt .str [.sub (.var 0) (.cst (.int 1))])))]⟩

def f_read_digits : FnI := ⟨"read_digits", 1, [false], 2, [], [
    .ifs (.or [.not (.chn .LtE .LtE (.cst (.int 1)) (.blt .len [.var 0]) (.glb "MOST_DIGITS")), .not (.blt .all [.cmpr (.cmp .In (.var 1) (.glb "FIGURES")) (.nm 1) .val [.var 0] [] [1]])]) [.ret (.cst .non)] [],
    .ret (.ite (.and [.cmp .Gt (.blt .len [.var 0]) (.cst (.int 1)), .cmp .Eq (.sub (.var 0) (.cst (.int 0))) (.cst (.str "0"))]) (.cst .non) (.blt .int [.var 0]))]⟩

def f_read_ratio : FnI := ⟨"read_ratio", 1, [false], 6, [], [
    .asg 1 (.cmp .Eq (.slc (.var 0) none (some (.cst (.int 1)))) (.cst (.str "-"))),
    .asg 2 (.split (.ite (.var 1) (.slc (.var 0) (some (.cst (.int 1))) none) (.var 0)) (.cst (.str "/"))),
    .asg 3 (.cmpr (.call 4 [.var 5]) (.nm 5) .val [.var 2] [] [5]),
    .ifs (.or [.cmp .Gt (.blt .len [.var 2]) (.cst (.int 2)), .cmp .In (.cst .non) (.var 3)]) [.raise 0 "this is no number"] [],
    .asg 4 (.tup [.ite (.var 1) (.neg (.sub (.var 3) (.cst (.int 0)))) (.sub (.var 3) (.cst (.int 0))), .ite (.cmp .Eq (.blt .len [.var 2]) (.cst (.int 2))) (.sub (.var 3) (.cst (.int 1))) (.cst (.int 1))]),
    .ifs (.or [.not (.call 2 [.var 4]), .cmp .NotEq (.call 3 [.var 4]) (.var 0)]) [.raise 0 "this is no number"] [],
    .ret (.var 4)]⟩

def f__law_draws : FnI := ⟨"_law_draws", 1, [false], 7, [], [
    .asg 1 (.lst []),
    .for_ (.nm 2) .val [.var 0] [.asg 5 (.blt .abs [.var 2]),
    .ifs (.cmp .Lt (.var 5) (.bin .Pow (.cst (.int 10)) (.cst (.int 18)))) [.asg 6 (.bin .Mod (.blt .int [.bin .Add (.bin .Mult (.var 5) (.cst (.int 48271))) (.cst (.int 11))]) (.cst (.int 2147483647))),
    .expr (.mut .append 1 [.bin .Mod (.blt .int [.bin .Add (.bin .Mult (.var 6) (.cst (.int 69621))) (.var 5)]) (.cst (.int 2147483629))]),
    .expr (.mut .append 1 [.bin .Mod (.blt .int [.bin .Add (.var 6) (.bin .FloorDiv (.var 5) (.cst (.int 7)))]) (.cst (.int 1000003))]),
    .asg 5 (.cst (.int 0))] [],
    .for_ (.nm 4) .rng [.cst (.int 60)] [.ifs (.cmp .Gt (.var 5) (.cst (.int 0))) [.expr (.mut .append 1 [.bin .Mod (.blt .int [.var 5]) (.cst (.int 997))]),
    .asg 5 (.bin .FloorDiv (.var 5) (.cst (.int 997)))] []]],
    .asg 3 (.cst (.int 1)),
    .ifs (.cmp .Gt (.blt .len [.var 0]) (.cst (.int 0))) [.asg 3 (.bin .Add (.cst (.int 1)) (.blt .abs [.sub (.var 0) (.cst (.int 0))]))] [],
    .for_ (.nm 4) .rng [.cst (.int 900)] [.asg 3 (.bin .Mod (.blt .int [.bin .Add (.bin .Mult (.var 3) (.cst (.int 48271))) (.cst (.int 69621))]) (.cst (.int 2147483647))),
    .expr (.mut .append 1 [.bin .FloorDiv (.var 3) (.cst (.int 5))])],
    .ret (.lrev (.var 1))]⟩

def f__law_take : FnI := ⟨"_law_take", 2, [true, false], 2, [], [
    .ifs (.cmp .Eq (.blt .len [.var 0]) (.cst (.int 0))) [.ret (.cst (.int 0))] [],
    .ret (.bin .Mod (.blt .int [.mut .pop 0 []]) (.var 1))]⟩

def f__law_ratio : FnI := ⟨"_law_ratio", 1, [true], 2, [], [
    .asg 1 (.call 7 [.var 0, .cst (.int 12)]),
    .ifs (.cmp .Lt (.var 1) (.cst (.int 5))) [.ret (.call 0 [.bin .Sub (.call 7 [.var 0, .cst (.int 7)]) (.cst (.int 3))])] [],
    .ifs (.cmp .Eq (.var 1) (.cst (.int 11))) [.ret (.call 0 [.bin .Sub (.bin .Pow (.bin .Add (.call 7 [.var 0, .cst (.int 999983)]) (.cst (.int 1))) (.cst (.int 3))) (.call 7 [.var 0, .cst (.int 999)]), .bin .Add (.call 7 [.var 0, .cst (.int 9973)]) (.cst (.int 1))])] [],
    .ret (.call 0 [.bin .Sub (.call 7 [.var 0, .cst (.int 41)]) (.cst (.int 20)), .bin .Add (.cst (.int 1)) (.call 7 [.var 0, .cst (.int 6)])])]⟩

def f__law_text : FnI := ⟨"_law_text", 1, [false], 1, [], [
    .ret (.sub (.lst [.bin .Add (.bin .Add (.blt .str [.sub (.var 0) (.cst (.int 0))]) (.cst (.str "/"))) (.blt .str [.sub (.var 0) (.cst (.int 1))]), .blt .str [.sub (.var 0) (.cst (.int 0))]]) (.blt .int [.cmp .Eq (.sub (.var 0) (.cst (.int 1))) (.cst (.int 1))]))]⟩

def f__law_told : FnI := ⟨"_law_told", 1, [false], 1, [], [
    .tryn [.ret (.call 5 [.var 0])] [(0, (.str "none")), (1, (.str "other"))]]⟩

def f__law_part : FnI := ⟨"_law_part", 1, [false], 2, [], [
    .ifs (.or [.cmp .Eq (.var 0) (.cst (.str "")), .cmp .Gt (.blt .len [.var 0]) (.cst (.int 30)), .cmp .NotEq (.cmpr (.var 1) (.nm 1) .val [.var 0] [.cmp .NotIn (.var 1) (.cst (.str "0123456789"))] [1]) (.lst []), .and [.cmp .Eq (.sub (.var 0) (.cst (.int 0))) (.cst (.str "0")), .cmp .NotEq (.var 0) (.cst (.str "0"))]]) [.ret (.cst .non)] [],
    .ret (.blt .int [.var 0])]⟩

def f__law_due : FnI := ⟨"_law_due", 1, [false], 7, [], [
    .asg 1 (.var 0),
    .ifs (.cmp .Eq (.slc (.var 0) none (some (.cst (.int 1)))) (.cst (.str "-"))) [.asg 1 (.slc (.var 0) (some (.cst (.int 1))) none)] [],
    .asg 2 (.cmpr (.call 11 [.var 6]) (.nm 6) .val [.split (.var 1) (.cst (.str "/"))] [] [6]),
    .ifs (.or [.cmp .Gt (.blt .len [.var 2]) (.cst (.int 2)), .cmp .In (.cst .non) (.var 2)]) [.ret (.cst (.str "none"))] [],
    .asgT (.tp [.nm 4, .nm 5]) (.slc (.bin .Add (.var 2) (.lst [.cst (.int 1)])) none (some (.cst (.int 2)))),
    .ifs (.or [.and [.cmp .Eq (.blt .len [.var 2]) (.cst (.int 2)), .cmp .Lt (.var 5) (.cst (.int 2))], .and [.cmp .Eq (.slc (.var 0) none (some (.cst (.int 1)))) (.cst (.str "-")), .cmp .Eq (.var 4) (.cst (.int 0))]]) [.ret (.cst (.str "none"))] [],
    .for_ (.nm 3) .rng [.cst (.int 2), .cst (.int 40)] [.ifs (.and [.cmp .Eq (.bin .Mod (.var 4) (.var 3)) (.cst (.int 0)), .cmp .Eq (.bin .Mod (.var 5) (.var 3)) (.cst (.int 0)), .cmp .Eq (.blt .len [.var 2]) (.cst (.int 2))]) [.ret (.cst (.str "none"))] []],
    .ifs (.and [.cmp .Eq (.blt .len [.var 2]) (.cst (.int 2)), .cmp .NotEq (.call 0 [.var 4, .var 5]) (.tup [.var 4, .var 5])]) [.ret (.cst (.str "none"))] [],
    .ret (.tup [.sub (.lst [.var 4, .neg (.var 4)]) (.blt .int [.cmp .Eq (.slc (.var 0) none (some (.cst (.int 1)))) (.cst (.str "-"))]), .var 5])]⟩

def f_law : FnI := ⟨"law", 1, [false], 12, [], [
    .asg 1 (.call 6 [.var 0]),
    .for_ (.nm 2) .rng [.cst (.int 6)] [.asg 5 (.call 8 [.var 1]),
    .asg 6 (.call 9 [.var 5]),
    .ifs (.or [.cmp .NotEq (.call 3 [.var 5]) (.var 6), .cmp .NotEq (.blt .repr [.call 10 [.var 6]]) (.blt .repr [.var 5]), .cmp .IsNot (.call 2 [.var 5]) (.cst (.bl true))]) [.ret (.cst (.bl false))] [],
    .for_ (.nm 7) .rng [.cst (.int 3)] [.asg 9 (.call 7 [.var 1, .bin .Add (.blt .len [.var 6]) (.cst (.int 1))]),
    .asg 10 (.sub (.lst [.cst (.str "0"), .cst (.str "1"), .cst (.str "2"), .cst (.str "-"), .cst (.str "/"), .cst (.str " "), .cst (.str "+"), .cst (.str "3")]) (.call 7 [.var 1, .cst (.int 8)])),
    .asg 6 (.sub (.lst [.bin .Add (.bin .Add (.slc (.var 6) none (some (.var 9))) (.var 10)) (.slc (.var 6) (some (.var 9)) none), .bin .Add (.slc (.var 6) none (some (.var 9))) (.slc (.var 6) (some (.bin .Add (.var 9) (.cst (.int 1)))) none), .bin .Add (.bin .Add (.slc (.var 6) none (some (.var 9))) (.var 10)) (.slc (.var 6) (some (.bin .Add (.var 9) (.cst (.int 1)))) none)]) (.call 7 [.var 1, .cst (.int 3)])),
    .ifs (.cmp .NotEq (.blt .repr [.call 10 [.var 6]]) (.blt .repr [.call 12 [.var 6]])) [.ret (.cst (.bl false))] []],
    .asg 8 (.lst [.tup [.sub (.var 5) (.cst (.int 0)), .cst (.int 0)], .tup [.bin .Mult (.sub (.var 5) (.cst (.int 0))) (.cst (.int 2)), .bin .Mult (.sub (.var 5) (.cst (.int 1))) (.cst (.int 2))], .tup [.sub (.var 5) (.cst (.int 0)), .neg (.sub (.var 5) (.cst (.int 1)))], .lst [.sub (.var 5) (.cst (.int 0)), .sub (.var 5) (.cst (.int 1))], .tup [.sub (.var 5) (.cst (.int 0))], .tup [.cst (.bl true), .cst (.int 1)], .tup [.cst (.int 1), .cst (.bl true)], .cst .non, .cst (.str "1"), .tup [.sub (.var 5) (.cst (.int 0)), .sub (.var 5) (.cst (.int 1)), .cst (.int 1)]]),
    .ifs (.cmp .NotEq (.cmpr (.call 2 [.var 11]) (.nm 11) .val [.var 8] [] [11]) (.bin .Mult (.lst [.cst (.bl false)]) (.cst (.int 10)))) [.ret (.cst (.bl false))] []],
    .asg 3 (.bin .Add (.cst (.str "1")) (.bin .Mult (.blt .str [.call 7 [.var 1, .cst (.int 10)]]) (.cst (.int 29)))),
    .asg 4 (.lst [.call 10 [.var 3], .call 10 [.bin .Add (.var 3) (.cst (.str "1"))], .call 10 [.bin .Add (.bin .Add (.cst (.str "1/")) (.var 3)) (.cst (.str "0"))], .call 10 [.cst (.str "")]]),
    .ret (.cmp .Eq (.blt .repr [.var 4]) (.blt .repr [.lst [.tup [.blt .int [.var 3], .cst (.int 1)], .cst (.str "none"), .cst (.str "none"), .cst (.str "none")]]))]⟩

def fs : List FnI := [f_ratio, f_is_integer, f_is_ratio, f_write_ratio, f_read_digits, f_read_ratio, f__law_draws, f__law_take, f__law_ratio, f__law_text, f__law_told, f__law_part, f__law_due, f_law]
def gl : List (Str × PV) := [("MOST_DIGITS", (.int 30)), ("FIGURES", (.str "0123456789"))]
def cl : List Str := ["NotNumber", "MitreError"]
def sb (a b : Nat) : Bool := (a == 0 && b == 0) || (a == 0 && b == 1) || (a == 1 && b == 1)
def bs : List Blt := [.gcd, .len, .all, .str, .int, .abs, .repr]
def ts : List String := ["int", "bool", "tuple"]
def fr : List Str := ["range", "list", "reversed"]
def E : Eng.Eng := ⟨fs, gl, cl, bs, ts, sb, fr⟩
@[simp] theorem fx_ratio : E.fns[0]? = some f_ratio := rfl
@[simp] theorem fm_ratio : f_ratio.mask = [false, false] := rfl
@[simp] theorem fn_ratio : f_ratio.np = 2 := rfl
@[simp] theorem fd_ratio : f_ratio.dfl = [.int 1] := rfl
@[simp] theorem fx_is_integer : E.fns[1]? = some f_is_integer := rfl
@[simp] theorem fm_is_integer : f_is_integer.mask = [false] := rfl
@[simp] theorem fn_is_integer : f_is_integer.np = 1 := rfl
@[simp] theorem fd_is_integer : f_is_integer.dfl = [] := rfl
@[simp] theorem fx_is_ratio : E.fns[2]? = some f_is_ratio := rfl
@[simp] theorem fm_is_ratio : f_is_ratio.mask = [false] := rfl
@[simp] theorem fn_is_ratio : f_is_ratio.np = 1 := rfl
@[simp] theorem fd_is_ratio : f_is_ratio.dfl = [] := rfl
@[simp] theorem fx_write_ratio : E.fns[3]? = some f_write_ratio := rfl
@[simp] theorem fm_write_ratio : f_write_ratio.mask = [false] := rfl
@[simp] theorem fn_write_ratio : f_write_ratio.np = 1 := rfl
@[simp] theorem fd_write_ratio : f_write_ratio.dfl = [] := rfl
@[simp] theorem fx_read_digits : E.fns[4]? = some f_read_digits := rfl
@[simp] theorem fm_read_digits : f_read_digits.mask = [false] := rfl
@[simp] theorem fn_read_digits : f_read_digits.np = 1 := rfl
@[simp] theorem fd_read_digits : f_read_digits.dfl = [] := rfl
@[simp] theorem fx_read_ratio : E.fns[5]? = some f_read_ratio := rfl
@[simp] theorem fm_read_ratio : f_read_ratio.mask = [false] := rfl
@[simp] theorem fn_read_ratio : f_read_ratio.np = 1 := rfl
@[simp] theorem fd_read_ratio : f_read_ratio.dfl = [] := rfl
@[simp] theorem fx__law_draws : E.fns[6]? = some f__law_draws := rfl
@[simp] theorem fm__law_draws : f__law_draws.mask = [false] := rfl
@[simp] theorem fn__law_draws : f__law_draws.np = 1 := rfl
@[simp] theorem fd__law_draws : f__law_draws.dfl = [] := rfl
@[simp] theorem fx__law_take : E.fns[7]? = some f__law_take := rfl
@[simp] theorem fm__law_take : f__law_take.mask = [true, false] := rfl
@[simp] theorem fn__law_take : f__law_take.np = 2 := rfl
@[simp] theorem fd__law_take : f__law_take.dfl = [] := rfl
@[simp] theorem fx__law_ratio : E.fns[8]? = some f__law_ratio := rfl
@[simp] theorem fm__law_ratio : f__law_ratio.mask = [true] := rfl
@[simp] theorem fn__law_ratio : f__law_ratio.np = 1 := rfl
@[simp] theorem fd__law_ratio : f__law_ratio.dfl = [] := rfl
@[simp] theorem fx__law_text : E.fns[9]? = some f__law_text := rfl
@[simp] theorem fm__law_text : f__law_text.mask = [false] := rfl
@[simp] theorem fn__law_text : f__law_text.np = 1 := rfl
@[simp] theorem fd__law_text : f__law_text.dfl = [] := rfl
@[simp] theorem fx__law_told : E.fns[10]? = some f__law_told := rfl
@[simp] theorem fm__law_told : f__law_told.mask = [false] := rfl
@[simp] theorem fn__law_told : f__law_told.np = 1 := rfl
@[simp] theorem fd__law_told : f__law_told.dfl = [] := rfl
@[simp] theorem fx__law_part : E.fns[11]? = some f__law_part := rfl
@[simp] theorem fm__law_part : f__law_part.mask = [false] := rfl
@[simp] theorem fn__law_part : f__law_part.np = 1 := rfl
@[simp] theorem fd__law_part : f__law_part.dfl = [] := rfl
@[simp] theorem fx__law_due : E.fns[12]? = some f__law_due := rfl
@[simp] theorem fm__law_due : f__law_due.mask = [false] := rfl
@[simp] theorem fn__law_due : f__law_due.np = 1 := rfl
@[simp] theorem fd__law_due : f__law_due.dfl = [] := rfl
@[simp] theorem fx_law : E.fns[13]? = some f_law := rfl
@[simp] theorem fm_law : f_law.mask = [false] := rfl
@[simp] theorem fn_law : f_law.np = 1 := rfl
@[simp] theorem fd_law : f_law.dfl = [] := rfl
theorem es : E.sub = sb := rfl
end K01

namespace K01
open PySem PySem.Spec L2 Eng Rt TL
open PyProof.Rows hiding St
open NumText
/-! ### texts of numbers -/
theorem snoc_ind {α : Type} {P : List α → Prop} (h0 : P []) (h1 : ∀ l a, P l → P (l ++ [a])) : ∀ l, P l := fun l => by
  have h : ∀ l : List α, P l.reverse := fun l => by
    induction l with
    | nil => exact h0
    | cons a l ih => rw [List.reverse_cons]; exact h1 _ _ ih
  have := h l.reverse
  rwa [List.reverse_reverse] at this
def isDg (d : List Nat) : Bool := d.all fun c => decide (48 ≤ c ∧ c ≤ 57)
def dval (d : List Nat) : Option Nat := if 1 ≤ d.length ∧ d.length ≤ 30 ∧ isDg d = true ∧ (d.length = 1 ∨ d.head? ≠ some 48) then some (digitsVal d) else none
theorem isDg_all {d : List Nat} (h : isDg d = true) : AllDigits d := fun c hc => of_decide_eq_true (List.all_eq_true.mp h c hc)
theorem dv_snoc (d : List Nat) (c : Nat) : digitsVal (d ++ [c]) = digitsVal d * 10 + (c - 48) := by
  unfold digitsVal
  rw [List.foldl_append]
  rfl
theorem dv_pos : ∀ {d : List Nat}, AllDigits d → d ≠ [] → d.head? ≠ some 48 → 1 ≤ digitsVal d := by
  intro d
  induction d using snoc_ind with
  | h0 => intro _ h _; exact absurd rfl h
  | h1 d c ih =>
    intro ha _ hh
    rw [dv_snoc]
    have hc := ha c (by simp)
    by_cases h : d = []
    · subst h
      have : c ≠ 48 := fun e => hh (by simp [e])
      simp [digitsVal]
      omega
    · have hd := ih (fun x hx => ha x (by simp [hx])) h (fun e => hh (by rw [List.head?_append, e]; rfl))
      omega
theorem num_dv : ∀ {d : List Nat}, AllDigits d → d ≠ [] → (d.length = 1 ∨ d.head? ≠ some 48) → numL (digitsVal d) = d := by
  intro d
  induction d using snoc_ind with
  | h0 => intro _ h _; exact absurd rfl h
  | h1 d c ih =>
    intro ha _ hh
    rw [dv_snoc]
    have hc := ha c (by simp)
    by_cases h : d = []
    · subst h
      simp [digitsVal]
      rw [numL_lt (by omega)]
      congr 1
      omega
    · have hh' : d.head? ≠ some 48 := by
        rcases hh with hh | hh
        · rw [List.length_append, List.length_singleton] at hh
          have : d.length = 0 := by omega
          exact absurd (List.eq_nil_of_length_eq_zero this) h
        · exact fun e => hh (by rw [List.head?_append, e]; rfl)
      have ha' : AllDigits d := fun x hx => ha x (by simp [hx])
      have hp := dv_pos ha' h hh'
      rw [numL_step (by omega)]
      have e1 : (digitsVal d * 10 + (c - 48)) / 10 = digitsVal d := by omega
      have e2 : (digitsVal d * 10 + (c - 48)) % 10 = c - 48 := by omega
      rw [e1, e2, ih ha' h (.inr hh')]
      congr 2
      omega
theorem dv_lt : ∀ {d : List Nat}, AllDigits d → digitsVal d < 10 ^ d.length := by
  intro d
  induction d using snoc_ind with
  | h0 => intro _; simp [digitsVal]
  | h1 d c ih =>
    intro ha
    rw [dv_snoc, List.length_append, List.length_singleton, Nat.pow_succ]
    have hc := ha c (by simp)
    have := ih fun x hx => ha x (by simp [hx])
    omega
theorem dval_some {d : List Nat} {n : Nat} (h : dval d = some n) : numL n = d ∧ n < 10 ^ 30 ∧ d ≠ [] ∧ d.length ≤ 30 ∧ AllDigits d := by
  unfold dval at h
  split at h
  · rename_i hc
    cases h
    have ha := isDg_all hc.2.2.1
    have hn : d ≠ [] := fun e => by rw [e] at hc; exact absurd hc.1 (by simp)
    exact ⟨num_dv ha hn hc.2.2.2, Nat.lt_of_lt_of_le (dv_lt ha) (Nat.pow_le_pow_right (by omega) hc.2.1), hn, hc.2.1, ha⟩
  · cases h
theorem dval_num {n : Nat} (h : n < 10 ^ 30) : dval (numL n) = some n := by
  have h1 := numL_digits n
  have h2 : (numL n).length ≤ 30 := numL_len (by omega) h
  have h3 := numL_ne n
  unfold dval
  rw [if_pos ?_, numL_val]
  refine ⟨List.length_pos_iff.mpr h3, h2, ?_, ?_⟩
  · exact List.all_eq_true.mpr fun c hc => decide_eq_true (h1 c hc)
  · by_cases h10 : n < 10
    · left
      rw [numL_lt h10]; rfl
    · right
      intro e
      -- a first 0 of a longer text
      have key : ∀ m : Nat, 1 ≤ m → (numL m).head? ≠ some 48 := by
        intro m
        induction m using Nat.strongRecOn with
        | _ m ih =>
          intro hm hh
          by_cases hm10 : m < 10
          · rw [numL_lt hm10] at hh
            simp at hh
            omega
          · rw [numL_step (by omega), List.head?_append] at hh
            have := ih (m / 10) (by omega) (by omega)
            cases hq : (numL (m / 10)).head? with
            | none => exact numL_ne _ (List.head?_eq_none_iff.mp hq)
            | some q => rw [hq] at hh this; exact this hh
      exact key n (by omega) e
theorem join_spl (l : List Nat) : ∀ acc : List Nat, joinL [47] (spl [47] 0 acc l) = acc ++ l ∧ spl [47] 0 acc l ≠ [] := by
  induction l with
  | nil => intro acc; rw [spl_nil]; simp [joinL]
  | cons c r ih =>
    intro acc
    by_cases h : pre [47] (c :: r) = true
    · rw [spl_hit h]
      have e : c = 47 := by simpa [pre] using h
      subst e
      obtain ⟨h1, h2⟩ := ih []
      have h1 : joinL [47] (spl [47] 0 [] r) = r := by simpa using h1
      constructor
      · show joinL [47] (acc :: spl [47] 0 [] r) = _
        cases hs : spl [47] 0 [] r with
        | nil => exact absurd hs h2
        | cons q qs =>
          rw [hs] at h1
          simp only [joinL, h1]
          simp
      · simp
    · rw [spl_miss (Bool.not_eq_true _ ▸ h)]
      obtain ⟨h1, h2⟩ := ih (acc ++ [c])
      exact ⟨by rw [h1]; simp, h2⟩
theorem spl_one {R d : List Nat} (h : spl [47] 0 [] R = [d]) : R = d := by
  have := (join_spl R []).1
  rw [h] at this
  simpa [joinL] using this.symm
theorem spl_two {R d e : List Nat} (h : spl [47] 0 [] R = [d, e]) : R = d ++ 47 :: e := by
  have := (join_spl R []).1
  rw [h] at this
  simpa [joinL] using this.symm
/-! ### what a text tells -/
def ng (L : List Nat) : Bool := L.take 1 == [45]
def bod (L : List Nat) : List Nat := if ng L = true then L.drop 1 else L
def sg (b : Bool) (n : Nat) : Int := if b = true then -(n : Int) else n
def due (L : List Nat) : Option (Int × Int) := match (spl [47] 0 [] (bod L)).map dval with
  | [some a] => if ng L = true ∧ a = 0 then none else some (sg (ng L) a, 1)
  | [some a, some b] => if b < 2 ∨ (ng L = true ∧ a = 0) ∨ Nat.gcd a b ≠ 1 then none else some (sg (ng L) a, b)
  | _ => none
/-- the text of a ratio -/
def txt (p q : Int) : List Nat := if q = 1 then iL p else iL p ++ 47 :: iL q
theorem ng_cons {L : List Nat} (h : ng L = true) : L = 45 :: L.drop 1 := by
  cases L with
  | nil => simp [ng] at h
  | cons c r => have : c = 45 := by simpa [ng] using h
                subst this; rfl
theorem strI_nat (n : Nat) : iL (n : Int) = numL n := by
  rw [iL, if_neg (by omega)]; rfl
theorem strI_neg {n : Nat} (h : n ≠ 0) : iL (-(n : Int)) = 45 :: numL n := by
  rw [iL, if_pos (by omega)]
  congr 2
  omega
theorem sg_txt {b : Bool} {a : Nat} (h : ¬ (b = true ∧ a = 0)) : iL (sg b a) = if b = true then 45 :: numL a else numL a := by
  unfold sg
  by_cases hb : b = true
  · rw [if_pos hb, if_pos hb, strI_neg fun e => h ⟨hb, e⟩]
  · rw [if_neg hb, if_neg hb, strI_nat]
theorem ng_num (n : Nat) (r : List Nat) : ng (numL n ++ r) = false := by
  have h1 := numL_digits n
  have h3 := numL_ne n
  cases hn : numL n with
  | nil => exact absurd hn h3
  | cons c q =>
    have := h1 c (by rw [hn]; simp)
    simp [ng]
    omega
theorem free47 (n : Nat) : 47 ∉ numL n := numL_free (by omega)
theorem spl_num1 (n : Nat) : spl [47] 0 [] (numL n) = [numL n] := by
  rw [spl_last1 (free47 n)]; rfl
theorem spl_num2 (n m : Nat) : spl [47] 0 [] (numL n ++ 47 :: numL m) = [numL n, numL m] := by
  have := spl_part1 (s := 47) (S := []) (acc := []) (rest := numL m) (free47 n)
  rw [spl_num1] at this
  simpa using this
/-- a ratio's text tells the ratio -/
theorem due_txt {p q : Int} (h : IsR p q) (sp : p.natAbs < 10 ^ 30) (sq : q.natAbs < 10 ^ 30) : due (txt p q) = some (p, q) := by
  obtain ⟨b, a, e, hb⟩ : ∃ (b : Bool) (a : Nat), p = sg b a ∧ ¬ (b = true ∧ a = 0) := by
    by_cases hp : p < 0
    · exact ⟨true, p.natAbs, by simp only [sg, if_true]; omega, by omega⟩
    · exact ⟨false, p.natAbs, by simp only [sg]; simp; omega, by simp⟩
  subst e
  have ha : a < 10 ^ 30 := by
    unfold sg at sp
    split at sp <;> omega
  obtain ⟨m, rfl⟩ : ∃ m : Nat, q = m := ⟨q.natAbs, by have := h.pos; omega⟩
  have hm : m < 10 ^ 30 := by omega
  have hco : Nat.gcd a m = 1 := by
    have := h.co
    unfold sg at this
    split at this
    · rwa [Int.neg_gcd] at this
    · exact this
  have hpos := h.pos
  unfold txt
  rw [sg_txt hb, strI_nat]
  by_cases hq : (m : Int) = 1
  · rw [if_pos hq]
    have hm1 : m = 1 := by omega
    subst hm1
    cases b with
    | false =>
      simp only [Bool.false_eq_true, if_false]
      unfold due bod
      have := ng_num a []
      rw [List.append_nil] at this
      rw [this]
      simp [spl_num1, dval_num ha, sg]
    | true =>
      have ha0 : a ≠ 0 := fun e => hb ⟨rfl, e⟩
      simp only [if_true]
      unfold due bod
      have : ng (45 :: numL a) = true := by simp [ng]
      rw [this]
      simp [spl_num1, dval_num ha, sg, ha0]
  · rw [if_neg hq]
    have h2 : ¬ m < 2 := by omega
    cases b with
    | false =>
      simp only [Bool.false_eq_true, if_false]
      unfold due bod
      rw [ng_num a]
      simp [spl_num2, dval_num ha, dval_num hm, sg, h2, hco]
    | true =>
      have ha0 : a ≠ 0 := fun e => hb ⟨rfl, e⟩
      simp only [if_true]
      unfold due bod
      have : ng (45 :: numL a ++ 47 :: numL m) = true := by simp [ng]
      rw [this]
      simp [spl_num2, dval_num ha, dval_num hm, sg, ha0, h2, hco]
/-- what is told is a ratio, and its text is the text -/
theorem due_is {L : List Nat} {p q : Int} (h : due L = some (p, q)) : IsR p q ∧ p.natAbs < 10 ^ 30 ∧ q.natAbs < 10 ^ 30 ∧ txt p q = L := by
  unfold due at h
  have hL : L = if ng L = true then 45 :: bod L else bod L := by
    unfold bod
    split
    · rename_i hn; exact ng_cons hn
    · rfl
  split at h
  · rename_i a hs
    split at h
    · cases h
    · rename_i hc
      cases h
      obtain ⟨d, e1, e2⟩ : ∃ d, spl [47] 0 [] (bod L) = [d] ∧ dval d = some a := by
        cases hq : spl [47] 0 [] (bod L) with
        | nil => rw [hq] at hs; simp at hs
        | cons x xs => rw [hq] at hs; simp at hs; exact ⟨x, by rw [hs.2], hs.1⟩
      obtain ⟨f1, f2, f3, f4, f5⟩ := dval_some e2
      have hR := spl_one e1
      refine ⟨⟨by omega, Int.gcd_one_right _⟩, ?_, by omega, ?_⟩
      · unfold sg; split <;> omega
      · unfold txt
        rw [if_pos rfl, sg_txt hc, f1, ← hR]
        exact hL.symm
  · rename_i a b hs
    split at h
    · cases h
    · rename_i hc
      cases h
      obtain ⟨d, e, e1, e2, e3⟩ : ∃ d e, spl [47] 0 [] (bod L) = [d, e] ∧ dval d = some a ∧ dval e = some b := by
        cases hq : spl [47] 0 [] (bod L) with
        | nil => rw [hq] at hs; simp at hs
        | cons x xs =>
          cases xs with
          | nil => rw [hq] at hs; simp at hs
          | cons y ys => rw [hq] at hs; simp at hs; exact ⟨x, y, by rw [hs.2.2], hs.1, hs.2.1⟩
      obtain ⟨f1, f2, f3, f4, f5⟩ := dval_some e2
      obtain ⟨g1, g2, g3, g4, g5⟩ := dval_some e3
      have hR := spl_two e1
      have c1 : ¬ b < 2 := fun z => hc (.inl z)
      have c2 : ¬ (ng L = true ∧ a = 0) := fun z => hc (.inr (.inl z))
      have c3 : Nat.gcd a b = 1 := Classical.byContradiction fun z => hc (.inr (.inr z))
      refine ⟨⟨by omega, ?_⟩, ?_, by omega, ?_⟩
      · unfold sg
        split
        · rw [Int.neg_gcd]; exact c3
        · exact c3
      · unfold sg; split <;> omega
      · unfold txt
        rw [if_neg (by omega), sg_txt c2, strI_nat, f1, g1]
        rw [hR] at hL
        by_cases hn : ng L = true
        · rw [if_pos hn] at hL ⊢
          exact hL.symm
        · rw [if_neg hn] at hL ⊢
          exact hL.symm
  · cases h
end K01

namespace K01
open PySem PySem.Spec L2 Eng Rt
open PyProof.Rows hiding St
theorem d_draws : E.fns[6]? = some fDraws := rfl
theorem d_take : E.fns[7]? = some fTake := rfl
theorem d_ratio : E.fns[0]? = some (fRatio 0) := rfl
theorem d_int : E.fns[1]? = some fIsInt := rfl
theorem d_isr : E.fns[2]? = some (fIsRatio 1) := rfl
/-- _law_ratio: some ratio, its parts of at most 70 bits -/
theorem call_lratio (k : Nat) (ds : List Int) : ∃ (p q : Int) (ds' : List Int), IsR p q ∧ Sm 61 p ∧ Sm 61 q ∧ ds'.length ≤ ds.length ∧ callF E (k + 2) 8 [.lst (ds.map .int)] = .ok (.tup [.int p, .int q]) false [.lst (ds'.map .int)] := by
  rw [call_top fx__law_ratio]
  obtain ⟨v1, d1, a1, b1, l1, e1⟩ := call_take d_take (k := k) ds (b := 12) (by decide)
  by_cases h1 : v1 < 5
  · obtain ⟨v2, d2, a2, b2, l2, e2⟩ := call_take d_take (k := k) d1 (b := 7) (by decide)
    have s1 : Sm 61 (v2 - 3) := by unfold Sm; omega
    have one : Sm 8000 1 := (show Sm 1 1 by unfold Sm; decide).le (by decide)
    have c1 := call_ratio d_ratio k (a := v2 - 3) (b := 1) (by decide) one
    refine ⟨_, _, d2, r_is (a := v2 - 3) (b := 1) (by decide), rN_sm (by decide) s1, rD_sm (n := 61) (by decide) ((show Sm 1 1 by unfold Sm; decide).le (by decide)), by omega, ?_⟩
    simp [f__law_ratio, e1, h1, e2, c1]
  · by_cases h2 : v1 = 11
    · obtain ⟨v2, d2, a2, b2, l2, e2⟩ := call_take d_take (k := k) d1 (b := 999983) (by decide)
      obtain ⟨v3, d3, a3, b3, l3, e3⟩ := call_take d_take (k := k) d2 (b := 999) (by decide)
      obtain ⟨v4, d4, a4, b4, l4, e4⟩ := call_take d_take (k := k) d3 (b := 9973) (by decide)
      have hv : Sm 20 (v2 + 1) := by unfold Sm; omega
      have hq : Sm 61 (v4 + 1) := by unfold Sm; omega
      have h0 : v4 + 1 ≠ 0 := by omega
      have pw : (v2 + 1) ^ 3 = (v2 + 1) * (v2 + 1) * (v2 + 1) := by rw [Int.pow_succ, Int.pow_succ, Int.pow_succ, Int.pow_zero, Int.one_mul]
      have s3 : Sm 60 ((v2 + 1) ^ 3) := by rw [pw]; exact ((hv.mul hv).mul hv).le (by decide)
      have s1 : Sm 61 ((v2 + 1) ^ 3 - v3) := s3.sub ((show Sm 10 v3 by unfold Sm; omega).le (by decide))
      have na : (v2 + 1).natAbs < 18446744073709551616 := by omega
      have c1 := call_ratio d_ratio k (a := (v2 + 1) ^ 3 - v3) (b := v4 + 1) h0 (hq.le (by decide))
      refine ⟨_, _, d4, r_is h0, rN_sm h0 s1, rD_sm h0 hq, by omega, ?_⟩
      subst h2
      simp [f__law_ratio, e1, e2, e3, e4, na, c1]
    · obtain ⟨v2, d2, a2, b2, l2, e2⟩ := call_take d_take (k := k) d1 (b := 41) (by decide)
      obtain ⟨v3, d3, a3, b3, l3, e3⟩ := call_take d_take (k := k) d2 (b := 6) (by decide)
      have hq : Sm 61 (1 + v3) := by unfold Sm; omega
      have h0 : 1 + v3 ≠ 0 := by omega
      have s1 : Sm 61 (v2 - 20) := by unfold Sm; omega
      have c1 := call_ratio d_ratio k (a := v2 - 20) (b := 1 + v3) h0 (hq.le (by decide))
      refine ⟨_, _, d3, r_is h0, rN_sm h0 s1, rD_sm h0 hq, by omega, ?_⟩
      simp [f__law_ratio, e1, h1, h2, e2, e3, c1]
end K01

namespace K01
open PySem PySem.Spec L2 Eng Rt TL NumText
open PyProof.Rows hiding St
theorem g_most : E.glb.lookup ("MOST_DIGITS" : Str) = some (PV.int 30) := rfl
theorem l_fig : ("0123456789" : Str) = sT [48, 49, 50, 51, 52, 53, 54, 55, 56, 57] := by apply ext_tl; decide +kernel
theorem g_fig : E.glb.lookup ("FIGURES" : Str) = some (PV.str (sT [48, 49, 50, 51, 52, 53, 54, 55, 56, 57])) := by rw [← l_fig]; rfl
@[simp] theorem l_0 : ("0" : Str) = sT [48] := by apply ext_tl; decide +kernel
@[simp] theorem l_1 : ("1" : Str) = sT [49] := by apply ext_tl; decide +kernel
@[simp] theorem l_2 : ("2" : Str) = sT [50] := by apply ext_tl; decide +kernel
@[simp] theorem l_3 : ("3" : Str) = sT [51] := by apply ext_tl; decide +kernel
@[simp] theorem l_m : ("-" : Str) = sT [45] := by apply ext_tl; decide +kernel
@[simp] theorem l_p : ("+" : Str) = sT [43] := by apply ext_tl; decide +kernel
@[simp] theorem l_b : (" " : Str) = sT [32] := by apply ext_tl; decide +kernel
@[simp] theorem l_s : ("/" : Str) = sT [47] := by apply ext_tl; decide +kernel
@[simp] theorem l_1s : ("1/" : Str) = sT [49, 47] := by apply ext_tl; decide +kernel
@[simp] theorem l_e : ("" : Str) = sT [] := by apply ext_tl; decide +kernel
theorem in_fig (c : Nat) : opIn (.str (sT [c])) (.str (sT [48, 49, 50, 51, 52, 53, 54, 55, 56, 57])) = some (decide (48 ≤ c ∧ c ≤ 57)) := by
  show some (decide (c ∈ [48, 49, 50, 51, 52, 53, 54, 55, 56, 57])) = _
  congr 1
  by_cases h : 48 ≤ c ∧ c ≤ 57
  · rw [decide_eq_true h, decide_eq_true]
    simp only [List.mem_cons, List.mem_nil_iff, or_false]
    omega
  · rw [decide_eq_false h, decide_eq_false]
    simp only [List.mem_cons, List.mem_nil_iff, or_false]
    omega
theorem allB_map {α : Type} (g : α → Bool) : ∀ l : List α, Eng.allB (l.map fun x => PV.bl (g x)) = some (l.map g)
  | [] => rfl
  | x :: l => by rw [List.map_cons, Eng.allB, allB_map g l]; rfl
def oP : Option Nat → PV
  | none => .non
  | some n => .int n
/-- signs as texts -/
def sgn (c : Nat) : PV := .str (sT [c])
def fD : PV → PV
  | .str s => .bl (isDg (tl s))
  | _ => .non
theorem all_dg {Φ : Nat → List PV → CO} (d : List Nat) (hl : d.length ≤ 1000) : evE E Φ (.cmpr (.cmp .In (.var 1) (.glb "FIGURES")) (.nm 1) .val [.var 0] [] [1]) [.val (.str (sT d)), .none] = .ok (.fresh (.lst (d.map fun c => .bl (decide (48 ≤ c ∧ c ≤ 57))))) [.val (.str (sT d)), .none] := by
  have h := ev_map (E := E) (Φ := Φ) (elt := .cmp .In (.var 1) (.glb "FIGURES")) (tg := .nm 1) (sk := .val) (its := [.var 0]) (cond := []) (own := [1]) (ε := [.val (.str (sT d)), .none]) (ε1 := [.val (.str (sT d)), .none]) (ε2 := [.val (.str (sT d)), .none]) (rs := [.val (.str (sT d))]) (r := .val (.str (sT d))) (ps := d.map sgn) fD (by simp) (by simp [sgn, sT]) (by simp) (by simp) (fun p hp => by
    obtain ⟨c, _, rfl⟩ := List.mem_map.mp hp
    refine ⟨[.val (.str (sT d)), .val (sgn c)], ?_, ?_⟩
    · have := in_fig c
      simp [g_fig, sgn, this, fD, isDg]
    · simp [sgn]) (by rw [List.length_map, size_line]; omega)
  rw [h, List.map_map]
  have : (fD ∘ sgn) = fun c => PV.bl (decide (48 ≤ c ∧ c ≤ 57)) := by
    funext c
    simp [fD, sgn, isDg]
  rw [this]
  rfl
theorem allD (d : List Nat) : (d.map fun c => decide (48 ≤ c ∧ c ≤ 57)).all id = isDg d := by
  rw [List.all_map]
  rfl
theorem all_dgT {Φ : Nat → List PV → CO} (d : List Nat) (hl : d.length ≤ 1000) : evT E Φ (.blt .all [.cmpr (.cmp .In (.var 1) (.glb "FIGURES")) (.nm 1) .val [.var 0] [] [1]]) [.val (.str (sT d)), .none] = .ok (isDg d) [.val (.str (sT d)), .none] := by
  rw [evT, evA, all_dg d hl]
  simp only [Out.bind, evA, Rv.opd, peekL, Rv.peek, opBlt, allB_map, Option.map_some, allD, lift, Option.bind_some, truth]
theorem call_read_digits (k : Nat) (d : List Nat) (hl : d.length ≤ 1000) : callF E (k + 1) 4 [.str (sT d)] = .ok (oP (dval d)) false [] := by
  rw [call_top fx_read_digits]
  have hD := all_dgT (Φ := callF E k) d hl
  have hsz : d.length ≤ 16777216 := by omega
  by_cases h : 1 ≤ d.length ∧ d.length ≤ 30
  · have c1 : (1 : Int) ≤ d.length := by omega
    have c2 : (d.length : Int) ≤ 30 := by omega
    have c2' : d.length ≤ 640 := by omega
    by_cases c3 : isDg d = true
    · have hd := intText_digits (x := sT d) (isDg_all c3) (by intro e; simp at e; rw [e] at h; simp at h) (by simp; omega)
      obtain ⟨c, hcr⟩ : ∃ c, d[0]? = some c := ⟨d[0], List.getElem?_eq_getElem _⟩
      have hc : c < 0x110000 := by
        have := isDg_all c3 c (List.mem_of_getElem? hcr)
        omega
      have hz := eqp_sT (a := [c]) (b := [48])
      have hh : d.head? = some c := by rw [List.head?_eq_getElem?]; exact hcr
      by_cases c4 : 1 < d.length
      · have c4' : (1 : Int) < d.length := by omega
        by_cases c5 : c = 48
        · rw [c5] at hz hcr hh
          have : dval d = none := by
            unfold dval
            rw [if_neg]
            rintro ⟨_, _, _, h⟩
            rw [hh] at h
            rcases h with h | h
            · omega
            · exact h rfl
          rw [this]
          simp [f_read_digits, ↓hD, hsz, g_most, c1, c2, c3, c4', hcr, sign_eq, hz, oP]
        · have : dval d = some (digitsVal d) := by
            unfold dval
            rw [if_pos ⟨h.1, h.2, c3, .inr (by rw [hh]; simpa using c5)⟩]
          rw [this]
          simp [f_read_digits, ↓hD, hsz, g_most, c1, c2, c2', c3, c4', hcr, sign_eq, hz, c5, oP, hd]
      · have c4' : ¬ (1 : Int) < d.length := by omega
        have : dval d = some (digitsVal d) := by
            unfold dval
            rw [if_pos ⟨h.1, h.2, c3, .inl (by omega)⟩]
        rw [this]
        simp [f_read_digits, ↓hD, hsz, g_most, c1, c2, c2', c3, c4', oP, hd]
    · have : dval d = none := by
        unfold dval
        rw [if_neg fun z => c3 z.2.2.1]
      rw [this]
      simp [f_read_digits, ↓hD, hsz, g_most, c1, c2, c3, oP]
  · have : dval d = none := by
      unfold dval
      rw [if_neg fun z => h ⟨z.1, z.2.1⟩]
    rw [this]
    by_cases c1 : (1 : Int) ≤ d.length
    · have c2 : ¬ (d.length : Int) ≤ 30 := by omega
      simp [f_read_digits, hsz, g_most, c1, c2, oP]
    · simp [f_read_digits, hsz, g_most, c1, oP]
theorem call_write (k : Nat) {p q : Int} (sp : Sm 200 p) (sq : Sm 200 q) : callF E (k + 1) 3 [.tup [.int p, .int q]] = .ok (.str (sT (txt p q))) false [] := by
  rw [call_top fx_write_ratio]
  have h1 := sp.log
  have h2 := sq.log
  have h3 := iL_len sp
  have h4 := iL_len sq
  have l1 : p.natAbs.log2 < 1920 := by omega
  have l2 : q.natAbs.log2 < 1920 := by omega
  have l3 : (iL p).length ≤ 16777215 := by omega
  have l4 : (iL p).length + 1 + (iL q).length ≤ 16777216 := by omega
  by_cases h : q = 1
  · simp [f_write_ratio, h, l1, strI_eq, txt]
  · simp [f_write_ratio, h, l1, l2, strI_eq, l3, l4, txt]
theorem call_isr (k : Nat) (p q : Int) : callF E (k + 2) 2 [.tup [.int p, .int q]] = .ok (.bl (decide (1 ≤ q ∧ Int.gcd p q = 1))) false [] := by
  rw [call_top fx_is_ratio]
  have h2 : (p.gcd q : Int) = 1 ↔ p.gcd q = 1 := by omega
  by_cases h1 : 1 ≤ q
  · simp [f_is_ratio, call_isint d_int, h1, gcd_cm]
    exact h2
  · simp [f_is_ratio, call_isint d_int, h1]
end K01

namespace K01
open PySem PySem.Spec L2 Eng Rt TL NumText
open PyProof.Rows hiding St
/-! ### read_ratio -/
def oD : Option Nat → PyData
  | none => .none
  | some n => .int n
theorem toDL_oP : ∀ xs : List (Option Nat), toDL (xs.map oP) = some (xs.map oD)
  | [] => rfl
  | none :: xs => by rw [List.map_cons, toDL, toDL_oP xs]; rfl
  | some n :: xs => by rw [List.map_cons, toDL, toDL_oP xs]; rfl
theorem lay_oD : ∀ xs : List (Option Nat), PyData.canLayAll0 (xs.map oD) = true ∧ PyData.depthAll (xs.map oD) = 0
  | [] => by simp [PyData.canLayAll0, PyData.depthAll]
  | none :: xs => by simp [PyData.canLayAll0, PyData.depthAll, oD, PyData.canLay0, PyData.depth, lay_oD xs]
  | some n :: xs => by simp [PyData.canLayAll0, PyData.depthAll, oD, PyData.canLay0, PyData.depth, lay_oD xs]
theorem any_oD : ∀ xs : List (Option Nat), ((xs.map oD).any fun z => PyData.eqv z .none) = xs.any Option.isNone
  | [] => rfl
  | none :: xs => by simp [oD, PyData.eqv]
  | some n :: xs => by
    rw [List.map_cons, List.any_cons, any_oD xs, List.any_cons]
    simp [oD, PyData.eqv]
theorem in_oP (xs : List (Option Nat)) : opIn .non (.lst (xs.map oP)) = some (xs.any Option.isNone) := by
  show (match toD .non, toDL (xs.map oP) with
    | some d, some ds => if SeqAt.shaped d = true ∧ SeqAt.shaped (.list ds) = true then some (ds.any fun z => PyData.eqv z d) else none
    | _, _ => none) = _
  rw [toDL_oP]
  have h := lay_oD xs
  show (if SeqAt.shaped .none = true ∧ SeqAt.shaped (.list (xs.map oD)) = true then some ((xs.map oD).any fun z => PyData.eqv z .none) else none) = _
  rw [if_pos, any_oD]
  constructor
  · unfold SeqAt.shaped
    simp [PyData.canLay0, PyData.depth]
  · unfold SeqAt.shaped
    simp [PyData.canLay0, PyData.depth, h]
theorem spl_mem (l : List Nat) : ∀ acc p, p ∈ spl [47] 0 acc l → p.length ≤ acc.length + l.length := by
  induction l with
  | nil => intro acc p hp; rw [spl_nil] at hp; simp at hp; subst hp; simp
  | cons c r ih =>
    intro acc p hp
    by_cases h : pre [47] (c :: r) = true
    · rw [spl_hit h] at hp
      rcases List.mem_cons.mp hp with rfl | hp
      · simp
      · have := ih [] p hp
        simp at this
        simp
        omega
    · rw [spl_miss (Bool.not_eq_true _ ▸ h)] at hp
      have := ih _ p hp
      simp at this
      simp
      omega
theorem spl_cnt (l : List Nat) : ∀ acc, (spl [47] 0 acc l).length ≤ 1 + l.length := by
  induction l with
  | nil => intro acc; rw [spl_nil]; simp
  | cons c r ih =>
    intro acc
    by_cases h : pre [47] (c :: r) = true
    · rw [spl_hit h]
      have := ih []
      simp
      omega
    · rw [spl_miss (Bool.not_eq_true _ ▸ h)]
      have := ih (acc ++ [c])
      simp
      omega
theorem bod_len (d : List Nat) : (bod d).length ≤ d.length := by
  unfold bod
  split
  · simp
  · exact Nat.le_refl _
def ps (d : List Nat) : List (List Nat) := spl [47] 0 [] (bod d)
theorem ps_len {d x : List Nat} (h : x ∈ ps d) : x.length ≤ d.length := by
  have := spl_mem _ _ _ h
  have := bod_len d
  simp at *
  omega
theorem ps_cnt (d : List Nat) : (ps d).length ≤ 1 + d.length := by
  have := spl_cnt (bod d) []
  have := bod_len d
  unfold ps
  omega
/-- a part as a text -/
def pT (x : List Nat) : PV := .str (sT x)
def fR : PV → PV
  | .str s => oP (dval (tl s))
  | _ => .non
theorem is_ng (d : List Nat) : eqPV (.str (sT (d.take 1))) (.str (sT [45])) = some (ng d) := by
  rw [eqp_sT]
  congr 1
  rw [Bool.eq_iff_iff]
  simp [ng]
theorem call_read_ratio (k : Nat) (d : List Nat) (hl : d.length ≤ 1000) : callF E (k + 3) 5 [.str (sT d)] = Rz.co (match due d with | some (p, q) => .val (.tup [.int p, .int q]) | none => .exc 0) := by
  have hsz : d.length ≤ 16777216 := by omega
  refine call_ends [.val (.str (sT d)), .none, .none, .none, .none, .none] fx_read_ratio ⟨rfl, rfl, by decide⟩ rfl rfl ?_
  have hn := is_ng d
  refine Ends.step [.val (.str (sT d)), .val (.bl (ng d)), .none, .none, .none, .none] (by
    simp [opSlc, evO, hsz, cut_hd, hn]) ?_
  refine Ends.step [.val (.str (sT d)), .val (.bl (ng d)), .own true (.lst ((ps d).map pT)), .none, .none, .none] (by
    have h1 : d.length - 1 ≤ 16777214 := by omega
    have h2 : d.length ≤ 16777214 := by omega
    have sp := split_sT (c := 47) (by decide) (bod d)
    unfold ps pT
    by_cases h : ng d = true
    · have hb : bod d = d.drop 1 := by unfold bod; rw [if_pos h]
      rw [hb] at sp ⊢
      rw [List.drop_one] at sp ⊢
      simp [opSlc, evO, hsz, cut_tl, h, sp, h1]
    · have hb : bod d = d := by unfold bod; rw [if_neg h]
      rw [hb] at sp ⊢
      simp [h, sp, h2]) ?_
  refine Ends.step [.val (.str (sT d)), .val (.bl (ng d)), .own true (.lst ((ps d).map pT)), .own true (.lst (((ps d).map dval).map oP)), .none, .none] (by
    have h := ev_map (E := E) (Φ := callF E (k + 2)) (elt := .call 4 [.var 5]) (tg := .nm 5) (sk := .val) (its := [.var 2]) (cond := []) (own := [5]) (ε := [.val (.str (sT d)), .val (.bl (ng d)), .own true (.lst ((ps d).map pT)), .none, .none, .none]) (ε1 := [.val (.str (sT d)), .val (.bl (ng d)), .own true (.lst ((ps d).map pT)), .none, .none, .none]) (ε2 := [.val (.str (sT d)), .val (.bl (ng d)), .own true (.lst ((ps d).map pT)), .none, .none, .none]) (rs := [.own 2]) (r := .own 2) (ps := (ps d).map pT) fR (by simp) (by simp) (by simp) (by simp) (fun p hp => by
      obtain ⟨x, hx, rfl⟩ := List.mem_map.mp hp
      have hx := ps_len hx
      have := call_read_digits (k + 1) x (by omega)
      refine ⟨[.val (.str (sT d)), .val (.bl (ng d)), .own true (.lst ((ps d).map pT)), .none, .none, .val (pT x)], ?_, ?_⟩
      · simp [pT, this, fR]
      · simp [pT]) (by have := ps_cnt d; rw [List.length_map, size_line]; omega)
    have e : ((ps d).map pT).map fR = ((ps d).map dval).map oP := by
      rw [List.map_map, List.map_map]
      rfl
    rw [e] at h
    rw [exS, h]
    rfl) ?_
  have hin := in_oP ((ps d).map dval)
  by_cases h0 : 2 < (ps d).length ∨ ((ps d).map dval).any Option.isNone = true
  · have hd : due d = none := by
      unfold due
      show (match (ps d).map dval with
        | [some a] => if ng d = true ∧ a = 0 then none else some (sg (ng d) a, 1)
        | [some a, some b] => if b < 2 ∨ (ng d = true ∧ a = 0) ∨ Nat.gcd a b ≠ 1 then none else some (sg (ng d) a, (b : Int))
        | _ => none) = none
      rcases h0 with h0 | h0
      · have : 2 < ((ps d).map dval).length := by rw [List.length_map]; exact h0
        split
        · rename_i e; rw [e] at this; simp at this
        · rename_i e; rw [e] at this; simp at this
        · rfl
      · split
        · rename_i e; rw [e] at h0; simp at h0
        · rename_i e; rw [e] at h0; simp at h0
        · rfl
    rw [hd]
    refine Ends.exc [.val (.str (sT d)), .val (.bl (ng d)), .own true (.lst ((ps d).map pT)), .own true (.lst (((ps d).map dval).map oP)), .none, .none] ?_
    by_cases h2 : (2 : Int) < (ps d).length
    · simp [h2]
    · have h3 := h0.resolve_left (by omega)
      rw [h3] at hin
      rw [List.map_map] at hin
      simp [h2, hin]
  · have h2 : ¬ (2 : Int) < (ps d).length := fun z => h0 (.inl (by omega))
    have h3 : ((ps d).map dval).any Option.isNone = false := by
      cases h : ((ps d).map dval).any Option.isNone with
      | false => rfl
      | true => exact absurd (.inr h) h0
    rw [h3] at hin
    have hin' := hin
    rw [List.map_map] at hin'
    refine Ends.step [.val (.str (sT d)), .val (.bl (ng d)), .own true (.lst ((ps d).map pT)), .own true (.lst (((ps d).map dval).map oP)), .none, .none] (by simp [h2, hin']) ?_
    have hlen : ((ps d).map dval).length = (ps d).length := List.length_map ..
    have hne : ps d ≠ [] := (join_spl (bod d) []).2
    have hdue : due d = (match (ps d).map dval with
        | [some a] => if ng d = true ∧ a = 0 then none else some (sg (ng d) a, 1)
        | [some a, some b] => if b < 2 ∨ (ng d = true ∧ a = 0) ∨ Nat.gcd a b ≠ 1 then none else some (sg (ng d) a, (b : Int))
        | _ => none) := rfl
    have hsm : ∀ x ∈ (ps d).map dval, ∀ n, x = some n → n < 10 ^ 30 := fun x hx n e => by
      obtain ⟨y, _, rfl⟩ := List.mem_map.mp hx
      exact (dval_some e).2.1
    generalize hxs : (ps d).map dval = xs at *
    have h47 : xs.length = 2 → 47 ∈ d := fun h => by
      match hp : ps d with
      | [] => exact absurd hp hne
      | [_] => rw [hp] at hlen; simp at hlen; omega
      | x :: y :: r =>
        have h2 : r = [] := by
          rw [hp] at hlen
          simp at hlen
          exact List.eq_nil_of_length_eq_zero (by omega)
        subst h2
        have hb := spl_two hp
        have : 47 ∈ bod d := by rw [hb]; simp
        unfold bod at this
        split at this
        · exact List.mem_of_mem_drop this
        · exact this
    match xs, hlen, h3, hdue, hsm, h47 with
    | [], hlen, _, _, _, _ => exact absurd (List.eq_nil_of_length_eq_zero hlen.symm) hne
    | [none], _, h3, _, _, _ => simp at h3
    | none :: _ :: _, _, h3, _, _, _ => simp at h3
    | some _ :: none :: _, _, h3, _, _, _ => simp at h3
    | _ :: _ :: _ :: _, hlen, _, _, _, _ => simp at hlen; omega
    | [some a], hlen, _, hdue, hsm, _ =>
      have ha := hsm _ (by simp) a rfl
      have hl1 : ((ps d).length : Int) = 1 := by simp at hlen; omega
      have s1 : Sm 200 (sg (ng d) a) := by unfold Sm sg; split <;> omega
      refine Ends.step [.val (.str (sT d)), .val (.bl (ng d)), .own true (.lst ((ps d).map pT)), .own true (.lst [.int a]), .val (.tup [.int (sg (ng d) a), .int 1]), .none] (by
        cases hng : ng d <;> simp [oP, hl1, sg]) ?_
      have c1 := call_isr k (sg (ng d) a) 1
      have c2 := call_write (k + 1) s1 (q := 1) (by unfold Sm; decide)
      have eq1 := eqp_sT (a := txt (sg (ng d) a) 1) (b := d)
      by_cases hc : ng d = true ∧ a = 0
      · have hd : due d = none := by rw [hdue]; dsimp only; rw [if_pos hc]
        have ht : txt (sg (ng d) a) 1 ≠ d := by
          rw [hc.1, hc.2]
          intro e
          have e2 := ng_cons hc.1
          have e3 : txt (sg true 0) 1 = [48] := by decide +kernel
          rw [e3, e2] at e
          simp at e
        rw [hd]
        refine Ends.exc [.val (.str (sT d)), .val (.bl (ng d)), .own true (.lst ((ps d).map pT)), .own true (.lst [.int a]), .val (.tup [.int (sg (ng d) a), .int 1]), .none] ?_
        simp [c1, c2, eq1, ht]
      · have hd : due d = some (sg (ng d) a, 1) := by rw [hdue]; dsimp only; rw [if_neg hc]
        have ht := (due_is hd).2.2.2
        rw [ht] at c2 eq1
        rw [hd]
        refine Ends.step [.val (.str (sT d)), .val (.bl (ng d)), .own true (.lst ((ps d).map pT)), .own true (.lst [.int a]), .val (.tup [.int (sg (ng d) a), .int 1]), .none] (by
          simp [c1, c2, eq1]) ?_
        exact Ends.ret [.val (.str (sT d)), .val (.bl (ng d)), .own true (.lst ((ps d).map pT)), .own true (.lst [.int a]), .val (.tup [.int (sg (ng d) a), .int 1]), .none] (by simp)
    | [some a, some b], hlen, _, hdue, hsm, h47 =>
      have ha := hsm _ (by simp) a rfl
      have hb := hsm _ (by simp) b rfl
      have hl1 : ((ps d).length : Int) = 2 := by simp at hlen; omega
      have s1 : Sm 200 (sg (ng d) a) := by unfold Sm sg; split <;> omega
      have s2 : Sm 200 (b : Int) := by unfold Sm; omega
      refine Ends.step [.val (.str (sT d)), .val (.bl (ng d)), .own true (.lst ((ps d).map pT)), .own true (.lst [.int a, .int b]), .val (.tup [.int (sg (ng d) a), .int b]), .none] (by
        cases hng : ng d <;> simp [oP, hl1, sg]) ?_
      have c1 := call_isr k (sg (ng d) a) b
      have c2 := call_write (k + 1) s1 s2
      have hg : Int.gcd (sg (ng d) a) b = Nat.gcd a b := by
        unfold sg
        split
        · rw [Int.neg_gcd]; rfl
        · rfl
      rw [hg] at c1
      have eq1 := eqp_sT (a := txt (sg (ng d) a) b) (b := d)
      by_cases hc : b < 2 ∨ (ng d = true ∧ a = 0) ∨ Nat.gcd a b ≠ 1
      · have hd : due d = none := by rw [hdue]; dsimp only; rw [if_pos hc]
        rw [hd]
        refine Ends.exc [.val (.str (sT d)), .val (.bl (ng d)), .own true (.lst ((ps d).map pT)), .own true (.lst [.int a, .int b]), .val (.tup [.int (sg (ng d) a), .int b]), .none] ?_
        by_cases hr : (1 : Int) ≤ b ∧ Nat.gcd a b = 1
        · have hb2 : b < 2 := by
            rcases hc with h | ⟨_, h⟩ | h
            · exact h
            · rw [h] at hr
              have : Nat.gcd 0 b = b := Nat.gcd_zero_left b
              omega
            · exact absurd hr.2 h
          have hb1 : b = 1 := by omega
          have ht : txt (sg (ng d) a) b ≠ d := fun e => by
            have m := h47 rfl
            rw [← e, hb1] at m
            unfold txt at m
            have e1 : ((1 : Nat) : Int) = 1 := rfl
            rw [e1, if_pos rfl] at m
            unfold iL at m
            split at m
            · rcases List.mem_cons.mp m with m | m
              · omega
              · exact free47 _ m
            · exact free47 _ m
          simp [c1, c2, eq1, ht, hr]
        · rw [decide_eq_false hr] at c1
          simp [c1]
      · have hd : due d = some (sg (ng d) a, (b : Int)) := by rw [hdue]; dsimp only; rw [if_neg hc]
        obtain ⟨hr, _, _, ht⟩ := due_is hd
        rw [ht] at c2 eq1
        rw [hd]
        have hr2 : (1 : Int) ≤ b ∧ Nat.gcd a b = 1 := ⟨hr.pos, by rw [← hg]; exact hr.co⟩
        rw [decide_eq_true hr2] at c1
        refine Ends.step [.val (.str (sT d)), .val (.bl (ng d)), .own true (.lst ((ps d).map pT)), .own true (.lst [.int a, .int b]), .val (.tup [.int (sg (ng d) a), .int b]), .none] (by
          simp [c1, c2, eq1]) ?_
        exact Ends.ret [.val (.str (sT d)), .val (.bl (ng d)), .own true (.lst ((ps d).map pT)), .own true (.lst [.int a, .int b]), .val (.tup [.int (sg (ng d) a), .int b]), .none] (by simp)
end K01

namespace K01
open PySem PySem.Spec L2 Eng Rt TL NumText
open PyProof.Rows hiding St
@[simp] theorem l_none : ("none" : Str) = sT [110, 111, 110, 101] := by apply ext_tl; decide +kernel
theorem call_text (k : Nat) {p q : Int} (sp : Sm 200 p) (sq : Sm 200 q) : callF E (k + 1) 9 [.tup [.int p, .int q]] = .ok (.str (sT (txt p q))) false [] := by
  rw [call_top fx__law_text]
  have h1 := sp.log
  have h2 := sq.log
  have h3 := iL_len sp
  have h4 := iL_len sq
  have l1 : p.natAbs.log2 < 1920 := by omega
  have l2 : q.natAbs.log2 < 1920 := by omega
  have l3 : (iL p).length ≤ 16777215 := by omega
  have l4 : (iL p).length + 1 + (iL q).length ≤ 16777216 := by omega
  by_cases h : q = 1
  · subst h
    have z : Nat.log2 1 < 1920 := by decide
    have z2 : (iL p).length + 1 + (iL 1).length ≤ 16777216 := by omega
    simp [f__law_text, l1, z, strI_eq, l3, z2, txt]
  · simp [f__law_text, h, l1, l2, strI_eq, l3, l4, txt]
/-- what is told of a text -/
def tv (d : List Nat) : PV := match due d with
  | some (p, q) => .tup [.int p, .int q]
  | none => .str (sT [110, 111, 110, 101])
theorem call_told (k : Nat) (d : List Nat) (hl : d.length ≤ 1000) : callF E (k + 4) 10 [.str (sT d)] = .ok (tv d) false [] := by
  have h := call_read_ratio k d hl
  rw [call_top fx__law_told]
  unfold tv
  cases hd : due d with
  | none =>
    rw [hd] at h
    simp only [Rz.co] at h
    simp [f__law_told, h, es, sb]
  | some q =>
    rw [hd] at h
    simp only [Rz.co] at h
    simp [f__law_told, h]
def nD (c : Nat) : Bool := !decide (48 ≤ c ∧ c ≤ 57)
def fN : PV → Option PV
  | .str s => if isDg (tl s) = true then none else some (.str s)
  | _ => none
theorem ev_nd {Φ : Nat → List PV → CO} (d : List Nat) (hl : d.length ≤ 1000) : evE E Φ (.cmpr (.var 1) (.nm 1) .val [.var 0] [.cmp .NotIn (.var 1) (.cst (.str "0123456789"))] [1]) [.val (.str (sT d)), .none] = .ok (.fresh (.lst ((d.filter nD).map sgn))) [.val (.str (sT d)), .none] := by
  have h := ev_fm (E := E) (Φ := Φ) (elt := .var 1) (tg := .nm 1) (sk := .val) (its := [.var 0]) (cond := [.cmp .NotIn (.var 1) (.cst (.str "0123456789"))]) (own := [1]) (ε := [.val (.str (sT d)), .none]) (ε1 := [.val (.str (sT d)), .none]) (ε2 := [.val (.str (sT d)), .none]) (rs := [.val (.str (sT d))]) (r := .val (.str (sT d))) (ps := d.map sgn) fN (by simp) (by simp [sgn, sT]) (by simp) (by simp) (fun p hp => by
    obtain ⟨c, _, rfl⟩ := List.mem_map.mp hp
    refine ⟨[.val (.str (sT d)), .val (sgn c)], ?_, ?_⟩
    · have := in_fig c
      rw [← l_fig] at this
      by_cases hc : 48 ≤ c ∧ c ≤ 57
      · rw [decide_eq_true hc] at this
        simp [sgn, this, fN, isDg, hc]
      · rw [decide_eq_false hc] at this
        have hc' : 48 ≤ c → 57 < c := by omega
        simp [sgn, this, fN, isDg]
        omega
    · simp [sgn]) (by rw [List.length_map, size_line]; omega)
  rw [h]
  have e : (d.map sgn).filterMap fN = (d.filter nD).map sgn := by
    clear h hl
    induction d with
    | nil => rfl
    | cons c r ih =>
      rw [List.map_cons, List.filterMap_cons, List.filter_cons, ih]
      by_cases hc : 48 ≤ c ∧ c ≤ 57
      · have h1 : fN (sgn c) = none := by simp [fN, sgn, isDg, hc]
        have h2 : nD c = false := by simp [nD, hc]
        rw [h1, h2]
        rfl
      · have h1 : fN (sgn c) = some (sgn c) := by
          simp only [fN, sgn, sT_l, isDg, List.all_cons, List.all_nil, Bool.and_true, decide_eq_true_eq, if_neg hc]
        have h2 : nD c = true := by simp only [nD, decide_eq_false hc]; rfl
        rw [h1, h2]
        rfl
  rw [e]
  rfl
theorem toDL_sgn : ∀ l : List Nat, toDL (l.map sgn) = some (l.map fun c => .str (sT [c]))
  | [] => rfl
  | c :: l => by rw [List.map_cons, toDL, toDL_sgn l]; rfl
theorem lay_sgn : ∀ {l : List Nat}, okD l → PyData.canLayAll0 (l.map fun c => PyData.str (sT [c])) = true ∧ PyData.depthAll (l.map fun c => PyData.str (sT [c])) = 0
  | [], _ => by simp [PyData.canLayAll0, PyData.depthAll]
  | c :: l, h => by
    have := lay_sgn (l := l) fun x hx => h x (by simp [hx])
    have hc := h c (by simp)
    simp [PyData.canLayAll0, PyData.depthAll, PyData.canLay0, PyData.strOk, PyData.depth, sT, hc]
    simpa [sT] using this
theorem nil_sgn {l : List Nat} (h : okD l) : eqPV (.lst (l.map sgn)) (.lst []) = some l.isEmpty := by
  have hl := lay_sgn h
  have := eqPV_D (p := .lst (l.map sgn)) (q := .lst []) (d := .list (l.map fun c => .str (sT [c]))) (e := .list []) (by rw [toD, toDL_sgn]; rfl) rfl (by
    unfold SeqAt.shaped
    simp [PyData.canLay0, PyData.depth, hl]) (by
    unfold SeqAt.shaped
    simp [PyData.canLay0, PyData.depth, PyData.canLayAll0, PyData.depthAll])
  rw [this]
  cases l <;> simp [PyData.eqv, PyData.eqvAll]
theorem nd_empty (d : List Nat) : (d.filter nD).isEmpty = isDg d := by
  rw [Bool.eq_iff_iff, List.isEmpty_iff, List.filter_eq_nil_iff]
  unfold isDg
  rw [List.all_eq_true]
  unfold nD
  simp
theorem call_part (k : Nat) (d : List Nat) (hl : d.length ≤ 1000) (ok : okD d) : callF E (k + 1) 11 [.str (sT d)] = .ok (oP (dval d)) false [] := by
  rw [call_top fx__law_part]
  have hD := ev_nd (Φ := callF E k) d hl
  have hN := nil_sgn (l := d.filter nD) fun c hc => ok c (List.mem_filter.mp hc).1
  rw [nd_empty] at hN
  have hsz : d.length ≤ 16777216 := by omega
  by_cases h0 : d = []
  · subst h0
    simp [f__law_part, dval, oP]
  have hlen : 1 ≤ d.length := List.length_pos_iff.mpr h0
  by_cases h : d.length ≤ 30
  · have c2 : ¬ (30 : Int) < d.length := by omega
    have c2' : d.length ≤ 640 := by omega
    by_cases c3 : isDg d = true
    · have hd := intText_digits (x := sT d) (isDg_all c3) (by simpa using h0) (by simp; omega)
      obtain ⟨c, hcr⟩ : ∃ c, d[0]? = some c := ⟨d[0], List.getElem?_eq_getElem _⟩
      have hz := eqp_sT (a := [c]) (b := [48])
      have hh : d.head? = some c := by rw [List.head?_eq_getElem?]; exact hcr
      rw [c3] at hN
      by_cases c5 : c = 48
      · rw [c5] at hz hcr hh
        by_cases c4 : d = [48]
        · subst c4
          have : dval [48] = some 0 := by decide +kernel
          rw [this]
          simp [f__law_part, ↓hD, hN, hz, sign_eq, oP, hd, digitsVal]
        · have : dval d = none := by
            unfold dval
            rw [if_neg]
            rintro ⟨_, _, _, h⟩
            rcases h with h | h
            · refine c4 ?_
              match d, h, hh with
              | [x], _, hh => simp at hh; rw [hh]
            · exact h hh
          rw [this]
          simp [f__law_part, ↓hD, hsz, h0, c2, hN, hcr, sign_eq, hz, c4, oP]
      · have : dval d = some (digitsVal d) := by
          unfold dval
          rw [if_pos ⟨hlen, h, c3, .inr (by rw [hh]; simpa using c5)⟩]
        rw [this]
        simp [f__law_part, ↓hD, hsz, h0, c2, c2', hN, hcr, sign_eq, hz, c5, oP, hd]
    · have c3' : isDg d = false := by cases h : isDg d with
        | false => rfl
        | true => exact absurd h c3
      have : dval d = none := by
        unfold dval
        rw [if_neg fun z => c3 z.2.2.1]
      rw [c3'] at hN
      rw [this]
      simp [f__law_part, ↓hD, hsz, h0, c2, hN, oP]
  · have c2 : (30 : Int) < d.length := by omega
    have : dval d = none := by
      unfold dval
      rw [if_neg fun z => h z.2.1]
    rw [this]
    simp [f__law_part, hsz, h0, c2, oP]
end K01

namespace K01
open PySem PySem.Spec L2 Eng Rt TL NumText
open PyProof.Rows hiding St
theorem ps_ok {d x : List Nat} (h : okD d) (hx : x ∈ ps d) : okD x := by
  have key : ∀ (l acc : List Nat), okD acc → okD l → ∀ p ∈ spl [47] 0 acc l, okD p := by
    intro l
    induction l with
    | nil => intro acc ha _ p hp; rw [spl_nil] at hp; simp at hp; subst hp; exact ha
    | cons c r ih =>
      intro acc ha hl p hp
      have hr : okD r := fun x hx => hl x (by simp [hx])
      have hc := hl c (by simp)
      by_cases h : pre [47] (c :: r) = true
      · rw [spl_hit h] at hp
        rcases List.mem_cons.mp hp with rfl | hp
        · exact ha
        · exact ih [] (fun _ h => by simp at h) hr p hp
      · rw [spl_miss (Bool.not_eq_true _ ▸ h)] at hp
        exact ih _ (okD_app ha (okD_cons hc fun _ h => by simp at h)) hr p hp
  refine key _ [] (fun _ h => by simp at h) ?_ x hx
  unfold bod
  split
  · exact okD_drop _ h
  · exact h
/-- behind the two numbers -/
theorem due_tail {k : Nat} (d r : List Nat) (hsz : d.length ≤ 16777216) (P : List PV) (a b : Nat) (ha : a < 10 ^ 30) (hb : b < 10 ^ 30) (two : Bool) (hP : decide ((P.length : Int) = 2) = two) :
    Ends E (callF E (k + 1)) [.ifs (.or [.and [.cmp .Eq (.blt .len [.var 2]) (.cst (.int 2)), .cmp .Lt (.var 5) (.cst (.int 2))], .and [.cmp .Eq (.slc (.var 0) none (some (.cst (.int 1)))) (.cst (.str "-")), .cmp .Eq (.var 4) (.cst (.int 0))]]) [.ret (.cst (.str "none"))] [],
    .for_ (.nm 3) .rng [.cst (.int 2), .cst (.int 40)] [.ifs (.and [.cmp .Eq (.bin .Mod (.var 4) (.var 3)) (.cst (.int 0)), .cmp .Eq (.bin .Mod (.var 5) (.var 3)) (.cst (.int 0)), .cmp .Eq (.blt .len [.var 2]) (.cst (.int 2))]) [.ret (.cst (.str "none"))] []],
    .ifs (.and [.cmp .Eq (.blt .len [.var 2]) (.cst (.int 2)), .cmp .NotEq (.call 0 [.var 4, .var 5]) (.tup [.var 4, .var 5])]) [.ret (.cst (.str "none"))] [],
    .ret (.tup [.sub (.lst [.var 4, .neg (.var 4)]) (.blt .int [.cmp .Eq (.slc (.var 0) none (some (.cst (.int 1)))) (.cst (.str "-"))]), .var 5])]
    [.val (.str (sT d)), .val (.str (sT r)), .own true (.lst P), .none, .val (.int a), .val (.int b), .none]
    (.val (if (two = true ∧ b < 2) ∨ (ng d = true ∧ a = 0) ∨ (two = true ∧ Nat.gcd a b ≠ 1) then .str (sT [110, 111, 110, 101]) else .tup [.int (sg (ng d) a), .int b])) := by
  have hn := is_ng d
  rw [eqp_sT] at hn
  have hn := Option.some.inj hn
  have hb2 : ((b : Int) < 2) = (b < 2) := by apply propext; omega
  have ha0 : ((a : Int) = 0) = (a = 0) := by apply propext; omega
  have hP2 : ((P.length : Int) = 2) ↔ two = true := by rw [← hP]; simp
  have hng : (d.take 1 = [45]) ↔ ng d = true := by rw [← hn]; simp
  have cut1 := cut_hd d 1 (by decide)
  have t1 : ((1 : Int).toNat) = 1 := rfl
  rw [t1] at cut1
  let ε : Slot → Sg := fun s => [.val (.str (sT d)), .val (.str (sT r)), .own true (.lst P), s, .val (.int a), .val (.int b), .none]
  by_cases c1 : (two = true ∧ b < 2) ∨ (ng d = true ∧ a = 0)
  · rw [if_pos (c1.elim .inl fun z => .inr (.inl z))]
    refine Ends.ret (ε .none) ?_
    by_cases h1 : two = true ∧ b < 2
    · have e1 := hP2.mpr h1.1
      have e2 : (b : Int) < 2 := by omega
      simp [ε, e1, e2]
    · have h2 := c1.resolve_left h1
      have e3 := hng.mpr h2.1
      by_cases h3 : two = true
      · have e1 := hP2.mpr h3
        have e2 : ¬ (b : Int) < 2 := fun z => h1 ⟨h3, by omega⟩
        simp [ε, e1, e2, opSlc, evO, hsz, cut1, e3, h2.2]
      · have e1 : ¬ (P.length : Int) = 2 := fun z => h3 (hP2.mp z)
        simp [ε, e1, opSlc, evO, hsz, cut1, e3, h2.2]
  · have c2 : ¬ (two = true ∧ b < 2) := fun z => c1 (.inl z)
    have c3 : ¬ (ng d = true ∧ a = 0) := fun z => c1 (.inr z)
    refine Ends.step (ε .none) ?_ ?_
    · have e4 : ∀ h : d.take 1 = [45], ¬ (a : Int) = 0 := fun h z => c3 ⟨hng.mp h, by omega⟩
      by_cases h3 : two = true
      · have e1 := hP2.mpr h3
        have e2 : ¬ (b : Int) < 2 := fun z => c2 ⟨h3, by omega⟩
        by_cases h5 : d.take 1 = [45]
        · have e5 := e4 h5
          simp [ε, e1, e2, opSlc, evO, hsz, cut1, h5]
          omega
        · simp [ε, e1, e2, opSlc, evO, hsz, cut1, h5]
      · have e1 : ¬ (P.length : Int) = 2 := fun z => h3 (hP2.mp z)
        by_cases h5 : d.take 1 = [45]
        · have e5 := e4 h5
          simp [ε, e1, opSlc, evO, hsz, cut1, h5]
          omega
        · simp [ε, e1, opSlc, evO, hsz, cut1, h5]
    · have loop : ∃ o, exS E (callF E (k + 1)) (.for_ (.nm 3) .rng [.cst (.int 2), .cst (.int 40)] [.ifs (.and [.cmp .Eq (.bin .Mod (.var 4) (.var 3)) (.cst (.int 0)), .cmp .Eq (.bin .Mod (.var 5) (.var 3)) (.cst (.int 0)), .cmp .Eq (.blt .len [.var 2]) (.cst (.int 2))]) [.ret (.cst (.str "none"))] []]) (ε .none) = o ∧ ((∃ s, Fs s ∧ o = .nx (ε s)) ∨ ((two = true ∧ Nat.gcd a b ≠ 1) ∧ ∃ s, o = .rt (.val (.str (sT [110, 111, 110, 101]))) (ε s))) := by
        refine ⟨_, rfl, ?_⟩
        have r2 : rgB 2 = true := by decide
        have r40 : rgB 40 = true := by decide
        rw [exS]
        simp only [evA, evE, Out.bind, Rv.opd, srcI, peekL, Rv.peek, r2, r40, and_self, if_true, walkOk]
        refine forI_wp (Q := fun o => (∃ s, Fs s ∧ o = .nx (ε s)) ∨ ((two = true ∧ Nat.gcd a b ≠ 1) ∧ ∃ s, o = .rt (.val (.str (sT [110, 111, 110, 101]))) (ε s))) (fun l e => (∃ s, Fs s ∧ e = ε s) ∧ ∀ p ∈ l, ∃ m : Nat, 2 ≤ m ∧ p = .int m) ⟨⟨.none, fs_none, rfl⟩, ?_⟩ ?_ ?_
        · intro p hp
          simp only [rngL, List.mem_map, List.mem_range] at hp
          obtain ⟨j, _, rfl⟩ := hp
          exact ⟨2 + j, by omega, by congr 1⟩
        · rintro p l _ ⟨⟨s, fs, rfl⟩, hl⟩
          obtain ⟨m, hm, rfl⟩ := hl p (by simp)
          have hl' : ∀ p ∈ l, ∃ m : Nat, 2 ≤ m ∧ p = .int m := fun p hp => hl p (by simp [hp])
          refine ⟨ε (.val (.int m)), ?_, ?_⟩
          · rcases fs with rfl | ⟨q, rfl⟩ <;> rfl
          · have m0 : ¬ (m : Int) = 0 := by omega
            by_cases h : (a : Int).fmod m = 0 ∧ (b : Int).fmod m = 0 ∧ (P.length : Int) = 2
            · have ev : exL E (callF E (k + 1)) [.ifs (.and [.cmp .Eq (.bin .Mod (.var 4) (.var 3)) (.cst (.int 0)), .cmp .Eq (.bin .Mod (.var 5) (.var 3)) (.cst (.int 0)), .cmp .Eq (.blt .len [.var 2]) (.cst (.int 2))]) [.ret (.cst (.str "none"))] []] (ε (.val (.int m))) = .rt (.val (.str (sT [110, 111, 110, 101]))) (ε (.val (.int m))) := by
                have hm0 : ¬ m = 0 := by omega
                simp [ε, hm0, h.1, h.2.1, h.2.2]
              rw [ev]
              refine .inr ⟨⟨hP2.mp h.2.2, fun hg => ?_⟩, _, rfl⟩
              have d1 : (m : Int) ∣ a := Int.dvd_of_fmod_eq_zero h.1
              have d2 : (m : Int) ∣ b := Int.dvd_of_fmod_eq_zero h.2.1
              have d3 : m ∣ Nat.gcd a b := Nat.dvd_gcd (Int.natCast_dvd_natCast.mp d1) (Int.natCast_dvd_natCast.mp d2)
              rw [hg] at d3
              have := Nat.le_of_dvd (by decide) d3
              omega
            · have ev : exL E (callF E (k + 1)) [.ifs (.and [.cmp .Eq (.bin .Mod (.var 4) (.var 3)) (.cst (.int 0)), .cmp .Eq (.bin .Mod (.var 5) (.var 3)) (.cst (.int 0)), .cmp .Eq (.blt .len [.var 2]) (.cst (.int 2))]) [.ret (.cst (.str "none"))] []] (ε (.val (.int m))) = .nx (ε (.val (.int m))) := by
                have hm0 : ¬ m = 0 := by omega
                by_cases h1 : (a : Int).fmod m = 0
                · by_cases h2 : (b : Int).fmod m = 0
                  · have h3 : ¬ (P.length : Int) = 2 := fun z => h ⟨h1, h2, z⟩
                    simp [ε, hm0, h1, h2, h3]
                  · simp [ε, hm0, h1, h2]
                · simp [ε, hm0, h1]
              rw [ev]
              exact ⟨rfl, ⟨_, fs_val _, rfl⟩, hl'⟩
        · rintro _ ⟨⟨s, fs, rfl⟩, _⟩
          exact .inl ⟨s, fs, rfl⟩
      obtain ⟨o, eo, ho⟩ := loop
      rcases ho with ⟨s, fs, rfl⟩ | ⟨hg, s, rfl⟩
      · refine Ends.step _ eo ?_
        have fin : Ends E (callF E (k + 1)) [.ret (.tup [.sub (.lst [.var 4, .neg (.var 4)]) (.blt .int [.cmp .Eq (.slc (.var 0) none (some (.cst (.int 1)))) (.cst (.str "-"))]), .var 5])] (ε s) (.val (.tup [.int (sg (ng d) a), .int b])) := by
          refine Ends.ret (ε s) ?_
          by_cases h5 : d.take 1 = [45]
          · have h6 := hng.mp h5
            simp [ε, opSlc, evO, hsz, cut1, h5, sg, h6]
          · have h6 : ng d = false := by
              cases h : ng d with
              | false => rfl
              | true => exact absurd (hng.mpr h) h5
            simp [ε, opSlc, evO, hsz, cut1, h5, sg, h6]
        by_cases h3 : two = true
        · have e1 := hP2.mpr h3
          have hb1 : ¬ b < 2 := fun z => c2 ⟨h3, z⟩
          have sb : Sm 200 (b : Int) := by unfold Sm; omega
          have hb0 : (b : Int) ≠ 0 := by omega
          have cr := call_ratio d_ratio k (a := a) (b := b) hb0 (sb.le (by decide))
          by_cases hg : Nat.gcd a b = 1
          · have hr := r_self (p := a) (q := b) ⟨by omega, hg⟩
            rw [hr.1, hr.2] at cr
            rw [if_neg (by
              rintro (z | z | z)
              · exact c2 z
              · exact c3 z
              · exact z.2 hg)]
            refine Ends.step (ε s) ?_ fin
            simp [ε, e1, cr]
          · rw [if_pos (.inr (.inr ⟨h3, hg⟩))]
            refine Ends.ret (ε s) ?_
            have hne : ¬ (rN a b = a ∧ rD a b = b) := fun z => by
              have h := r_is (a := a) hb0
              rw [z.1, z.2] at h
              exact hg h.co
            by_cases hx : rN a b = a
            · have hy : ¬ rD a b = b := fun z => hne ⟨hx, z⟩
              simp [ε, e1, cr, hx, hy]
            · simp [ε, e1, cr, hx]
        · have e1 : ¬ (P.length : Int) = 2 := fun z => h3 (hP2.mp z)
          rw [if_neg (by
            rintro (z | z | z)
            · exact c2 z
            · exact c3 z
            · exact h3 z.1)]
          refine Ends.step (ε s) ?_ fin
          simp [ε, e1]
      · rw [if_pos (.inr (.inr hg))]
        exact Ends.ret _ eo
/-- the law's own reading -/
theorem call_due (k : Nat) (d : List Nat) (hl : d.length ≤ 1000) (ok : okD d) : callF E (k + 2) 12 [.str (sT d)] = .ok (tv d) false [] := by
  have hsz : d.length ≤ 16777216 := by omega
  refine call_ends (z := .val (tv d)) [.val (.str (sT d)), .none, .none, .none, .none, .none, .none] fx__law_due ⟨rfl, rfl, by decide⟩ rfl rfl ?_
  have hn := is_ng d
  refine Ends.step [.val (.str (sT d)), .val (.str (sT d)), .none, .none, .none, .none, .none] (by simp) ?_
  refine Ends.step [.val (.str (sT d)), .val (.str (sT (bod d))), .none, .none, .none, .none, .none] (by
    cases h : ng d with
    | true =>
      have hb : bod d = d.drop 1 := by unfold bod; rw [if_pos h]
      rw [hb]
      rw [h] at hn
      rw [eqp_sT] at hn
      simp [opSlc, evO, hsz, cut_hd, cut_tl]
      simp at hn
      exact fun z => absurd hn z
    | false =>
      have hb : bod d = d := by unfold bod; rw [if_neg (by rw [h]; exact Bool.false_ne_true)]
      rw [hb]
      rw [h] at hn
      rw [eqp_sT] at hn
      simp [opSlc, evO, hsz, cut_hd, cut_tl]
      simp at hn
      exact fun z => absurd z hn) ?_
  have e2 : evE E (callF E (k + 1)) (.cmpr (.call 11 [.var 6]) (.nm 6) .val [.split (.var 1) (.cst (.str "/"))] [] [6]) [.val (.str (sT d)), .val (.str (sT (bod d))), .none, .none, .none, .none, .none] = .ok (.fresh (.lst (((ps d).map dval).map oP))) [.val (.str (sT d)), .val (.str (sT (bod d))), .none, .none, .none, .none, .none] := by
    have hb := bod_len d
    have sp := split_sT (c := 47) (by decide) (bod d)
    have hb2 : (bod d).length ≤ 16777214 := by omega
    have h := ev_map (E := E) (Φ := callF E (k + 1)) (elt := .call 11 [.var 6]) (tg := .nm 6) (sk := .val) (its := [.split (.var 1) (.cst (.str "/"))]) (cond := []) (own := [6]) (ε := [.val (.str (sT d)), .val (.str (sT (bod d))), .none, .none, .none, .none, .none]) (ε1 := [.val (.str (sT d)), .val (.str (sT (bod d))), .none, .none, .none, .none, .none]) (ε2 := [.val (.str (sT d)), .val (.str (sT (bod d))), .none, .none, .none, .none, .none]) (rs := [.val (.lst ((ps d).map pT))]) (r := .val (.lst ((ps d).map pT))) (ps := (ps d).map pT) fR (by
        simp [sp, hb2, ps, pT]) (by simp) (by simp) (by simp) (fun p hp => by
      obtain ⟨x, hx, rfl⟩ := List.mem_map.mp hp
      have hx1 := ps_len hx
      have := call_part k x (by omega) (ps_ok ok hx)
      refine ⟨[.val (.str (sT d)), .val (.str (sT (bod d))), .none, .none, .none, .none, .val (pT x)], ?_, ?_⟩
      · simp [pT, this, fR]
      · simp [pT]) (by have := ps_cnt d; rw [List.length_map, size_line]; omega)
    have e : ((ps d).map pT).map fR = ((ps d).map dval).map oP := by
      rw [List.map_map, List.map_map]
      rfl
    rw [e] at h
    exact h
  refine Ends.step [.val (.str (sT d)), .val (.str (sT (bod d))), .own true (.lst (((ps d).map dval).map oP)), .none, .none, .none, .none] (by
    rw [exS, e2]
    rfl) ?_
  have hin := in_oP ((ps d).map dval)
  have hlen : (((ps d).map dval).map oP).length = (ps d).length := by rw [List.length_map, List.length_map]
  have hdue : due d = (match (ps d).map dval with
        | [some a] => if ng d = true ∧ a = 0 then none else some (sg (ng d) a, 1)
        | [some a, some b] => if b < 2 ∨ (ng d = true ∧ a = 0) ∨ Nat.gcd a b ≠ 1 then none else some (sg (ng d) a, (b : Int))
        | _ => none) := rfl
  have hne : ps d ≠ [] := (join_spl (bod d) []).2
  have hsm : ∀ x ∈ (ps d).map dval, ∀ n, x = some n → n < 10 ^ 30 := fun x hx n e => by
    obtain ⟨y, _, rfl⟩ := List.mem_map.mp hx
    exact (dval_some e).2.1
  have hxn : ((ps d).map dval).length = (ps d).length := List.length_map ..
  generalize hxs : (ps d).map dval = xs at *
  have tnone : due d = none → tv d = .str (sT [110, 111, 110, 101]) := fun h => by unfold tv; rw [h]
  by_cases h0 : 2 < (ps d).length ∨ xs.any Option.isNone = true
  · have hd : due d = none := by
      rw [hdue]
      rcases h0 with h0 | h0
      · have : 2 < xs.length := by omega
        split
        · simp at this
        · simp at this
        · rfl
      · split
        · simp at h0
        · simp at h0
        · rfl
    rw [tnone hd]
    refine Ends.ret [.val (.str (sT d)), .val (.str (sT (bod d))), .own true (.lst (xs.map oP)), .none, .none, .none, .none] ?_
    by_cases h2 : (2 : Int) < xs.length
    · simp [h2]
    · have h3 := h0.resolve_left (by omega)
      rw [h3] at hin
      simp [h2, hin]
  · have h2 : ¬ (2 : Int) < xs.length := fun z => h0 (.inl (by omega))
    have h3 : xs.any Option.isNone = false := by
      cases h : xs.any Option.isNone with
      | false => rfl
      | true => exact absurd (.inr h) h0
    rw [h3] at hin
    refine Ends.step [.val (.str (sT d)), .val (.str (sT (bod d))), .own true (.lst (xs.map oP)), .none, .none, .none, .none] (by simp [h2, hin]) ?_
    match xs, hxn, h3, hdue, hsm with
    | [], hlen, _, _, _ => exact absurd (List.eq_nil_of_length_eq_zero hlen.symm) hne
    | [none], _, h3, _, _ => simp at h3
    | none :: _ :: _, _, h3, _, _ => simp at h3
    | some _ :: none :: _, _, h3, _, _ => simp at h3
    | _ :: _ :: _ :: _, hlen, _, _, _ => simp at hlen; omega
    | [some a], hlen, _, hdue, hsm =>
      have ha := hsm _ (by simp) a rfl
      refine Ends.step [.val (.str (sT d)), .val (.str (sT (bod d))), .own true (.lst [.int a]), .none, .val (.int a), .val (.int 1), .none] (by simp [oP, opSlc, evO, cutP_hd]) ?_
      have h := due_tail (k := k) d (bod d) hsz [.int a] a 1 ha (by decide) false (by simp)
      have e : (if (false = true ∧ 1 < 2) ∨ (ng d = true ∧ a = 0) ∨ (false = true ∧ Nat.gcd a 1 ≠ 1) then PV.str (sT [110, 111, 110, 101]) else .tup [.int (sg (ng d) a), .int ((1 : Nat) : Int)]) = tv d := by
        unfold tv
        rw [hdue]
        by_cases hc : ng d = true ∧ a = 0
        · rw [if_pos (.inr (.inl hc))]
          dsimp only
          rw [if_pos hc]
        · rw [if_neg (by
            rintro (z | z | z)
            · exact absurd z.1 (by decide)
            · exact hc z
            · exact absurd z.1 (by decide))]
          dsimp only
          rw [if_neg hc]
          rfl
      rw [e] at h
      exact h
    | [some a, some b], hlen, _, hdue, hsm =>
      have ha := hsm _ (by simp) a rfl
      have hb := hsm _ (by simp) b rfl
      refine Ends.step [.val (.str (sT d)), .val (.str (sT (bod d))), .own true (.lst [.int a, .int b]), .none, .val (.int a), .val (.int b), .none] (by simp [oP, opSlc, evO, cutP_hd]) ?_
      have h := due_tail (k := k) d (bod d) hsz [.int a, .int b] a b ha hb true (by simp)
      have e : (if (true = true ∧ b < 2) ∨ (ng d = true ∧ a = 0) ∨ (true = true ∧ Nat.gcd a b ≠ 1) then PV.str (sT [110, 111, 110, 101]) else .tup [.int (sg (ng d) a), .int b]) = tv d := by
        unfold tv
        rw [hdue]
        by_cases hc : b < 2 ∨ (ng d = true ∧ a = 0) ∨ Nat.gcd a b ≠ 1
        · rw [if_pos (by
            rcases hc with z | z | z
            · exact .inl ⟨rfl, z⟩
            · exact .inr (.inl z)
            · exact .inr (.inr ⟨rfl, z⟩))]
          dsimp only
          rw [if_pos hc]
        · rw [if_neg (by
            rintro (z | z | z)
            · exact hc (.inl z.2)
            · exact hc (.inr (.inl z))
            · exact hc (.inr (.inr z.2)))]
          dsimp only
          rw [if_neg hc]
      rw [e] at h
      exact h
end K01

namespace K01
open PySem PySem.Spec L2 Eng Rt TL NumText
open PyProof.Rows hiding St
/-! ### the law -/
theorem shp_tv (d : List Nat) : Shp 1 500 (tv d) := by
  unfold tv
  cases h : due d with
  | none => exact (shp_sT (n := 4) (okD_of (by decide)) (by decide)).le (by decide) (by decide)
  | some q =>
    obtain ⟨p, q⟩ := q
    obtain ⟨_, h2, h3, _⟩ := due_is h
    have s1 : Sm 100 p := by unfold Sm; omega
    have s2 : Sm 100 q := by unfold Sm; omega
    exact ((ShpL.cons (shp_int s1 (by decide)) (ShpL.cons (shp_int s2 (by decide)) (shp_nil.le (Nat.zero_le _) (Nat.le_refl _)))).tup).le (by decide) (by decide)
theorem repr_tv (d : List Nat) : opBlt .repr [tv d] = some (.val (.str (shw (tv d)))) := (shp_tv d).repr (by decide) (by decide)
def ε (scr : PV) (ds : List Int) (s2 s5 s6 s7 s8 s9 s10 : Slot) : Sg := [.val scr, .own true (.lst (ds.map .int)), s2, .none, .none, s5, s6, s7, s8, s9, s10, .none]
def inn : List IS := [.asg 9 (.call 7 [.var 1, .bin .Add (.blt .len [.var 6]) (.cst (.int 1))]),
    .asg 10 (.sub (.lst [.cst (.str "0"), .cst (.str "1"), .cst (.str "2"), .cst (.str "-"), .cst (.str "/"), .cst (.str " "), .cst (.str "+"), .cst (.str "3")]) (.call 7 [.var 1, .cst (.int 8)])),
    .asg 6 (.sub (.lst [.bin .Add (.bin .Add (.slc (.var 6) none (some (.var 9))) (.var 10)) (.slc (.var 6) (some (.var 9)) none), .bin .Add (.slc (.var 6) none (some (.var 9))) (.slc (.var 6) (some (.bin .Add (.var 9) (.cst (.int 1)))) none), .bin .Add (.bin .Add (.slc (.var 6) none (some (.var 9))) (.var 10)) (.slc (.var 6) (some (.bin .Add (.var 9) (.cst (.int 1)))) none)]) (.call 7 [.var 1, .cst (.int 3)])),
    .ifs (.cmp .NotEq (.blt .repr [.call 10 [.var 6]]) (.blt .repr [.call 12 [.var 6]])) [.ret (.cst (.bl false))] []]
theorem inner (scr : PV) (ds : List Int) (d : List Nat) (hl : d.length ≤ 900) (ok : okD d) (s2 s5 s7 s8 s9 s10 : Slot) (w9 : Wr s9) (w10 : Wr s10) : ∃ (ds' : List Int) (d' : List Nat) (v9 v10 : PV), ds'.length ≤ ds.length ∧ d'.length ≤ d.length + 1 ∧ okD d' ∧
    exL E (callF E 20) inn (ε scr ds s2 s5 (.val (.str (sT d))) s7 s8 s9 s10) = .nx (ε scr ds' s2 s5 (.val (.str (sT d'))) s7 s8 (.val v9) (.val v10)) := by
  have hsz : d.length ≤ 16777216 := by omega
  obtain ⟨v1, d1, a1, b1, l1, e1⟩ := call_take d_take (k := 19) ds (b := (d.length : Int) + 1) (by omega)
  obtain ⟨v2, d2, a2, b2, l2, e2⟩ := call_take d_take (k := 19) d1 (b := 8) (by decide)
  obtain ⟨v3, d3, a3, b3, l3, e3⟩ := call_take d_take (k := 19) d2 (b := 3) (by decide)
  have q1 : exS E (callF E 20) (.asg 9 (.call 7 [.var 1, .bin .Add (.blt .len [.var 6]) (.cst (.int 1))])) (ε scr ds s2 s5 (.val (.str (sT d))) s7 s8 s9 s10) = .nx (ε scr d1 s2 s5 (.val (.str (sT d))) s7 s8 (.val (.int v1)) s10) := by
    refine ex_val (ε1 := ε scr d1 s2 s5 (.val (.str (sT d))) s7 s8 s9 s10) ?_ rfl w9
    simp [ε, hsz, e1]
  obtain ⟨c, hc, q2⟩ : ∃ c, c < 256 ∧ exS E (callF E 20) (.asg 10 (.sub (.lst [.cst (.str "0"), .cst (.str "1"), .cst (.str "2"), .cst (.str "-"), .cst (.str "/"), .cst (.str " "), .cst (.str "+"), .cst (.str "3")]) (.call 7 [.var 1, .cst (.int 8)]))) (ε scr d1 s2 s5 (.val (.str (sT d))) s7 s8 (.val (.int v1)) s10) = .nx (ε scr d2 s2 s5 (.val (.str (sT d))) s7 s8 (.val (.int v1)) (.val (.str (sT [c])))) := by
    have hv : v2 = 0 ∨ v2 = 1 ∨ v2 = 2 ∨ v2 = 3 ∨ v2 = 4 ∨ v2 = 5 ∨ v2 = 6 ∨ v2 = 7 := by omega
    rcases hv with rfl | rfl | rfl | rfl | rfl | rfl | rfl | rfl
    · exact ⟨48, by decide, ex_val (ε1 := ε scr d2 s2 s5 (.val (.str (sT d))) s7 s8 (.val (.int v1)) s10) (by simp [ε, e2]) rfl w10⟩
    · exact ⟨49, by decide, ex_val (ε1 := ε scr d2 s2 s5 (.val (.str (sT d))) s7 s8 (.val (.int v1)) s10) (by simp [ε, e2]) rfl w10⟩
    · exact ⟨50, by decide, ex_val (ε1 := ε scr d2 s2 s5 (.val (.str (sT d))) s7 s8 (.val (.int v1)) s10) (by simp [ε, e2]) rfl w10⟩
    · exact ⟨45, by decide, ex_val (ε1 := ε scr d2 s2 s5 (.val (.str (sT d))) s7 s8 (.val (.int v1)) s10) (by simp [ε, e2]) rfl w10⟩
    · exact ⟨47, by decide, ex_val (ε1 := ε scr d2 s2 s5 (.val (.str (sT d))) s7 s8 (.val (.int v1)) s10) (by simp [ε, e2]) rfl w10⟩
    · exact ⟨32, by decide, ex_val (ε1 := ε scr d2 s2 s5 (.val (.str (sT d))) s7 s8 (.val (.int v1)) s10) (by simp [ε, e2]) rfl w10⟩
    · exact ⟨43, by decide, ex_val (ε1 := ε scr d2 s2 s5 (.val (.str (sT d))) s7 s8 (.val (.int v1)) s10) (by simp [ε, e2]) rfl w10⟩
    · exact ⟨51, by decide, ex_val (ε1 := ε scr d2 s2 s5 (.val (.str (sT d))) s7 s8 (.val (.int v1)) s10) (by simp [ε, e2]) rfl w10⟩
  obtain ⟨d', hd1, hd2, q3⟩ : ∃ d' : List Nat, d'.length ≤ d.length + 1 ∧ okD d' ∧ exS E (callF E 20) (.asg 6 (.sub (.lst [.bin .Add (.bin .Add (.slc (.var 6) none (some (.var 9))) (.var 10)) (.slc (.var 6) (some (.var 9)) none), .bin .Add (.slc (.var 6) none (some (.var 9))) (.slc (.var 6) (some (.bin .Add (.var 9) (.cst (.int 1)))) none), .bin .Add (.bin .Add (.slc (.var 6) none (some (.var 9))) (.var 10)) (.slc (.var 6) (some (.bin .Add (.var 9) (.cst (.int 1)))) none)]) (.call 7 [.var 1, .cst (.int 3)]))) (ε scr d2 s2 s5 (.val (.str (sT d))) s7 s8 (.val (.int v1)) (.val (.str (sT [c])))) = .nx (ε scr d3 s2 s5 (.val (.str (sT d'))) s7 s8 (.val (.int v1)) (.val (.str (sT [c])))) := by
    have c1 := cut_hd d v1 a1
    have c2 := cut_tl d v1 a1
    have c3 := cut_tl d (v1 + 1) (by omega)
    have o1 := okD_take v1.toNat ok
    have o2 := okD_drop v1.toNat ok
    have o3 := okD_drop (v1 + 1).toNat ok
    have oc : okD [c] := okD_cons (by omega) fun _ h => by simp at h
    have n1 : (d.take v1.toNat).length ≤ 900 := by rw [List.length_take]; omega
    have n2 : (d.drop v1.toNat).length + (d.take v1.toNat).length = d.length := by rw [List.length_drop, List.length_take]; omega
    have n3 : (d.drop (v1 + 1).toNat).length + (d.take v1.toNat).length ≤ d.length := by rw [List.length_drop, List.length_take]; omega
    generalize d.take v1.toNat = A at *
    generalize d.drop v1.toNat = B at *
    generalize d.drop (v1 + 1).toNat = C at *
    have m1 : A.length ≤ 16777215 := by omega
    have m2 : A.length + 1 + B.length ≤ 16777216 := by omega
    have m3 : A.length + C.length ≤ 16777216 := by omega
    have m4 : A.length + 1 + C.length ≤ 16777216 := by omega
    have hv : v3 = 0 ∨ v3 = 1 ∨ v3 = 2 := by omega
    rcases hv with rfl | rfl | rfl
    · exact ⟨A ++ [c] ++ B, by simp; omega, okD_app (okD_app o1 oc) o2, ex_val (ε1 := ε scr d3 s2 s5 (.val (.str (sT d))) s7 s8 (.val (.int v1)) (.val (.str (sT [c])))) (by simp [ε, e3, opSlc, evO, hsz, c1, c2, c3, m1, m2, m3, m4]) rfl (wr_val _)⟩
    · exact ⟨A ++ C, by simp; omega, okD_app o1 o3, ex_val (ε1 := ε scr d3 s2 s5 (.val (.str (sT d))) s7 s8 (.val (.int v1)) (.val (.str (sT [c])))) (by simp [ε, e3, opSlc, evO, hsz, c1, c2, c3, m1, m2, m3, m4]) rfl (wr_val _)⟩
    · exact ⟨A ++ [c] ++ C, by simp; omega, okD_app (okD_app o1 oc) o3, ex_val (ε1 := ε scr d3 s2 s5 (.val (.str (sT d))) s7 s8 (.val (.int v1)) (.val (.str (sT [c])))) (by simp [ε, e3, opSlc, evO, hsz, c1, c2, c3, m1, m2, m3, m4]) rfl (wr_val _)⟩
  have t1 : callF E 20 10 [.str (sT d')] = .ok (tv d') false [] := call_told 16 d' (by omega)
  have t2 : callF E 20 12 [.str (sT d')] = .ok (tv d') false [] := call_due 18 d' (by omega) hd2
  have t3 := repr_tv d'
  refine ⟨d3, d', .int v1, .str (sT [c]), by omega, hd1, hd2, ?_⟩
  rw [inn, exL_step q1, exL_step q2, exL_step q3]
  simp [ε, t1, t2, ↓t3]
theorem isint_bl (k : Nat) (b : Bool) : callF E (k + 1) 1 [.bl b] = .ok (.bl false) false [] := by
  rw [call_top fx_is_integer]
  simp [f_is_integer]
def bad (p q : Int) : List PV := [.tup [.int p, .int 0], .tup [.int (p * 2), .int (q * 2)], .tup [.int p, .int (-q)], .lst [.int p, .int q], .tup [.int p], .tup [.bl true, .int 1], .tup [.int 1, .bl true], .non, .str (sT [49]), .tup [.int p, .int q, .int 1]]
theorem bad_no (k : Nat) {p q : Int} (h : IsR p q) : ∀ x ∈ bad p q, callF E (k + 2) 2 [x] = .ok (.bl false) false [] := by
  have hp := h.pos
  intro x hx
  simp only [bad, List.mem_cons, List.mem_nil_iff, or_false] at hx
  rcases hx with rfl | rfl | rfl | rfl | rfl | rfl | rfl | rfl | rfl | rfl
  · rw [call_isr, decide_eq_false (by omega)]
  · rw [call_isr, decide_eq_false]
    rintro ⟨_, hg⟩
    rw [Int.gcd_mul_right] at hg
    simp at hg
    omega
  · rw [call_isr, decide_eq_false (by omega)]
  all_goals rw [call_top fx_is_ratio]
  · simp [f_is_ratio]
  · simp [f_is_ratio]
  · simp [f_is_ratio, call_isint d_int, isint_bl]
  · simp [f_is_ratio, call_isint d_int, isint_bl]
  · simp [f_is_ratio]
  · simp [f_is_ratio]
  · simp [f_is_ratio]
def trn : List IS := [.asg 5 (.call 8 [.var 1]),
    .asg 6 (.call 9 [.var 5]),
    .ifs (.or [.cmp .NotEq (.call 3 [.var 5]) (.var 6), .cmp .NotEq (.blt .repr [.call 10 [.var 6]]) (.blt .repr [.var 5]), .cmp .IsNot (.call 2 [.var 5]) (.cst (.bl true))]) [.ret (.cst (.bl false))] [],
    .for_ (.nm 7) .rng [.cst (.int 3)] inn,
    .asg 8 (.lst [.tup [.sub (.var 5) (.cst (.int 0)), .cst (.int 0)], .tup [.bin .Mult (.sub (.var 5) (.cst (.int 0))) (.cst (.int 2)), .bin .Mult (.sub (.var 5) (.cst (.int 1))) (.cst (.int 2))], .tup [.sub (.var 5) (.cst (.int 0)), .neg (.sub (.var 5) (.cst (.int 1)))], .lst [.sub (.var 5) (.cst (.int 0)), .sub (.var 5) (.cst (.int 1))], .tup [.sub (.var 5) (.cst (.int 0))], .tup [.cst (.bl true), .cst (.int 1)], .tup [.cst (.int 1), .cst (.bl true)], .cst .non, .cst (.str "1"), .tup [.sub (.var 5) (.cst (.int 0)), .sub (.var 5) (.cst (.int 1)), .cst (.int 1)]]),
    .ifs (.cmp .NotEq (.cmpr (.call 2 [.var 11]) (.nm 11) .val [.var 8] [] [11]) (.bin .Mult (.lst [.cst (.bl false)]) (.cst (.int 10)))) [.ret (.cst (.bl false))] []]
theorem shp_pq {p q : Int} (sp : Sm 61 p) (sq : Sm 61 q) : Shp 1 500 (.tup [.int p, .int q]) :=
  ((ShpL.cons (shp_int sp (by decide)) (ShpL.cons (shp_int sq (by decide)) (shp_nil.le (Nat.zero_le _) (Nat.le_refl _)))).tup).le (by decide) (by decide)
theorem turn (scr : PV) (ds : List Int) (s2 s5 s6 s7 s8 s9 s10 : Slot) (w5 : Wr s5) (w6 : Wr s6) (w7 : Wr s7) (w8 : Wr s8) (w9 : Wr s9) (w10 : Wr s10) : ∃ (ds' : List Int) (t5 t6 t7 t8 t9 t10 : Slot), ds'.length ≤ ds.length ∧ (Wr t5 ∧ Wr t6 ∧ Wr t7 ∧ Wr t8 ∧ Wr t9 ∧ Wr t10) ∧
    exL E (callF E 20) trn (ε scr ds s2 s5 s6 s7 s8 s9 s10) = .nx (ε scr ds' s2 t5 t6 t7 t8 t9 t10) := by
  obtain ⟨p, q, d1, hr, sp, sq, l1, e1⟩ := call_lratio 18 ds
  have e1 : callF E 20 8 [.lst (ds.map .int)] = .ok (.tup [.int p, .int q]) false [.lst (d1.map .int)] := e1
  have sp2 := sp.le (m := 200) (by decide)
  have sq2 := sq.le (m := 200) (by decide)
  have e2 : callF E 20 9 [.tup [.int p, .int q]] = .ok (.str (sT (txt p q))) false [] := call_text 19 sp2 sq2
  have q1 : exS E (callF E 20) (.asg 5 (.call 8 [.var 1])) (ε scr ds s2 s5 s6 s7 s8 s9 s10) = .nx (ε scr d1 s2 (.val (.tup [.int p, .int q])) s6 s7 s8 s9 s10) := by
    refine ex_val (ε1 := ε scr d1 s2 s5 s6 s7 s8 s9 s10) ?_ rfl w5
    simp [ε, e1]
  have q2 : exS E (callF E 20) (.asg 6 (.call 9 [.var 5])) (ε scr d1 s2 (.val (.tup [.int p, .int q])) s6 s7 s8 s9 s10) = .nx (ε scr d1 s2 (.val (.tup [.int p, .int q])) (.val (.str (sT (txt p q)))) s7 s8 s9 s10) := by
    refine ex_val (ε1 := ε scr d1 s2 (.val (.tup [.int p, .int q])) s6 s7 s8 s9 s10) ?_ rfl w6
    simp [ε, e2]
  have htl : (txt p q).length ≤ 200 := by
    have := iL_len sp
    have := iL_len sq
    unfold txt
    split
    · omega
    · simp; omega
  have hok : okD (txt p q) := by
    unfold txt
    split
    · exact okD_iL _
    · exact okD_app (okD_iL _) (okD_cons (by omega) (okD_iL _))
  have c1 : callF E 20 3 [.tup [.int p, .int q]] = .ok (.str (sT (txt p q))) false [] := call_write 19 sp2 sq2
  have c2 : callF E 20 10 [.str (sT (txt p q))] = .ok (.tup [.int p, .int q]) false [] := by
    have h := call_told 16 (txt p q) (by omega)
    unfold tv at h
    rw [due_txt hr (by unfold Sm at sp; omega) (by unfold Sm at sq; omega)] at h
    exact h
  have c3 : callF E 20 2 [.tup [.int p, .int q]] = .ok (.bl true) false [] := by
    have h := call_isr 18 p q
    rw [decide_eq_true ⟨hr.pos, hr.co⟩] at h
    exact h
  have c4 := (shp_pq sp sq).repr (by decide) (by decide)
  have q3 : exS E (callF E 20) (.ifs (.or [.cmp .NotEq (.call 3 [.var 5]) (.var 6), .cmp .NotEq (.blt .repr [.call 10 [.var 6]]) (.blt .repr [.var 5]), .cmp .IsNot (.call 2 [.var 5]) (.cst (.bl true))]) [.ret (.cst (.bl false))] []) (ε scr d1 s2 (.val (.tup [.int p, .int q])) (.val (.str (sT (txt p q)))) s7 s8 s9 s10) = .nx (ε scr d1 s2 (.val (.tup [.int p, .int q])) (.val (.str (sT (txt p q)))) s7 s8 s9 s10) := by
    simp [ε, c1, c2, c3, ↓c4]
  obtain ⟨d2, u6, u7, u9, u10, l2, ⟨x6, x7, x9, x10⟩, q4⟩ : ∃ (d2 : List Int) (u6 u7 u9 u10 : Slot), d2.length ≤ d1.length ∧ (Wr u6 ∧ Wr u7 ∧ Wr u9 ∧ Wr u10) ∧ exS E (callF E 20) (.for_ (.nm 7) .rng [.cst (.int 3)] inn) (ε scr d1 s2 (.val (.tup [.int p, .int q])) (.val (.str (sT (txt p q)))) s7 s8 s9 s10) = .nx (ε scr d2 s2 (.val (.tup [.int p, .int q])) u6 u7 s8 u9 u10) := by
    have r3 : rgB 3 = true := by decide
    have key : ∃ o, exS E (callF E 20) (.for_ (.nm 7) .rng [.cst (.int 3)] inn) (ε scr d1 s2 (.val (.tup [.int p, .int q])) (.val (.str (sT (txt p q)))) s7 s8 s9 s10) = o ∧ ∃ (d2 : List Int) (u6 u7 u9 u10 : Slot), d2.length ≤ d1.length ∧ (Wr u6 ∧ Wr u7 ∧ Wr u9 ∧ Wr u10) ∧ o = .nx (ε scr d2 s2 (.val (.tup [.int p, .int q])) u6 u7 s8 u9 u10) := by
      refine ⟨_, rfl, ?_⟩
      rw [exS]
      simp only [evA, evE, Out.bind, Rv.opd, srcI, peekL, Rv.peek, r3, if_true, walkOk]
      refine forI_wp (Q := fun o => ∃ (d2 : List Int) (u6 u7 u9 u10 : Slot), d2.length ≤ d1.length ∧ (Wr u6 ∧ Wr u7 ∧ Wr u9 ∧ Wr u10) ∧ o = .nx (ε scr d2 s2 (.val (.tup [.int p, .int q])) u6 u7 s8 u9 u10))
        (fun l e => ∃ (d2 : List Int) (d : List Nat) (u7 u9 u10 : Slot), d2.length ≤ d1.length ∧ d.length + l.length ≤ 300 ∧ okD d ∧ (Wr u7 ∧ Wr u9 ∧ Wr u10) ∧ e = ε scr d2 s2 (.val (.tup [.int p, .int q])) (.val (.str (sT d))) u7 s8 u9 u10) ?_ ?_ ?_
      · exact ⟨d1, txt p q, s7, s9, s10, Nat.le_refl _, by simp; omega, hok, ⟨w7, w9, w10⟩, rfl⟩
      · rintro x l _ ⟨d2, d, u7, u9, u10, l2, hd, ok, ⟨x7, x9, x10⟩, rfl⟩
        rw [List.length_cons] at hd
        refine ⟨_, asg_nm (s := u7) rfl x7, ?_⟩
        obtain ⟨d3, d', v9, v10, k1, k2, k3, ev⟩ := inner scr d2 d (by omega) ok s2 (.val (.tup [.int p, .int q])) (.val x) s8 u9 u10 x9 x10
        have ev' : exL E (callF E 20) inn (List.set (ε scr d2 s2 (.val (.tup [.int p, .int q])) (.val (.str (sT d))) u7 s8 u9 u10) 7 (.val x)) = _ := ev
        rw [ev']
        exact ⟨rfl, d3, d', .val x, .val v9, .val v10, by omega, by omega, k3, ⟨wr_val _, wr_val _, wr_val _⟩, rfl⟩
      · rintro _ ⟨d2, d, u7, u9, u10, l2, hd, ok, ⟨x7, x9, x10⟩, rfl⟩
        exact ⟨d2, .val (.str (sT d)), u7, u9, u10, l2, ⟨wr_val _, x7, x9, x10⟩, rfl⟩
    obtain ⟨o, eo, d2, u6, u7, u9, u10, l2, w, rfl⟩ := key
    exact ⟨d2, u6, u7, u9, u10, l2, w, eo⟩
  have m1 := mul_ok sp (show Sm 2 2 by unfold Sm; decide) (by decide)
  have m2 := mul_ok sq (show Sm 2 2 by unfold Sm; decide) (by decide)
  have q5 : exS E (callF E 20) (.asg 8 (.lst [.tup [.sub (.var 5) (.cst (.int 0)), .cst (.int 0)], .tup [.bin .Mult (.sub (.var 5) (.cst (.int 0))) (.cst (.int 2)), .bin .Mult (.sub (.var 5) (.cst (.int 1))) (.cst (.int 2))], .tup [.sub (.var 5) (.cst (.int 0)), .neg (.sub (.var 5) (.cst (.int 1)))], .lst [.sub (.var 5) (.cst (.int 0)), .sub (.var 5) (.cst (.int 1))], .tup [.sub (.var 5) (.cst (.int 0))], .tup [.cst (.bl true), .cst (.int 1)], .tup [.cst (.int 1), .cst (.bl true)], .cst .non, .cst (.str "1"), .tup [.sub (.var 5) (.cst (.int 0)), .sub (.var 5) (.cst (.int 1)), .cst (.int 1)]])) (ε scr d2 s2 (.val (.tup [.int p, .int q])) u6 u7 s8 u9 u10) = .nx (ε scr d2 s2 (.val (.tup [.int p, .int q])) u6 u7 (.own true (.lst (bad p q))) u9 u10) := by
    refine ex_fr (ε1 := ε scr d2 s2 (.val (.tup [.int p, .int q])) u6 u7 s8 u9 u10) ?_ rfl w8
    simp [ε, m1, m2, bad]
  have e6 : evE E (callF E 20) (.cmpr (.call 2 [.var 11]) (.nm 11) .val [.var 8] [] [11]) (ε scr d2 s2 (.val (.tup [.int p, .int q])) u6 u7 (.own true (.lst (bad p q))) u9 u10) = .ok (.fresh (.lst (List.replicate 10 (.bl false)))) (ε scr d2 s2 (.val (.tup [.int p, .int q])) u6 u7 (.own true (.lst (bad p q))) u9 u10) := by
    have h := ev_map (E := E) (Φ := callF E 20) (elt := .call 2 [.var 11]) (tg := .nm 11) (sk := .val) (its := [.var 8]) (cond := []) (own := [11]) (ε := ε scr d2 s2 (.val (.tup [.int p, .int q])) u6 u7 (.own true (.lst (bad p q))) u9 u10) (ε1 := ε scr d2 s2 (.val (.tup [.int p, .int q])) u6 u7 (.own true (.lst (bad p q))) u9 u10) (ε2 := ε scr d2 s2 (.val (.tup [.int p, .int q])) u6 u7 (.own true (.lst (bad p q))) u9 u10) (rs := [.own 8]) (r := .own 8) (ps := bad p q) (fun _ => .bl false) (by simp [ε]) (by simp [ε]) (by simp [ε]) (by simp) (fun x hx => by
      have hb : callF E 20 2 [x] = .ok (.bl false) false [] := bad_no 18 hr x hx
      refine ⟨(ε scr d2 s2 (.val (.tup [.int p, .int q])) u6 u7 (.own true (.lst (bad p q))) u9 u10).set 11 (.val x), ?_, ?_⟩
      · simp [ε, hb]
      · simp [ε]) (by show 10 ≤ 16777216; decide)
    rw [h]
    rfl
  have e7 : eqPV (.lst (List.replicate 10 (.bl false))) (.lst (List.replicate 10 (.bl false))) = some true := by decide +kernel
  have e7 : eqPV (.lst [.bl false, .bl false, .bl false, .bl false, .bl false, .bl false, .bl false, .bl false, .bl false, .bl false]) (.lst [.bl false, .bl false, .bl false, .bl false, .bl false, .bl false, .bl false, .bl false, .bl false, .bl false]) = some true := e7
  have q6 : exS E (callF E 20) (.ifs (.cmp .NotEq (.cmpr (.call 2 [.var 11]) (.nm 11) .val [.var 8] [] [11]) (.bin .Mult (.lst [.cst (.bl false)]) (.cst (.int 10)))) [.ret (.cst (.bl false))] []) (ε scr d2 s2 (.val (.tup [.int p, .int q])) u6 u7 (.own true (.lst (bad p q))) u9 u10) = .nx (ε scr d2 s2 (.val (.tup [.int p, .int q])) u6 u7 (.own true (.lst (bad p q))) u9 u10) := by
    simp [↓e6, ↓e7]
  refine ⟨d2, _, _, _, _, _, _, by omega, ⟨wr_val (.tup [.int p, .int q]), x6, x7, wr_own (.lst (bad p q)), x9, x10⟩, ?_⟩
  rw [trn, exL_step q1, exL_step q2, exL_step q3, exL_step q4, exL_step q5, exL_step q6]
  rfl
end K01

namespace K01
open PySem PySem.Spec L2 Eng Rt TL NumText
open PyProof.Rows hiding St
/-! ### the end of the law -/
/-- the thirty digits -/
def tw (v : Nat) : List Nat := List.replicate 29 (48 + v)
def dg (v : Nat) : List Nat := 49 :: tw v
theorem mulS (v : Nat) : opBin .Mult (.str (sT [48 + v])) (.int 29) = some (.val (.str (sT (tw v)))) := by
  rw [opBin, if_pos ⟨by decide, by simp, by show 1 * 29 ≤ 16777216; decide⟩]
  rfl
theorem tw_len (v : Nat) : (tw v).length = 29 := by simp [tw]
theorem dg_facts : ∀ v : Nat, v < 10 → due (dg v) = some ((digitsVal (dg v) : Int), 1) ∧ due (dg v ++ [49]) = none ∧ due ([49, 47] ++ dg v ++ [48]) = none := by decide +kernel
theorem due_nil : due [] = none := by decide +kernel
def fin3 : List IS := [.asg 3 (.bin .Add (.cst (.str "1")) (.bin .Mult (.blt .str [.call 7 [.var 1, .cst (.int 10)]]) (.cst (.int 29)))),
    .asg 4 (.lst [.call 10 [.var 3], .call 10 [.bin .Add (.var 3) (.cst (.str "1"))], .call 10 [.bin .Add (.bin .Add (.cst (.str "1/")) (.var 3)) (.cst (.str "0"))], .call 10 [.cst (.str "")]]),
    .ret (.cmp .Eq (.blt .repr [.var 4]) (.blt .repr [.lst [.tup [.blt .int [.var 3], .cst (.int 1)], .cst (.str "none"), .cst (.str "none"), .cst (.str "none")]]))]
def nn : PV := .str (sT [110, 111, 110, 101])
theorem ends_fin (scr : PV) (ds : List Int) (s2 s5 s6 s7 s8 s9 s10 : Slot) : Ends E (callF E 20) fin3 (ε scr ds s2 s5 s6 s7 s8 s9 s10) (.val (.bl true)) := by
  obtain ⟨v1, d1, a1, b1, l1, e1⟩ := call_take d_take (k := 19) ds (b := 10) (by decide)
  obtain ⟨v, rfl⟩ : ∃ v : Nat, v1 = v := ⟨v1.toNat, by omega⟩
  have hv : v < 10 := by omega
  obtain ⟨f1, f2, f3⟩ := dg_facts v hv
  have lg : (v : Int).natAbs.log2 < 1920 := by
    have := (show Sm 10 (v : Int) by unfold Sm; omega).log
    omega
  have lg2 : v.log2 < 1920 := by simpa using lg
  have si : strI (v : Int) = sT [48 + v] := by
    rw [strI_eq, iL, if_neg (by omega)]
    congr 1
    exact numL_lt hv
  let ε3 : Slot → Sg := fun s4 => [.val scr, .own true (.lst (d1.map .int)), s2, .val (.str (sT (dg v))), s4, s5, s6, s7, s8, s9, s10, .none]
  refine Ends.step (ε3 .none) ?_ ?_
  · have ms := mulS v
    simp [ε, ε3, e1, lg2, si, dg, ↓ms, tw_len]
  have lens : (dg v).length = 30 := by simp [dg, tw_len]
  have t1 : callF E 20 10 [.str (sT (dg v))] = .ok (tv (dg v)) false [] := call_told 16 _ (by omega)
  have t2 : callF E 20 10 [.str (sT (dg v ++ [49]))] = .ok (tv (dg v ++ [49])) false [] := call_told 16 _ (by simp; omega)
  have t3 : callF E 20 10 [.str (sT ([49, 47] ++ dg v ++ [48]))] = .ok (tv ([49, 47] ++ dg v ++ [48])) false [] := call_told 16 _ (by simp; omega)
  have t4 : callF E 20 10 [.str (sT [])] = .ok (tv []) false [] := call_told 16 _ (by simp)
  have u1 : tv (dg v) = .tup [.int (digitsVal (dg v)), .int 1] := by unfold tv; rw [f1]
  have u2 : tv (dg v ++ [49]) = nn := by unfold tv; rw [f2]; rfl
  have u3 : tv ([49, 47] ++ dg v ++ [48]) = nn := by unfold tv; rw [f3]; rfl
  have u4 : tv [] = nn := by unfold tv; rw [due_nil]; rfl
  rw [u1] at t1
  rw [u2] at t2
  rw [u3] at t3
  rw [u4] at t4
  have hdg : AllDigits (dg v) := fun c hc => by
    simp only [dg, tw, List.mem_cons, List.mem_replicate] at hc
    omega
  have hi := intText_digits (x := sT (dg v)) hdg (by simp [dg]) (by simp [lens])
  have hs : Shp 2 3000 (.lst [.tup [.int (digitsVal (dg v)), .int 1], nn, nn, nn]) := by
    have sn : Shp 1 42 nn := (shp_sT (n := 4) (okD_of (by decide)) (by decide)).le (by decide) (by decide)
    have s1 : Sm 100 (digitsVal (dg v) : Int) := by
      have := dv_lt hdg
      rw [lens] at this
      unfold Sm
      omega
    have st : Shp 1 500 (.tup [.int (digitsVal (dg v)), .int 1]) := ((ShpL.cons (shp_int s1 (by decide)) (ShpL.cons (shp_int (show Sm 1 1 by unfold Sm; decide) (by decide)) (shp_nil.le (Nat.zero_le _) (Nat.le_refl _)))).tup).le (by decide) (by decide)
    exact ((ShpL.cons st (ShpL.cons sn (ShpL.cons sn (ShpL.cons sn (shp_nil.le (Nat.zero_le _) (Nat.le_refl _)))))).lst).le (by decide) (by decide)
  have hr := hs.repr (by decide) (by decide)
  refine Ends.step (ε3 (.own true (.lst [.tup [.int (digitsVal (dg v)), .int 1], nn, nn, nn]))) ?_ ?_
  · have t3' : callF E 20 10 [.str (sT (49 :: 47 :: (dg v ++ [48])))] = .ok nn false [] := t3
    simp [ε3, t1, t2, t3', t4, lens]
  · refine Ends.ret (ε3 (.own true (.lst [.tup [.int (digitsVal (dg v)), .int 1], nn, nn, nn]))) ?_
    have hr' : opBlt .repr [.lst [.tup [.int (digitsVal (dg v)), .int 1], .str (sT [110, 111, 110, 101]), .str (sT [110, 111, 110, 101]), .str (sT [110, 111, 110, 101])]] = _ := hr
    rw [sT_l] at hi
    simp [ε3, ↓hr, ↓hr', hi, lens, nn]
theorem law_ok (ns : List Int) (h1 : ns.length ≤ 63) (hb : ∀ z ∈ ns, Builtin.Int.intBits z ≤ 1048576) : callF E (20 + 1) 13 [.scr (ns.map PV.int)] = .ok (.bl true) false [] := by
  obtain ⟨ds, hd, e1⟩ := call_draws (k := 19) d_draws ns h1 hb
  have e1 : callF E 20 6 [.scr (ns.map .int)] = .ok (.lst (ds.map .int)) true [] := e1
  refine call_ends (z := .val (.bl true)) [.val (.scr (ns.map .int)), .none, .none, .none, .none, .none, .none, .none, .none, .none, .none, .none] fx_law ⟨rfl, rfl, by decide⟩ rfl rfl ?_
  refine Ends.step (ε (.scr (ns.map .int)) ds .none .none .none .none .none .none .none) (by simp [ε, e1]) ?_
  obtain ⟨d2, s2, u5, u6, u7, u8, u9, u10, q4⟩ : ∃ (d2 : List Int) (s2 u5 u6 u7 u8 u9 u10 : Slot), exS E (callF E 20) (.for_ (.nm 2) .rng [.cst (.int 6)] trn) (ε (.scr (ns.map .int)) ds .none .none .none .none .none .none .none) = .nx (ε (.scr (ns.map .int)) d2 s2 u5 u6 u7 u8 u9 u10) := by
    have r3 : rgB 6 = true := by decide
    have key : ∃ o, exS E (callF E 20) (.for_ (.nm 2) .rng [.cst (.int 6)] trn) (ε (.scr (ns.map .int)) ds .none .none .none .none .none .none .none) = o ∧ ∃ (d2 : List Int) (s2 u5 u6 u7 u8 u9 u10 : Slot), o = .nx (ε (.scr (ns.map .int)) d2 s2 u5 u6 u7 u8 u9 u10) := by
      refine ⟨_, rfl, ?_⟩
      rw [exS]
      simp only [evA, evE, Out.bind, Rv.opd, srcI, peekL, Rv.peek, r3, if_true, walkOk]
      refine forI_wp (Q := fun o => ∃ (d2 : List Int) (s2 u5 u6 u7 u8 u9 u10 : Slot), o = .nx (ε (.scr (ns.map .int)) d2 s2 u5 u6 u7 u8 u9 u10))
        (fun l e => ∃ (d2 : List Int) (s2 u5 u6 u7 u8 u9 u10 : Slot), (Wr s2 ∧ Wr u5 ∧ Wr u6 ∧ Wr u7 ∧ Wr u8 ∧ Wr u9 ∧ Wr u10) ∧ e = ε (.scr (ns.map .int)) d2 s2 u5 u6 u7 u8 u9 u10) ?_ ?_ ?_
      · exact ⟨ds, _, _, _, _, _, _, _, ⟨wr_none, wr_none, wr_none, wr_none, wr_none, wr_none, wr_none⟩, rfl⟩
      · rintro x l _ ⟨d2, s2, u5, u6, u7, u8, u9, u10, ⟨x2, x5, x6, x7, x8, x9, x10⟩, rfl⟩
        refine ⟨_, asg_nm (s := s2) rfl x2, ?_⟩
        obtain ⟨d3, t5, t6, t7, t8, t9, t10, _, ⟨w5, w6, w7, w8, w9, w10⟩, ev⟩ := turn (.scr (ns.map .int)) d2 (.val x) u5 u6 u7 u8 u9 u10 x5 x6 x7 x8 x9 x10
        have ev' : exL E (callF E 20) trn (List.set (ε (.scr (ns.map .int)) d2 s2 u5 u6 u7 u8 u9 u10) 2 (.val x)) = _ := ev
        rw [ev']
        exact ⟨rfl, d3, _, _, _, _, _, _, _, ⟨wr_val x, w5, w6, w7, w8, w9, w10⟩, rfl⟩
      · rintro _ ⟨d2, s2, u5, u6, u7, u8, u9, u10, _, rfl⟩
        exact ⟨d2, s2, u5, u6, u7, u8, u9, u10, rfl⟩
    obtain ⟨o, eo, d2, s2, u5, u6, u7, u8, u9, u10, rfl⟩ := key
    exact ⟨d2, s2, u5, u6, u7, u8, u9, u10, eo⟩
  exact Ends.step _ q4 (ends_fin _ _ _ _ _ _ _ _ _)
end K01

namespace K01
open PySem PySem.Spec L2 Eng
open PyProof.Rows hiding St
def top (i : Nat) : Stmt := PySem.Challenge.pw_mitrehouse_k01_texts_of_ratios.main.body.getD i (.Pass ⟨0, 0, 0, 0⟩)
theorem sc_ratio : FnScope ["above", "below", "common"] ["above", "below"] (defScope (top 7)) := ⟨rfl, rfl, rfl, by decide +kernel, rfl, by decide +kernel, by decide +kernel⟩
theorem mt_ratio : mtSs E ⟨["above", "below", "common"], defScope (top 7), defScope (top 7)⟩ f_ratio.body (defBody (top 7)) = true := by decide +kernel
theorem sc_is_integer : FnScope ["value"] ["value"] (defScope (top 8)) := ⟨rfl, rfl, rfl, by decide +kernel, rfl, by decide +kernel, by decide +kernel⟩
theorem mt_is_integer : mtSs E ⟨["value"], defScope (top 8), defScope (top 8)⟩ f_is_integer.body (defBody (top 8)) = true := by decide +kernel
theorem sc_is_ratio : FnScope ["value", "part"] ["value"] (defScope (top 9)) := ⟨rfl, rfl, rfl, by decide +kernel, rfl, by decide +kernel, by decide +kernel⟩
theorem mt_is_ratio : mtSs E ⟨["value", "part"], defScope (top 9), defScope (top 9)⟩ f_is_ratio.body (defBody (top 9)) = true := by decide +kernel
theorem sc_write_ratio : FnScope ["one"] ["one"] (defScope (top 10)) := ⟨rfl, rfl, rfl, by decide +kernel, rfl, by decide +kernel, by decide +kernel⟩
theorem mt_write_ratio : mtSs E ⟨["one"], defScope (top 10), defScope (top 10)⟩ f_write_ratio.body (defBody (top 10)) = true := by decide +kernel
theorem sc_read_digits : FnScope ["word", "sign"] ["word"] (defScope (top 11)) := ⟨rfl, rfl, rfl, by decide +kernel, rfl, by decide +kernel, by decide +kernel⟩
theorem mt_read_digits : mtSs E ⟨["word", "sign"], defScope (top 11), defScope (top 11)⟩ f_read_digits.body (defBody (top 11)) = true := by decide +kernel
theorem sc_read_ratio : FnScope ["word", "is_below", "parts", "numbers", "found", "part"] ["word"] (defScope (top 12)) := ⟨rfl, rfl, rfl, by decide +kernel, rfl, by decide +kernel, by decide +kernel⟩
theorem mt_read_ratio : mtSs E ⟨["word", "is_below", "parts", "numbers", "found", "part"], defScope (top 12), defScope (top 12)⟩ f_read_ratio.body (defBody (top 12)) = true := by decide +kernel
theorem sc__law_draws : FnScope ["script", "draws", "cell", "seed", "k", "number", "first"] ["script"] (defScope (top 14)) := ⟨rfl, rfl, rfl, by decide +kernel, rfl, by decide +kernel, by decide +kernel⟩
theorem mt__law_draws : mtSs E ⟨["script", "draws", "cell", "seed", "k", "number", "first"], defScope (top 14), defScope (top 14)⟩ f__law_draws.body (defBody (top 14)) = true := by decide +kernel
theorem sc__law_take : FnScope ["draws", "bound"] ["draws", "bound"] (defScope (top 15)) := ⟨rfl, rfl, rfl, by decide +kernel, rfl, by decide +kernel, by decide +kernel⟩
theorem mt__law_take : mtSs E ⟨["draws", "bound"], defScope (top 15), defScope (top 15)⟩ f__law_take.body (defBody (top 15)) = true := by decide +kernel
theorem sc__law_ratio : FnScope ["draws", "kind"] ["draws"] (defScope (top 16)) := ⟨rfl, rfl, rfl, by decide +kernel, rfl, by decide +kernel, by decide +kernel⟩
theorem mt__law_ratio : mtSs E ⟨["draws", "kind"], defScope (top 16), defScope (top 16)⟩ f__law_ratio.body (defBody (top 16)) = true := by decide +kernel
theorem sc__law_text : FnScope ["one"] ["one"] (defScope (top 17)) := ⟨rfl, rfl, rfl, by decide +kernel, rfl, by decide +kernel, by decide +kernel⟩
theorem mt__law_text : mtSs E ⟨["one"], defScope (top 17), defScope (top 17)⟩ f__law_text.body (defBody (top 17)) = true := by decide +kernel
theorem sc__law_told : FnScope ["text"] ["text"] (defScope (top 18)) := ⟨rfl, rfl, rfl, by decide +kernel, rfl, by decide +kernel, by decide +kernel⟩
theorem mt__law_told : mtSs E ⟨["text"], defScope (top 18), defScope (top 18)⟩ f__law_told.body (defBody (top 18)) = true := by decide +kernel
theorem sc__law_part : FnScope ["word", "sign"] ["word"] (defScope (top 19)) := ⟨rfl, rfl, rfl, by decide +kernel, rfl, by decide +kernel, by decide +kernel⟩
theorem mt__law_part : mtSs E ⟨["word", "sign"], defScope (top 19), defScope (top 19)⟩ f__law_part.body (defBody (top 19)) = true := by decide +kernel
theorem sc__law_due : FnScope ["text", "rest", "parts", "k", "above", "below", "word"] ["text"] (defScope (top 20)) := ⟨rfl, rfl, rfl, by decide +kernel, rfl, by decide +kernel, by decide +kernel⟩
theorem mt__law_due : mtSs E ⟨["text", "rest", "parts", "k", "above", "below", "word"], defScope (top 20), defScope (top 20)⟩ f__law_due.body (defBody (top 20)) = true := by decide +kernel
theorem sc_law : FnScope ["script", "draws", "turn", "digits", "told", "one", "text", "again", "bad", "at", "sign", "value"] ["script"] (defScope (top 21)) := ⟨rfl, rfl, rfl, by decide +kernel, rfl, by decide +kernel, by decide +kernel⟩
theorem mt_law : mtSs E ⟨["script", "draws", "turn", "digits", "told", "one", "text", "again", "bad", "at", "sign", "value"], defScope (top 21), defScope (top 21)⟩ f_law.body (defBody (top 21)) = true := by decide +kernel
set_option maxHeartbeats 0 in
theorem all_mk {K : Fg} {h : Heap} {mg : Str → Option Value} {fa f0 f1 f2 f3 f4 f5 f6 f7 f8 f9 f10 f11 f12 f13 C0 C1 : Addr} {od0 an0 od1 an1 od2 an2 od3 an3 od4 an4 od5 an5 od6 an6 od7 an7 od8 an8 od9 an9 od10 an10 od11 an11 od12 an12 od13 an13 : Option Addr} {sl0 sl1 sl2 sl3 sl4 sl5 sl6 sl7 sl8 sl9 sl10 sl11 sl12 sl13 : Array (Option Value)} {oc0 kV0 dc0 pm0 cd0 ct0 oc1 kV1 dc1 pm1 cd1 ct1 oc2 kV2 dc2 pm2 cd2 ct2 oc3 kV3 dc3 pm3 cd3 ct3 oc4 kV4 dc4 pm4 cd4 ct4 oc5 kV5 dc5 pm5 cd5 ct5 oc6 kV6 dc6 pm6 cd6 ct6 oc7 kV7 dc7 pm7 cd7 ct7 oc8 kV8 dc8 pm8 cd8 ct8 oc9 kV9 dc9 pm9 cd9 ct9 oc10 kV10 dc10 pm10 cd10 ct10 oc11 kV11 dc11 pm11 cd11 ct11 oc12 kV12 dc12 pm12 cd12 ct12 oc13 kV13 dc13 pm13 cd13 ct13 : Value} {T0 : Addr} {o0 : Obj} {n0 : Nat} {tk0_0 wt0 wt1 : Tok} (X : K.In h) (G : h.Ns mainGlobals mg) (hfa : mg "law" = some (.ref fa))
    (a0 : PySem.W.nsIn K mainGlobals "ratio" = some (some (.ref f0)))
    (l0 : K.lookup f0 = some ⟨oc0, od0, .func (PySem.W.fnOf "ratio" "ratio" (defArgs (top 7)) (defBody (top 7)) (defScope (top 7)) (.ref T0) kV0 dc0 pm0 an0 cd0 ct0), sl0⟩)
    (u0 : K.lookup T0 = some o0)
    (v0 : o0.data = .seq #[.int 1 tk0_0] n0)
    (c0 : PySem.W.codeIn K cd0 "ratio" = true)
    (k0 : PySem.W.keepIn K (.ref f0) = true)
    (a1 : PySem.W.nsIn K mainGlobals "is_integer" = some (some (.ref f1)))
    (l1 : K.lookup f1 = some ⟨oc1, od1, .func (PySem.W.fnOf "is_integer" "is_integer" (defArgs (top 8)) (defBody (top 8)) (defScope (top 8)) .none kV1 dc1 pm1 an1 cd1 ct1), sl1⟩)
    (c1 : PySem.W.codeIn K cd1 "is_integer" = true)
    (k1 : PySem.W.keepIn K (.ref f1) = true)
    (a2 : PySem.W.nsIn K mainGlobals "is_ratio" = some (some (.ref f2)))
    (l2 : K.lookup f2 = some ⟨oc2, od2, .func (PySem.W.fnOf "is_ratio" "is_ratio" (defArgs (top 9)) (defBody (top 9)) (defScope (top 9)) .none kV2 dc2 pm2 an2 cd2 ct2), sl2⟩)
    (c2 : PySem.W.codeIn K cd2 "is_ratio" = true)
    (k2 : PySem.W.keepIn K (.ref f2) = true)
    (a3 : PySem.W.nsIn K mainGlobals "write_ratio" = some (some (.ref f3)))
    (l3 : K.lookup f3 = some ⟨oc3, od3, .func (PySem.W.fnOf "write_ratio" "write_ratio" (defArgs (top 10)) (defBody (top 10)) (defScope (top 10)) .none kV3 dc3 pm3 an3 cd3 ct3), sl3⟩)
    (c3 : PySem.W.codeIn K cd3 "write_ratio" = true)
    (k3 : PySem.W.keepIn K (.ref f3) = true)
    (a4 : PySem.W.nsIn K mainGlobals "read_digits" = some (some (.ref f4)))
    (l4 : K.lookup f4 = some ⟨oc4, od4, .func (PySem.W.fnOf "read_digits" "read_digits" (defArgs (top 11)) (defBody (top 11)) (defScope (top 11)) .none kV4 dc4 pm4 an4 cd4 ct4), sl4⟩)
    (c4 : PySem.W.codeIn K cd4 "read_digits" = true)
    (k4 : PySem.W.keepIn K (.ref f4) = true)
    (a5 : PySem.W.nsIn K mainGlobals "read_ratio" = some (some (.ref f5)))
    (l5 : K.lookup f5 = some ⟨oc5, od5, .func (PySem.W.fnOf "read_ratio" "read_ratio" (defArgs (top 12)) (defBody (top 12)) (defScope (top 12)) .none kV5 dc5 pm5 an5 cd5 ct5), sl5⟩)
    (c5 : PySem.W.codeIn K cd5 "read_ratio" = true)
    (k5 : PySem.W.keepIn K (.ref f5) = true)
    (a6 : PySem.W.nsIn K mainGlobals "_law_draws" = some (some (.ref f6)))
    (l6 : K.lookup f6 = some ⟨oc6, od6, .func (PySem.W.fnOf "_law_draws" "_law_draws" (defArgs (top 14)) (defBody (top 14)) (defScope (top 14)) .none kV6 dc6 pm6 an6 cd6 ct6), sl6⟩)
    (c6 : PySem.W.codeIn K cd6 "_law_draws" = true)
    (k6 : PySem.W.keepIn K (.ref f6) = true)
    (a7 : PySem.W.nsIn K mainGlobals "_law_take" = some (some (.ref f7)))
    (l7 : K.lookup f7 = some ⟨oc7, od7, .func (PySem.W.fnOf "_law_take" "_law_take" (defArgs (top 15)) (defBody (top 15)) (defScope (top 15)) .none kV7 dc7 pm7 an7 cd7 ct7), sl7⟩)
    (c7 : PySem.W.codeIn K cd7 "_law_take" = true)
    (k7 : PySem.W.keepIn K (.ref f7) = true)
    (a8 : PySem.W.nsIn K mainGlobals "_law_ratio" = some (some (.ref f8)))
    (l8 : K.lookup f8 = some ⟨oc8, od8, .func (PySem.W.fnOf "_law_ratio" "_law_ratio" (defArgs (top 16)) (defBody (top 16)) (defScope (top 16)) .none kV8 dc8 pm8 an8 cd8 ct8), sl8⟩)
    (c8 : PySem.W.codeIn K cd8 "_law_ratio" = true)
    (k8 : PySem.W.keepIn K (.ref f8) = true)
    (a9 : PySem.W.nsIn K mainGlobals "_law_text" = some (some (.ref f9)))
    (l9 : K.lookup f9 = some ⟨oc9, od9, .func (PySem.W.fnOf "_law_text" "_law_text" (defArgs (top 17)) (defBody (top 17)) (defScope (top 17)) .none kV9 dc9 pm9 an9 cd9 ct9), sl9⟩)
    (c9 : PySem.W.codeIn K cd9 "_law_text" = true)
    (k9 : PySem.W.keepIn K (.ref f9) = true)
    (a10 : PySem.W.nsIn K mainGlobals "_law_told" = some (some (.ref f10)))
    (l10 : K.lookup f10 = some ⟨oc10, od10, .func (PySem.W.fnOf "_law_told" "_law_told" (defArgs (top 18)) (defBody (top 18)) (defScope (top 18)) .none kV10 dc10 pm10 an10 cd10 ct10), sl10⟩)
    (c10 : PySem.W.codeIn K cd10 "_law_told" = true)
    (k10 : PySem.W.keepIn K (.ref f10) = true)
    (a11 : PySem.W.nsIn K mainGlobals "_law_part" = some (some (.ref f11)))
    (l11 : K.lookup f11 = some ⟨oc11, od11, .func (PySem.W.fnOf "_law_part" "_law_part" (defArgs (top 19)) (defBody (top 19)) (defScope (top 19)) .none kV11 dc11 pm11 an11 cd11 ct11), sl11⟩)
    (c11 : PySem.W.codeIn K cd11 "_law_part" = true)
    (k11 : PySem.W.keepIn K (.ref f11) = true)
    (a12 : PySem.W.nsIn K mainGlobals "_law_due" = some (some (.ref f12)))
    (l12 : K.lookup f12 = some ⟨oc12, od12, .func (PySem.W.fnOf "_law_due" "_law_due" (defArgs (top 20)) (defBody (top 20)) (defScope (top 20)) .none kV12 dc12 pm12 an12 cd12 ct12), sl12⟩)
    (c12 : PySem.W.codeIn K cd12 "_law_due" = true)
    (k12 : PySem.W.keepIn K (.ref f12) = true)
    (a13 : PySem.W.nsIn K mainGlobals "law" = some (some (.ref f13)))
    (l13 : K.lookup f13 = some ⟨oc13, od13, .func (PySem.W.fnOf "law" "law" (defArgs (top 21)) (defBody (top 21)) (defScope (top 21)) .none kV13 dc13 pm13 an13 cd13 ct13), sl13⟩)
    (c13 : PySem.W.codeIn K cd13 "law" = true)
    (k13 : PySem.W.keepIn K (.ref f13) = true)
    (g0 : PySem.W.nsIn K mainGlobals "NotNumber" = some (some (.ref C0)))
    (x0 : PySem.W.excIn K C0 HandSPX.veTail "ValueError.__new__" = true)
    (y0 : PySem.W.keepIn K (.ref C0) = true)
    (b0 : PySem.W.subIn K (.ref C0) (.type "BaseException") = some true)
    (t0 : PySem.W.typeIn K (.ref C0) = some (.type "type"))
    (i0 : PySem.W.isClsIn K C0 = true)
    (g1 : PySem.W.nsIn K mainGlobals "MitreError" = some (some (.ref C1)))
    (x1 : PySem.W.excIn K C1 HandSPX.veTail "ValueError.__new__" = true)
    (y1 : PySem.W.keepIn K (.ref C1) = true)
    (b1 : PySem.W.subIn K (.ref C1) (.type "BaseException") = some true)
    (t1 : PySem.W.typeIn K (.ref C1) = some (.type "type"))
    (i1 : PySem.W.isClsIn K C1 = true)
    (s0_0 : PySem.W.subIn K (.ref C0) (.ref C0) = some true)
    (s0_1 : PySem.W.subIn K (.ref C0) (.ref C1) = some true)
    (s1_0 : PySem.W.subIn K (.ref C1) (.ref C0) = some false)
    (s1_1 : PySem.W.subIn K (.ref C1) (.ref C1) = some true)
    (z_gcd : PySem.W.nsIn K mainGlobals "gcd" = some (some (.builtin "math.gcd")))
    (z_len : PySem.W.nsIn K mainGlobals "len" = some none)
    (z_all : PySem.W.nsIn K mainGlobals "all" = some none)
    (z_str : PySem.W.nsIn K mainGlobals "str" = some none)
    (z_int : PySem.W.nsIn K mainGlobals "int" = some none)
    (z_abs : PySem.W.nsIn K mainGlobals "abs" = some none)
    (z_repr : PySem.W.nsIn K mainGlobals "repr" = some none)
    (z_bool : PySem.W.nsIn K mainGlobals "bool" = some none)
    (z_tuple : PySem.W.nsIn K mainGlobals "tuple" = some none)
    (z_range : PySem.W.nsIn K mainGlobals "range" = some none)
    (z_list : PySem.W.nsIn K mainGlobals "list" = some none)
    (z_reversed : PySem.W.nsIn K mainGlobals "reversed" = some none)
    (z_isinstance : PySem.W.nsIn K mainGlobals "isinstance" = some none)
    (w0 : PySem.W.nsIn K mainGlobals "MOST_DIGITS" = some (some (.int (30) wt0)))
    (w1 : PySem.W.nsIn K mainGlobals "FIGURES" = some (some (.str "0123456789" wt1))) :
    PF E K mg ∧ LawX E K mg f_law "script" fa := by
  have e := hfa.symm.trans (PySem.W.mg_of X G a13)
  cases e
  have q0 : FnF E K mg f_ratio := fnF_mkD (fi := f_ratio) (dvs := [.int 1]) 1 (funD_mkD (its := [.int 1 tk0_0]) l0 c0 k0 u0 v0 (by simp) (.cons ⟨_, rfl⟩ .nil)) (PySem.W.mg_of X G a0) sc_ratio rfl rfl mt_ratio (fun Z => .cons (.int 1) .nil) (by simp) rfl (fun _ _ _ _ _ _ _ us its hu hi => match us, hu, its, hi with | [_, _], _, [_], _ => ⟨_, rfl, rfl⟩) (fun _ _ _ _ _ _ _ us its hu hi => match us, hu, its, hi with | [_], _, [_], _ => ⟨_, rfl, rfl⟩)
  have q1 : FnF E K mg f_is_integer := fnF_mk (fi := f_is_integer) (funD_mk l1 c1 k1) (PySem.W.mg_of X G a1) sc_is_integer rfl rfl mt_is_integer rfl fun _ _ _ _ _ _ us hl => match us, hl with | [_], _ => rfl
  have q2 : FnF E K mg f_is_ratio := fnF_mk (fi := f_is_ratio) (funD_mk l2 c2 k2) (PySem.W.mg_of X G a2) sc_is_ratio rfl rfl mt_is_ratio rfl fun _ _ _ _ _ _ us hl => match us, hl with | [_], _ => rfl
  have q3 : FnF E K mg f_write_ratio := fnF_mk (fi := f_write_ratio) (funD_mk l3 c3 k3) (PySem.W.mg_of X G a3) sc_write_ratio rfl rfl mt_write_ratio rfl fun _ _ _ _ _ _ us hl => match us, hl with | [_], _ => rfl
  have q4 : FnF E K mg f_read_digits := fnF_mk (fi := f_read_digits) (funD_mk l4 c4 k4) (PySem.W.mg_of X G a4) sc_read_digits rfl rfl mt_read_digits rfl fun _ _ _ _ _ _ us hl => match us, hl with | [_], _ => rfl
  have q5 : FnF E K mg f_read_ratio := fnF_mk (fi := f_read_ratio) (funD_mk l5 c5 k5) (PySem.W.mg_of X G a5) sc_read_ratio rfl rfl mt_read_ratio rfl fun _ _ _ _ _ _ us hl => match us, hl with | [_], _ => rfl
  have q6 : FnF E K mg f__law_draws := fnF_mk (fi := f__law_draws) (funD_mk l6 c6 k6) (PySem.W.mg_of X G a6) sc__law_draws rfl rfl mt__law_draws rfl fun _ _ _ _ _ _ us hl => match us, hl with | [_], _ => rfl
  have q7 : FnF E K mg f__law_take := fnF_mk (fi := f__law_take) (funD_mk l7 c7 k7) (PySem.W.mg_of X G a7) sc__law_take rfl rfl mt__law_take rfl fun _ _ _ _ _ _ us hl => match us, hl with | [_, _], _ => rfl
  have q8 : FnF E K mg f__law_ratio := fnF_mk (fi := f__law_ratio) (funD_mk l8 c8 k8) (PySem.W.mg_of X G a8) sc__law_ratio rfl rfl mt__law_ratio rfl fun _ _ _ _ _ _ us hl => match us, hl with | [_], _ => rfl
  have q9 : FnF E K mg f__law_text := fnF_mk (fi := f__law_text) (funD_mk l9 c9 k9) (PySem.W.mg_of X G a9) sc__law_text rfl rfl mt__law_text rfl fun _ _ _ _ _ _ us hl => match us, hl with | [_], _ => rfl
  have q10 : FnF E K mg f__law_told := fnF_mk (fi := f__law_told) (funD_mk l10 c10 k10) (PySem.W.mg_of X G a10) sc__law_told rfl rfl mt__law_told rfl fun _ _ _ _ _ _ us hl => match us, hl with | [_], _ => rfl
  have q11 : FnF E K mg f__law_part := fnF_mk (fi := f__law_part) (funD_mk l11 c11 k11) (PySem.W.mg_of X G a11) sc__law_part rfl rfl mt__law_part rfl fun _ _ _ _ _ _ us hl => match us, hl with | [_], _ => rfl
  have q12 : FnF E K mg f__law_due := fnF_mk (fi := f__law_due) (funD_mk l12 c12 k12) (PySem.W.mg_of X G a12) sc__law_due rfl rfl mt__law_due rfl fun _ _ _ _ _ _ us hl => match us, hl with | [_], _ => rfl
  have q13 : FnF E K mg f_law := fnF_mk (fi := f_law) (funD_mk l13 c13 k13) (PySem.W.mg_of X G a13) sc_law rfl rfl mt_law rfl fun _ _ _ _ _ _ us hl => match us, hl with | [_], _ => rfl
  refine ⟨⟨all_mem (l := fr) ⟨PySem.W.mg_none_of X G z_range, PySem.W.mg_none_of X G z_list, PySem.W.mg_none_of X G z_reversed, trivial⟩, all_ix (l := fs) ⟨q0, q1, q2, q3, q4, q5, q6, q7, q8, q9, q10, q11, q12, q13, trivial⟩, all_mem (l := bs) ⟨PySem.W.mg_of X G z_gcd, PySem.W.mg_none_of X G z_len, PySem.W.mg_none_of X G z_all, PySem.W.mg_none_of X G z_str, PySem.W.mg_none_of X G z_int, PySem.W.mg_none_of X G z_abs, PySem.W.mg_none_of X G z_repr, trivial⟩, all_mem (l := ts) ⟨⟨PySem.W.mg_none_of X G z_int, by decide +kernel, PySem.W.mg_none_of X G z_isinstance⟩, ⟨PySem.W.mg_none_of X G z_bool, by decide +kernel, PySem.W.mg_none_of X G z_isinstance⟩, ⟨PySem.W.mg_none_of X G z_tuple, by decide +kernel, PySem.W.mg_none_of X G z_isinstance⟩, trivial⟩, ?_, all_ix (l := cl) ⟨⟨_, PySem.W.mg_of X G g0, x0, y0, b0, t0⟩, ⟨_, PySem.W.mg_of X G g1, x1, y1, b1, t1⟩, trivial⟩, ?_⟩, ?_⟩
  · exact all_look (l := gl) ⟨⟨_, (.int 30), PySem.W.mg_of X G w0, ⟨_, rfl⟩, fun _ => .int _⟩, ⟨_, (.str "0123456789"), PySem.W.mg_of X G w1, ⟨_, rfl⟩, fun _ => .str _⟩, trivial⟩
  · exact sb_mk (l := cl) (As := [C0, C1]) ⟨PySem.W.mg_of X G g0, PySem.W.mg_of X G g1, trivial⟩ ⟨⟨exm_pair b0 i0 t0 s0_0, exm_pair b0 i0 t0 s1_0, trivial⟩, ⟨exm_pair b1 i1 t1 s0_1, exm_pair b1 i1 t1 s1_1, trivial⟩, trivial⟩
  · exact lawX_mk (fi := f_law) (st := top 21) l13 c13 k13 sc_law rfl mt_law fun _ _ _ _ _ _ us hl => match us, hl with | [_], _ => rfl
end K01
open PySem PySem.W PyProof.Rows
set_option maxRecDepth 100000 in
set_option maxHeartbeats 0 in
theorem PySem.Challenge.cw_mitrehouse_k01_texts_of_ratios_holds : PySem.Challenge.rw_mitrehouse_k01_texts_of_ratios.Holds := by
  w_on; o_law; k_head; (case hw => w_witness2)
  k_fill
  refine Eng.walk (l := PySem.Challenge.rw_mitrehouse_k01_texts_of_ratios) (E := K01.E) (fi := K01.f_law) (x := "script") (k := 20) (iLaw := 13) rfl rfl ⟨rfl, by decide, by decide⟩ rfl rfl rfl K01.law_ok (fun w h Y => PySem.W.kIn_of Y) ?F
  case F =>
    intro w mg fa h KX G hmg
    refine' K01.all_mk KX G hmg ?a0 ?l0 ?u0 ?v0 ?c0 ?k0 ?a1 ?l1 ?c1 ?k1 ?a2 ?l2 ?c2 ?k2 ?a3 ?l3 ?c3 ?k3 ?a4 ?l4 ?c4 ?k4 ?a5 ?l5 ?c5 ?k5 ?a6 ?l6 ?c6 ?k6 ?a7 ?l7 ?c7 ?k7 ?a8 ?l8 ?c8 ?k8 ?a9 ?l9 ?c9 ?k9 ?a10 ?l10 ?c10 ?k10 ?a11 ?l11 ?c11 ?k11 ?a12 ?l12 ?c12 ?k12 ?a13 ?l13 ?c13 ?k13 ?g0 ?x0 ?y0 ?b0 ?t0 ?i0 ?g1 ?x1 ?y1 ?b1 ?t1 ?i1 ?s0_0 ?s0_1 ?s1_0 ?s1_1 ?z_gcd ?z_len ?z_all ?z_str ?z_int ?z_abs ?z_repr ?z_bool ?z_tuple ?z_range ?z_list ?z_reversed ?z_isinstance ?w0 ?w1
    (case a0 => k_is)
    (case l0 => k_is)
    (case u0 => k_is)
    (case v0 => first | rfl | k_is)
    (case c0 => k_is)
    (case k0 => k_is)
    (case a1 => k_is)
    (case l1 => k_is)
    (case c1 => k_is)
    (case k1 => k_is)
    (case a2 => k_is)
    (case l2 => k_is)
    (case c2 => k_is)
    (case k2 => k_is)
    (case a3 => k_is)
    (case l3 => k_is)
    (case c3 => k_is)
    (case k3 => k_is)
    (case a4 => k_is)
    (case l4 => k_is)
    (case c4 => k_is)
    (case k4 => k_is)
    (case a5 => k_is)
    (case l5 => k_is)
    (case c5 => k_is)
    (case k5 => k_is)
    (case a6 => k_is)
    (case l6 => k_is)
    (case c6 => k_is)
    (case k6 => k_is)
    (case a7 => k_is)
    (case l7 => k_is)
    (case c7 => k_is)
    (case k7 => k_is)
    (case a8 => k_is)
    (case l8 => k_is)
    (case c8 => k_is)
    (case k8 => k_is)
    (case a9 => k_is)
    (case l9 => k_is)
    (case c9 => k_is)
    (case k9 => k_is)
    (case a10 => k_is)
    (case l10 => k_is)
    (case c10 => k_is)
    (case k10 => k_is)
    (case a11 => k_is)
    (case l11 => k_is)
    (case c11 => k_is)
    (case k11 => k_is)
    (case a12 => k_is)
    (case l12 => k_is)
    (case c12 => k_is)
    (case k12 => k_is)
    (case a13 => k_is)
    (case l13 => k_is)
    (case c13 => k_is)
    (case k13 => k_is)
    (case g0 => k_is)
    (case x0 => k_exc)
    (case y0 => k_is)
    (case b0 => k_is)
    (case t0 => k_is)
    (case i0 => k_is)
    (case g1 => k_is)
    (case x1 => k_exc)
    (case y1 => k_is)
    (case b1 => k_is)
    (case t1 => k_is)
    (case i1 => k_is)
    (case s0_0 => first | rfl | k_is)
    (case s0_1 => first | rfl | k_is)
    (case s1_0 => first | rfl | k_is)
    (case s1_1 => first | rfl | k_is)
    (case z_gcd => k_is)
    (case z_len => k_is)
    (case z_all => k_is)
    (case z_str => k_is)
    (case z_int => k_is)
    (case z_abs => k_is)
    (case z_repr => k_is)
    (case z_bool => k_is)
    (case z_tuple => k_is)
    (case z_range => k_is)
    (case z_list => k_is)
    (case z_reversed => k_is)
    (case z_isinstance => k_is)
    (case w0 => k_is)
    (case w1 => k_is)
#print axioms PySem.Challenge.cw_mitrehouse_k01_texts_of_ratios_holds

