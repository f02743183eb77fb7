import PyProof.Rows.All
import Wide.All
import OpenK.AllK
import Wide.FinOn
import HandS.ForMost
import HandS.TryOnly
import HandS.ExcOwn
import HandS.WordsExc
import HandS.Gcd
import HandS.Wide
import HandS.IsInst
import HandS.Flow
import HandS.Dict
import HandS.More
import KE.SortData
import HandS.Text
import HandS.RaiseMore
import HandS.Conv
import HandS.Deep
import HandS.Style
import HandS.Rev
import PyProof.ListNew
import HandS.TupAny
import HandS.SetTxt0
import HandS.TupSets
import HandS.Iter
import HandS.TryMany
import HandS.Defaults
import HandS.EndBits
import HandS.Ends
import HandS.Head3
import HandS.HeadHook2
import PySem.Challenge.RW_mitrehouse_k06_lengths
set_option Elab.async false
set_option linter.all false
set_option maxRecDepth 100000
namespace Eng
open PySem PySem.Spec L2
open PyProof.Rows hiding St
abbrev Fg := PySem.W.Frag

/-- values as trees; a list's, dict's, set's identity is no part of it -/
inductive PV where
  | non | bl (b : Bool) | int (i : Int) | str (s : Str)
  | tup (l : List PV) | lst (l : List PV) | dct (l : List (Key × PV)) | set (l : List PV)
  /-- a list that is read alone (the script) -/
  | scr (l : List PV)

mutual
/-- v holds p, read off the frozen part Z -/
inductive Rp (K : Fg) (Z : Hp) : PV → V → Prop
  | non : Rp K Z .non .non
  | bl (b : Bool) : Rp K Z (.bl b) (.bl b)
  | int (i : Int) : Rp K Z (.int i) (.int i)
  | str (s : Str) : Rp K Z (.str s) (.str s)
  | tup {a : Addr} {vs : List V} {ps : List PV} (h : SqT K Z a vs) (r : RpL K Z ps vs) : Rp K Z (.tup ps) (.ref a)
  | lst {a : Addr} {vs : List V} {ps : List PV} (h : Z a = some (.lst vs)) (r : RpL K Z ps vs) : Rp K Z (.lst ps) (.ref a)
  | scr {a : Addr} {vs : List V} {ps : List PV} (h : SqL K Z a vs) (r : RpL K Z ps vs) : Rp K Z (.scr ps) (.ref a)
  | dct {a : Addr} {o : Obj} {vs : List (Key × V)} {ps : List (Key × PV)} (h : Z a = some (.frz o (.dK vs))) (r : RpK K Z ps vs) : Rp K Z (.dct ps) (.ref a)
inductive RpL (K : Fg) (Z : Hp) : List PV → List V → Prop
  | nil : RpL K Z [] []
  | cons {p : PV} {v : V} {ps : List PV} {vs : List V} (h : Rp K Z p v) (t : RpL K Z ps vs) : RpL K Z (p :: ps) (v :: vs)
/-- a dict's entries -/
inductive RpK (K : Fg) (Z : Hp) : List (Key × PV) → List (Key × V) → Prop
  | nil : RpK K Z [] []
  | cons {k : Key} {p : PV} {v : V} {ps : List (Key × PV)} {vs : List (Key × V)} (h : Rp K Z p v) (t : RpK K Z ps vs) : RpK K Z ((k, p) :: ps) ((k, v) :: vs)
end

theorem rd_same {H H' : Hp} {a : Addr} {u : HO} (e : Same H H') (h : Rd H a u) : Rd H' a u := by
  rcases h with h | ⟨o, h⟩
  · exact .inl (e _ _ h)
  · exact .inr ⟨o, e _ _ h⟩
theorem sqT_same {K : Fg} {H H' : Hp} {a : Addr} {xs : List V} (e : Same H H') (h : SqT K H a xs) : SqT K H' a xs := by
  rcases h with (h | ⟨o, h⟩) | h
  · exact .inl (.inl (e _ _ h))
  · exact .inl (.inr ⟨o, e _ _ h⟩)
  · exact .inr h
mutual
theorem Rp.mono {K : Fg} {Z Z' : Hp} (e : Same Z Z') : ∀ {p : PV} {v : V}, Rp K Z p v → Rp K Z' p v
  | _, _, .non => .non
  | _, _, .bl b => .bl b
  | _, _, .int b => .int b
  | _, _, .str b => .str b
  | _, _, .tup h r => .tup (sqT_same e h) (RpL.mono e r)
  | _, _, .lst h r => .lst (e _ _ h) (RpL.mono e r)
  | _, _, .scr h r => .scr (e.seq h) (RpL.mono e r)
  | _, _, .dct h r => .dct (e _ _ h) (RpK.mono e r)
theorem RpL.mono {K : Fg} {Z Z' : Hp} (e : Same Z Z') : ∀ {p : List PV} {v : List V}, RpL K Z p v → RpL K Z' p v
  | _, _, .nil => .nil
  | _, _, .cons h t => .cons (Rp.mono e h) (RpL.mono e t)
theorem RpK.mono {K : Fg} {Z Z' : Hp} (e : Same Z Z') : ∀ {p : List (Key × PV)} {v : List (Key × V)}, RpK K Z p v → RpK K Z' p v
  | _, _, .nil => .nil
  | _, _, .cons h t => .cons (Rp.mono e h) (RpK.mono e t)
end
/-! ### dicts by their keys -/
def dG {α : Type} (l : List (Key × α)) (k : Key) : Option α := (l.find? fun kv => decide (kv.1 = k)).map (·.2)
def dP {α : Type} (l : List (Key × α)) (k : Key) (v : α) : List (Key × α) := if l.any (fun kv => decide (kv.1 = k)) = true then l.map (fun kv => if kv.1 = k then (kv.1, v) else kv) else l ++ [(k, v)]
def dD {α : Type} (l : List (Key × α)) (k : Key) : List (Key × α) := l.filter fun kv => decide (kv.1 ≠ k)
theorem RpK.keys {K : Fg} {Z : Hp} : ∀ {p : List (Key × PV)} {v : List (Key × V)}, RpK K Z p v → v.map (·.1) = p.map (·.1)
  | _, _, .nil => rfl
  | _, _, .cons h t => by rw [List.map_cons, List.map_cons, RpK.keys t]
theorem RpK.length {K : Fg} {Z : Hp} {p : List (Key × PV)} {v : List (Key × V)} (r : RpK K Z p v) : v.length = p.length := by
  have := congrArg List.length r.keys
  simpa using this
theorem RpK.get {K : Fg} {Z : Hp} (k : Key) : ∀ {p : List (Key × PV)} {v : List (Key × V)}, RpK K Z p v → (dG p k = none ∧ valV v k = none) ∨ ∃ x y, dG p k = some x ∧ valV v k = some y ∧ Rp K Z x y
  | _, _, .nil => .inl ⟨rfl, rfl⟩
  | _, _, .cons (k := j) (p := p) (v := v) (ps := ps) (vs := vs) h t => by
    by_cases e : j = k
    · exact .inr ⟨p, v, by simp [dG, e], by rw [valV_pos e], h⟩
    · have e1 : dG ((j, p) :: ps) k = dG ps k := by simp [dG, e]
      rw [e1, valV_neg e]
      exact RpK.get k t
theorem RpK.any {K : Fg} {Z : Hp} (k : Key) : ∀ {p : List (Key × PV)} {v : List (Key × V)}, RpK K Z p v → (v.any fun kv => decide (kv.1 = k)) = p.any fun kv => decide (kv.1 = k)
  | _, _, .nil => rfl
  | _, _, .cons h t => by rw [List.any_cons, List.any_cons, RpK.any k t]
theorem RpK.repl {K : Fg} {Z : Hp} (k : Key) {x : PV} {y : V} (r : Rp K Z x y) : ∀ {p : List (Key × PV)} {v : List (Key × V)}, RpK K Z p v → RpK K Z (p.map fun kv => if kv.1 = k then (kv.1, x) else kv) (v.map fun kv => if kv.1 = k then (kv.1, y) else kv)
  | _, _, .nil => .nil
  | _, _, .cons (k := j) h t => by
    rw [List.map_cons, List.map_cons]
    by_cases e : j = k
    · rw [if_pos e, if_pos e]; exact .cons r (RpK.repl k r t)
    · rw [if_neg e, if_neg e]; exact .cons h (RpK.repl k r t)
theorem RpK.append {K : Fg} {Z : Hp} : ∀ {p q : List (Key × PV)} {v u : List (Key × V)}, RpK K Z p v → RpK K Z q u → RpK K Z (p ++ q) (v ++ u)
  | _, _, _, _, .nil, s => s
  | _, _, _, _, .cons h t, s => .cons h (RpK.append t s)
theorem RpK.put {K : Fg} {Z : Hp} (k : Key) {x : PV} {y : V} (r : Rp K Z x y) {p : List (Key × PV)} {v : List (Key × V)} (h : RpK K Z p v) : RpK K Z (dP p k x) (putK v k y) := by
  unfold dP putK
  rw [h.any k]
  split
  · exact h.repl k r
  · exact h.append (.cons r .nil)
theorem RpK.drop {K : Fg} {Z : Hp} (k : Key) : ∀ {p : List (Key × PV)} {v : List (Key × V)}, RpK K Z p v → RpK K Z (dD p k) (dropK v k)
  | _, _, .nil => .nil
  | _, _, .cons (k := j) h t => by
    unfold dD dropK
    by_cases e : j = k
    · rw [List.filter_cons_of_neg (by simp [e]), List.filter_cons_of_neg (by simp [e])]; exact RpK.drop k t
    · rw [List.filter_cons_of_pos (by simp [e]), List.filter_cons_of_pos (by simp [e])]; exact .cons h (RpK.drop k t)
theorem RpL.length {K : Fg} {Z : Hp} : ∀ {p : List PV} {v : List V}, RpL K Z p v → v.length = p.length
  | _, _, .nil => rfl
  | _, _, .cons h t => by rw [List.length_cons, List.length_cons, RpL.length t]
end Eng

namespace Eng
open PySem PySem.Spec L2
open PyProof.Rows hiding St

/-! ### lists of values -/
section
variable {K : Fg} {Z : Hp}
theorem RpL.get : ∀ {ps : List PV} {vs : List V} {i : Nat} {p : PV}, RpL K Z ps vs → ps[i]? = some p → ∃ v, vs[i]? = some v ∧ Rp K Z p v
  | _, _, _, _, .nil, e => by simp at e
  | _, _, 0, _, .cons h _, e => by simp at e; subst e; exact ⟨_, rfl, h⟩
  | _, _, i + 1, p, .cons _ t, e => by
    obtain ⟨v, h1, h2⟩ := RpL.get (i := i) (p := p) t (by simpa using e)
    exact ⟨v, by simpa using h1, h2⟩
theorem RpL.get' : ∀ {ps : List PV} {vs : List V} {i : Nat} {v : V}, RpL K Z ps vs → vs[i]? = some v → ∃ p, ps[i]? = some p ∧ Rp K Z p v
  | _, _, _, _, .nil, e => by simp at e
  | _, _, 0, _, .cons h _, e => by simp at e; subst e; exact ⟨_, rfl, h⟩
  | _, _, i + 1, v, .cons _ t, e => by
    obtain ⟨p, h1, h2⟩ := RpL.get' (i := i) (v := v) t (by simpa using e)
    exact ⟨p, by simpa using h1, h2⟩
theorem RpL.append : ∀ {ps qs : List PV} {vs ws : List V}, RpL K Z ps vs → RpL K Z qs ws → RpL K Z (ps ++ qs) (vs ++ ws)
  | _, _, _, _, .nil, s => s
  | _, _, _, _, .cons h t, s => .cons h (RpL.append t s)
theorem RpL.snoc {ps : List PV} {vs : List V} {p : PV} {v : V} (h : RpL K Z ps vs) (r : Rp K Z p v) : RpL K Z (ps ++ [p]) (vs ++ [v]) := h.append (.cons r .nil)
theorem RpL.take : ∀ {ps : List PV} {vs : List V} (n : Nat), RpL K Z ps vs → RpL K Z (ps.take n) (vs.take n)
  | _, _, 0, _ => .nil
  | _, _, _ + 1, .nil => .nil
  | _, _, n + 1, .cons h t => .cons h (RpL.take n t)
theorem RpL.drop : ∀ {ps : List PV} {vs : List V} (n : Nat), RpL K Z ps vs → RpL K Z (ps.drop n) (vs.drop n)
  | _, _, 0, h => h
  | _, _, _ + 1, .nil => .nil
  | _, _, n + 1, .cons _ t => RpL.drop n t
theorem RpL.set {p : PV} {v : V} (r : Rp K Z p v) : ∀ {ps : List PV} {vs : List V} (i : Nat), RpL K Z ps vs → RpL K Z (ps.set i p) (vs.set i v)
  | _, _, _, .nil => .nil
  | _, _, 0, .cons _ t => .cons r t
  | _, _, i + 1, .cons h t => .cons h (RpL.set r i t)
theorem RpL.erase : ∀ {ps : List PV} {vs : List V} (i : Nat), RpL K Z ps vs → RpL K Z (ps.eraseIdx i) (vs.eraseIdx i)
  | _, _, _, .nil => .nil
  | _, _, 0, .cons _ t => t
  | _, _, i + 1, .cons h t => .cons h (RpL.erase i t)
theorem RpL.reverse : ∀ {ps : List PV} {vs : List V}, RpL K Z ps vs → RpL K Z ps.reverse vs.reverse
  | _, _, .nil => .nil
  | _, _, .cons h t => by rw [List.reverse_cons, List.reverse_cons]; exact (RpL.reverse t).snoc h
theorem RpL.one {p : PV} {vs : List V} (h : RpL K Z [p] vs) : ∃ v, vs = [v] ∧ Rp K Z p v := by
  cases h with
  | cons h t => cases t; exact ⟨_, rfl, h⟩
theorem RpL.two {p q : PV} {vs : List V} (h : RpL K Z [p, q] vs) : ∃ v u, vs = [v, u] ∧ Rp K Z p v ∧ Rp K Z q u := by
  cases h with
  | cons h t =>
    obtain ⟨u, e, r⟩ := t.one
    subst e
    exact ⟨_, _, rfl, h, r⟩
end

/-! ### slots, entry, the state -/
inductive Slot where
  | none | val (p : PV) | own (k : Bool) (p : PV)
abbrev Sg := List Slot

def OwnR (K : Fg) (Z H : Hp) (a : Addr) : PV → Prop
  | .lst ps => ∃ vs, H a = some (.lst vs) ∧ RpL K Z ps vs
  | .dct ps => ∃ o vs, H a = some (.frz o (.dK vs)) ∧ RpK K Z ps vs
  | _ => False
theorem OwnR.alive {K : Fg} {Z H : Hp} {a : Addr} {p : PV} (h : OwnR K Z H a p) : H a ≠ Option.none := by
  cases p <;> first | exact h.elim | skip
  · obtain ⟨vs, e, _⟩ := h
    rw [e]; exact fun z => nomatch z
  · obtain ⟨o, vs, e, _⟩ := h
    rw [e]; exact fun z => nomatch z
/-- such a thing, frozen -/
theorem OwnR.frz {K : Fg} {Z H : Hp} {a : Addr} {p : PV} (h : OwnR K Z H a p) (z : Z a = Option.none) : ∃ o, H a = some o ∧ Rp K (upd Z a o) p (.ref a) := by
  have sm : ∀ o, Same Z (upd Z a o) := fun o b u q => by rw [upd_ne (ne_of_none q z)]; exact q
  cases p <;> first | exact h.elim | skip
  · obtain ⟨vs, e, r⟩ := h
    exact ⟨_, e, .lst upd_same (r.mono (sm _))⟩
  · obtain ⟨o, vs, e, r⟩ := h
    exact ⟨_, e, .dct upd_same (r.mono (sm _))⟩
theorem OwnR.mono {K : Fg} {Z H Z' H' : Hp} {a : Addr} {p : PV} (h : OwnR K Z H a p) (e : Same Z Z') (k : ∀ o, H a = some o → H' a = some o) : OwnR K Z' H' a p := by
  cases p <;> first | exact h.elim | skip
  · obtain ⟨vs, e1, r⟩ := h
    exact ⟨vs, k _ e1, r.mono e⟩
  · obtain ⟨o, vs, e1, r⟩ := h
    exact ⟨o, vs, k _ e1, r.mono e⟩

/-- the entry of a def: its heap, its frozen part, the lists that are handed in to be changed (slot, address) -/
structure Ent where
  H0 : Hp
  Z0 : Hp
  io : List (Nat × Addr)
  /-- objects that are looked after elsewhere (a list that is being made) -/
  pr : List (Addr × HO)
def IsOwn (ε : Sg) (i : Nat) : Prop := ∃ k p, ε[i]? = some (.own k p)

def SlotR (K : Fg) (g : Ent) (Z H : Hp) (σ : St) (i : Nat) : Slot → Prop
  | .none => True
  | .val p => ∃ v, σ[i]? = some (some v) ∧ Rp K Z p v
  | .own k p => ∃ a, σ[i]? = some (some (V.ref a)) ∧ Z a = Option.none ∧ OwnR K Z H a p ∧ (k = true → g.H0 a = Option.none) ∧ (k = false → (i, a) ∈ g.io)

structure Good (K : Fg) (g : Ent) (σ : St) (ε : Sg) (Z H : Hp) : Prop where
  len : σ.length = ε.length
  slot : ∀ i s, ε[i]? = some s → SlotR K g Z H σ i s
  dis : ∀ i j a, IsOwn ε i → IsOwn ε j → σ[i]? = some (some (V.ref a)) → σ[j]? = some (some (V.ref a)) → i = j
  zh : Same Z H
  hh : ∀ b o, g.H0 b = some o → b ∉ g.io.map (·.2) → H b = some o
  al : ∀ b, H b = Option.none → g.H0 b = Option.none
  zf : ∀ b, Z b ≠ Option.none → g.Z0 b ≠ Option.none ∨ g.H0 b = Option.none
  zz : Same g.Z0 Z
  io : ∀ i a, (i, a) ∈ g.io → σ[i]? = some (some (V.ref a)) ∧ ∃ p, ε[i]? = some (.own false p)
  pr : ∀ q ∈ g.pr, H q.1 = some q.2 ∧ Z q.1 = Option.none ∧ ∀ i, IsOwn ε i → σ[i]? ≠ some (some (V.ref q.1))

/-- more objects, nothing changed -/
structure Ext (Z H Z' H' : Hp) : Prop where
  zz : Same Z Z'
  hh : Same H H'
  zh : Same Z' H'
  zf : ∀ b, Z' b ≠ Option.none → Z b ≠ Option.none ∨ H b = Option.none
theorem Ext.refl {Z H : Hp} (h : Same Z H) : Ext Z H Z H := ⟨Same.refl _, Same.refl _, h, fun _ z => .inl z⟩
theorem Ext.trans {Z H Z1 H1 Z2 H2 : Hp} (a : Ext Z H Z1 H1) (b : Ext Z1 H1 Z2 H2) : Ext Z H Z2 H2 :=
  ⟨a.zz.trans b.zz, a.hh.trans b.hh, b.zh, fun c z => (b.zf c z).elim (fun y => a.zf c y) fun y => .inr (a.hh.free y)⟩
/-- a new object, not frozen -/
theorem Ext.new {Z H : Hp} {a : Addr} {o : HO} (h : Same Z H) (n : H a = Option.none) : Ext Z H Z (upd H a o) :=
  ⟨Same.refl _, fun b u e => by rw [upd_ne (ne_of_none e n)]; exact e, fun b u e => by rw [upd_ne (ne_of_none (h _ _ e) n)]; exact h _ _ e, fun _ z => .inl z⟩
/-- a new object, frozen -/
theorem Ext.newF {Z H : Hp} {a : Addr} {o : HO} (h : Same Z H) (n : H a = Option.none) : Ext Z H (upd Z a o) (upd H a o) := by
  have nz : Z a = Option.none := h.free n
  refine ⟨fun b u e => by rw [upd_ne (ne_of_none e nz)]; exact e, fun b u e => by rw [upd_ne (ne_of_none e n)]; exact e, fun b u e => ?_, fun b z => ?_⟩
  · by_cases hb : b = a
    · subst hb; rw [upd_same] at e ⊢; exact e
    · rw [upd_ne hb] at e ⊢; exact h _ _ e
  · by_cases hb : b = a
    · subst hb; exact .inr n
    · rw [upd_ne hb] at z; exact .inl z

section
variable {K : Fg} {g : Ent} {σ : St} {ε : Sg} {Z H Z' H' : Hp}
theorem SlotR.ext {i : Nat} {s : Slot} (h : SlotR K g Z H σ i s) (e : Ext Z H Z' H') : SlotR K g Z' H' σ i s := by
  cases s with
  | none => trivial
  | val p => obtain ⟨v, h1, h2⟩ := h; exact ⟨v, h1, h2.mono e.zz⟩
  | own k p =>
    obtain ⟨a, h1, h2, h3, h4⟩ := h
    refine ⟨a, h1, ?_, h3.mono e.zz fun o q => e.hh _ _ q, h4⟩
    cases z : Z' a with
    | none => rfl
    | some u =>
      rcases e.zf a (by rw [z]; exact fun y => nomatch y) with y | y
      · exact absurd h2 y
      · exact absurd y h3.alive
theorem Good.ext (G : Good K g σ ε Z H) (e : Ext Z H Z' H') : Good K g σ ε Z' H' where
  len := G.len
  slot := fun i s h => (G.slot i s h).ext e
  dis := G.dis
  zh := e.zh
  hh := fun b o h n => e.hh _ _ (G.hh b o h n)
  al := fun b h => G.al b (e.hh.free h)
  zf := fun b z => (e.zf b z).elim (fun y => G.zf b y) fun y => .inr (G.al b y)
  zz := G.zz.trans e.zz
  io := G.io
  pr := fun q hq => by
    obtain ⟨h1, h2, h3⟩ := G.pr q hq
    refine ⟨e.hh _ _ h1, ?_, h3⟩
    cases z : Z' q.1 with
    | none => rfl
    | some u =>
      rcases e.zf q.1 (by rw [z]; exact fun y => nomatch y) with y | y
      · exact absurd h2 y
      · rw [h1] at y; cases y

/-! ### what an expression hands back -/
inductive Rv where
  | val (p : PV) | fresh (p : PV) | own (i : Nat)
def RvR (K : Fg) (g : Ent) (σ : St) (ε : Sg) (Z H : Hp) : Rv → V → Prop
  | .val p, v => Rp K Z p v
  | .fresh p, v => ∃ a, v = .ref a ∧ Z a = Option.none ∧ g.H0 a = Option.none ∧ OwnR K Z H a p ∧ (∀ i, IsOwn ε i → σ[i]? ≠ some (some (V.ref a))) ∧ ∀ q ∈ g.pr, q.1 ≠ a
  | .own i, v => σ[i]? = some (some v)
/-- an operand: not fresh -/
@[simp] def Rv.opd : Rv → Rv
  | .fresh p => .val p
  | r => r
/-- what is read at the top: frozen, or a list of one's own -/
def View (K : Fg) (Z H : Hp) (p : PV) (v : V) : Prop := Rp K Z p v ∨ ∃ a, v = .ref a ∧ OwnR K Z H a p
theorem View.ext {p : PV} {v : V} (h : View K Z H p v) (e : Ext Z H Z' H') : View K Z' H' p v := by
  rcases h with h | ⟨a, h1, h2⟩
  · exact .inl (h.mono e.zz)
  · exact .inr ⟨a, h1, h2.mono e.zz fun o q => e.hh _ _ q⟩
theorem View.int {i : Int} {v : V} (h : View K Z H (.int i) v) : v = .int i := by
  rcases h with h | ⟨a, _, h⟩
  · cases h; rfl
  · exact h.elim
theorem View.bl {i : Bool} {v : V} (h : View K Z H (.bl i) v) : v = .bl i := by
  rcases h with h | ⟨a, _, h⟩
  · cases h; rfl
  · exact h.elim
theorem View.str {i : Str} {v : V} (h : View K Z H (.str i) v) : v = .str i := by
  rcases h with h | ⟨a, _, h⟩
  · cases h; rfl
  · exact h.elim
theorem View.non {v : V} (h : View K Z H .non v) : v = .non := by
  rcases h with h | ⟨a, _, h⟩
  · cases h; rfl
  · exact h.elim
theorem View.tup {ps : List PV} {v : V} (e : Same Z H) (h : View K Z H (.tup ps) v) : ∃ a vs, v = .ref a ∧ SqT K H a vs ∧ RpL K Z ps vs := by
  rcases h with h | ⟨a, _, h⟩
  · cases h with
    | tup h r => exact ⟨_, _, rfl, sqT_same e h, r⟩
  · exact h.elim
theorem View.lst {ps : List PV} {v : V} (e : Same Z H) (h : View K Z H (.lst ps) v) : ∃ a vs, v = .ref a ∧ Rd H a (.lst vs) ∧ RpL K Z ps vs := by
  rcases h with h | ⟨a, rfl, vs, h1, h2⟩
  · cases h with
    | lst h r => exact ⟨_, _, rfl, .inl (e _ _ h), r⟩
  · exact ⟨a, vs, rfl, .inl h1, h2⟩

theorem View.lstH {ps : List PV} {v : V} (e : Same Z H) (h : View K Z H (.lst ps) v) : ∃ a vs, v = .ref a ∧ H a = some (.lst vs) ∧ RpL K Z ps vs := by
  rcases h with h | ⟨a, rfl, vs, h1, h2⟩
  · cases h with
    | lst h r => exact ⟨_, _, rfl, e _ _ h, r⟩
  · exact ⟨a, vs, rfl, h1, h2⟩

theorem View.dct {ps : List (Key × PV)} {v : V} (e : Same Z H) (h : View K Z H (.dct ps) v) : ∃ a o vs, v = .ref a ∧ H a = some (.frz o (.dK vs)) ∧ RpK K Z ps vs := by
  rcases h with h | ⟨a, rfl, o, vs, h1, h2⟩
  · cases h with
    | dct h r => exact ⟨_, _, _, rfl, e _ _ h, r⟩
  · exact ⟨a, o, vs, rfl, h1, h2⟩

theorem View.scr {ps : List PV} {v : V} (e : Same Z H) (h : View K Z H (.scr ps) v) : ∃ a vs, v = .ref a ∧ SqL K H a vs ∧ RpL K Z ps vs := by
  rcases h with h | ⟨a, _, h⟩
  · cases h with
    | scr h r => exact ⟨_, _, rfl, e.seq h, r⟩
  · exact h.elim

/-- what stands at a slot -/
@[simp] def peekS (ε : Sg) (i : Nat) : Option PV := match ε[i]? with
  | some (.val p) => some p
  | some (.own _ p) => some p
  | _ => none
@[simp] def Rv.peek (ε : Sg) : Rv → Option PV
  | .val p => some p
  | .fresh p => some p
  | .own i => peekS ε i
theorem Good.peekS (G : Good K g σ ε Z H) {i : Nat} {p : PV} (h : peekS ε i = some p) : ∃ v, σ[i]? = some (some v) ∧ View K Z H p v := by
  unfold Eng.peekS at h
  split at h <;> cases h
  · rename_i e
    obtain ⟨v, h1, h2⟩ := G.slot _ _ e
    exact ⟨v, h1, .inl h2⟩
  · rename_i e
    obtain ⟨a, h1, _, h2, _⟩ := G.slot _ _ e
    exact ⟨_, h1, .inr ⟨a, rfl, h2⟩⟩
theorem Good.peek (G : Good K g σ ε Z H) {r : Rv} {p : PV} {v : V} (h : r.peek ε = some p) (hr : RvR K g σ ε Z H r v) : View K Z H p v := by
  cases r with
  | val q => cases h; exact .inl hr
  | fresh q =>
    cases h
    obtain ⟨a, e, _, _, o, _, _⟩ := hr
    exact .inr ⟨a, e, o⟩
  | own i =>
    obtain ⟨u, h1, h2⟩ := G.peekS h
    have e : σ[i]? = some (some v) := hr
    rw [e] at h1
    cases h1
    exact h2

/-! ### freezing -/
/-- the object at a, frozen from here on -/
theorem Ext.freeze {o : HO} {a : Addr} (h : Same Z H) (e : H a = some o) : Same Z (upd Z a o) ∧ Same (upd Z a o) H ∨ ∃ u, Z a = some u := by
  cases z : Z a with
  | some u => exact .inr ⟨u, rfl⟩
  | none =>
    refine .inl ⟨fun b u q => by rw [upd_ne (ne_of_none q z)]; exact q, fun b u q => ?_⟩
    by_cases hb : b = a
    · subst hb; rw [upd_same] at q; cases q; exact e
    · rw [upd_ne hb] at q; exact h _ _ q
theorem same_frz {o : HO} {a : Addr} (z : Z a = Option.none) : Same Z (upd Z a o) := fun b u q => by rw [upd_ne (ne_of_none q z)]; exact q
theorem frz_same {o : HO} {a : Addr} (h : Same Z H) (e : H a = some o) : Same (upd Z a o) H := fun b u q => by
  by_cases hb : b = a
  · subst hb; rw [upd_same] at q; cases q; exact e
  · rw [upd_ne hb] at q; exact h _ _ q
/-- a fresh list becomes a frozen value -/
theorem Good.frzFresh (G : Good K g σ ε Z H) {p : PV} {v : V} (h : RvR K g σ ε Z H (.fresh p) v) : ∃ Z', Same Z Z' ∧ Good K g σ ε Z' H ∧ Rp K Z' p v := by
  obtain ⟨a, rfl, h1, h2, h3, h4, h5⟩ := h
  obtain ⟨ob, e, rp⟩ := h3.frz h1
  refine ⟨upd Z a ob, same_frz h1, ⟨G.len, fun i s hs => ?_, G.dis, frz_same G.zh e, G.hh, G.al, fun b z => ?_, G.zz.trans (same_frz h1), G.io, fun q hq => ⟨(G.pr q hq).1, by rw [upd_ne (h5 q hq)]; exact (G.pr q hq).2.1, (G.pr q hq).2.2⟩⟩, rp⟩
  · have q := G.slot i s hs
    cases s with
    | none => trivial
    | val p => obtain ⟨v, q1, q2⟩ := q; exact ⟨v, q1, q2.mono (same_frz h1)⟩
    | own k p =>
      obtain ⟨b, q1, q2, q3, q4⟩ := q
      have nb : b ≠ a := fun z => h4 i ⟨k, p, hs⟩ (by rw [q1, z])
      exact ⟨b, q1, by rw [upd_ne nb]; exact q2, q3.mono (same_frz h1) fun _ y => y, q4⟩
  · by_cases hb : b = a
    · subst hb; exact .inr h2
    · rw [upd_ne hb] at z; exact G.zf b z
/-- a slot's list becomes a frozen value -/
@[simp] def frzS (ε : Sg) (i : Nat) : Option (PV × Sg) := match ε[i]? with
  | some (.val p) => some (p, ε)
  | some (.own true p) => some (p, ε.set i (.val p))
  | _ => none
theorem getElem?_set_eq {α : Type} {l : List α} {i j : Nat} {x y : α} (h : (l.set i x)[j]? = some y) : (j = i ∧ y = x) ∨ (j ≠ i ∧ l[j]? = some y) := by
  by_cases e : j = i
  · subst e
    by_cases hl : j < l.length
    · rw [List.getElem?_set_self hl] at h; exact .inl ⟨rfl, (Option.some.inj h).symm⟩
    · rw [List.getElem?_eq_none (by simpa using hl)] at h; cases h
  · rw [List.getElem?_set_ne (Ne.symm e)] at h; exact .inr ⟨e, h⟩
theorem isOwn_set_val {i j : Nat} {p : PV} (h : IsOwn (ε.set i (.val p)) j) : j ≠ i ∧ IsOwn ε j := by
  obtain ⟨k, q, e⟩ := h
  rcases getElem?_set_eq e with ⟨_, z⟩ | ⟨n, z⟩
  · cases z
  · exact ⟨n, k, q, z⟩
theorem Good.frzS (G : Good K g σ ε Z H) {i : Nat} {p : PV} {ε' : Sg} (h : frzS ε i = some (p, ε')) : ∃ v Z', σ[i]? = some (some v) ∧ Same Z Z' ∧ Good K g σ ε' Z' H ∧ Rp K Z' p v := by
  unfold Eng.frzS at h
  split at h <;> cases h
  · rename_i e
    obtain ⟨v, h1, h2⟩ := G.slot _ _ e
    exact ⟨v, Z, h1, Same.refl _, G, h2⟩
  · rename_i e
    obtain ⟨a, h1, h2, h3, h4, _⟩ := G.slot _ _ e
    have h0 := h4 rfl
    obtain ⟨ob, ea, rp⟩ := h3.frz h2
    refine ⟨_, upd Z a ob, h1, same_frz h2, ⟨by rw [List.length_set]; exact G.len, fun j s hs => ?_, fun j l b oj ol ej el => ?_, frz_same G.zh ea, G.hh, G.al, fun b z => ?_, G.zz.trans (same_frz h2), fun j b hj => ?_, fun q hq => ?_⟩, rp⟩
    · rcases getElem?_set_eq hs with ⟨rfl, rfl⟩ | ⟨nj, hs⟩
      · exact ⟨_, h1, rp⟩
      · have q := G.slot j s hs
        cases s with
        | none => trivial
        | val p => obtain ⟨v, q1, q2⟩ := q; exact ⟨v, q1, q2.mono (same_frz h2)⟩
        | own k p =>
          obtain ⟨b, q1, q2, q3, q4⟩ := q
          have nb : b ≠ a := fun z => nj (G.dis j i a ⟨k, p, hs⟩ ⟨_, _, e⟩ (by rw [q1, z]) h1)
          exact ⟨b, q1, by rw [upd_ne nb]; exact q2, q3.mono (same_frz h2) fun _ y => y, q4⟩
    · exact G.dis j l b (isOwn_set_val oj).2 (isOwn_set_val ol).2 ej el
    · by_cases hb : b = a
      · subst hb; exact .inr h0
      · rw [upd_ne hb] at z; exact G.zf b z
    · obtain ⟨e1, q, e2⟩ := G.io j b hj
      refine ⟨e1, q, ?_⟩
      have nj : i ≠ j := fun z => by subst z; rw [e] at e2; cases e2
      rw [List.getElem?_set_ne nj]; exact e2
    · obtain ⟨q1, q2, q3⟩ := G.pr q hq
      have nq : q.1 ≠ a := fun z => q3 i ⟨_, _, e⟩ (by rw [h1, z])
      exact ⟨q1, by rw [upd_ne nq]; exact q2, fun j oj => q3 j (isOwn_set_val oj).2⟩

/-- an object that nobody here looks at is changed -/
theorem Good.away (G : Good K g σ ε Z H) {a : Addr} {o u : HO} (ha : H a = some u) (h0 : g.H0 a = Option.none) (hz : Z a = Option.none) (ho : ∀ i, IsOwn ε i → σ[i]? ≠ some (some (V.ref a))) (hp : ∀ q ∈ g.pr, q.1 ≠ a) :
    Good K g σ ε Z (upd H a o) where
  len := G.len
  slot := fun i s hs => by
    have q := G.slot i s hs
    cases s with
    | none => trivial
    | val p => exact q
    | own k p =>
      obtain ⟨b, q1, q2, q3, q4⟩ := q
      have nb : b ≠ a := fun z => ho i ⟨k, p, hs⟩ (by rw [q1, z])
      exact ⟨b, q1, q2, q3.mono (Same.refl _) fun _ y => by rw [upd_ne nb]; exact y, q4⟩
  dis := G.dis
  zh := fun b o e => by rw [upd_ne (ne_of_none e hz)]; exact G.zh b o e
  hh := fun b o e n => by rw [upd_ne (ne_of_none e h0)]; exact G.hh b o e n
  al := fun b e => by
    by_cases hb : b = a
    · subst hb; exact h0
    · rw [upd_ne hb] at e; exact G.al b e
  zf := G.zf
  zz := G.zz
  io := G.io
  pr := fun q hq => by
    obtain ⟨q1, q2, q3⟩ := G.pr q hq
    exact ⟨by rw [upd_ne (hp q hq)]; exact q1, q2, q3⟩
end
end Eng

namespace Eng
open PySem PySem.Spec L2
open PyProof.Rows hiding St
open PySem.W (alike)
open PySem.W (dataLe)

/-! ### the program as data -/
inductive Blt where
  | abs | len | int | all | gcd | repr | str | list | tuple | sorted | any | min | max | dict | isqrt
  deriving DecidableEq
/-- changing methods -/
inductive Mu where
  | append | pop | popAt | insert
/-- what is walked -/
inductive Src where
  | val | rng | rev | keys | vals | items
  deriving DecidableEq
inductive Tg where
  | nm (i : Nat) | tp (l : List Tg)
inductive IE where
  | var (i : Nat)
  | cst (p : PV)
  | glb (x : Str)
  | bin (op : Operator) (a b : IE)
  | neg (a : IE)
  | cmp (op : CmpOp) (a b : IE)
  | isN (a : IE) (not : Bool)
  | and (l : List IE) | or (l : List IE) | not (a : IE)
  | ite (c a b : IE)
  | tup (l : List IE) | lst (l : List IE)
  | sub (a i : IE)
  | slc (a : IE) (lo hi : Option IE)
  | call (f : Nat) (args : List IE)
  | blt (b : Blt) (args : List IE)
  | isi (a : IE) (ty : String)
  | cmpr (elt : IE) (tg : Tg) (k : Src) (its : List IE) (cond : List IE) (own : List Nat)
  | mut (m : Mu) (i : Nat) (args : List IE)
  /-- a o1 b o2 c -/
  | chn (o1 o2 : CmpOp) (a b c : IE)
  /-- a.split(b) -/
  | split (a b : IE)
  /-- list(reversed(a)) -/
  | lrev (a : IE)
  /-- a dict without entries -/
  | dnew
  /-- a name whose list or dict is changed no more -/
  | fzv (i : Nat)
  /-- a.get(k) and a.get(k, d) -/
  | dgt (a k : IE)
  | dgd (a k d : IE)
  /-- [elt for tg in .. for tg1 in ..] -/
  | cmp2 (elt : IE) (tg : Tg) (k : Src) (its : List IE) (tg1 : Tg) (k1 : Src) (its1 : List IE) (own own1 : List Nat)
  /-- [f, g, ..][i](args) -/
  | pick (fs : List Nat) (i : IE) (args : List IE)
  /-- sorted(set(a)), a list of texts -/
  | sset (a : IE)
  /-- {'k': e, ..} -/
  | ddis (ks : List Str) (es : List IE)
inductive IS where
  | pass | brk | cont
  | expr (e : IE)
  | asg (i : Nat) (e : IE)
  | asgT (t : Tg) (e : IE)
  | ret (e : IE)
  | retN
  | ifs (c : IE) (a b : List IS)
  | raise (c : Nat) (msg : Str)
  /-- the message is reckoned -/
  | raiseE (c : Nat) (e : IE)
  /-- x[k] = v -/
  | setI (i : Nat) (k v : IE)
  /-- x = f if c else g; return x(args) -/
  | selr (i : Nat) (c : IE) (f g : Nat) (args : List IE)
  /-- x op= e, a number or a text -/
  | aug (i : Nat) (op : Operator) (e : IE)
  | tryx (body : List IS) (c : Nat) (suite : List IS)
  /-- several clauses, each hands a constant back -/
  | tryn (body : List IS) (hs : List (Nat × PV))
  | for_ (tg : Tg) (k : Src) (its : List IE) (body : List IS)
  | whl (c : IE) (body : List IS)

/-! ### the interpreter's outcomes -/
inductive Out (α : Type) where
  | ok (a : α) (ε : Sg) | exc (c : Nat) (ε : Sg) | stuck
@[simp] def Out.bind {α β : Type} (x : Out α) (f : α → Sg → Out β) : Out β := match x with
  | .ok a ε => f a ε
  | .exc c ε => .exc c ε
  | .stuck => .stuck
inductive CO where
  | ok (r : PV) (fr : Bool) (outs : List PV) | exc (c : Nat) (outs : List PV) | stuck
inductive SO where
  | nx (ε : Sg) | rt (r : Rv) (ε : Sg) | bk (ε : Sg) | ct (ε : Sg) | exc (c : Nat) (ε : Sg) | stuck
@[simp] def lift (r : Option Rv) (ε : Sg) : Out Rv := match r with
  | some r => .ok r ε
  | none => .stuck

/-! ### values -/
mutual
/-- nothing in it can be changed -/
def imm : PV → Bool
  | .tup l => immL l
  | .lst _ => false
  | .dct _ => false
  | .set _ => false
  | .scr _ => false
  | _ => true
def immL : List PV → Bool
  | [] => true
  | p :: ps => imm p && immL ps
end
mutual
def toD : PV → Option PyData
  | .non => some .none
  | .bl b => some (.bool b)
  | .int i => some (.int i)
  | .str s => some (.str s)
  | .tup l => (toDL l).map .tuple
  | .lst l => (toDL l).map .list
  | _ => none
def toDL : List PV → Option (List PyData)
  | [] => some []
  | p :: ps => match toD p, toDL ps with
    | some d, some ds => some (d :: ds)
    | _, _ => none
end
def eqPV (p q : PV) : Option Bool := match p, q with
  | .str s, .str t => some (decide (s = t))
  | p, q => match toD p, toD q with
    | some d, some e => if SeqAt.shaped d = true ∧ SeqAt.shaped e = true then some (PyData.eqv d e) else none
    | _, _ => none
@[simp] def truth : PV → Option Bool
  | .non => some false
  | .bl b => some b
  | .int i => some (i != 0)
  | .str s => if s.length ≤ sizeLine then some ((s.length : Int) != 0) else none
  | .tup l => some (!l.isEmpty)
  | .lst l => some (!l.isEmpty)
  | .scr l => some (!l.isEmpty)
  | _ => none
/-- a dict's key -/
@[simp] def keyP : PV → Option Key
  | .int i => some (.inl i)
  | .str s => some (.inr s)
  | _ => none
@[simp] def kP : Key → PV
  | .inl i => .int i
  | .inr s => .str s
/-- pairs of a key and a value -/
@[simp] def prsP : List PV → Option (List (Key × PV))
  | [] => some []
  | .tup [k, v] :: l => match keyP k, prsP l with
    | some k, some r => some ((k, v) :: r)
    | _, _ => none
  | _ => none
/-- one after the other -/
@[simp] def dM {α : Type} (l more : List (Key × α)) : List (Key × α) := more.foldl (fun acc kv => dP acc kv.1 kv.2) l
/-- its data -/
def encP (p : PV) : PyData := (toD p).getD .none
/-- one kind of data, or none of them a tuple or None: what sorted takes -/
def tupNE : PyData → Bool
  | .tuple (_ :: _) => true
  | _ => false
def notTN : PyData → Bool
  | .tuple _ => false
  | .none => false
  | _ => true
def sortOk (l : List PV) : Bool := l.all (fun p => (toD p).isSome && decide ((encP p).depth ≤ 64)) && l.all (fun p => l.all fun q => alike (encP p) (encP q)) && (l.all (fun p => tupNE (encP p)) || l.all (fun p => notTN (encP p))) && decide (l.length ≤ sizeLine)
def sortP (l : List PV) : List PV := l.mergeSort (dataLe false encP)
/-- texts: each once, and in their order -/
def nubS : List Str → List Str
  | [] => []
  | x :: l => if x ∈ nubS l then nubS l else x :: nubS l
def sS (xs : List Str) : List Str := (nubS xs).mergeSort fun a b => decide (a.cps.toList ≤ b.cps.toList)
def strsP : List PV → Option (List Str)
  | [] => some []
  | .str x :: l => (strsP l).map (x :: ·)
  | _ => none
def flatP : PV → Bool
  | .non => true
  | .bl _ => true
  | .int _ => true
  | .str _ => true
  | _ => false
/-- p in q -/
def opIn (p : PV) : PV → Option Bool
  | .lst l => match toD p, toDL l with
    | some d, some ds => if SeqAt.shaped d = true ∧ SeqAt.shaped (.list ds) = true then some (ds.any fun z => PyData.eqv z d) else none
    | _, _ => none
  | .tup l => if flatP p = true ∧ l.all flatP = true then some (l.any fun y => PyData.eqv (encP y) (encP p)) else match toD p, toDL l with
    | some d, some ds => if SeqAt.shaped d = true ∧ SeqAt.shaped (.tuple ds) = true then some (ds.any fun z => PyData.eqv z d) else none
    | _, _ => none
  | .dct l => (keyP p).map fun k => (dG l k).isSome
  | .str t => match p with
    | .str s => match s.cps.toList with
      | [c] => some (decide (c ∈ t.cps.toList))
      | _ => some (!(Builtin.Str.occurrences t s 0 t.length 1).isEmpty)
    | _ => none
  | _ => none
/-- an int's text -/
def strI (i : Int) : Str := toString i
def mulOk (i j : Int) : Bool := decide (i.natAbs.log2 + j.natAbs.log2 < 134217000)

@[simp] def opBin : Operator → PV → PV → Option Rv
  | .Add, .int i, .int j => some (.val (.int (i + j)))
  | .Sub, .int i, .int j => some (.val (.int (i - j)))
  | .Sub, .bl i, .bl j => some (.val (.int ((if i then 1 else 0) - (if j then 1 else 0))))
  | .Mult, .int i, .int j => if mulOk i j then some (.val (.int (i * j))) else none
  | .FloorDiv, .int i, .int j => if j ≠ 0 ∧ Builtin.divisionGoesByPylong i j = false then some (.val (.int (i.fdiv j))) else none
  | .Mod, .int i, .int j => if j ≠ 0 then some (.val (.int (i.fmod j))) else none
  | .Pow, .int i, .int j => if 0 ≤ j ∧ j ≤ 1000000 ∧ i.natAbs < 2 ^ 64 then some (.val (.int (i ^ j.toNat))) else none
  | .Add, .str s, .str t => if s.length + t.length ≤ sizeLine then some (.val (.str (s ++ t))) else none
  | .Add, .lst a, .lst b => if a.length + b.length ≤ sizeLine then some (.fresh (.lst (a ++ b))) else none
  | .Mult, .lst a, .int k => if (-(2 ^ 63) ≤ k ∧ k < 2 ^ 63) ∧ a.length * k.toNat ≤ sizeLine then some (.fresh (.lst (List.replicate k.toNat a).flatten)) else none
  | .Mult, .str s, .int k => if (2 ≤ k ∧ k ≤ 100000) ∧ s.length ≠ 0 ∧ s.length * k.toNat ≤ sizeLine then some (.val (.str ⟨(List.replicate k.toNat s.cps.toList).flatten.toArray⟩)) else none
  | _, _, _ => none
@[simp] def opCmp : CmpOp → PV → PV → Option Bool
  | .Eq, p, q => eqPV p q
  | .NotEq, p, q => (eqPV p q).map (! ·)
  | .Lt, .int i, .int j => some (decide (i < j))
  | .LtE, .int i, .int j => some (decide (i ≤ j))
  | .Gt, .int i, .int j => some (decide (j < i))
  | .GtE, .int i, .int j => some (decide (j ≤ i))
  | .In, p, q => opIn p q
  | .NotIn, p, q => (opIn p q).map (! ·)
  | .Is, .bl a, .bl b => some (decide (a = b))
  | .IsNot, .bl a, .bl b => some (!decide (a = b))
  | _, _, _ => none
@[simp] def opNeg : PV → Option PV
  | .int i => some (.int (-i))
  | _ => none
@[simp] def opIx : PV → PV → Option PV
  | .lst l, .int i => atI l i
  | .scr l, .int i => atI l i
  | .tup l, .int i => atI l i
  | .dct l, p => (keyP p).bind fun k => dG l k
  | .str s, .int i => if s.length ≤ sizeLine then (atI s.cps.toList i).map fun c => .str ⟨#[c]⟩ else none
  | _, _ => none
def cutP (xs : List PV) (lo hi : Option Int) : List PV := (xs.drop (HT.sIx xs.length 0 lo)).take (HT.sIx xs.length xs.length hi - HT.sIx xs.length 0 lo)
def opSlc (p : PV) (lo hi : Option Int) : Option Rv := match p with
  | .lst l => some (.fresh (.lst (cutP l lo hi)))
  | .scr l => some (.fresh (.lst (cutP l lo hi)))
  | .tup l => some (.val (.tup (cutP l lo hi)))
  | .str s => if s.length ≤ sizeLine then some (.val (.str (cutS s lo hi))) else none
  | _ => none
@[simp] def allB : List PV → Option (List Bool)
  | [] => some []
  | .bl b :: l => (allB l).map (b :: ·)
  | _ => none
@[simp] def opBlt : Blt → List PV → Option Rv
  | .abs, [.int i] => some (.val (.int (if i < 0 then -i else i)))
  | .len, [.lst l] => some (.val (.int l.length))
  | .len, [.scr l] => some (.val (.int l.length))
  | .len, [.tup l] => some (.val (.int l.length))
  | .len, [.dct l] => some (.val (.int l.length))
  | .dict, [.dct l] => some (.fresh (.dct l))
  | .dict, [.lst l] => (prsP l).map fun r => .fresh (.dct (dM [] r))
  | .isqrt, [.int i] => if 0 ≤ i ∧ i.natAbs.log2 < 1900 then some (.val (.int (PySem.Float64.isqrt i.toNat : Nat))) else none
  | .len, [.str s] => if s.length ≤ sizeLine then some (.val (.int s.length)) else none
  | .int, [.int i] => some (.val (.int i))
  | .int, [.bl b] => some (.val (.int (if b = true then 1 else 0)))
  | .all, [.lst l] => (allB l).map fun bs => .val (.bl (bs.all id))
  | .gcd, [.int i, .int j] => some (.val (.int (Nat.gcd i.natAbs j.natAbs : Nat)))
  | .repr, [p] => match toD p with
    | some d => if SeqAt.shaped d = true ∧ d.showable = true ∧ d.shown.length ≤ sizeLine then some (.val (.str d.shown)) else none
    | none => none
  | .int, [.str s] => match PySem.intText? s with
    | some n => if s.length ≤ 640 then some (.val (.int n)) else none
    | none => none
  | .str, [.int i] => if i.natAbs.log2 < 1920 then some (.val (.str (strI i))) else none
  | .str, [.str s] => some (.val (.str s))
  | .list, [.lst l] => some (.fresh (.lst l))
  | .list, [.scr l] => some (.fresh (.lst l))
  | .list, [.tup l] => some (.fresh (.lst l))
  | .tuple, [.lst l] => some (.val (.tup l))
  | .tuple, [.scr l] => some (.val (.tup l))
  | .tuple, [.tup l] => some (.val (.tup l))
  | .sorted, [.lst l] => if sortOk l = true then some (.fresh (.lst (sortP l))) else none
  | .any, [.lst l] => (allB l).map fun bs => .val (.bl (bs.any id))
  | .min, [.int i, .int j] => some (.val (.int (if j < i then j else i)))
  | .max, [.int i, .int j] => some (.val (.int (if j > i then j else i)))
  | _, _ => none
def tyN : PV → String
  | .non => "NoneType"
  | .bl _ => "bool"
  | .int _ => "int"
  | .str _ => "str"
  | .tup _ => "tuple"
  | .lst _ => "list"
  | .dct _ => "dict"
  | .scr _ => "list"
  | .set _ => "set"
def opIsi (p : PV) (ty : String) : Option Bool := match p with
  | .dct _ => none
  | p => kitB (tyN p) ty
/-- a place that a word of the machine holds -/
def ixB (i : Int) : Bool := decide (0 ≤ i ∧ i < 2 ^ 62)
/-- a changing method on a list of one's own: the list behind it, what is handed back -/
def opMut : Mu → PV → List PV → Option (PV × PV)
  | .append, .lst l, [p] => if l.length < sizeLine then some (.lst (l ++ [p]), .non) else none
  | .pop, .lst l, [] => match l[l.length - 1]? with
    | some p => some (.lst l.dropLast, p)
    | none => none
  | .popAt, .lst l, [.int i] => if ixB i = true then match l[i.toNat]? with
    | some p => some (.lst (l.eraseIdx i.toNat), p)
    | none => none
    else none
  | .insert, .lst l, [.int i, p] => if ixB i = true ∧ l.length < sizeLine then some (.lst (l.take i.toNat ++ [p] ++ l.drop i.toNat), .non) else none
  | _, _, _ => none

mutual
def tgS : Tg → List Nat
  | .nm i => [i]
  | .tp l => tgSs l
def tgSs : List Tg → List Nat
  | [] => []
  | t :: ts => tgS t ++ tgSs ts
end
/-- how many arguments -/
def muA : Mu → Nat
  | .append => 1
  | .pop => 0
  | .popAt => 1
  | .insert => 2

/-! ### slots -/
@[simp] def peekL (ε : Sg) : List Rv → Option (List PV)
  | [] => some []
  | r :: rs => match r.peek ε, peekL ε rs with
    | some p, some ps => some (p :: ps)
    | _, _ => none
/-- as a value that is handed on -/
@[simp] def frz (r : Rv) (ε : Sg) : Option (PV × Sg) := match r with
  | .val p => some (p, ε)
  | .fresh p => some (p, ε)
  | .own i => frzS ε i
@[simp] def frzL : List Rv → Sg → Option (List PV × Sg)
  | [], ε => some ([], ε)
  | r :: rs, ε => match frz r ε with
    | some (p, ε1) => match frzL rs ε1 with
      | some (ps, ε2) => some (p :: ps, ε2)
      | none => none
    | none => none
/-- arguments by the def's mask: those that are changed are slots of one's own -/
@[simp] def argL : List Bool → List Rv → Sg → Option (List PV × List Nat × Sg)
  | [], [], ε => some ([], [], ε)
  | true :: ms, .own i :: rs, ε => match argL ms rs ε with
    | some (ps, is, ε1) => if i ∈ is then none else match ε1[i]? with
      | some (.own _ p) => some (p :: ps, i :: is, ε1)
      | _ => none
    | none => none
  | false :: ms, r :: rs, ε => match frz r ε with
    | some (p, ε1) => match argL ms rs ε1 with
      | some (ps, is, ε2) => some (p :: ps, is, ε2)
      | none => none
    | none => none
  | _, _, _ => none
@[simp] def setOuts : Sg → List Nat → List PV → Option Sg
  | ε, [], [] => some ε
  | ε, i :: is, p :: ps => match ε[i]? with
    | some (.own k _) => setOuts (ε.set i (.own k p)) is ps
    | _ => none
  | _, _, _ => none
@[simp] def doCall (Φ : Nat → List PV → CO) (mask : List Bool) (dfl : List PV) (np f : Nat) (rs : List Rv) (ε : Sg) : Out Rv :=
  match argL (mask.take rs.length) rs ε with
  | none => .stuck
  | some (ps, is, ε1) =>
    if mask.length = np ∧ (if ps.length < np then ps ++ dfl else ps).length = np ∧ (mask.drop rs.length).all (! ·) = true then
      match Φ f (if ps.length < np then ps ++ dfl else ps) with
      | .ok r fr outs => match setOuts ε1 is outs with
        | some ε2 => .ok (if fr then .fresh r else .val r) ε2
        | none => .stuck
      | .exc c outs => match setOuts ε1 is outs with
        | some ε2 => .exc c ε2
        | none => .stuck
      | .stuck => .stuck
    else .stuck

mutual
@[simp] def asgT : Tg → PV → Sg → Option Sg
  | .nm i, p, ε => match ε[i]? with
    | some (.own false _) => none
    | some _ => some (ε.set i (.val p))
    | none => none
  | .tp l, .tup ps, ε => asgTs l ps ε
  | .tp l, .lst ps, ε => asgTs l ps ε
  | _, _, _ => none
@[simp] def asgTs : List Tg → List PV → Sg → Option Sg
  | [], [], ε => some ε
  | t :: ts, p :: ps, ε => match asgT t p ε with
    | some ε1 => asgTs ts ps ε1
    | none => none
  | _, _, _ => none
end
/-- a comprehension's own names, forgotten -/
@[simp] def wipeS (ε : Sg) : List Nat → Option Sg
  | [] => some ε
  | i :: is => match wipeS ε is with
    | some ε1 => match ε1[i]? with
      | some (.own _ _) => none
      | _ => some (ε1.set i .none)
    | none => none
@[simp] def backS (ε₀ ε : Sg) : List Nat → Sg
  | [] => ε
  | i :: is => match ε₀[i]? with
    | some s => (backS ε₀ ε is).set i s
    | none => backS ε₀ ε is
/-- what is walked is no name of the comprehension's own -/
@[simp] def walkOk (r : Rv) (own : List Nat) : Bool := match r with
  | .own i => decide (i ∉ own)
  | _ => true
open Classical in
/-- the slot that is walked stays as it is -/
@[simp] noncomputable def stays (r : Rv) (ε ε' : Sg) : Bool := match r with
  | .own i => decide (peekS ε' i = peekS ε i)
  | _ => true
/-- a comprehension's turns -/
@[simp] noncomputable def cmpI (own : List Nat) (r : Rv) (turn : PV → Sg → Out (Option PV)) : List PV → List PV → Sg → Out (List PV)
  | [], acc, ε => .ok acc ε
  | p :: ps, acc, ε => match turn p ε with
    | .ok o ε1 => match wipeS ε1 own with
      | some ε2 => if stays r ε ε2 then match o with
          | some q => if acc.length < sizeLine then cmpI own r turn ps (acc ++ [q]) ε2 else .stuck
          | none => cmpI own r turn ps acc ε2
        else .stuck
      | none => .stuck
    | _ => .stuck
/-- the outer turns of two that are nested -/
@[simp] noncomputable def cmpO (own : List Nat) (r : Rv) (turn : PV → List PV → Sg → Out (List PV)) : List PV → List PV → Sg → Out (List PV)
  | [], acc, ε => .ok acc ε
  | p :: ps, acc, ε => match turn p acc ε with
    | .ok acc' ε1 => match wipeS ε1 own with
      | some ε2 => if stays r ε ε2 then cmpO own r turn ps acc' ε2 else .stuck
      | none => .stuck
    | _ => .stuck
@[simp] def itemsOf : PV → Option (List PV)
  | .lst l => some l
  | .tup l => some l
  | .scr l => some l
  | .str s => some (s.cps.toList.map fun c => .str ⟨#[c]⟩)
  | _ => none
def isTupP : PV → Bool
  | .tup _ => true
  | _ => false

/-- small enough for range -/
def rgB (i : Int) : Bool := decide (-(2 ^ 62) ≤ i ∧ i < 2 ^ 62)
@[simp] def rngL (lo : Int) (n : Nat) : List PV := (List.range n).map fun k => .int (lo + (k : Nat))
@[simp] def rngC (lo c : Int) (n : Nat) : List PV := (List.range n).map fun k => .int (lo + (k : Nat) * c)
/-- the items of what is walked, and what must stay -/
@[simp] def srcI (k : Src) (rs : List Rv) (ε : Sg) : Option (Rv × List PV) := match k, rs with
  | .val, [r] => (r.peek ε).bind fun p => (itemsOf p).map fun l => (r, l)
  | .rng, rs => match peekL ε rs with
    | some [.int j] => if rgB j = true then some (.val .non, rngL 0 j.toNat) else none
    | some [.int i, .int j] => if rgB i = true ∧ rgB j = true then some (.val .non, rngL i (j - i).toNat) else none
    | some [.int i, .int j, .int c] => if (c ≠ 0 ∧ c.natAbs < 1073741824) ∧ Builtin.Range.small i j c = true ∧ 0 ≤ Builtin.Range.rangeSize i j c then some (.val .non, rngC i c (Builtin.Range.rangeSize i j c).toNat) else none
    | _ => none
  | .keys, [.val (.dct l)] => some (.val (.dct l), l.map fun kv => kP kv.1)
  | .vals, [.val (.dct l)] => some (.val (.dct l), l.map fun kv => kv.2)
  | .items, [.val (.dct l)] => some (.val (.dct l), l.map fun kv => .tup [kP kv.1, kv.2])
  | .rev, [r] => match r.peek ε with
    | some (.lst l) => some (r, l.reverse)
    | some (.scr l) => some (r, l.reverse)
    | some (.tup l) => some (r, l.reverse)
    | _ => none
  | _, _ => none
structure FnI where
  name : Str
  np : Nat
  mask : List Bool
  nsl : Nat
  dfl : List PV
  body : List IS
structure Eng where
  fns : List FnI
  glb : List (Str × PV)
  cls : List Str
  /-- the built-in functions and classes that stand in the text -/
  blts : List Blt
  tys : List String
  /-- sub c d: the class c is d or below it -/
  sub : Nat → Nat → Bool
  /-- names that nothing in the text binds -/
  fre : List Str

section
variable (E : Eng) (Φ : Nat → List PV → CO)
mutual
@[simp] noncomputable def evE : IE → Sg → Out Rv
  | .var i, ε => match ε[i]? with
    | some (.val p) => .ok (.val p) ε
    | some (.own _ _) => .ok (.own i) ε
    | _ => .stuck
  | .cst p, ε => .ok (.val p) ε
  | .glb x, ε => match E.glb.lookup x with
    | some p => .ok (.val p) ε
    | none => .stuck
  | .bin op a b, ε => (evE a ε).bind fun ra ε1 => (evE b ε1).bind fun rb ε2 => match ra.opd.peek ε2, rb.opd.peek ε2 with
    | some p, some q => lift (opBin op p q) ε2
    | _, _ => .stuck
  | .neg a, ε => (evE a ε).bind fun ra ε1 => match ra.opd.peek ε1 with
    | some p => lift ((opNeg p).map .val) ε1
    | none => .stuck
  | .cmp op a b, ε => (evE a ε).bind fun ra ε1 => (evE b ε1).bind fun rb ε2 => match ra.opd.peek ε2, rb.opd.peek ε2 with
    | some p, some q => lift ((opCmp op p q).map fun b => .val (.bl b)) ε2
    | _, _ => .stuck
  | .isN a n, ε => (evE a ε).bind fun ra ε1 => match ra.opd.peek ε1 with
    | some .non => .ok (.val (.bl (!n))) ε1
    | some _ => .ok (.val (.bl n)) ε1
    | none => .stuck
  | .and l, ε => evAnd l ε
  | .or l, ε => evOr l ε
  | .not a, ε => (evE a ε).bind fun ra ε1 => match (ra.opd.peek ε1).bind truth with
    | some b => .ok (.val (.bl (!b))) ε1
    | none => .stuck
  | .ite c a b, ε => (evT c ε).bind fun t ε1 => if t then evE a ε1 else evE b ε1
  | .tup l, ε => (evA l ε).bind fun rs ε1 => match frzL rs ε1 with
    | some (ps, ε2) => if ps.length ≤ sizeLine then .ok (.val (.tup ps)) ε2 else .stuck
    | none => .stuck
  | .lst l, ε => (evA l ε).bind fun rs ε1 => match frzL rs ε1 with
    | some (ps, ε2) => if ps.length ≤ sizeLine then .ok (.fresh (.lst ps)) ε2 else .stuck
    | none => .stuck
  | .sub a i, ε => (evE a ε).bind fun ra ε1 => (evE i ε1).bind fun rb ε2 => match ra.opd.peek ε2, rb.opd.peek ε2 with
    | some p, some q => lift ((opIx p q).map .val) ε2
    | _, _ => .stuck
  | .slc a lo hi, ε => (evE a ε).bind fun ra ε1 => (evO lo ε1).bind fun l ε2 => (evO hi ε2).bind fun h ε3 => match ra.opd.peek ε3 with
    | some p => lift (opSlc p l h) ε3
    | none => .stuck
  | .call f as, ε => (evA as ε).bind fun rs ε1 => match E.fns[f]? with
    | some fi => doCall Φ fi.mask fi.dfl fi.np f rs ε1
    | none => .stuck
  | .blt b as, ε => (evA as ε).bind fun rs ε1 => match peekL ε1 rs with
    | some ps => lift (opBlt b ps) ε1
    | none => .stuck
  | .isi a ty, ε => (evE a ε).bind fun ra ε1 => match ra.opd.peek ε1 with
    | some p => lift ((opIsi p ty).map fun b => .val (.bl b)) ε1
    | none => .stuck
  | .cmpr elt tg k its cond own, ε => (evA its ε).bind fun rs ε1 => match srcI k rs ε1, wipeS ε1 own with
    | some (r, ps), some ε2 => if walkOk r own = true then match cmpI own r (fun p ε => match asgT tg p ε with
        | some ε3 => (evC cond ε3).bind fun t ε4 => if t then (evE elt ε4).bind fun r ε5 => match frz r ε5 with
            | some (q, ε6) => .ok (some q) ε6
            | none => .stuck
          else .ok none ε4
        | none => .stuck) ps [] ε2 with
      | .ok acc ε7 => .ok (.fresh (.lst acc)) (backS ε1 ε7 own)
      | _ => .stuck
      else .stuck
    | _, _ => .stuck
  | .mut m i as, ε => if as.length = muA m then match peekS ε i with
    | some (.lst _) => (evA as ε).bind fun rs ε1 => match frzL rs ε1 with
      | some (ps, ε2) => match ε2[i]? with
        | some (.own k p) => match opMut m p ps with
          | some (p', r) => .ok (.val r) (ε2.set i (.own k p'))
          | none => .stuck
        | _ => .stuck
      | none => .stuck
    | _ => .stuck
    else .stuck
  | .chn o1 o2 a b c, ε => (evE a ε).bind fun ra ε1 => (evE b ε1).bind fun rb ε2 => match ra.opd.peek ε2, rb.opd.peek ε2 with
    | some p, some q => match opCmp o1 p q with
      | some true => (evE c ε2).bind fun rc ε3 => match rb.opd.peek ε3, rc.opd.peek ε3 with
        | some q', some r => lift ((opCmp o2 q' r).map fun b => .val (.bl b)) ε3
        | _, _ => .stuck
      | some false => .ok (.val (.bl false)) ε2
      | none => .stuck
    | _, _ => .stuck
  | .split a b, ε => (evE a ε).bind fun ra ε1 => match ra.opd.peek ε1 with
    | some (.str s) => (evE b ε1).bind fun rb ε2 => match rb.opd.peek ε2 with
      | some (.str t) => if (t.length == 0) = false ∧ s.length + 2 ≤ sizeLine then .ok (.fresh (.lst ((Txt.split s t).map .str))) ε2 else .stuck
      | _ => .stuck
    | _ => .stuck
  | .dnew, ε => .ok (.fresh (.dct [])) ε
  | .fzv i, ε => match frzS ε i with
    | some (p, ε1) => .ok (.val p) ε1
    | none => .stuck
  | .dgt a k, ε => (evE a ε).bind fun ra ε1 => match ra.opd.peek ε1 with
    | some (.dct _) => (evE k ε1).bind fun rk ε2 => match ra.opd.peek ε2, rk.opd.peek ε2 with
      | some (.dct l), some q => match keyP q with
        | some kk => .ok (.val ((dG l kk).getD .non)) ε2
        | none => .stuck
      | _, _ => .stuck
    | _ => .stuck
  | .dgd a k d, ε => (evE a ε).bind fun ra ε1 => match ra.opd.peek ε1 with
    | some (.dct _) => (evE k ε1).bind fun rk ε2 => (evE d ε2).bind fun rd ε3 => match frz rd ε3 with
      | some (pd, ε4) => match ra.opd.peek ε4, rk.opd.peek ε4 with
        | some (.dct l), some q => match keyP q with
          | some kk => .ok (.val ((dG l kk).getD pd)) ε4
          | none => .stuck
        | _, _ => .stuck
      | none => .stuck
    | _ => .stuck
  | .cmp2 elt tg k its tg1 k1 its1 own own1, ε => (evA its ε).bind fun rs ε1 => match srcI k rs ε1, wipeS ε1 own with
    | some (r, ps), some ε2 => if walkOk r own = true then match cmpO own r (fun p acc ε => match asgT tg p ε with
        | some ε3 => (evA its1 ε3).bind fun rs1 ε4 => match srcI k1 rs1 ε4, wipeS ε4 own1 with
          | some (r1, qs), some ε5 => if walkOk r1 own1 = true then cmpI own1 r1 (fun q ε => match asgT tg1 q ε with
              | some ε6 => (evE elt ε6).bind fun r6 ε7 => match frz r6 ε7 with
                | some (y, ε8) => .ok (some y) ε8
                | none => .stuck
              | none => .stuck) qs acc ε5 else .stuck
          | _, _ => .stuck
        | none => .stuck) ps [] ε2 with
      | .ok acc ε7 => .ok (.fresh (.lst acc)) (backS ε1 ε7 own)
      | _ => .stuck
      else .stuck
    | _, _ => .stuck
  | .pick fs i as, ε => (evE i ε).bind fun ri ε1 => match ri.opd.peek ε1 with
    | some (.int n) => match atI fs n with
      | some f => (evA as ε1).bind fun rs ε2 => match E.fns[f]? with
        | some fi => doCall Φ fi.mask fi.dfl fi.np f rs ε2
        | none => .stuck
      | none => .stuck
    | _ => .stuck
  | .sset a, ε => (evE a ε).bind fun ra ε1 => match ra.opd.peek ε1 with
    | some (.lst l) => match strsP l with
      | some zs => if zs.length + 1 < 4096 then .ok (.fresh (.lst ((sS zs).map .str))) ε1 else .stuck
      | none => .stuck
    | _ => .stuck
  | .ddis ks es, ε => (evA es ε).bind fun rs ε1 => match frzL rs ε1 with
    | some (ps, ε2) => .ok (.fresh (.dct (dM [] ((ks.map Sum.inr).zip ps)))) ε2
    | none => .stuck
  | .lrev a, ε => (evE a ε).bind fun ra ε1 => match ra.opd.peek ε1 with
    | some (.lst l) => .ok (.fresh (.lst l.reverse)) ε1
    | some (.scr l) => .ok (.fresh (.lst l.reverse)) ε1
    | _ => .stuck
/-- as a test -/
@[simp] noncomputable def evT : IE → Sg → Out Bool
  | .and l, ε => evAndT l ε
  | .or l, ε => evOrT l ε
  | .not a, ε => (evT a ε).bind fun b ε1 => .ok (!b) ε1
  | .cst p, ε => match truth p with
    | some b => .ok b ε
    | none => .stuck
  | .var i, ε => match (peekS ε i).bind truth with
    | some b => .ok b ε
    | none => .stuck
  | .cmp op a b, ε => (evE a ε).bind fun ra ε1 => (evE b ε1).bind fun rb ε2 => match ra.opd.peek ε2, rb.opd.peek ε2 with
    | some p, some q => match opCmp op p q with
      | some b => .ok b ε2
      | none => .stuck
    | _, _ => .stuck
  | .chn o1 o2 a b c, ε => (evE a ε).bind fun ra ε1 => (evE b ε1).bind fun rb ε2 => match ra.opd.peek ε2, rb.opd.peek ε2 with
    | some p, some q => match opCmp o1 p q with
      | some true => (evE c ε2).bind fun rc ε3 => match rb.opd.peek ε3, rc.opd.peek ε3 with
        | some q', some r => match opCmp o2 q' r with
          | some b => .ok b ε3
          | none => .stuck
        | _, _ => .stuck
      | some false => .ok false ε2
      | none => .stuck
    | _, _ => .stuck
  | .isN a n, ε => (evE a ε).bind fun ra ε1 => match ra.opd.peek ε1 with
    | some .non => .ok (!n) ε1
    | some _ => .ok n ε1
    | none => .stuck
  | .call f as, ε => (evA as ε).bind fun rs ε1 => match E.fns[f]? with
    | some fi => (doCall Φ fi.mask fi.dfl fi.np f rs ε1).bind fun r ε2 => match (r.opd.peek ε2).bind truth with
      | some b => .ok b ε2
      | none => .stuck
    | none => .stuck
  | .blt b as, ε => (evA as ε).bind fun rs ε1 => match peekL ε1 rs with
    | some ps => (lift (opBlt b ps) ε1).bind fun r ε2 => match (r.opd.peek ε2).bind truth with
      | some b => .ok b ε2
      | none => .stuck
    | none => .stuck
  | .isi a ty, ε => (evE a ε).bind fun ra ε1 => match ra.opd.peek ε1 with
    | some p => match opIsi p ty with
      | some b => .ok b ε1
      | none => .stuck
    | none => .stuck
  | .sub a i, ε => (evE a ε).bind fun ra ε1 => (evE i ε1).bind fun rb ε2 => match ra.opd.peek ε2, rb.opd.peek ε2 with
    | some p, some q => match (opIx p q).bind truth with
      | some b => .ok b ε2
      | none => .stuck
    | _, _ => .stuck
  | _, _ => .stuck
@[simp] noncomputable def evA : List IE → Sg → Out (List Rv)
  | [], ε => .ok [] ε
  | e :: es, ε => (evE e ε).bind fun r ε1 => (evA es ε1).bind fun rs ε2 => .ok (r.opd :: rs) ε2
@[simp] noncomputable def evO : Option IE → Sg → Out (Option Int)
  | none, ε => .ok none ε
  | some e, ε => (evE e ε).bind fun r ε1 => match r.opd.peek ε1 with
    | some (.int i) => .ok (some i) ε1
    | _ => .stuck
@[simp] noncomputable def evAnd : List IE → Sg → Out Rv
  | [], _ => .stuck
  | [a], ε => evE a ε
  | a :: b :: l, ε => (evE a ε).bind fun ra ε1 => match (ra.opd.peek ε1).bind truth with
    | some true => evAnd (b :: l) ε1
    | some false => .ok ra.opd ε1
    | none => .stuck
@[simp] noncomputable def evOr : List IE → Sg → Out Rv
  | [], _ => .stuck
  | [a], ε => evE a ε
  | a :: b :: l, ε => (evE a ε).bind fun ra ε1 => match (ra.opd.peek ε1).bind truth with
    | some false => evOr (b :: l) ε1
    | some true => .ok ra.opd ε1
    | none => .stuck
@[simp] noncomputable def evAndT : List IE → Sg → Out Bool
  | [], _ => .stuck
  | [a], ε => evT a ε
  | a :: b :: l, ε => (evT a ε).bind fun t ε1 => if t then evAndT (b :: l) ε1 else .ok false ε1
@[simp] noncomputable def evOrT : List IE → Sg → Out Bool
  | [], _ => .stuck
  | [a], ε => evT a ε
  | a :: b :: l, ε => (evT a ε).bind fun t ε1 => if t then .ok true ε1 else evOrT (b :: l) ε1
/-- a comprehension's test, if there is one -/
@[simp] noncomputable def evC : List IE → Sg → Out Bool
  | [], ε => .ok true ε
  | [c], ε => evT c ε
  | _, _ => .stuck
end
end

/-! ### statements -/
/-- x[q] = p -/
@[simp] def setC : PV → PV → PV → Option PV
  | .lst l, .int i, p => (ixN l.length i).map fun j => .lst (l.set j p)
  | .dct l, q, p => match keyP q with
    | some k => if l.length < sizeLine then some (.dct (dP l k p)) else none
    | none => none
  | _, _, _ => none
/-- a dict is one's own from the start -/
@[simp] def setOk (k : Bool) : PV → Bool
  | .dct _ => k
  | _ => true
@[simp] def opAug : Operator → PV → PV → Option PV
  | .Add, .int i, .int j => some (.int (i + j))
  | .Sub, .int i, .int j => some (.int (i - j))
  | .Add, .str s, .str t => if s.length + t.length ≤ sizeLine then some (.str (s ++ t)) else none
  | _, _, _ => none
/-- a slot takes what was handed back -/
@[simp] def putR (i : Nat) (r : Rv) (ε : Sg) : Option Sg := match ε[i]? with
  | some (.own false _) => none
  | none => none
  | some _ => match r with
    | .val p => some (ε.set i (.val p))
    | .fresh p => some (ε.set i (.own true p))
    | .own j => match frzS ε j with
      | some (p, ε1) => some (ε1.set i (.val p))
      | none => none
/-- what is handed back by return -/
@[simp] def retR (r : Rv) (ε : Sg) : Option (Rv × Sg) := match r with
  | .own j => match ε[j]? with
    | some (.own true p) => some (.fresh p, ε.set j .none)
    | some (.val p) => some (.val p, ε)
    | _ => none
  | r => some (r, ε)
@[simp] def SO.seq (x : SO) (f : Sg → SO) : SO := match x with
  | .nx ε => f ε
  | o => o
mutual
def asgsS : IS → List Nat
  | .asg i _ => [i]
  | .aug i _ _ => [i]
  | .selr i _ _ _ _ => [i]
  | .asgT t _ => tgS t
  | .ifs _ a b => asgsL a ++ asgsL b
  | .tryx b _ s => asgsL b ++ asgsL s
  | .tryn b _ => asgsL b
  | .for_ tg _ _ b => tgS tg ++ asgsL b
  | .whl _ b => asgsL b
  | _ => []
def asgsL : List IS → List Nat
  | [] => []
  | s :: l => asgsS s ++ asgsL l
end
noncomputable def forI (r : Rv) (set : PV → Sg → Option Sg) (body : Sg → SO) : List PV → Sg → SO
  | [], ε => .nx ε
  | p :: ps, ε => match set p ε with
    | none => .stuck
    | some ε1 => match body ε1 with
      | .nx ε2 => if stays r ε ε2 then forI r set body ps ε2 else .stuck
      | .ct ε2 => if stays r ε ε2 then forI r set body ps ε2 else .stuck
      | .bk ε2 => .nx ε2
      | o => o
def whlI (c : Sg → Out Bool) (body : Sg → SO) : Nat → Sg → SO
  | 0, _ => .stuck
  | n + 1, ε => match c ε with
    | .ok true ε1 => match body ε1 with
      | .nx ε2 => whlI c body n ε2
      | .ct ε2 => whlI c body n ε2
      | .bk ε2 => .nx ε2
      | o => o
    | .ok false ε1 => .nx ε1
    | .exc c ε1 => .exc c ε1
    | .stuck => .stuck
/-- the most turns of a while -/
def whlN : Nat := 1000000000
/-- an except suite: one short statement -/
@[simp] def suI : List IS → Sg → SO
  | [.ret (.cst p)], ε => .rt (.val p) ε
  | [.pass], ε => .nx ε
  | [.asg i (.cst p)], ε => match putR i (.val p) ε with
    | some ε1 => .nx ε1
    | none => .stuck
  | _, _ => .stuck
/-- the clauses, one after the other -/
@[simp] def hsI (sub : Nat → Nat → Bool) (c : Nat) (ε : Sg) : List (Nat × PV) → SO
  | [] => .exc c ε
  | (d, p) :: hs => if sub c d then .rt (.val p) ε else hsI sub c ε hs
section
variable (E : Eng) (Φ : Nat → List PV → CO)
mutual
@[simp] noncomputable def exS : IS → Sg → SO
  | .pass, ε => .nx ε
  | .brk, ε => .bk ε
  | .cont, ε => .ct ε
  | .expr e, ε => match evE E Φ e ε with
    | .ok _ ε1 => .nx ε1
    | .exc c ε1 => .exc c ε1
    | .stuck => .stuck
  | .asg i e, ε => match evE E Φ e ε with
    | .ok r ε1 => match putR i r ε1 with
      | some ε2 => .nx ε2
      | none => .stuck
    | .exc c ε1 => .exc c ε1
    | .stuck => .stuck
  | .asgT t e, ε => match evE E Φ e ε with
    | .ok r ε1 => match frz r ε1 with
      | some (p, ε2) => match asgT t p ε2 with
        | some ε3 => .nx ε3
        | none => .stuck
      | none => .stuck
    | .exc c ε1 => .exc c ε1
    | .stuck => .stuck
  | .ret e, ε => match evE E Φ e ε with
    | .ok r ε1 => match retR r ε1 with
      | some (r', ε2) => .rt r' ε2
      | none => .stuck
    | .exc c ε1 => .exc c ε1
    | .stuck => .stuck
  | .retN, ε => .rt (.val .non) ε
  | .ifs c a b, ε => match evT E Φ c ε with
    | .ok t ε1 => if t then exL a ε1 else exL b ε1
    | .exc c ε1 => .exc c ε1
    | .stuck => .stuck
  | .raise c _, ε => .exc c ε
  | .raiseE c e, ε => match evE E Φ e ε with
    | .ok _ ε1 => .exc c ε1
    | .exc c ε1 => .exc c ε1
    | .stuck => .stuck
  | .selr i c f g as, ε => match evT E Φ c ε with
    | .ok t ε1 => (match ε1[i]? with
      | some .none => (match evA E Φ as ε1 with
        | .ok rs ε2 => (match E.fns[if t then f else g]? with
          | some fi => (match doCall Φ fi.mask fi.dfl fi.np (if t then f else g) rs ε2 with
            | .ok r ε3 => (match retR r ε3 with
              | some (r', ε4) => .rt r' ε4
              | none => .stuck)
            | .exc c ε1 => .exc c ε1
            | .stuck => .stuck)
          | none => .stuck)
        | .exc c ε1 => .exc c ε1
        | .stuck => .stuck)
      | _ => .stuck)
    | .exc c ε1 => .exc c ε1
    | .stuck => .stuck
  | .setI i ke ve, ε => match evE E Φ ve ε with
    | .ok rv ε1 => match frz rv ε1 with
      | some (p, ε2) => match ε2[i]? with
        | some (.own _ _) => match evE E Φ ke ε2 with
          | .ok rk ε3 => match rk.opd.peek ε3, ε3[i]? with
            | some q, some (.own kk c) => if setOk kk c = true then match setC c q p with
              | some c' => .nx (ε3.set i (.own kk c'))
              | none => .stuck
              else .stuck
            | _, _ => .stuck
          | .exc c ε1 => .exc c ε1
          | .stuck => .stuck
        | _ => .stuck
      | none => .stuck
    | .exc c ε1 => .exc c ε1
    | .stuck => .stuck
  | .aug i op e, ε => match ε[i]? with
    | some (.val a) => match evE E Φ e ε with
      | .ok r ε1 => match r.opd.peek ε1, ε1[i]? with
        | some b, some (.val _) => match opAug op a b with
          | some p => .nx (ε1.set i (.val p))
          | none => .stuck
        | _, _ => .stuck
      | .exc c ε1 => .exc c ε1
      | .stuck => .stuck
    | _ => .stuck
  | .tryx body c suite, ε => match exL body ε with
    | .exc c' ε1 => if E.sub c' c then suI suite ε1 else .exc c' ε1
    | o => o
  | .tryn body hs, ε => match exL body ε with
    | .exc c' ε1 => hsI E.sub c' ε1 hs
    | o => o
  | .for_ tg k its body, ε => match evA E Φ its ε with
    | .ok rs ε1 => match srcI k rs ε1 with
      | some (r, ps) => if walkOk r (asgsS (.for_ tg k its body)) = true then forI r (fun p ε => asgT tg p ε) (fun ε => exL body ε) ps ε1 else .stuck
      | none => .stuck
    | .exc c ε1 => .exc c ε1
    | .stuck => .stuck
  | .whl c body, ε => whlI (fun ε => evT E Φ c ε) (fun ε => exL body ε) whlN ε
@[simp] noncomputable def exL : List IS → Sg → SO
  | [], ε => .nx ε
  | s :: l, ε => (exS s ε).seq fun ε1 => exL l ε1
end
end

/-! ### defs -/
/-- the slots at the entry -/
@[simp] def startS : List Bool → List PV → Sg
  | true :: ms, p :: ps => .own false p :: startS ms ps
  | false :: ms, p :: ps => .val p :: startS ms ps
  | _, _ => []
@[simp] def outsS : List Bool → Nat → Sg → Option (List PV)
  | [], _, _ => some []
  | true :: ms, i, ε => match ε[i]?, outsS ms (i + 1) ε with
    | some (.own _ p), some ps => some (p :: ps)
    | _, _ => none
  | false :: ms, i, ε => outsS ms (i + 1) ε
@[simp] noncomputable def callB (E : Eng) (Φ : Nat → List PV → CO) (fi : FnI) (ps : List PV) : CO :=
  if ps.length = fi.np ∧ fi.mask.length = fi.np ∧ fi.np ≤ fi.nsl then
    match exL E Φ fi.body (startS fi.mask ps ++ List.replicate (fi.nsl - fi.np) .none) with
    | .nx ε => match outsS fi.mask 0 ε with
      | some os => .ok .non false os
      | none => .stuck
    | .rt (.val p) ε => match outsS fi.mask 0 ε with
      | some os => .ok p false os
      | none => .stuck
    | .rt (.fresh p) ε => match outsS fi.mask 0 ε with
      | some os => .ok p true os
      | none => .stuck
    | .exc c ε => match outsS fi.mask 0 ε with
      | some os => .exc c os
      | none => .stuck
    | _ => .stuck
  else .stuck
/-- the program, calls nested at most k deep -/
noncomputable def callF (E : Eng) : Nat → Nat → List PV → CO
  | 0 => fun _ _ => .stuck
  | k + 1 => fun f ps => match E.fns[f]? with
    | some fi => callB E (callF E k) fi ps
    | none => .stuck
end Eng

namespace Eng
open PySem PySem.Spec L2
open PyProof.Rows hiding St
section
variable {X : Cx}
/-! ### the text of data -/
theorem call_reprD (hg : X.A.guards = some []) (hu : X.A.units + 100 < cLine) : CallR X (.builtin "repr") (fun xs H Q => ∃ x d, xs = [x] ∧ Dp X.K H x d ∧ SeqAt.shaped d = true ∧ d.showable = true ∧ d.shown.length ≤ sizeLine ∧ Q (.str d.shown) H) := by
  intro pins s σ H xs us Q I r h
  obtain ⟨x, d, rfl, dp, sh, sw, sz, q⟩ := h
  obtain ⟨u, rfl, ru⟩ := vals1 r
  obtain ⟨as, rd⟩ := Dp.reads I d x u dp ru
  have dep := SeqAt.depth_of_shaped sh
  have nod : d.hasDict = false := PyData.hasDict_of_canLay _ (SeqAt.canLay_of_shaped sh)
  have hgi : X.A.in1.guards = some [] := hg
  have hui : X.A.in1.units = X.A.units + 1 := rfl
  have fin : ∀ {h' : Heap} {tk : Nat} {t : Tok}, (∀ b o, s.heap.get? b = some o → h'.get? b = some o) → EP X pins σ Q (.str d.shown t) { s with heap := h', toks := tk } := fun {h' tk t} kp => ⟨.str d.shown, H, I.kept (t' := tk) kp, ⟨_, rfl⟩, q⟩
  have same : ∀ b o, s.heap.get? b = some o → s.heap.get? b = some o := fun _ _ z => z
  cases rd with
  | none => exact PySem.P.repr_of_none (by simpa only [PyData.shown] using fin (tk := s.toks + 1) (t := s.toks) same)
  | bool b => exact PySem.P.repr_of_bool (by simpa only [PyData.shown] using fin (tk := s.toks + 1) (t := s.toks) same)
  | int i t => exact PySem.P.repr_of_int (by simpa [PyData.showable] using sw) (by simpa only [PyData.shown] using fin (tk := s.toks + 1) (t := s.toks) same)
  | str y t => exact PySem.P.repr_of_str (by simpa only [PyData.shown] using fin (tk := s.toks + 1) (t := s.toks) same) (by simpa only [PyData.shown] using sz)
  | @list a o vs n ys as' h1 h2 h3 h4 =>
    have ty : s.TypeIs (.ref a) "list" := ⟨o, h1, h2⟩
    have sz' : (listText (PyData.shownAll ys)).length ≤ sizeLine := by simpa only [PyData.shown] using sz
    simp only [PyData.depth] at dep
    obtain ⟨bs, hb, hk⟩ := ReprAllK.of_readsAll (prog := X.prog) (w := X.w) h4 (by simpa [PyData.showable] using sw) (fun z => absurd z (by rw [show PyData.hasDictAll ys = false by simpa [PyData.hasDict] using nod]; exact Bool.false_ne_true)) (fun t ht => Nat.le_trans (listText_mem_le ht) sz')
    have hna : a ∉ bs := not_mem_of_deeper (.list h1 h2 h3 h4) (by simp only [PyData.depth]; omega) hb
    refine call_repr_slot (by omega) ty F.slot_list_repr.toG ?_
    obtain ⟨l⟩ := vs
    cases l with
    | nil =>
      have h4' : ReadsAll s.heap [] ys _ := h4
      cases h4'
      refine call_list_repr_empty ty h1 h3 ⟨_, _, rfl, ?_⟩
      have e : ("[]" : Str) = (PyData.list []).shown := by simp only [PyData.shown, PyData.shownAll, listText_nil]
      rw [e]
      exact fin same
    | cons y l =>
      refine call_list_reprK h1 h2 h3 hna (by simpa using hk.length_eq) (fun i y e => hk.item i y (by simpa using e)) hgi (fun b _ => Clear.nil b) (by omega) same (fun h' u tk kp => ⟨_, _, rfl, ?_⟩) sz'
      have e : listText (PyData.shownAll ys) = (PyData.list ys).shown := by simp only [PyData.shown]
      rw [e]
      exact fin kp
  | @tuple a o vs n ys as' h1 h2 h3 h4 =>
    have ty : s.TypeIs (.ref a) "tuple" := ⟨o, h1, h2⟩
    have sz' : (tupleText (PyData.shownAll ys)).length ≤ sizeLine := by simpa only [PyData.shown] using sz
    simp only [PyData.depth] at dep
    obtain ⟨bs, hb, hk⟩ := ReprAllK.of_readsAll (prog := X.prog) (w := X.w) h4 (by simpa [PyData.showable] using sw) (fun z => absurd z (by rw [show PyData.hasDictAll ys = false by simpa [PyData.hasDict] using nod]; exact Bool.false_ne_true)) (fun t ht => Nat.le_trans (tupleText_mem_le ht) sz')
    have hna : a ∉ bs := not_mem_of_deeper (.tuple h1 h2 h3 h4) (by simp only [PyData.depth]; omega) hb
    refine call_repr_slot (by omega) ty F.slot_tuple_repr ?_
    refine call_tuple_reprK h1 h2 h3 hna hk hgi (fun b _ => Clear.nil b) (by omega) same (fun h' u tk kp => ⟨_, _, rfl, ?_⟩) sz'
    have e : tupleText (PyData.shownAll ys) = (PyData.tuple ys).shown := by simp only [PyData.shown]
    rw [e]
    exact fin kp
  | dict h1 h2 h3 h4 h5 => simp [PyData.hasDict] at nod
end
end Eng

namespace Eng
open PySem PySem.Spec L2 RT
open PyProof.Rows hiding St
section
variable {prog : Program} {w : World} {A : Around} {E : Value → Shared → Prop} {s : Shared}
/-- list(it), it a reversed list's iterator just made -/
theorem list_of_rev {it l : Addr} {items : Array Value} {Q : Value → Shared → Prop} (calm : A.handled = none) (hit : s.heap.IsRevIter it l ((items.size : Int) - 1)) (hl : s.heap.IsList l items) (apart : l ≠ it) (fits : items.size ≤ sizeLine)
    (hQ : ∀ (h2 : Heap) (tk : Nat) (acc : Array Value) (c : Nat), (∀ b o, b ≠ it → s.heap.get? b = some o → h2.get? b = some o) → h2.get? s.heap.objs.size = some { cls := .type "list", data := .seq acc c } → ItemsOf (fun i v => items[items.size - 1 - i]? = some v) acc items.size →
      Q (.ref s.heap.objs.size) { s with heap := h2, toks := tk }) : wpAny (model prog w) A (call (.type "list") [.ref it]) Q E s := by
  have itLt : it < s.heap.objs.size := let ⟨_, e, _⟩ := hit; Heap.lt_size e
  have lLt : l < s.heap.objs.size := let ⟨_, e, _⟩ := hl; Heap.lt_size e
  generalize hS : s.heap.objs.size = S at *
  have grown : (s.heap.push { cls := .type "list", data := .seq #[] }).get? S = some { cls := .type "list", data := .seq #[] } := by rw [← hS]; exact Heap.get?_push_size _ rfl
  refine callType_codes (Q₁ := fun x s1 => x = .ref S ∧ s1 = { s with heap := s.heap.push { cls := .type "list", data := .seq #[] } }) F.called_list (F.typeCall_list_1 _) F.entry_list_init (code_list_new _ ⟨by rw [hS], rfl⟩) ?_
  rintro x s1 ⟨rfl, rfl⟩
  refine ⟨⟨_, grown, rfl⟩, F.args_list_init_2 _ _, ?_⟩
  -- what the list's own maker leaves alone
  have others : ∀ (f : Obj → Obj) {b : Addr} {o : Obj}, b ≠ S → s.heap.get? b = some o → ((s.heap.push { cls := .type "list", data := .seq #[] }).update S f).get? b = some o := fun f {b o} hb e => (Heap.get?_update_other _ _ (Ne.symm hb)).trans (Heap.get?_push_of_some _ e)
  show wpAny _ A.in1.in1 (Builtin.List.listItems (.ref S) >>= fun old => Builtin.List.listUpdate (.ref S) (fun _ => #[]) >>= fun _ => letGo old.toList.reverse >>= fun _ => Builtin.List.listExtendWith (.ref S) (.ref it) .none) _ _ _
  refine wpAny_bind ?_; unfold Builtin.List.listItems; refine wpAny_bind (wpAny_seqItems grown rfl (wpAny_pure ?_))
  refine wpAny_bind (m := updateSeq S (fun _ => #[])) (wpAny_updateSeq grown rfl ?_)
  have g2 := Heap.get?_update_self (Obj.mapSeq (fun _ => (#[] : Array Value))) grown rfl
  refine wpAny_bind (wpAny_letGo ?_)
  have itNe : it ≠ S := Nat.ne_of_lt itLt
  have lNe : l ≠ S := Nat.ne_of_lt lLt
  have hit2 : ((s.heap.push { cls := .type "list", data := .seq #[] }).update S (Obj.mapSeq (fun _ => (#[] : Array Value)))).IsRevIter it l ((items.size : Int) - 1) := hit.at fun o e => others _ itNe e
  have hl2 : ((s.heap.push { cls := .type "list", data := .seq #[] }).update S (Obj.mapSeq (fun _ => (#[] : Array Value)))).IsList l items := hl.at fun o e => others _ lNe e
  have ty := Heap.IsRevIter.typeIs (s := { s with heap := (s.heap.push { cls := .type "list", data := .seq #[] }).update S (Obj.mapSeq (fun _ => (#[] : Array Value))) }) hit2
  have no : Builtin.List.listSameRef (.ref S) (.ref it) = false := by simp [Builtin.List.listSameRef, Ne.symm itNe]
  unfold Builtin.List.listExtendWith Builtin.List.listLengthHint
  refine wpAny_bind (wpAny_typeOf ty ?_)
  rw [no, if_neg (by decide)]
  refine wpAny_bind (wpAny_pyIter_revIter (s := { s with heap := _ }) hit2 (wpAny_bind (wpAny_holding (wpAny_bind (wpAny_specialOf ty nolen_lri ?_)))))
  refine wpAny_bind (m := specialOf (Value.ref it) (Str.ofString "__length_hint__")) (wpAny_specialOf ty hint_lri ?_)
  generalize name : ("list_reverseiterator.__length_hint__" : String) = id0
  wp_delta
  rw [show splitId id0 = some ("list_reverseiterator", "__length_hint__") from by subst name; decide +kernel]
  subst name
  refine wpAny_bind (wpAny_isInstance (b := true) ty (by rw [isSubtype_type]; kernel_rfl) (wpAny_pure ?_))
  rw [if_neg (by decide)]
  have start0 : ((items.size : Nat) : Int) - 1 - ((0 : Nat) : Int) = (items.size : Int) - 1 := by omega
  have W := (Walks.listRev (prog := prog) (w := w) (A := A.in1.in1) calm it l apart items).toS
  have notIn : S ∉ [it, l] := by simp only [List.mem_cons, List.not_mem_nil, or_false, not_or]; exact ⟨Ne.symm itNe, Ne.symm lNe⟩
  refine wpAny_pure ⟨plainId_quiet F.plain_extend_loop _, codeAny_extend_loopS W fits S notIn _ items.size 0 _ _ _ rfl (Nat.zero_le _) ⟨Nat.zero_le _, by rw [start0]; exact hit2, hl2⟩ g2 (ItemsOf.nil _) fun s3 acc c moved at3 got => ?_⟩
  refine ⟨rfl, ?_⟩
  rw [Moved.eq_with moved]
  refine hQ s3.heap s3.toks acc c (fun b o hb e => moved.heap b o (fun hm => ?_) (others _ (fun z => ?_) e)) at3 got
  · rcases List.mem_cons.mp hm with z | z
    · rw [z] at e; exact absurd (Heap.lt_size e) (by rw [hS]; exact Nat.lt_irrefl _)
    · exact hb (List.mem_singleton.mp z)
  · rw [z] at e; exact absurd (Heap.lt_size e) (by rw [hS]; exact Nat.lt_irrefl _)
end
end Eng

namespace Eng
open PySem PySem.Spec L2
open PyProof.Rows hiding St
open PySem.W (EachIs sorted_data)

/-- what is wanted behind an operation that changes nothing -/
def Kont (K : Fg) (Z H : Hp) (Q : VK) : Rv → Prop
  | .val p => ∀ v Z' H', Ext Z H Z' H' → Rp K Z' p v → Q v H'
  | .fresh p => ∀ a Z' H', Ext Z H Z' H' → H a = Option.none → Z' a = Option.none → OwnR K Z' H' a p → Q (.ref a) H'
  | .own _ => True

section
variable {X : Cx}
def rBin (K : Fg) (op : Operator) : R2 := fun x y H Q => ∃ Z p q r, Same Z H ∧ View K Z H p x ∧ View K Z H q y ∧ opBin op p q = some r ∧ Kont K Z H Q r

theorem mulOk_ok {i j : Int} (h : mulOk i j = true) : IntMulOk i j := by
  have h3 := of_decide_eq_true h
  have b : ∀ x : Int, Builtin.Int.intBits x ≤ x.natAbs.log2 + 1 := fun x => by
    unfold Builtin.Int.intBits
    split <;> omega
  have h1 := b i
  have h2 := b j
  have e : bitsLine = 134217728 := by decide
  unfold IntMulOk
  intro z
  rw [Bool.and_eq_true] at z
  have z2 := z.2
  unfold Builtin.Int.intTooBig at z2
  have z3 := of_decide_eq_true z2
  rw [e] at z3
  omega
theorem op_mulA : OpR X (binaryOp .Mult) (rI IntMulOk fun i j => .int (i * j)) := opI fun _ _ _ _ _ _ _ hc q => mul_int q hc
theorem op_fdivA : OpR X (binaryOp .FloorDiv) (rI (fun i j => j ≠ 0 ∧ Builtin.divisionGoesByPylong i j = false) fun i j => .int (i.fdiv j)) := opI fun i j _ _ _ _ _ hc q => floordiv_int hc.1 q (.inl hc.2)
theorem op_subB : OpR X (binaryOp .Sub) (fun x y H Q => ∃ i j, x = .bl i ∧ y = .bl j ∧ Q (.int ((if i then 1 else 0) - (if j then 1 else 0))) H) := by
  intro pins s σ H x y v u Q I rx ry h
  obtain ⟨i, j, rfl, rfl, q⟩ := h
  cases rx
  cases ry
  exact sub_bool ⟨.int _, H, I.tok _, ⟨_, rfl⟩, q⟩
theorem RpL.rep {K : Fg} {Z : Hp} {ps : List PV} {vs : List V} (h : RpL K Z ps vs) : ∀ n : Nat, RpL K Z (List.replicate n ps).flatten (List.replicate n vs).flatten
  | 0 => .nil
  | n + 1 => by
    rw [List.replicate_succ, List.replicate_succ, List.flatten_cons, List.flatten_cons]
    exact h.append (RpL.rep h n)
theorem foldl_cps (x : Str) (n : Nat) : List.foldl (fun x1 x2 => x1 ++ x2) #[] (List.replicate n x.cps) = (List.replicate n x.cps.toList).flatten.toArray := by
  have h : ∀ (n : Nat) (acc : Array Nat), List.foldl (fun x1 x2 => x1 ++ x2) acc (List.replicate n x.cps) = acc ++ (List.replicate n x.cps.toList).flatten.toArray := by
    intro n
    induction n with
    | zero => intro acc; simp
    | succ n ih =>
      intro acc
      rw [List.replicate_succ, List.foldl_cons, ih, List.replicate_succ, List.flatten_cons, Array.append_assoc]
      congr 1
      apply Array.toList_inj.mp
      simp
  rw [h]
  simp
theorem op_repS : OpR X (binaryOp .Mult) (fun x y H Q => ∃ (w : Str) (k : Int), x = .str w ∧ y = .int k ∧ (2 ≤ k ∧ k ≤ 100000) ∧ w.length ≠ 0 ∧ w.length * k.toNat ≤ sizeLine ∧ Q (.str ⟨(List.replicate k.toNat w.cps.toList).flatten.toArray⟩) H) := by
  intro pins s σ H x y v u Q I rx ry h
  obtain ⟨w, k, rfl, rfl, ⟨h1, h2⟩, h0, hz, q⟩ := h
  obtain ⟨t, rfl⟩ := rx
  obtain ⟨t', rfl⟩ := ry
  have c1 : ¬ k < 1 := by omega
  have c2 : (k == 1 || w.length == 0) = false := by
    rw [Bool.or_eq_false_iff]
    exact ⟨beq_eq_false_iff_ne.mpr (by omega), beq_eq_false_iff_ne.mpr h0⟩
  refine PySem.P.mul_str ?_ (fun _ _ => ?_) (fun _ _ => ?_) ?_
  · rw [decide_eq_false (by omega), decide_eq_false (by omega)]; rfl
  · have : (w.length : Int) ≤ 16777216 := by
      have hs : sizeLine = 16777216 := rfl
      have : 1 ≤ k.toNat := by omega
      have : w.length * 1 ≤ w.length * k.toNat := Nat.mul_le_mul_left _ this
      omega
    have : (16777216 : Int) ≤ (2 ^ 63 - 1) / k := (Int.le_ediv_iff_mul_le (by omega)).mpr (by omega)
    omega
  · exact decide_eq_false (by omega)
  · rw [if_neg c1, if_neg (by rw [c2]; exact Bool.false_ne_true), foldl_cps]
    refine ⟨?_, .str _, H, I.tok _, ⟨_, rfl⟩, q⟩
    show (List.replicate k.toNat w.cps.toList).flatten.toArray.size ≤ sizeLine
    rw [List.size_toArray, PyProof.Rows.lm_len_rep_flat, Nat.mul_comm]
    exact hz

theorem frE {K : Fg} {Z H : Hp} {Q : VK} {ps : List PV} {vs : List V} (zh : Same Z H) (k : Kont K Z H Q (.fresh (.lst ps))) (r : RpL K Z ps vs) : ∀ p, H p = none → Q (.ref p) (upd H p (.lst vs)) :=
  fun p hp => k p Z _ (.new zh hp) hp (zh.free hp) ⟨vs, upd_same, r⟩
theorem tpE {K : Fg} {Z H : Hp} {Q : VK} {ps : List PV} {vs : List V} (zh : Same Z H) (k : Kont K Z H Q (.val (.tup ps))) (r : RpL K Z ps vs) : ∀ p, H p = none → Q (.ref p) (upd H p (.tup vs)) :=
  fun p hp => k (.ref p) (upd Z p (.tup vs)) _ (.newF zh hp) (.tup (.inl (.inl upd_same)) (r.mono fun b u e => by rw [upd_ne (ne_of_none e (zh.free hp))]; exact e))
theorem op_binE (op : Operator) : OpR X (binaryOp op) (rBin X.K op) := by
  intro pins s σ H x y v u Q I rx ry h
  obtain ⟨Z, p, q, r, zh, vp, vq, e, k⟩ := h
  unfold opBin at e
  split at e
  · cases e
    cases vp.int
    cases vq.int
    exact op_add pins s σ H _ _ v u Q I rx ry ⟨_, _, rfl, rfl, k _ _ _ (.refl zh) (.int _)⟩
  · cases e
    cases vp.int
    cases vq.int
    exact op_sub pins s σ H _ _ v u Q I rx ry ⟨_, _, rfl, rfl, k _ _ _ (.refl zh) (.int _)⟩
  · cases e
    cases vp.bl
    cases vq.bl
    exact op_subB pins s σ H _ _ v u Q I rx ry ⟨_, _, rfl, rfl, k _ _ _ (.refl zh) (.int _)⟩
  · split at e
    · rename_i hc
      cases e
      cases vp.int
      cases vq.int
      exact op_mulA pins s σ H _ _ v u Q I rx ry ⟨_, _, rfl, rfl, mulOk_ok hc, k _ _ _ (.refl zh) (.int _)⟩
    · cases e
  · split at e
    · rename_i hc
      cases e
      cases vp.int
      cases vq.int
      exact op_fdivA pins s σ H _ _ v u Q I rx ry ⟨_, _, rfl, rfl, hc, k _ _ _ (.refl zh) (.int _)⟩
    · cases e
  · split at e
    · rename_i hc
      cases e
      cases vp.int
      cases vq.int
      exact op_modN pins s σ H _ _ v u Q I rx ry ⟨_, _, rfl, rfl, hc, k _ _ _ (.refl zh) (.int _)⟩
    · cases e
  · split at e
    · rename_i hc
      cases e
      cases vp.int
      cases vq.int
      exact op_pow pins s σ H _ _ v u Q I rx ry ⟨_, _, rfl, rfl, hc, k _ _ _ (.refl zh) (.int _)⟩
    · cases e
  · split at e
    · rename_i hc
      cases e
      cases vp.str
      cases vq.str
      exact op_add_str pins s σ H _ _ v u Q I rx ry ⟨_, _, rfl, rfl, hc, k _ _ _ (.refl zh) (.str _)⟩
    · cases e
  · split at e
    · rename_i hc
      cases e
      obtain ⟨a, vs, rfl, h1, r1⟩ := vp.lstH zh
      obtain ⟨b, ws, rfl, h2, r2⟩ := vq.lstH zh
      exact op_cat pins s σ H _ _ v u Q I rx ry ⟨_, _, _, _, rfl, rfl, h1, h2, by rw [r1.length, r2.length]; exact hc, frE zh k (r1.append r2)⟩
    · cases e
  · split at e
    · rename_i hc
      cases e
      obtain ⟨a, vs, rfl, h1, r1⟩ := vp.lstH zh
      cases vq.int
      exact op_rep pins s σ H _ _ v u Q I rx ry ⟨_, _, _, rfl, rfl, h1, hc.1.1, hc.1.2, by rw [r1.length]; exact hc.2, frE zh k (r1.rep _)⟩
    · cases e
  · split at e
    · rename_i hc
      cases e
      cases vp.str
      cases vq.int
      exact op_repS pins s σ H _ _ v u Q I rx ry ⟨_, _, rfl, rfl, hc.1, hc.2.1, hc.2.2, k _ _ _ (.refl zh) (.str _)⟩
    · cases e
  · cases e

/-! ### comparisons -/
def rCmp (K : Fg) (op : CmpOp) : R2 := fun x y H Q => ∃ Z p q b, Same Z H ∧ View K Z H p x ∧ View K Z H q y ∧ opCmp op p q = some b ∧ Q (.bl b) H
mutual
theorem dp_of {K : Fg} {Z H : Hp} (zh : Same Z H) : ∀ {p : PV} {d : PyData} {v : V}, toD p = some d → Rp K Z p v → Dp K H v d
  | .non, _, _, e, r => by cases e; cases r; exact .non
  | .bl b, _, _, e, r => by cases e; cases r; exact .bl b
  | .int b, _, _, e, r => by cases e; cases r; exact .int b
  | .str b, _, _, e, r => by cases e; cases r; exact .str b
  | .tup l, d, v, e, r => by
    cases r with
    | tup h r =>
      unfold toD at e
      cases el : toDL l with
      | none => rw [el] at e; cases e
      | some ds => rw [el] at e; cases e; exact .tup (sqT_same zh h) (dpL_of zh el r)
  | .lst l, d, v, e, r => by
    cases r with
    | lst h r =>
      unfold toD at e
      cases el : toDL l with
      | none => rw [el] at e; cases e
      | some ds => rw [el] at e; cases e; exact .lst (.inl (.inl (zh _ _ h))) (dpL_of zh el r)
  | .dct _, _, _, e, _ => by cases e
  | .set _, _, _, _, r => by cases r
  | .scr _, _, _, e, _ => by cases e
theorem dpL_of {K : Fg} {Z H : Hp} (zh : Same Z H) : ∀ {ps : List PV} {ds : List PyData} {vs : List V}, toDL ps = some ds → RpL K Z ps vs → DpAll K H vs ds
  | [], _, _, e, r => by cases e; cases r; exact .nil
  | p :: ps, ds, _, e, r => by
    cases r with
    | cons h t =>
      unfold toDL at e
      cases e1 : toD p with
      | none => rw [e1] at e; cases e
      | some d =>
        cases e2 : toDL ps with
        | none => rw [e1, e2] at e; cases e
        | some ds' => rw [e1, e2] at e; cases e; exact .cons (dp_of zh e1 h) (dpL_of zh e2 t)
end
theorem dp_view {K : Fg} {Z H : Hp} {p : PV} {d : PyData} {v : V} (zh : Same Z H) (e : toD p = some d) (h : View K Z H p v) : Dp K H v d := by
  rcases h with h | ⟨a, rfl, h⟩
  · exact dp_of zh e h
  · cases p <;> first | exact h.elim | (cases e; done) | skip
    rename_i l
    obtain ⟨vs, h1, r⟩ := h
    unfold toD at e
    cases el : toDL l with
    | none => rw [el] at e; cases e
    | some ds => rw [el] at e; cases e; exact .lst (.inl (.inl h1)) (dpL_of zh el r)
theorem eqPV_some {p q : PV} {b : Bool} (e : eqPV p q = some b) : (∃ s t, p = .str s ∧ q = .str t ∧ b = decide (s = t)) ∨ ∃ d f, toD p = some d ∧ toD q = some f ∧ SeqAt.shaped d = true ∧ SeqAt.shaped f = true ∧ b = PyData.eqv d f := by
  unfold eqPV at e
  split at e
  · cases e; exact .inl ⟨_, _, rfl, rfl, rfl⟩
  · right
    split at e
    · split at e
      · rename_i hs
        cases e
        exact ⟨_, _, by assumption, by assumption, hs.1, hs.2, rfl⟩
      · cases e
    · cases e
/-! ### in -/
theorem flat_V {K : Fg} {Z : Hp} {p : PV} {v : V} (f : flatP p = true) (r : Rp K Z p v) : flatV v = true := by
  cases r <;> first | rfl | cases f
theorem flat_view {K : Fg} {Z H : Hp} {p : PV} {v : V} (f : flatP p = true) (r : View K Z H p v) : Rp K Z p v := by
  rcases r with r | ⟨a, rfl, r⟩
  · exact r
  · cases p <;> first | exact r.elim | cases f
theorem flat_eq {K : Fg} {Z : Hp} {p q : PV} {v u : V} (f : flatP p = true) (f2 : flatP q = true) (r : Rp K Z p v) (r2 : Rp K Z q u) : eqV v u = PyData.eqv (encP p) (encP q) := by
  cases r <;> first | (cases f; done) | skip
  all_goals (cases r2 <;> first | (cases f2; done) | skip)
  all_goals (simp only [encP, toD, Option.getD_some, PyData.eqv, eqV])
theorem flat_all {K : Fg} {Z : Hp} : ∀ {ps : List PV} {vs : List V}, RpL K Z ps vs → ps.all flatP = true → vs.all flatV = true
  | _, _, .nil, _ => rfl
  | _, _, .cons h t, f => by
    rw [List.all_cons, Bool.and_eq_true] at f ⊢
    exact ⟨flat_V f.1 h, flat_all t f.2⟩
theorem flat_any {K : Fg} {Z : Hp} {q : PV} {u : V} (f2 : flatP q = true) (r2 : Rp K Z q u) : ∀ {ps : List PV} {vs : List V}, RpL K Z ps vs → ps.all flatP = true → inV u vs = ps.any fun y => PyData.eqv (encP y) (encP q)
  | _, _, .nil, _ => rfl
  | _, _, .cons h t, f => by
    rw [List.all_cons, Bool.and_eq_true] at f
    show (eqV _ u || inV u _) = _
    rw [flat_eq f.1 f2 h r2, flat_any f2 r2 t f.2, List.any_cons]
theorem toD_tuple {l : List PV} {ds : List PyData} (e : toDL l = some ds) : toD (.tup l) = some (.tuple ds) := by
  rw [toD, e]; rfl
theorem toD_list {l : List PV} {ds : List PyData} (e : toDL l = some ds) : toD (.lst l) = some (.list ds) := by
  unfold toD
  rw [e]; rfl
theorem op_inDct (hu : X.A.units + 1 < cLine) (neg : Bool) : OpR X (compareOp (if neg = true then .NotIn else .In)) (fun y x H Q => ∃ a o, x = .ref a ∧ DGet H a y o ∧ Q (.bl (if neg = true then !o.isSome else o.isSome)) H) := by
  intro pins s σ H y x v u Q I ry rx h
  obtain ⟨a, o, rfl, g, q⟩ := h
  cases rx
  cases neg
  · exact d_in hu I g ry fun s' I' => ⟨.bl o.isSome, H, I', rfl, q⟩
  · exact d_notIn hu I g ry fun s' I' => ⟨.bl (!o.isSome), H, I', rfl, q⟩
theorem key_of_view {K : Fg} {Z H : Hp} {p : PV} {k : Key} {v : V} (e : keyP p = some k) (h : View K Z H p v) : v = kV k := by
  cases p <;> first | (cases e; done) | skip
  · cases e; cases h.int; rfl
  · cases e; cases h.str; rfl
theorem op_inE (hu : X.A.units + 65 < cLine) (neg : Bool) : OpR X (compareOp (if neg = true then .NotIn else .In)) (fun x y H Q => ∃ Z p q b, Same Z H ∧ View X.K Z H p x ∧ View X.K Z H q y ∧ opIn p q = some b ∧ Q (.bl (if neg = true then !b else b)) H) := by
  intro pins s σ H x y v u Q I rx ry h
  obtain ⟨Z, p, q, b, zh, vp, vq, e, k⟩ := h
  cases q <;> first | (cases e; done) | skip
  · -- a text in a text
    rename_i t
    cases p <;> first | (cases e; done) | skip
    rename_i w
    cases vp.str
    cases vq.str
    have e : (match w.cps.toList with | [c] => some (decide (c ∈ t.cps.toList)) | _ => some (!(Builtin.Str.occurrences t w 0 t.length 1).isEmpty)) = some b := e
    split at e
    · rename_i c ec
      cases e
      have ew : w = ⟨#[c]⟩ := by
        cases w with
        | mk a =>
          have : a.toList = [c] := ec
          have : a = #[c] := by apply Array.toList_inj.mp; simpa using this
          rw [this]
      subst ew
      cases neg
      · exact op_in_sign pins s σ H _ _ v u Q I rx ry ⟨c, t, rfl, rfl, k⟩
      · exact op_notIn_sign pins s σ H _ _ v u Q I rx ry ⟨c, t, rfl, rfl, k⟩
    · cases e
      cases neg
      · exact op_in_str pins s σ H _ _ v u Q I rx ry ⟨w, t, rfl, rfl, k⟩
      · exact op_notin_str pins s σ H _ _ v u Q I rx ry ⟨w, t, rfl, rfl, k⟩
  · rename_i l
    have e : (if flatP p = true ∧ l.all flatP = true then some (l.any fun y => PyData.eqv (encP y) (encP p)) else match toD p, toDL l with
      | some d, some ds => if SeqAt.shaped d = true ∧ SeqAt.shaped (.tuple ds) = true then some (ds.any fun z => PyData.eqv z d) else none
      | _, _ => none) = some b := e
    split at e
    · rename_i hf
      cases e
      obtain ⟨a, vs, rfl, h1, r1⟩ := vq.tup zh
      have rp := flat_view hf.1 vp
      have ei := flat_any hf.1 rp r1 hf.2
      cases neg
      · exact op_in_seq pins s σ H _ _ v u Q I rx ry ⟨a, vs, rfl, .inr h1, flat_V hf.1 rp, flat_all r1 hf.2, by rw [ei]; exact k⟩
      · exact op_notIn_seq pins s σ H _ _ v u Q I rx ry ⟨a, vs, rfl, .inr h1, flat_V hf.1 rp, flat_all r1 hf.2, by rw [ei]; exact k⟩
    · split at e
      · rename_i d ds e1 e2
        split at e
        · rename_i hs
          cases e
          have d1 := dp_view zh e1 vp
          have d2 := dp_view zh (toD_tuple e2) vq
          obtain ⟨as, r1⟩ := Dp.reads I d x v d1 rx
          obtain ⟨bs, r2⟩ := Dp.reads I (.tuple ds) y u d2 ry
          cases neg
          · exact SeqAt.in_tuple_reads r2 r1 (SeqAt.canLay_of_shaped hs.2) (SeqAt.canLay_of_shaped hs.1) (room_in_shaped hs.1 hu) ⟨.bl _, H, I, rfl, k⟩
          · exact SeqAt.notIn_tuple_reads r2 r1 (SeqAt.canLay_of_shaped hs.2) (SeqAt.canLay_of_shaped hs.1) (room_in_shaped hs.1 hu) ⟨.bl _, H, I, rfl, k⟩
        · cases e
      · cases e
  · rename_i l
    have e : (match toD p, toDL l with
      | some d, some ds => if SeqAt.shaped d = true ∧ SeqAt.shaped (.list ds) = true then some (ds.any fun z => PyData.eqv z d) else none
      | _, _ => none) = some b := e
    split at e
    · rename_i d ds e1 e2
      split at e
      · rename_i hs
        cases e
        have d1 := dp_view zh e1 vp
        have d2 := dp_view zh (toD_list e2) vq
        cases neg
        · exact op_inD hu pins s σ H _ _ v u Q I rx ry ⟨d, ds, d1, d2, hs.1, hs.2, k⟩
        · exact op_notInD hu pins s σ H _ _ v u Q I rx ry ⟨d, ds, d1, d2, hs.1, hs.2, k⟩
      · cases e
    · cases e
  · rename_i l
    have e : (keyP p).map (fun k => (dG l k).isSome) = some b := e
    obtain ⟨a, o, vs, rfl, h1, r1⟩ := vq.dct zh
    cases ek : keyP p with
    | none => rw [ek] at e; cases e
    | some kk =>
      rw [ek] at e
      cases e
      cases key_of_view ek vp
      have eq : (valV vs kk).isSome = (dG l kk).isSome := by
        rcases r1.get kk with ⟨z, z2⟩ | ⟨x, y, e1, e2, _⟩
        · rw [z, z2]; rfl
        · rw [e1, e2]; rfl
      exact op_inDct (by omega) neg pins s σ H _ _ v u Q I rx ry ⟨a, valV vs kk, rfl, .inl ⟨vs, kk, .inr ⟨o, h1⟩, rfl, rfl⟩, by rw [eq]; exact k⟩
theorem op_cmpE (hu : X.A.units + 65 < cLine) (op : CmpOp) : OpR X (compareOp op) (rCmp X.K op) := by
  intro pins s' σ H x y v u Q I rx ry h
  obtain ⟨Z, p, q, b, zh, vp, vq, e, k⟩ := h
  unfold opCmp at e
  split at e
  · rcases eqPV_some e with ⟨s, t, rfl, rfl, rfl⟩ | ⟨d, f, e1, e2, s1, s2, rfl⟩
    · cases vp.str
      cases vq.str
      refine op_eq pins s' σ H _ _ v u Q I rx ry ⟨rfl, ?_⟩
      have : decide (V.str s = V.str t) = decide (s = t) := by simp
      rw [this]
      exact k
    exact op_eqD (by omega) pins s' σ H _ _ v u Q I rx ry ⟨d, f, dp_view zh e1 vp, dp_view zh e2 vq, s1, s2, k⟩
  · cases e0 : eqPV p q with
    | none => rw [e0] at e; cases e
    | some b0 =>
      rw [e0] at e
      cases e
      rcases eqPV_some e0 with ⟨s, t, rfl, rfl, rfl⟩ | ⟨d, f, e1, e2, s1, s2, rfl⟩
      · cases vp.str
        cases vq.str
        refine op_ne pins s' σ H _ _ v u Q I rx ry ⟨rfl, ?_⟩
        have : decide (V.str s = V.str t) = decide (s = t) := by simp
        rw [this]
        exact k
      exact op_neD (by omega) pins s' σ H _ _ v u Q I rx ry ⟨d, f, dp_view zh e1 vp, dp_view zh e2 vq, s1, s2, k⟩
  · cases e
    cases vp.int
    cases vq.int
    exact op_lt pins s' σ H _ _ v u Q I rx ry ⟨_, _, rfl, rfl, k⟩
  · cases e
    cases vp.int
    cases vq.int
    exact op_le pins s' σ H _ _ v u Q I rx ry ⟨_, _, rfl, rfl, k⟩
  · cases e
    cases vp.int
    cases vq.int
    exact op_gt pins s' σ H _ _ v u Q I rx ry ⟨_, _, rfl, rfl, k⟩
  · cases e
    cases vp.int
    cases vq.int
    exact op_ge pins s' σ H _ _ v u Q I rx ry ⟨_, _, rfl, rfl, k⟩
  · exact op_inE hu false pins s' σ H _ _ v u Q I rx ry ⟨Z, _, _, _, zh, vp, vq, e, k⟩
  · cases e0 : opIn p q with
    | none => rw [e0] at e; cases e
    | some b0 =>
      rw [e0] at e
      cases e
      exact op_inE hu true pins s' σ H _ _ v u Q I rx ry ⟨Z, _, _, _, zh, vp, vq, e0, k⟩
  · cases e
    cases vp.bl
    cases vq.bl
    exact op_isBl pins s' σ H _ _ v u Q I rx ry ⟨_, _, rfl, rfl, k⟩
  · cases e
    cases vp.bl
    cases vq.bl
    exact op_notBl pins s' σ H _ _ v u Q I rx ry ⟨_, _, rfl, rfl, k⟩
  · cases e

/-! ### one place, subscripts, slices, truth -/
theorem op_negE : UnR X (unaryOp .USub) (fun x H Q => ∃ Z p q, Same Z H ∧ View X.K Z H p x ∧ opNeg p = some q ∧ Kont X.K Z H Q (.val q)) := by
  intro pins s σ H x v Q I rx h
  obtain ⟨Z, p, q, zh, vp, e, k⟩ := h
  unfold opNeg at e
  split at e
  · cases e
    cases vp.int
    exact un_neg pins s σ H _ v Q I rx ⟨_, rfl, k _ _ _ (.refl zh) (.int _)⟩
  · cases e
theorem atI_get {α : Type} {l : List α} {i : Int} {x : α} (h : atI l i = some x) : ∃ j, ixN l.length i = some j ∧ l[j]? = some x := by
  unfold atI at h
  cases e : ixN l.length i with
  | none => rw [e] at h; cases h
  | some j => rw [e] at h; exact ⟨j, rfl, h⟩
theorem atI_rp {K : Fg} {Z : Hp} {ps : List PV} {vs : List V} {i : Int} {p : PV} (r : RpL K Z ps vs) (h : atI ps i = some p) : ∃ v, atI vs i = some v ∧ Rp K Z p v := by
  obtain ⟨j, h1, h2⟩ := atI_get h
  obtain ⟨v, h3, h4⟩ := r.get h2
  refine ⟨v, ?_, h4⟩
  unfold atI
  rw [r.length, h1]
  exact h3
/-- a key that is read -/
theorem key_view {K : Fg} {Z H : Hp} {p : PV} {k : Key} {v : V} (e : keyP p = some k) (h : View K Z H p v) : v = kV k := by
  cases p <;> first | (cases e; done) | skip
  · cases e; cases h.int; rfl
  · cases e; cases h.str; rfl
theorem kP_rp {K : Fg} {Z : Hp} (k : Key) : Rp K Z (kP k) (kV k) := by
  cases k with
  | inl i => exact .int i
  | inr s => exact .str s
theorem ix_dct (hu : X.A.units + 1 < cLine) : IxR X (fun x y H Q => ∃ (a : Addr) (v : V), x = .ref a ∧ DGet H a y (some v) ∧ Q v H) := by
  intro value slice pins s σ H x y v u Q I rx ry h hs
  obtain ⟨a, w, rfl, g, q⟩ := h
  cases rx
  exact tail_any (dict_typeIs I g) PySem.F.slot_dict_getitem.lookup (d_getItem hu I g ry fun w' s' I' rw' => ⟨w, H, I', rw', q⟩) hs
theorem ix_E (hu : X.A.units + 1 < cLine) : IxR X (fun x y H Q => ∃ Z p q r, Same Z H ∧ View X.K Z H p x ∧ View X.K Z H q y ∧ opIx p q = some r ∧ Kont X.K Z H Q (.val r)) := by
  intro value slice pins s σ H x y v u Q I rx ry h hs
  obtain ⟨Z, p, q, r, zh, vp, vq, e, k⟩ := h
  unfold opIx at e
  split at e
  · cases vq.int
    obtain ⟨a, vs, rfl, h1, r1⟩ := vp.lst zh
    obtain ⟨w, h2, h3⟩ := atI_rp r1 e
    exact ix_list value slice pins s σ H _ _ v u Q I rx ry ⟨_, _, _, _, rfl, rfl, .inl h1, h2, k _ _ _ (.refl zh) h3⟩ hs
  · cases vq.int
    obtain ⟨a, vs, rfl, h1, r1⟩ := vp.scr zh
    obtain ⟨w, h2, h3⟩ := atI_rp r1 e
    exact ix_list value slice pins s σ H _ _ v u Q I rx ry ⟨_, _, _, _, rfl, rfl, h1, h2, k _ _ _ (.refl zh) h3⟩ hs
  · cases vq.int
    obtain ⟨a, vs, rfl, h1, r1⟩ := vp.tup zh
    obtain ⟨w, h2, h3⟩ := atI_rp r1 e
    exact ix_tup value slice pins s σ H _ _ v u Q I rx ry ⟨_, _, _, _, rfl, rfl, h1, h2, k _ _ _ (.refl zh) h3⟩ hs
  · rename_i q l
    obtain ⟨a, o, vs, rfl, h1, r1⟩ := vp.dct zh
    obtain ⟨kk, ek, e⟩ := Option.bind_eq_some_iff.mp e
    cases key_view ek vq
    rcases r1.get kk with ⟨z, _⟩ | ⟨x, y, e1, e2, rx'⟩
    · rw [z] at e; cases e
    · rw [e1] at e
      cases e
      exact ix_dct hu value slice pins s σ H _ _ v u Q I rx ry ⟨a, y, rfl, .inl ⟨vs, kk, .inr ⟨o, h1⟩, rfl, e2.symm⟩, k _ _ _ (.refl zh) rx'⟩ hs
  · split at e
    · rename_i s' i hc
      cases vq.int
      cases vp.str
      cases e1 : atI s'.cps.toList i with
      | none => rw [e1] at e; cases e
      | some c =>
        rw [e1] at e
        cases e
        exact ix_str value slice pins s σ H _ _ v u Q I rx ry ⟨_, _, _, rfl, rfl, hc, e1, k _ _ _ (.refl zh) (.str _)⟩ hs
    · cases e
  · cases e
theorem cut_rp {K : Fg} {Z : Hp} {ps : List PV} {vs : List V} (r : RpL K Z ps vs) (lo hi : Option Int) : RpL K Z (cutP ps lo hi) (cutV vs lo hi) := by
  unfold cutP cutV
  rw [r.length]
  exact (r.drop _).take _
theorem sl_tupE : SlR X (fun x lo hi H Q => ∃ Z ps vs a, Same Z H ∧ x = .ref a ∧ SqT X.K H a vs ∧ RpL X.K Z ps vs ∧ Rp X.K Z (.tup ps) x ∧ Kont X.K Z H Q (.val (.tup (cutP ps lo hi)))) := by
  intro pins s σ H x v vl vu lo hi sl Q I rx hs pl pu h
  obtain ⟨Z, ps, vs, a, zh, rfl, h1, r1, rp, k⟩ := h
  refine sl_tupA pins s σ H _ v vl vu lo hi sl Q I rx hs pl pu ⟨a, vs, rfl, h1, fun hw => ?_, fun _ p hp => ?_⟩
  · have e : cutP ps lo hi = ps := by
      unfold cutP
      rw [← r1.length, hw.1, hw.2]
      simp [r1.length]
    rw [e] at k
    exact k _ _ _ (.refl zh) rp
  · exact tpE zh k (cut_rp r1 lo hi) p hp
theorem sl_E : SlR X (fun x lo hi H Q => ∃ Z p r, Same Z H ∧ View X.K Z H p x ∧ opSlc p lo hi = some r ∧ Kont X.K Z H Q r) := by
  intro pins s σ H x v vl vu lo hi sl Q I rx hs pl pu h
  obtain ⟨Z, p, r, zh, vp, e, k⟩ := h
  unfold opSlc at e
  split at e
  · cases e
    obtain ⟨a, vs, rfl, h1, r1⟩ := vp.lst zh
    exact sl_list pins s σ H _ v vl vu lo hi sl Q I rx hs pl pu ⟨_, _, rfl, .inl h1, frE zh k (cut_rp r1 lo hi)⟩
  · cases e
    obtain ⟨a, vs, rfl, h1, r1⟩ := vp.scr zh
    exact sl_list pins s σ H _ v vl vu lo hi sl Q I rx hs pl pu ⟨_, _, rfl, h1, frE zh k (cut_rp r1 lo hi)⟩
  · cases e
    rcases id vp with h | ⟨_, _, h⟩
    · obtain ⟨a, vs, rfl, h1, r1⟩ := vp.tup zh
      exact sl_tupE pins s σ H _ v vl vu lo hi sl Q I rx hs pl pu ⟨Z, _, vs, a, zh, rfl, h1, r1, h, k⟩
    · exact h.elim
  · split at e
    · rename_i hc
      cases e
      cases vp.str
      exact sl_str pins s σ H _ v vl vu lo hi sl Q I rx hs pl pu ⟨_, rfl, hc, k _ _ _ (.refl zh) (.str _)⟩
    · cases e
  · cases e
theorem isEmpty_rp {K : Fg} {Z : Hp} {ps : List PV} {vs : List V} (r : RpL K Z ps vs) : (!vs.isEmpty) = !ps.isEmpty := by
  cases r <;> rfl
theorem truth_ok {K : Fg} {Z H : Hp} {p : PV} {x : V} {b : Bool} (zh : Same Z H) (vp : View K Z H p x) (e : truth p = some b) : TruV K x H b := by
  unfold truth at e
  split at e
  · cases e; cases vp.non; rfl
  · cases e; cases vp.bl; rfl
  · cases e; cases vp.int; rfl
  · split at e
    · cases e; cases vp.str; exact ⟨by assumption, rfl⟩
    · cases e
  · cases e
    obtain ⟨a, vs, rfl, h1, r1⟩ := vp.tup zh
    exact .inr (.inl ⟨vs, h1, (isEmpty_rp r1).symm⟩)
  · cases e
    obtain ⟨a, vs, rfl, h1, r1⟩ := vp.lst zh
    exact .inl ⟨vs, .inl h1, (isEmpty_rp r1).symm⟩
  · cases e
    obtain ⟨a, vs, rfl, h1, r1⟩ := vp.scr zh
    exact .inl ⟨vs, h1, (isEmpty_rp r1).symm⟩
  · cases e
end

/-! ### built-in functions -/
abbrev ViewL (K : Fg) (Z H : Hp) : List PV → List V → Prop := Paired (View K Z H)
theorem ViewL.one {K : Fg} {Z H : Hp} {p : PV} {vs : List V} (h : ViewL K Z H [p] vs) : ∃ v, vs = [v] ∧ View K Z H p v := by
  cases h with
  | cons h t => cases t; exact ⟨_, rfl, h⟩
theorem ViewL.two {K : Fg} {Z H : Hp} {p q : PV} {vs : List V} (h : ViewL K Z H [p, q] vs) : ∃ v u, vs = [v, u] ∧ View K Z H p v ∧ View K Z H q u := by
  cases h with
  | cons h t => obtain ⟨u, e, h2⟩ := ViewL.one t; subst e; exact ⟨_, _, rfl, h, h2⟩
def bltV : Blt → Value
  | .abs => .builtin "abs"
  | .len => .builtin "len"
  | .dict => .type "dict"
  | .isqrt => .builtin "math.isqrt"
  | .int => .type "int"
  | .all => .builtin "all"
  | .gcd => .builtin "math.gcd"
  | .repr => .builtin "repr"
  | .str => .type "str"
  | .list => .type "list"
  | .tuple => .type "tuple"
  | .sorted => .builtin "sorted"
  | .any => .builtin "any"
  | .min => .builtin "min"
  | .max => .builtin "max"
theorem allB_vs {K : Fg} {Z : Hp} : ∀ {ps : List PV} {vs : List V} {bs : List Bool}, allB ps = some bs → RpL K Z ps vs → vs = bs.map V.bl
  | [], _, _, e, r => by cases e; cases r; rfl
  | p :: ps, _, bs, e, r => by
    cases r with
    | cons h t =>
      cases p <;> first | (unfold allB at e; cases e; done) | skip
      rename_i b
      unfold allB at e
      cases e1 : allB ps with
      | none => rw [e1] at e; cases e
      | some bs' =>
        rw [e1] at e
        cases e
        cases h
        rw [allB_vs e1 t]
        rfl
section
variable {X : Cx}
def rBlt (K : Fg) (b : Blt) : List V → Hp → VK → Prop := fun vs H Q => ∃ Z ps r, Same Z H ∧ ViewL K Z H ps vs ∧ opBlt b ps = some r ∧ Kont K Z H Q r
/-! ### sorted -/
def UR (K : Fg) (Z : Hp) (u : Value) (p : PV) : Prop := ∃ v, RelV v u ∧ Rp K Z p v
theorem each_UR {K : Fg} {Z : Hp} : ∀ {ps : List PV} {vs : List V} {us : List Value}, RpL K Z ps vs → Vals vs us → EachIs (UR K Z) us ps
  | _, _, _, .nil, .nil => .nil
  | _, _, _, .cons h t, .cons r rr => .cons ⟨_, r, h⟩ (each_UR t rr)
theorem of_UR {K : Fg} {Z : Hp} : ∀ {ps : List PV} {us : List Value}, EachIs (UR K Z) us ps → ∃ vs, RpL K Z ps vs ∧ Vals vs us
  | _, _, .nil => ⟨[], .nil, .nil⟩
  | _, _, .cons ⟨v, r, h⟩ t => by
    obtain ⟨vs, h1, h2⟩ := of_UR t
    exact ⟨v :: vs, .cons h h1, .cons r h2⟩
theorem enc_dp {K : Fg} {Z H : Hp} {p : PV} {v : V} (zh : Same Z H) (e : (toD p).isSome = true) (r : Rp K Z p v) : Dp K H v (encP p) := by
  cases h : toD p with
  | none => rw [h] at e; cases e
  | some d =>
    have : encP p = d := by unfold encP; rw [h]; rfl
    rw [this]
    exact dp_of zh h r
theorem call_sortE (hu : X.A.units + 100 < cLine) : CallR X (.builtin "sorted") (fun xs H Q => ∃ Z a l vs, xs = [.ref a] ∧ Same Z H ∧ SqL X.K H a vs ∧ RpL X.K Z l vs ∧ sortOk l = true ∧ ∀ vs' p, RpL X.K Z (sortP l) vs' → H p = none → Q (.ref p) (upd H p (.lst vs'))) := by
  intro pins s σ H xs us Q I r h
  obtain ⟨Z, a, l, vs, rfl, zh, hs, rl, ok, q⟩ := h
  rw [Vals.ref1 r]
  obtain ⟨its, rv, hl, hz⟩ := I.list hs
  unfold sortOk at ok
  rw [Bool.and_eq_true, Bool.and_eq_true, Bool.and_eq_true, List.all_eq_true, List.all_eq_true] at ok
  obtain ⟨⟨⟨k1, k2⟩, k3⟩, k4⟩ := ok
  have k1' : ∀ p ∈ l, (toD p).isSome = true ∧ (encP p).depth ≤ 64 := fun p hp => by
    have := k1 p hp
    rw [Bool.and_eq_true] at this
    exact ⟨this.1, of_decide_eq_true this.2⟩
  have er : ∀ {ps : List PV} {vs : List V} {us : List Value}, (∀ p ∈ ps, (toD p).isSome = true) → RpL X.K Z ps vs → Vals vs us → EachIs (fun v b => ∃ as, Reads s.heap v (encP b) as) us ps := by
    intro ps
    induction ps with
    | nil => intro vs us _ h1 h2; cases h1; cases h2; exact .nil
    | cons p ps ih =>
      intro vs us hh h1 h2
      cases h1 with
      | cons g t =>
        cases h2 with
        | cons r rr => exact .cons (Dp.reads I _ _ _ (enc_dp zh (hh p List.mem_cons_self) g) r) (ih (fun x hx => hh x (List.mem_cons_of_mem _ hx)) t rr)
  refine sorted_data (enc := encP) (R := UR X.K Z) hl.isList (each_UR rl rv) (er (fun p hp => (k1' p hp).1) rl rv) ?_ ?_ (of_decide_eq_true k4) (fun b hb => by have := (k1' b hb).2; omega) fun out ho eo => ?_
  · intro d hd d' hd'
    obtain ⟨p, hp, rfl⟩ := List.mem_map.mp hd
    obtain ⟨p', hp', rfl⟩ := List.mem_map.mp hd'
    exact List.all_eq_true.mp (k2 p hp) p' hp'
  · rw [Bool.or_eq_true, List.all_eq_true, List.all_eq_true] at k3
    rcases k3 with k3 | k3
    · refine .inl fun d hd => ?_
      obtain ⟨p, hp, rfl⟩ := List.mem_map.mp hd
      have := k3 p hp
      unfold tupNE at this
      split at this
      · rename_i x r e
        exact ⟨x, r, e⟩
      · cases this
    · refine .inr fun d hd => ?_
      obtain ⟨p, hp, rfl⟩ := List.mem_map.mp hd
      have := k3 p hp
      refine ⟨fun z => ?_, fun ys z => ?_⟩
      · rw [z] at this; cases this
      · rw [z] at this; cases this
  · obtain ⟨vs', h1, h2⟩ := of_UR eo
    obtain ⟨ep, he'⟩ := PyProof.Rows.sortedAll_at s.heap its out.toArray
    have hlen : vs'.length ≤ sizeLine := by
      rw [h2.length, ho]; exact of_decide_eq_true k4
    exact ⟨.ref _, upd H (s.heap.objs.size + 1) (.lst vs'), I.laid (t' := s.toks) (fun _ _ => PyProof.Rows.sortedAll_old) (Nat.le_succ _) ⟨hlen, out, ep, h2, he'⟩, rfl, q vs' _ h1 (I.hok.fresh (Nat.le_succ _))⟩
/-- what is handed back is locked -/
def rLk (r : List V → Hp → VK → Prop) : List V → Hp → VK → Prop := fun xs H Q => r xs H fun x H' => ∃ d u, x = .ref d ∧ H' d = some u ∧ Mut (some u) ∧ ∀ od, Q x (upd H' d (.frz od u))
theorem cr_lock {f : Value} {r : List V → Hp → VK → Prop} (h : CallR X f r) : CallR X f (rLk r) := by
  intro pins s σ H xs us Q I rl q
  refine wpAny_mono (h pins s σ H xs us _ I rl q) (fun u s' z => ?_) fun _ _ z => z
  obtain ⟨x, H', I', rx, d, ob, rfl, hd, mu, q⟩ := z
  obtain ⟨od, I2⟩ := I'.lock hd mu
  exact ⟨.ref d, _, I2, rx, q od⟩
theorem dcE {K : Fg} {Z H : Hp} {Q : VK} {ps : List (Key × PV)} {vs : List (Key × V)} (zh : Same Z H) (k : Kont K Z H Q (.fresh (.dct ps))) (r : RpK K Z ps vs) :
    ∀ p, H p = none → ∃ d u, V.ref p = .ref d ∧ upd H p (.dK vs) d = some u ∧ Mut (some u) ∧ ∀ od, Q (.ref p) (upd (upd H p (.dK vs)) d (.frz od u)) := fun p hp =>
  ⟨p, _, rfl, upd_same, trivial, fun od => by
    rw [upd_upd]
    exact k p Z _ (.new zh hp) hp (zh.free hp) ⟨od, vs, upd_same, r⟩⟩
theorem RpK.merge {K : Fg} {Z : Hp} : ∀ {more : List (Key × PV)} {rs : List (Key × V)} {p : List (Key × PV)} {v : List (Key × V)}, RpK K Z more rs → RpK K Z p v → RpK K Z (dM p more) (mergeK v rs)
  | _, _, _, _, .nil, h => h
  | _, _, _, _, .cons (k := kk) h t, hp => by
    have z := RpK.merge t (RpK.put kk h hp)
    exact z
theorem prs_of {K : Fg} {Z H : Hp} (zh : Same Z H) : ∀ {l : List PV} {kvs : List (Key × PV)} {vs : List V}, prsP l = some kvs → RpL K Z l vs → ∃ (as : List Addr) (ks : List (Key × V)), vs = as.map V.ref ∧ Paired (fun p kv => SqT K H p [kV kv.1, kv.2]) as ks ∧ RpK K Z kvs ks
  | [], kvs, _, e, r => by cases e; cases r; exact ⟨[], [], rfl, .nil, .nil⟩
  | p :: l, kvs, _, e, r => by
    cases r with
    | @cons _ v _ vs h t =>
      unfold prsP at e
      split at e
      · rename_i e0; cases e0
      · rename_i kp vp l' e0
        cases e0
        split at e
        · rename_i kk rr ek er
          cases e
          obtain ⟨as, ks, rfl, h2, h3⟩ := prs_of zh er t
          cases h with
          | tup hq rq =>
            obtain ⟨x, y, rfl, r1, r2⟩ := rq.two
            cases key_view (H := H) ek (.inl r1)
            exact ⟨_ :: as, (kk, y) :: ks, rfl, .cons (sqT_same zh hq) h2, .cons r2 h3⟩
        · cases e
      · cases e
theorem cr_isqrt : CallR X (.builtin "math.isqrt") (fun vs H Q => ∃ i : Int, vs = [.int i] ∧ (0 ≤ i ∧ i.natAbs.log2 < 1900) ∧ Q (.int ((PySem.Float64.isqrt i.toNat : Nat) : Int)) H) := by
  intro pins s σ H vs us Q I r h
  obtain ⟨i, rfl, ⟨h0, h1⟩, q⟩ := h
  obtain ⟨u, rfl, t, rfl⟩ := vals1 r
  have e : i.natAbs = i.toNat := by omega
  rw [e] at h1
  exact call_function_meets PySem.W.MGF.kind_isqrt PySem.W.MGF.plain_isqrt PySem.W.MGF.entry_isqrt (PySem.W.MGF.args_isqrt _) (PySem.W.mg_run_isqrt i t (by omega) (by omega) (by omega)).meets ⟨.int _, H, I.tok _, ⟨_, rfl⟩, q⟩
theorem call_blt (hg : X.A.guards = some []) (hu : X.A.units + 100 < cLine) (hc : X.calm = true) (b : Blt) : CallR X (bltV b) (rBlt X.K b) := by
  intro pins s σ H xs us Q I r h
  obtain ⟨Z, ps, r0, zh, vl, e, k⟩ := h
  unfold opBlt at e
  split at e
  · cases e
    obtain ⟨v, rfl, w⟩ := vl.one
    cases w.int
    exact call_abs pins s σ H _ us Q I r ⟨_, rfl, k _ _ _ (.refl zh) (.int _)⟩
  · cases e
    obtain ⟨v, rfl, w⟩ := vl.one
    obtain ⟨a, vs, rfl, h1, r1⟩ := w.lst zh
    exact call_len pins s σ H _ us Q I r ⟨_, _, rfl, .inl ⟨vs, .inl h1, rfl⟩, by rw [r1.length]; exact k _ _ _ (.refl zh) (.int _)⟩
  · cases e
    obtain ⟨v, rfl, w⟩ := vl.one
    obtain ⟨a, vs, rfl, h1, r1⟩ := w.scr zh
    exact call_len pins s σ H _ us Q I r ⟨_, _, rfl, .inl ⟨vs, h1, rfl⟩, by rw [r1.length]; exact k _ _ _ (.refl zh) (.int _)⟩
  · cases e
    obtain ⟨v, rfl, w⟩ := vl.one
    obtain ⟨a, vs, rfl, h1, r1⟩ := w.tup zh
    exact call_len pins s σ H _ us Q I r ⟨_, _, rfl, .inr ⟨vs, h1, rfl⟩, by rw [r1.length]; exact k _ _ _ (.refl zh) (.int _)⟩
  · cases e
    obtain ⟨v, rfl, w⟩ := vl.one
    obtain ⟨a, o, vs, rfl, h1, r1⟩ := w.dct zh
    obtain ⟨u, rfl, rx⟩ := vals1 r
    cases rx
    exact d_len I (.inr ⟨o, h1⟩) fun t s' I' => ⟨.int vs.length, H, I', ⟨t, rfl⟩, by rw [r1.length]; exact k _ _ _ (.refl zh) (.int _)⟩
  · cases e
    obtain ⟨v, rfl, w⟩ := vl.one
    obtain ⟨a, o, vs, rfl, h1, r1⟩ := w.dct zh
    exact (cr_lock call_dictD) pins s σ H _ us Q I r ⟨_, _, rfl, .inr ⟨o, h1⟩, dcE zh k r1⟩
  · rename_i l
    cases e1 : prsP l with
    | none => rw [e1] at e; cases e
    | some kvs =>
      rw [e1] at e
      cases e
      obtain ⟨v, rfl, w⟩ := vl.one
      obtain ⟨a, vs, rfl, h1, r1⟩ := w.lst zh
      obtain ⟨as, ks, rfl, h2, h3⟩ := prs_of zh e1 r1
      exact (cr_lock (call_dictP hc)) pins s σ H _ us Q I r ⟨_, as, ks, rfl, .inl h1, h2, dcE zh k (h3.merge .nil)⟩
  · split at e
    · rename_i hq
      cases e
      obtain ⟨v, rfl, w⟩ := vl.one
      cases w.int
      exact cr_isqrt pins s σ H _ us Q I r ⟨_, rfl, hq, k _ _ _ (.refl zh) (.int _)⟩
    · cases e
  · split at e
    · cases e
      obtain ⟨v, rfl, w⟩ := vl.one
      cases w.str
      exact call_len pins s σ H _ us Q I r ⟨_, _, rfl, ⟨by assumption, rfl⟩, k _ _ _ (.refl zh) (.int _)⟩
    · cases e
  · cases e
    obtain ⟨v, rfl, w⟩ := vl.one
    cases w.int
    exact call_int1 pins s σ H _ us Q I r (.inl ⟨_, rfl, k _ _ _ (.refl zh) (.int _)⟩)
  · cases e
    obtain ⟨v, rfl, w⟩ := vl.one
    cases w.bl
    exact call_int1 pins s σ H _ us Q I r (.inr ⟨_, rfl, k _ _ _ (.refl zh) (.int _)⟩)
  · rename_i l
    cases e1 : allB l with
    | none => rw [e1] at e; cases e
    | some bs =>
      rw [e1] at e
      cases e
      obtain ⟨v, rfl, w⟩ := vl.one
      obtain ⟨a, vs, rfl, h1, r1⟩ := w.lst zh
      have q := allB_vs e1 r1
      subst q
      exact cr_all hc pins s σ H _ us Q I r ⟨_, _, rfl, .inl h1, k _ _ _ (.refl zh) (.bl _)⟩
  · cases e
    obtain ⟨v, u, rfl, w1, w2⟩ := vl.two
    cases w1.int
    cases w2.int
    exact cr_gcd pins s σ H _ us Q I r ⟨_, _, rfl, k _ _ _ (.refl zh) (.int _)⟩
  · rename_i p
    obtain ⟨v, rfl, w⟩ := vl.one
    split at e
    · rename_i d ed
      split at e
      · rename_i hs
        cases e
        exact call_reprD hg hu pins s σ H _ us Q I r ⟨v, d, rfl, dp_view zh ed w, hs.1, hs.2.1, hs.2.2, k _ _ _ (.refl zh) (.str _)⟩
      · cases e
    · cases e
  · split at e
    · rename_i n en
      split at e
      · rename_i hs
        cases e
        obtain ⟨v, rfl, w⟩ := vl.one
        cases w.str
        exact call_int_str pins s σ H _ us Q I r ⟨_, n, rfl, en, hs, k _ _ _ (.refl zh) (.int _)⟩
      · cases e
    · cases e
  · split at e
    · rename_i hs
      cases e
      obtain ⟨v, rfl, w⟩ := vl.one
      cases w.int
      exact call_str_int pins s σ H _ us Q I r ⟨_, rfl, hs, k _ _ _ (.refl zh) (.str _)⟩
    · cases e
  · cases e
    obtain ⟨v, rfl, w⟩ := vl.one
    cases w.str
    exact SkE.call_str_str pins s σ H _ us Q I r ⟨_, rfl, k _ _ _ (.refl zh) (.str _)⟩
  · cases e
    obtain ⟨v, rfl, w⟩ := vl.one
    obtain ⟨a, vs, rfl, h1, r1⟩ := w.lst zh
    exact call_list_of pins s σ H _ us Q I r ⟨a, vs, rfl, .inl (.inl h1), frE zh k r1⟩
  · cases e
    obtain ⟨v, rfl, w⟩ := vl.one
    obtain ⟨a, vs, rfl, h1, r1⟩ := w.scr zh
    exact call_list_of pins s σ H _ us Q I r ⟨a, vs, rfl, .inl h1, frE zh k r1⟩
  · cases e
    obtain ⟨v, rfl, w⟩ := vl.one
    obtain ⟨a, vs, rfl, h1, r1⟩ := w.tup zh
    exact call_list_of pins s σ H _ us Q I r ⟨a, vs, rfl, .inr h1, frE zh k r1⟩
  · cases e
    obtain ⟨v, rfl, w⟩ := vl.one
    obtain ⟨a, vs, rfl, h1, r1⟩ := w.lst zh
    exact call_tuple_of pins s σ H _ us Q I r ⟨a, vs, rfl, .inl ⟨.inl h1, tpE zh k r1⟩⟩
  · cases e
    obtain ⟨v, rfl, w⟩ := vl.one
    obtain ⟨a, vs, rfl, h1, r1⟩ := w.scr zh
    exact call_tuple_of pins s σ H _ us Q I r ⟨a, vs, rfl, .inl ⟨h1, tpE zh k r1⟩⟩
  · cases e
    obtain ⟨v, rfl, w⟩ := vl.one
    rcases w with w | ⟨a, _, w⟩
    · cases w with
      | tup h1 r1 => exact call_tuple_of pins s σ H _ us Q I r ⟨_, _, rfl, .inr ⟨sqT_same zh h1, k _ _ _ (.refl zh) (.tup h1 r1)⟩⟩
    · exact w.elim
  · split at e
    · rename_i hs
      cases e
      obtain ⟨v, rfl, w⟩ := vl.one
      obtain ⟨a, vs, rfl, h1, r1⟩ := w.lst zh
      exact call_sortE hu pins s σ H _ us Q I r ⟨Z, a, _, vs, rfl, zh, .inl h1, r1, hs, fun vs' p r2 hp => frE zh k r2 p hp⟩
    · cases e
  · rename_i l
    cases e1 : allB l with
    | none => rw [e1] at e; cases e
    | some bs =>
      rw [e1] at e
      cases e
      obtain ⟨v, rfl, w⟩ := vl.one
      obtain ⟨a, vs, rfl, h1, r1⟩ := w.lst zh
      have q := allB_vs e1 r1
      subst q
      exact cr_any hc pins s σ H _ us Q I r ⟨_, _, rfl, .inl h1, k _ _ _ (.refl zh) (.bl _)⟩
  · cases e
    obtain ⟨v, u, rfl, w1, w2⟩ := vl.two
    cases w1.int
    cases w2.int
    exact call_min2 hc pins s σ H _ us Q I r ⟨_, _, rfl, k _ _ _ (.refl zh) (.int _)⟩
  · cases e
    obtain ⟨v, u, rfl, w1, w2⟩ := vl.two
    cases w1.int
    cases w2.int
    exact call_max2 hc pins s σ H _ us Q I r ⟨_, _, rfl, k _ _ _ (.refl zh) (.int _)⟩
  · cases e

/-! ### isinstance with a built-in class -/
theorem tyx_of {K : Fg} {Z H : Hp} {p : PV} {v : V} (hd : ∀ l, p ≠ .dct l) (zh : Same Z H) (h : View K Z H p v) : TyX K H v (.type (tyN p)) := by
  cases p with
  | non => cases h.non; exact .base .non
  | bl b => cases h.bl; exact .base (.bl b)
  | int b => cases h.int; exact .base (.int b)
  | str b => cases h.str; exact .base (.str b)
  | tup l =>
    obtain ⟨a, vs, rfl, h1, _⟩ := h.tup zh
    rcases h1 with (h1 | ⟨o, h1⟩) | ⟨o, its, n, h1, h2, _⟩
    · exact .base (.tup h1)
    · exact .fTuple h1
    · exact .kTuple h1 h2
  | lst l =>
    obtain ⟨a, vs, rfl, h1, _⟩ := h.lst zh
    rcases h1 with h1 | ⟨o, h1⟩
    · exact .base (.lst h1)
    · exact .base (.frz h1)
  | dct l => exact absurd rfl (hd l)
  | set l =>
    rcases h with h | ⟨_, _, h⟩
    · cases h
    · exact h.elim
  | scr l =>
    obtain ⟨a, vs, rfl, h1, _⟩ := h.scr zh
    rcases h1 with (h1 | ⟨o, h1⟩) | ⟨o, its, n, h1, h2, _⟩
    · exact .base (.lst h1)
    · exact .base (.frz h1)
    · exact .kList h1 h2
theorem call_isiE : CallR X (.builtin "isinstance") (fun vs H Q => ∃ Z p v ty b, vs = [v, .ty ty] ∧ Same Z H ∧ View X.K Z H p v ∧ opIsi p ty = some b ∧ Q (.bl b) H) := by
  intro pins s σ H xs us Q I r h
  obtain ⟨Z, p, v, ty, b, rfl, zh, w, e, k⟩ := h
  have hd : ∀ l, p ≠ .dct l := fun l z => by rw [z] at e; cases e
  have e : kitB (tyN p) ty = some b := by
    cases p <;> first | exact e | exact absurd rfl (hd _)
  exact call_isi pins s σ H _ us Q I r ⟨v, .ty ty, _, _, b, rfl, .ty ty, tyx_of hd zh w, kit_ty e, k⟩
end
end Eng

namespace Eng
open PySem PySem.Spec L2 PySem.Froz
open PyProof.Rows hiding St
open PySem.W (EachIs list_sort_data AllAlike Sortable dataLe)
/-! ### sets of texts: set(xs), sorted(set(xs)) -/
theorem tail_ris {ep : Nat} {es1 : Array (Int × Value)} {t2 : SetTable} {wd : Bool} (r : Ris t2.place.toList) : Ris (tailTx ep es1 t2 wd).2.2.place.toList := by
  unfold tailTx; split
  · exact relayAll_ris _ _ _
  · exact r
theorem tail_led {ep : Nat} {es1 : Array (Int × Value)} {t2 : SetTable} {wd : Bool} : (tailTx ep es1 t2 wd).2.2.led = t2.led := by
  unfold tailTx; split
  · exact relayAll_led _ _ _
  · rfl
theorem addX_ris {D : SD} {hv : Int} {v : Value} (r : Ris D.2.2.place.toList) : Ris (addTx hv v D).2.2.place.toList := by
  have q := layNew_ris D.2.2 D.1 hv v r
  unfold addTx; refine tail_ris ?_; split
  · exact q
  · exact q
theorem addX_led {D : SD} {hv : Int} {v : Value} : (addTx hv v D).2.2.led = D.2.2.led := by
  have q := layNew_led D.2.2 D.1 hv v
  unfold addTx; rw [tail_led]; split
  · exact q
  · exact q
/-- the set at a holds the texts l, each once, and can be walked -/
structure TxR (P : Program) (w : World) (h : Heap) (a : Addr) (l : List Str) : Prop where
  ex : ∃ D : SD, h.get? a = some (sObj "set" D) ∧ TxOk P w D l ∧ Ris D.2.2.place.toList ∧ (w.params.followText "set-order" = true ∨ D.2.2.led = true)
  nd : l.Nodup
section
variable {P : Program} {w : World} {A : Around} {E : Value → Shared → Prop} {s : Shared}
theorem TxR.at {h h' : Heap} {a : Addr} {l : List Str} (R : TxR P w h a l) (k : ∀ o, h.get? a = some o → h'.get? a = some o) : TxR P w h' a l := by
  obtain ⟨D, h1, h2⟩ := R.ex
  exact ⟨⟨D, k _ h1, h2⟩, R.nd⟩
/-- a text that is in the set already -/
theorem same_x {a : Addr} {T : String} {D : SD} {l : List Str} {k : Str} {u : Tok} {Q : Bool → Shared → Prop} (ho : s.heap.get? a = some (sObj T D)) (F : TxOk P w D l) (hk : k ∈ l) (hb : l.length < scanBound) (h : Q false s) : wpAny (model P w) A (setAddHashed a (.str k u) (hashStr w k)) Q E s := by
  obtain ⟨es, ep, t⟩ := D
  have few : es.size < scanBound := by rw [show es.size = l.length from F.sz]; exact hb
  obtain ⟨e, he, q⟩ := (F.mem k).mp hk
  unfold setAddHashed setAddHashedIn; refine wpAny_holding (wpAny_bind (wpAny_setState_of ho (es := es) (ep := ep) (t := t) rfl F.fit ?_)); dsimp only
  rw [byScan_of (knd := PySem.strKind P w) rfl few F.el]; simp only [↓reduceIte]
  unfold setAddByScan; refine wpAny_bind (wpAny_bind (wpAny_rule (wpAny_bind (wpAny_setScan_of (knd := strKind P w) (k := k) (is_str k u) ho (es := es) (ep := ep) (t := t) rfl F.fit F.el ?_))))
  cases f : List.findIdx? (fun e => (strKind P w).is k e.2) es.toList with
  | none => have z := List.findIdx?_eq_none_iff.mp f e he; rw [q] at z; cases z
  | some j => exact wpAny_pure (wpAny_pure h)
/-- a text is put into the set -/
theorem put_x {a : Addr} {l : List Str} {k : Str} {u : Tok} {Q : Bool → Shared → Prop} (R : TxR P w s.heap a l) (hb : l.length + 1 < scanBound)
    (h : ∀ b h' l', (∀ c, c ≠ a → h'.get? c = s.heap.get? c) → TxR P w h' a l' → (∀ x, x ∈ l' ↔ x = k ∨ x ∈ l) → l'.length ≤ l.length + 1 → Q b { s with heap := h' }) : wpAny (model P w) A (setAddHashed a (.str k u) (hashStr w k)) Q E s := by
  obtain ⟨D, ho, F, r, ld⟩ := R.ex
  by_cases hk : k ∈ l
  · exact same_x ho F hk (by omega) (h false s.heap l (fun _ _ => rfl) R (fun x => ⟨.inr, fun z => z.elim (fun e => e ▸ hk) id⟩) (by omega))
  · refine add_x ho F hk hb (h true _ (k :: l) (fun c hc => Heap.get?_update_ne _ _ _ _ hc) ⟨⟨_, get_upd _ ho rfl, add_ok u F, addX_ris r, ld.imp id fun z => addX_led.trans z⟩, List.nodup_cons.mpr ⟨hk, R.nd⟩⟩ (fun x => List.mem_cons) (Nat.le_refl _))
theorem upd_loop {I : Addr} {fp wr : List Addr} {G : Array GenState → Array GenState → Prop} {n : Nat} {Pv : Nat → Value → Prop} {St : Nat → Shared → Prop} {R : Result → Shared → Prop} (W : WalksS P w A.in1 I fp wr G n Pv St) {S : Addr} (hS : S ∉ fp) {xs : List Str} (hn : n = xs.length)
    (hv : ∀ i v, Pv i v → ∃ x u, xs[i]? = some x ∧ v = .str x u) (hb : xs.length + 1 < scanBound) : ∀ (m i : Nat) (s : Shared) (l : List Str), n - i = m → i ≤ n → St i s → TxR P w s.heap S l → l.length ≤ i → (∀ x, x ∈ l ↔ x ∈ xs.take i) →
      (∀ s' l', Moved (S :: wr) G s s' → TxR P w s'.heap S l' → (∀ x, x ∈ l' ↔ x ∈ xs) → l'.length ≤ n → R (.ok (.ret .none)) s') → codeAny (model P w) A (.builtin "set.update.loop" ⟨[.ref S, .ref I], []⟩) R s := by
  have wider : ∀ b ∈ wr, b ∈ S :: wr := fun b z => List.mem_cons_of_mem _ z
  intro m
  induction m with
  | zero =>
    intro i s l hm hi st T hl hx q
    obtain rfl : i = n := by omega
    refine codeAny_builtin PyProof.Rows.F.entry_set_update_loop ?_; rw [Around.under_plainId PyProof.Rows.F.plain_set_update_loop _]
    refine wpAny_bind (m := pyNext (.ref I)) (W.done s _ _ st fun s1 mv => ?_)
    refine wpAny_pure (q s1 l (mv.mono wider) (T.at fun o e => mv.heap S o (fun z => hS (W.sub _ z)) e) (fun x => ?_) hl)
    rw [hx x, hn, List.take_length]
  | succ m ih =>
    intro i s l hm hi st T hl hx q
    refine codeAny_builtin PyProof.Rows.F.entry_set_update_loop ?_; rw [Around.under_plainId PyProof.Rows.F.plain_set_update_loop _]
    refine wpAny_bind (m := pyNext (.ref I)) (W.item i s _ _ (by omega) st fun v s1 pv st1 mv => ?_)
    obtain ⟨x, u, e, rfl⟩ := hv i v pv
    have T1 : TxR P w s1.heap S l := T.at fun o e => mv.heap S o (fun z => hS (W.sub _ z)) e
    refine wpAny_bind (m := holding [Value.str x u] (setAdd S (.str x u))) (wpAny_holding ?_); unfold setAdd; refine wpAny_holding (wpAny_bind ((strKind P w).pyHash (k := x) (is_str _ _) ?_))
    refine put_x (s := { s1 with toks := s1.toks + 1 }) T1 (by omega) fun b h' l' oth T2 mem len => ?_
    refine wpAny_pure ⟨plainId_quiet PyProof.Rows.F.plain_set_update_loop _, ih (i + 1) _ l' (by omega) (by omega) (W.frame _ s1 _ _ st1 (Nat.le_succ _) fun c hc o z => (oth c fun y => hS (y ▸ hc)).trans z) T2 (by omega) (fun y => ?_) fun s2 l2 mv2 T3 mem2 len2 => ?_⟩
    · rw [mem y, hx y, List.take_succ, e]; simp [or_comm]
    · refine q s2 l2 (Moved.trans W.gtrans ((mv.mono wider).then_heap (Nat.le_succ _) fun c o hc z => (oth c fun y => hc (y ▸ List.mem_cons_self)).trans z) mv2) T3 mem2 len2
theorem txR_fresh {h : Heap} {a : Addr} (ho : h.get? a = some (sObj "set" (#[], 0, .fresh 0 0 (!w.params.followText "set-order")))) : TxR P w h a [] := by
  refine ⟨⟨_, ho, TxOk.nil rfl, List.Pairwise.nil, ?_⟩, List.nodup_nil⟩
  show _ ∨ (!w.params.followText "set-order") = true
  cases w.params.followText "set-order" <;> simp
/-- set(x), by what set's maker does with x -/
theorem set_by {x : Value} {Q : Value → Shared → Prop} (h : ∀ S, S = s.heap.objs.size → wpAny (model P w) A.in1.in1 (Builtin.«set.__init__» ⟨[.ref S, x], []⟩)
      (fun fin s' => match fin with | .done f => wants (fun r s2 => r = .none ∧ Q (.ref S) s2) E (.ok f) s' | .again c' => c'.quiet = true ∧ codeAny (model P w) A.in1 c' (wants (fun r s2 => r = .none ∧ Q (.ref S) s2) E) s') (fun e s' => wants (fun r s2 => r = .none ∧ Q (.ref S) s2) E (.error e) s')
      { s with heap := s.heap.push (sObj "set" (#[], 0, .fresh 0 0 (!w.params.followText "set-order"))) }) : wpAny (model P w) A (call (.type "set") [x]) Q E s := by
  generalize hO : sObj "set" (#[], 0, .fresh 0 0 (!w.params.followText "set-order")) = O at h
  obtain ⟨c, tl, hmro⟩ := F.called_set.mro; have made := F.called_set.made; have subs := F.called_set.sub
  refine wpAny_call (codeAny_of_tree ?_); show wpAny _ _ (callAny (.type "set") _) _ _ _
  refine wpAny_pure ⟨Code.quiet_builtin _ (by decide +kernel), codeAny_builtin F.entry_type_call ?_⟩; rw [Around.under_plain (weight_type_call_type "set" [x] []) rfl]
  have n1 := F.called_set.notType; have n2 := F.called_set.canCreate; have n3 := F.typeCall_set_1 x
  repeat (any_goals (first | assumption | wp_step))
  refine codeAny_mono (code_set_led1 x (E := E) (Q₁ := fun o s1 => o = .ref s.heap.objs.size ∧ s1 = { s with heap := s.heap.push O }) ⟨rfl, by rw [← hO]; rfl⟩) fun r s1 z => ?_
  match r, z with
  | .error _, z => exact z
  | .ok (.ret o), z =>
    obtain ⟨rfl, rfl⟩ := z
    have at0 : (s.heap.push O).get? s.heap.objs.size = some O := Heap.get?_push_size _ (by rw [← hO]; rfl)
    have ty : Shared.TypeIs { s with heap := s.heap.push O } (.ref s.heap.objs.size) "set" := ⟨_, at0, by rw [← hO]; rfl⟩
    have m1 := F.called_set.init.lookup; have m2 := F.called_set.init.bind (.ref s.heap.objs.size)
    repeat (any_goals (first | assumption | wp_step))
    refine codeAny_mono (codeAny_call_builtin (R := wants (fun r s2 => r = .none ∧ Q (.ref s.heap.objs.size) s2) E) F.called_set.init.plain F.entry_set_init (check_set_init_1 ty (h _ rfl))) fun r2 s2 z2 => ?_
    match r2, z2 with
    | .error _, z2 => exact z2
    | .ok (.ret r), z2 =>
      obtain ⟨rfl, q⟩ := z2
      repeat (any_goals (first | assumption | wp_step))
    | .ok .next, z2 => exact z2.elim
    | .ok .brk, z2 => exact z2.elim
    | .ok .cont, z2 => exact z2.elim
  | .ok .next, z => exact z.elim
  | .ok .brk, z => exact z.elim
  | .ok .cont, z => exact z.elim
/-- set(xs), xs a list of texts -/
theorem set_of_list {l : Addr} {items : Array Value} {xs : List Str} {Q : Value → Shared → Prop} (calm : A.handled = none) (hl : s.heap.IsList l items) (hx : ∀ (i : Nat) (v : Value), items[i]? = some v → ∃ (x : Str) (u : Tok), xs[i]? = some x ∧ v = Value.str x u) (hz : items.size = xs.length) (hb : xs.length + 1 < scanBound)
    (q : ∀ (h' : Heap) (tk : Nat) (d : List Str), TxR P w h' s.heap.objs.size d → (∀ x, x ∈ d ↔ x ∈ xs) → d.length ≤ xs.length → (∀ b o, s.heap.get? b = some o → h'.get? b = some o) → Q (.ref s.heap.objs.size) { s with heap := h', toks := tk }) : wpAny (model P w) A (call (.type "set") [.ref l]) Q E s := by
  have lLt : l < s.heap.objs.size := let ⟨_, e, _⟩ := hl; Heap.lt_size e
  refine set_by fun S hS => ?_
  have hne : l ≠ S := by rw [hS]; exact Nat.ne_of_lt lLt
  have at0 : (s.heap.push (sObj "set" (#[], 0, .fresh 0 0 (!w.params.followText "set-order")))).get? S = some (sObj "set" (#[], 0, .fresh 0 0 (!w.params.followText "set-order"))) := by rw [hS]; exact Heap.get?_push_size _ rfl
  have sz : (s.heap.push (sObj "set" (#[], 0, .fresh 0 0 (!w.params.followText "set-order")))).objs.size = S + 1 := by rw [hS, Heap.size_push]
  have hl1 : (s.heap.push (sObj "set" (#[], 0, .fresh 0 0 (!w.params.followText "set-order")))).IsList l items := hl.at fun o e => Heap.get?_push_of_some _ e
  obtain ⟨⟨cl, dc, dt, sl⟩, ho, hc, n, hd⟩ := id hl1
  dsimp only at hc hd; subst hc; subst hd
  have g1 := F.sub_list_set; have g2 := F.sub_list_frozenset; have g3 : (Value.type "list" == Value.type "dict") = false := by decide
  unfold Builtin.«set.__init__» noKeywords Builtin.Frozenset.updateFrom
  generalize hI : pyIter = PI; wp_walk; subst hI
  refine wpAny_pyIter_list hl1 ?_; refine wpAny_bind (wpAny_runValue ?_)
  have c3 : A.in1.in1.in1.handled = none := by simp [calm]
  generalize hh : s.heap.push (sObj "set" (#[], 0, .fresh 0 0 (!w.params.followText "set-order"))) = h1 at at0 sz hl1 ho ⊢
  have lLt1 : l < h1.objs.size := by rw [sz, hS]; exact Nat.lt_succ_of_lt lLt
  have nin : S ∉ [h1.objs.size, l] := by
    rw [sz]; intro z; rcases List.mem_cons.mp z with z | z
    · exact absurd z (Nat.ne_of_lt (Nat.lt_succ_self S))
    · exact hne (List.mem_singleton.mp z).symm
  refine upd_loop (xs := xs) (Walks.list c3 _ l (Nat.ne_of_lt lLt1) items).toS nin hz (fun i v z => hx i v z) hb (items.size - 0) 0 _ [] (by omega) (Nat.zero_le _) ⟨⟨_, Heap.get?_push_size _ rfl, rfl, rfl⟩, hl1.push _⟩ (txR_fresh ?_) (Nat.le_refl _) (fun x => by simp) fun s2 d mv T mem len => ?_
  · exact Heap.get?_push_of_some _ at0
  · obtain ⟨h2, g2, d2, t2, o2⟩ := s2
    have e1 : g2 = s.gens := mv.gens
    have e2 : d2 = s.drawn := mv.drawn
    have e3 : o2 = s.os := mv.os
    subst e1; subst e2; subst e3
    show wpAny _ _ _ _ _ _; refine wpAny_pure ?_; show wpAny _ _ (ret Value.none) _ _ _
    refine wpAny_pure ⟨rfl, ?_⟩
    rw [hS]
    refine q h2 t2 d (by rw [← hS]; exact T) mem (by omega) fun b o e => mv.heap b o (fun z => ?_) (Heap.get?_push_of_some _ (by rw [← hh]; exact Heap.get?_push_of_some _ e))
    have bl : b < S := by rw [hS]; exact Heap.lt_size e
    rcases List.mem_cons.mp z with z | z
    · exact Nat.ne_of_lt bl z
    · have z2 : b = h1.objs.size := List.mem_singleton.mp z
      exact Nat.ne_of_lt (Nat.lt_succ_of_lt bl) (z2.trans sz)
def strOf : Value → Str
  | .str x _ => x
  | _ => default
theorem perm_of_sub {α : Type} [DecidableEq α] : ∀ {l m : List α}, l.Nodup → (∀ x ∈ l, x ∈ m) → m.length ≤ l.length → l.Perm m
  | [], m, _, _, h => by rw [List.length_eq_zero_iff.mp (Nat.le_zero.mp h)]
  | x :: l, m, n, s, h => by
    obtain ⟨n1, n2⟩ := List.nodup_cons.mp n
    have hx := s x List.mem_cons_self
    refine (List.Perm.cons x (perm_of_sub n2 (fun y hy => (List.mem_erase_of_ne (fun e : y = x => n1 (e ▸ hy))).mpr (s y (List.mem_cons_of_mem _ hy))) ?_)).trans (List.perm_cons_erase hx).symm
    rw [List.length_erase_of_mem hx]; simp only [List.length_cons] at h; omega
theorem isStr_eq {x : Str} {v : Value} (h : (PySem.strKind P w).is x v = true) : strOf v = x ∧ ∃ u, v = .str x u := by
  have h2 : Value.isStrOf x v = true := h
  clear h
  cases v <;> first | (simp [Value.isStrOf] at h2; done) | skip
  rename_i y u
  simp [Value.isStrOf] at h2
  subst h2
  exact ⟨rfl, u, rfl⟩
theorem reads_strs {h : Heap} {a : Addr} : ∀ {zs : List Str} {vs : List Value}, Vals (zs.map V.str) vs → EachIs (fun v b => ∃ as, Reads h v (encP b) as ∧ a ∉ as) vs (zs.map PV.str) ∧ EachIs (fun v p => ∃ x u, v = Value.str x u ∧ p = PV.str x) vs (zs.map PV.str)
  | [], _, .nil => ⟨.nil, .nil⟩
  | x :: zs, _, .cons ⟨u, e⟩ t => by
    obtain ⟨h1, h2⟩ := reads_strs (h := h) (a := a) t
    subst e
    exact ⟨.cons ⟨[], Reads.str x u, by simp⟩ h1, .cons ⟨x, u, rfl, rfl⟩ h2⟩
theorem of_strs : ∀ {ps : List PV} {vs : List Value}, EachIs (fun v p => ∃ x u, v = Value.str x u ∧ p = PV.str x) vs ps → ∃ ys : List Str, ps = ys.map PV.str ∧ Vals (ys.map V.str) vs
  | _, _, .nil => ⟨[], rfl, .nil⟩
  | _, _, .cons ⟨x, u, e1, e2⟩ t => by
    obtain ⟨ys, h1, h2⟩ := of_strs t
    subst e1; subst e2; subst h1
    exact ⟨x :: ys, rfl, .cons ⟨u, rfl⟩ h2⟩
/-- sorted(a set of texts) -/
theorem sorted_of_set {a : Addr} {l : List Str} {Q : Value → Shared → Prop} (R : TxR P w s.heap a l) (calm : A.handled = none) (hz : l.length < scanBound) (hu : A.units + 8 < cLine)
    (q : ∀ (s' : Shared) (p : Addr) (out : List Value) (c : Nat) (zs ys : List Str), (∀ b o, s.heap.get? b = some o → s'.heap.get? b = some o) → s'.gens = s.gens → s'.os = s.os → s.heap.objs.size ≤ p → s'.heap.get? p = some (seqObj "list" out.toArray c) →
      Vals (ys.map V.str) out → zs.Perm l → ys.map PV.str = sortP (zs.map PV.str) → Q (.ref p) s') : wpAny (model P w) A (call (.builtin "sorted") [.ref a]) Q E s := by
  obtain ⟨D, ho, F, r, ld⟩ := R.ex
  have few : D.1.size < scanBound := by rw [F.sz]; exact hz
  refine Calls.call_function_entry kind_sorted plain_sorted entry_sorted (args_sorted1 _) ?_; unfold Builtin.«sorted»
  refine wpAny_bind (m := checkCount "sorted" 1 1 _) (wpAny_pure ?_)
  refine wpAny_bind (collect_set (es := D.1) (ep := D.2.1) (t := D.2.2) (A := A.in1) calm ⟨_, ho, rfl, rfl⟩ F.fit few r ld fun s1 vs k1 hz1 g1 o1 pm => ?_)
  have lenv : vs.length = l.length := by rw [pm.length_eq, List.length_map, Array.length_toList]; exact F.sz
  have shape : ∀ v ∈ vs, ∃ x u, v = Value.str x u := fun v hv => by
    obtain ⟨e, he, rfl⟩ := List.mem_map.mp (pm.mem_iff.mp hv)
    obtain ⟨⟨k, hk, _⟩, _⟩ := F.el e he
    obtain ⟨_, u, z⟩ := isStr_eq hk
    exact ⟨k, u, z⟩
  have rel : ∀ {vs : List Value}, (∀ v ∈ vs, ∃ x u, v = Value.str x u) → Vals ((vs.map strOf).map V.str) vs := fun {vs} => by
    induction vs with
    | nil => exact fun _ => .nil
    | cons v vs ih =>
      intro z
      obtain ⟨x, u, rfl⟩ := z v List.mem_cons_self
      exact .cons ⟨u, rfl⟩ (ih fun y hy => z y (List.mem_cons_of_mem _ hy))
  have rv := rel shape
  have pz : (vs.map strOf).Perm l := by
    refine (perm_of_sub R.nd (fun x hx => ?_) (by rw [List.length_map, lenv]; exact Nat.le_refl _)).symm
    obtain ⟨e, he, hk⟩ := (F.mem x).mp hx
    exact List.mem_map.mpr ⟨e.2, pm.mem_iff.mpr (List.mem_map.mpr ⟨e, he, rfl⟩), (isStr_eq hk).1⟩
  have size : vs.length ≤ sizeLine := by rw [lenv, sizeLine_eq]; unfold scanBound at hz; omega
  refine wpAny_bind (wpAny_newList ?_ size)
  have at1 : (s1.heap.push (seqObj "list" vs.toArray 0)).get? s1.heap.objs.size = some (seqObj "list" vs.toArray 0) := Heap.get?_push_size _ rfl
  obtain ⟨e1, e2⟩ := reads_strs (h := s1.heap.push (seqObj "list" vs.toArray 0)) (a := s1.heap.objs.size) rv
  have allS : ∀ d ∈ ((vs.map strOf).map PV.str).map encP, ∃ x, d = PyData.str x := fun d hd => by
    obtain ⟨p, hp, rfl⟩ := List.mem_map.mp hd
    obtain ⟨x, _, rfl⟩ := List.mem_map.mp hp
    exact ⟨x, rfl⟩
  refine wpAny_bind (wpAny_holding (list_sort_data (s := { s1 with heap := s1.heap.push (seqObj "list" vs.toArray 0) }) (enc := encP) at1 e2 e1 (fun d hd d' hd' => ?_) (.inr fun d hd => ?_) (by rw [List.length_map, List.length_map]; exact size) (fun b hb => ?_) fun out lo eo => ?_))
  · obtain ⟨x, rfl⟩ := allS d hd
    obtain ⟨y, rfl⟩ := allS d' hd'
    rfl
  · obtain ⟨x, rfl⟩ := allS d hd
    exact ⟨fun z => (nomatch z), fun _ z => (nomatch z)⟩
  · obtain ⟨x, hx, rfl⟩ := List.mem_map.mp hb
    show A.units + 1 + 1 + 0 < cLine
    omega
  · obtain ⟨ys, h1, h2⟩ := of_strs eo
    obtain ⟨c, hc⟩ := sortedHeap_at (vs := vs) (out := out.toArray) at1
    refine wpAny_pure ⟨_, rfl, q _ s1.heap.objs.size out c (vs.map strOf) ys (fun b o e => ?_) g1 o1 hz1 hc h2 pz h1.symm⟩
    have z := k1 b o e
    have lt := Heap.lt_size z
    show (sortedHeap (s1.heap.push (seqObj "list" vs.toArray 0)) s1.heap.objs.size vs out.toArray).get? b = some o
    rw [sortedHeap_old (Nat.ne_of_lt lt) (by rw [size_push']; exact Nat.lt_succ_of_lt lt)]
    exact Heap.get?_push_of_some _ z
end
/-! ### over the values -/
theorem mem_nubS {x : Str} : ∀ {l : List Str}, x ∈ nubS l ↔ x ∈ l
  | [] => Iff.rfl
  | y :: l => by
    unfold nubS
    by_cases h : y ∈ nubS l
    · rw [if_pos h, mem_nubS, List.mem_cons]
      exact ⟨.inr, fun z => z.elim (fun e => e ▸ mem_nubS.mp h) id⟩
    · rw [if_neg h, List.mem_cons, List.mem_cons, mem_nubS]
theorem nodup_nubS : ∀ {l : List Str}, (nubS l).Nodup
  | [] => List.nodup_nil
  | y :: l => by
    unfold nubS
    by_cases h : y ∈ nubS l
    · rw [if_pos h]; exact nodup_nubS
    · rw [if_neg h]; exact List.nodup_cons.mpr ⟨h, nodup_nubS⟩
theorem length_nubS : ∀ {l : List Str}, (nubS l).length ≤ l.length
  | [] => Nat.le_refl _
  | y :: l => by
    have := length_nubS (l := l)
    unfold nubS
    split
    · simp only [List.length_cons]; omega
    · simp only [List.length_cons]; omega
theorem str_of_cps {a b : Str} (h : a.cps.toList = b.cps.toList) : a = b := by
  cases a; cases b
  simp only [Str.mk.injEq]
  exact Array.ext' h
theorem sort_uniq {l m : List Str} (p : l.Perm m) : l.mergeSort (fun a b => decide (a.cps.toList ≤ b.cps.toList)) = m.mergeSort fun a b => decide (a.cps.toList ≤ b.cps.toList) := by
  have tr : ∀ a b c : Str, decide (a.cps.toList ≤ b.cps.toList) = true → decide (b.cps.toList ≤ c.cps.toList) = true → decide (a.cps.toList ≤ c.cps.toList) = true := fun a b c h1 h2 => by
    simp only [decide_eq_true_eq] at *
    exact List.le_trans h1 h2
  have to : ∀ a b : Str, (decide (a.cps.toList ≤ b.cps.toList) || decide (b.cps.toList ≤ a.cps.toList)) = true := fun a b => by
    simp only [Bool.or_eq_true, decide_eq_true_eq]
    exact List.le_total _ _
  refine List.Perm.eq_of_pairwise (le := fun a b : Str => decide (a.cps.toList ≤ b.cps.toList) = true) (fun a b _ _ h1 h2 => ?_) (List.pairwise_mergeSort tr to l) (List.pairwise_mergeSort tr to m) ((List.mergeSort_perm _ _).trans (p.trans (List.mergeSort_perm _ _).symm))
  simp only [decide_eq_true_eq] at h1 h2
  exact str_of_cps (List.le_antisymm h1 h2)
/-- sorted(set(e)), e a list of texts -/
def tSSet (K : Fg) (te : TE) : TE := fun σ H Q => te σ H fun v H1 => ∃ (a : Addr) (xs : List Str), v = .ref a ∧ SqL K H1 a (xs.map V.str) ∧ xs.length + 1 < scanBound ∧ ∀ q, H1 q = none → Q (.ref q) (upd H1 q (.lst ((sS xs).map V.str)))
theorem vals_strs : ∀ {xs : List Str} {us : List Value}, Vals (xs.map V.str) us → ∀ (i : Nat) (v : Value), us[i]? = some v → ∃ (x : Str) (u : Tok), xs[i]? = some x ∧ v = Value.str x u
  | [], _, .nil, i, v, h => by simp at h
  | x :: xs, _, .cons ⟨u, e⟩ t, 0, v, h => by
    have h : some _ = some v := h
    cases h
    exact ⟨x, u, rfl, e⟩
  | x :: xs, _, .cons _ t, i + 1, v, h => vals_strs t i v h
theorem map_str_inj : ∀ {xs ys : List Str}, xs.map PV.str = ys.map PV.str → xs = ys
  | [], [], _ => rfl
  | [], _ :: _, h => by simp at h
  | _ :: _, [], h => by simp at h
  | x :: xs, y :: ys, h => by
    simp only [List.map_cons, List.cons.injEq, PV.str.injEq] at h
    rw [h.1, map_str_inj h.2]
theorem sortP_strs (zs : List Str) : sortP (zs.map PV.str) = (zs.mergeSort fun a b => decide (a.cps.toList ≤ b.cps.toList)).map PV.str := by
  unfold sortP
  rw [List.map_mergeSort (f := PV.str) (r := fun a b => decide (a.cps.toList ≤ b.cps.toList)) (s := dataLe false encP)]
  intro a _ b _
  have h := congrFun (congrFun (PySem.W.dataLe_str (β := Str) id) a) b
  exact h.symm
section
variable {X : Cx}
theorem pe_sset {e : Expr} {te : TE} {p p2 pos pos2 : Pos} (calm : X.calm = true) (hu : X.A.units + 100 < cLine) (hg : Gl X "sorted") (hm : X.mg "sorted" = none) (hg2 : Gl X "set") (hm2 : X.mg "set" = none) (he : PE X e te) (hs : starEach [e] X.env = (false, eval e X.env) :: starEach [] X.env) :
    PE X (.Call (.Name "sorted" p) [.Call (.Name "set" p2) [e] [] pos2] [] pos) (tSSet X.K te) := by
  refine ⟨fun pins s σ H Q I h => ?_⟩
  refine Call_ (ld_blt I hg hm (show bootBuiltins "sorted" = some (.builtin "sorted") by decide +kernel) (PyProof.Rows.callWith_builtin1 (args_cons (Call_ (ld_blt I hg2 hm2 (show bootBuiltins "set" = some (.type "set") by decide +kernel) (PyProof.Rows.callWith_type1 (args_cons (thn (he.run pins s σ H _ I h) fun u s1 ⟨v, H1, I1, r1, q1⟩ => args_nil ?_) hs) hs rfl))) rfl) rfl rfl))
  obtain ⟨a, xs, rfl, hq, few, q⟩ := q1
  obtain rfl : u = Value.ref a := r1
  obtain ⟨its, rv, pl, hz⟩ := I1.list hq
  refine set_of_list (I1.ok.hd calm) pl.isList (fun i v hv => vals_strs rv i v (by simpa using hv)) (by have := rv.length; simpa using this.symm) few fun h' tk d T mem len keep => args_nil ?_
  have I2 : Inv X pins σ H1 { s1 with heap := h', toks := tk } := I1.kept (t' := tk) keep
  have T2 : TxR X.prog X.w ({ s1 with heap := h', toks := tk } : Shared).heap s1.heap.objs.size d := T
  generalize ({ s1 with heap := h', toks := tk } : Shared) = s2 at I2 T2 ⊢
  refine sorted_of_set T2 (I2.ok.hd calm) (by omega) (by omega) fun s' p out c zs ys k g o hp hg2 hv pz hy => ?_
  have e1 : ys = sS xs := by
    refine map_str_inj ?_
    rw [hy, sortP_strs]
    have pn : d.Perm (nubS xs) := (List.perm_ext_iff_of_nodup T.nd nodup_nubS).mpr fun x => by rw [mem x, mem_nubS]
    exact congrArg _ (sort_uniq (pz.trans pn))
  have hn : H1 p = none := I2.hok.fresh hp
  subst e1
  have sz : ((sS xs).map V.str).length ≤ sizeLine := by
    have := length_nubS (l := xs)
    rw [List.length_map] at hz ⊢
    unfold sS
    rw [List.length_mergeSort]
    omega
  have J : Inv X pins σ (upd H1 p (.lst ((sS xs).map V.str))) { s2 with heap := s'.heap, gens := s'.gens, drawn := s'.drawn, toks := s'.toks } :=
    I2.call (ch := []) (Un.laid k hp hn) (I2.hok.laid k hp ⟨sz, out, c, hv, hg2⟩) (by rw [g]; exact I2.bare) (fun _ z => nomatch z)
  have e : s' = { s2 with heap := s'.heap, gens := s'.gens, drawn := s'.drawn, toks := s'.toks } := by
    cases s'; cases s2; cases o; rfl
  rw [e]
  exact ⟨.ref p, _, J, rfl, q p hn⟩
end
end Eng

namespace Eng
open PySem PySem.Spec L2
open PyProof.Rows hiding St

/-! ### what a def promises -/
def ArgR (K : Fg) (Z H : Hp) : List Bool → List PV → List V → List Addr → Prop
  | [], [], [], [] => True
  | true :: ms, p :: ps, v :: vs, a :: as => v = .ref a ∧ Z a = none ∧ OwnR K Z H a p ∧ ArgR K Z H ms ps vs as
  | false :: ms, p :: ps, v :: vs, as => Rp K Z p v ∧ ArgR K Z H ms ps vs as
  | _, _, _, _ => False
structure Aft (K : Fg) (Z H Z' H' : Hp) (as : List Addr) (outs : List PV) : Prop where
  zz : Same Z Z'
  zh : Same Z' H'
  hh : ∀ b o, H b = some o → b ∉ as → H' b = some o
  al : ∀ b, H' b = none → H b = none
  zf : ∀ b, Z' b ≠ none → Z b ≠ none ∨ H b = none
  out : Paired (fun a p => OwnR K Z' H' a p) as outs
def ResR (K : Fg) (Z' H H' : Hp) (fr : Bool) (r : PV) (v : V) : Prop :=
  if fr = true then ∃ a, v = .ref a ∧ Z' a = none ∧ H a = none ∧ OwnR K Z' H' a r else Rp K Z' r v
/-- the address of a class -/
def ClsA (E : Eng) (mg : Str → Option Value) (c : Nat) (C : Addr) : Prop := ∃ nm, E.cls[c]? = some nm ∧ mg nm = some (.ref C)
def PostC (E : Eng) (mg : Str → Option Value) (K : Fg) (Z H : Hp) (as : List Addr) (Q : VK) (E' : XK) : CO → Prop
  | .ok r fr outs => ∀ v Z' H', Aft K Z H Z' H' as outs → ResR K Z' H H' fr r v → Q v H'
  | .exc c outs => ∀ C Z' H', Aft K Z H Z' H' as outs → ClsA E mg c C → E' (.ref C) none H'
  | .stuck => False
def spF (E : Eng) (Φ : Nat → List PV → CO) (mg : Str → Option Value) (K : Fg) (fi : FnI) (f : Nat) : Sp := fun vs H Q E' =>
  ∃ Z ps as, Same Z H ∧ ps.length = fi.np ∧ ArgR K Z H fi.mask ps vs as ∧ as.Nodup ∧ PostC E mg K Z H as Q E' (Φ f ps)

/-! ### the text against the data -/
structure Stc where
  N : List Str
  sc : Scope
  so : Scope
def visB (sc : Scope) (x : Str) : Bool := match sc.names.lookup x with
  | some .local => true
  | some .cell => true
  | some .free => true
  | _ => false
theorem vis_of {sc : Scope} {x : Str} (h : visB sc x = true) : Vis sc x := by
  unfold visB at h
  split at h
  · exact .inl (by assumption)
  · exact .inr (.inl (by assumption))
  · exact .inr (.inr (by assumption))
  · cases h
def okN (x : Str) : Bool := x != "__debug__" && x != "__classdict__" && x != "__name__"
theorem okN_1 {x : Str} (h : okN x = true) : (x == ("__debug__" : Str)) = false := by
  unfold okN at h
  simp only [Bool.and_eq_true, bne, Bool.not_eq_true'] at h
  exact h.1.1
theorem okN_2 {x : Str} (h : okN x = true) : (x == ("__classdict__" : Str)) = false := by
  unfold okN at h
  simp only [Bool.and_eq_true, bne, Bool.not_eq_true'] at h
  exact h.1.2
theorem okN_3 {x : Str} (h : okN x = true) : x ≠ "__name__" := by
  unfold okN at h
  simp only [Bool.and_eq_true, bne, Bool.not_eq_true'] at h
  exact beq_eq_false_iff_ne.mp h.2
def glB (sc : Scope) (x : Str) : Bool := decide (sc.names.lookup x = some .globalImplicit) && okN x
def bltN : Blt → Str
  | .abs => "abs"
  | .len => "len"
  | .int => "int"
  | .all => "all"
  | .gcd => "gcd"
  | .repr => "repr"
  | .str => "str"
  | .list => "list"
  | .tuple => "tuple"
  | .sorted => "sorted"
  | .any => "any"
  | .min => "min"
  | .max => "max"
  | .dict => "dict"
  | .isqrt => "isqrt"
/-- bound by an import -/
def bltG : Blt → Bool
  | .gcd => true
  | .isqrt => true
  | _ => false
theorem blt_boot : ∀ b : Blt, bltG b = false → bootBuiltins (bltN b) = some (bltV b)
  | .abs, _ => by decide +kernel
  | .len, _ => by decide +kernel
  | .int, _ => by decide +kernel
  | .all, _ => by decide +kernel
  | .gcd, h => by cases h
  | .repr, _ => by decide +kernel
  | .str, _ => by decide +kernel
  | .list, _ => by decide +kernel
  | .tuple, _ => by decide +kernel
  | .sorted, _ => by decide +kernel
  | .any, _ => by decide +kernel
  | .min, _ => by decide +kernel
  | .max, _ => by decide +kernel
  | .dict, _ => by decide +kernel
  | .isqrt, h => by cases h
def muN : Mu → Str
  | .append => "append"
  | .pop => "pop"
  | .popAt => "pop"
  | .insert => "insert"
def ownL (N : List Str) (own : List Nat) : List (Str × Nat) := own.map fun i => (N.getD i "", i)
def noSlc : Expr → Bool
  | .Slice _ _ _ _ => false
  | _ => true
def noStar : Expr → Bool
  | .Starred _ _ => false
  | _ => true
def noSet : Expr → Bool
  | .Set _ _ _ => false
  | _ => true
theorem noSet_fold {e : Expr} {env : PySem.Env} (h : noSet e = true) : ∀ x, foldedSetIterable e env x = pure x := by
  intro x
  cases e <;> first | rfl | cases h
/-- a comprehension's block -/
def Stc.blk (S : Stc) (scope : Scope) : Stc := ⟨S.N, relS scope S.sc, scope⟩
def stB (so : Scope) (x : Str) : Bool := match so.names.lookup x with
  | some .local => true
  | some .cell => true
  | _ => false
mutual
def mtT (S : Stc) : Tg → Expr → Bool
  | .nm i, .Name x _ => decide (S.N[i]? = some x) && stB S.so x
  | .tp l, .Tuple es _ _ => mtTs S l es
  | _, _ => false
def mtTs (S : Stc) : List Tg → List Expr → Bool
  | [], [] => true
  | t :: ts, e :: es => mtT S t e && mtTs S ts es && noStar e
  | _, _ => false
end
/-- a.name is no module's -/
def plainO : Expr → Bool
  | .IfExp _ _ _ _ => true
  | .Constant _ _ _ => true
  | .Subscript _ _ _ => true
  | .Name _ _ => true
  | _ => false
/-- the walk's own call -/
def srcHd (E : Eng) (S : Stc) : Src → Expr → Bool
  | .val, _ => true
  | .rng, .Call (.Name x _) es [] _ => decide (x = "range") && decide (("range" : Str) ∈ E.fre) && glB S.sc x && decide (1 ≤ es.length) && decide (es.length ≤ 3)
  | .keys, _ => true
  | .vals, .Call (.Attribute ea nm apos) [] [] cpos => decide (nm = "values") && plainO ea && (apos.endLine == cpos.line)
  | .items, .Call (.Attribute ea nm apos) [] [] cpos => decide (nm = "items") && plainO ea && (apos.endLine == cpos.line)
  | .rev, .Call (.Name x _) [_] [] _ => decide (x = "reversed") && decide (("reversed" : Str) ∈ E.fre) && glB S.sc x
  | _, _ => false
def srcAs : Src → Expr → List Expr
  | .val, e => [e]
  | .keys, e => [e]
  | .vals, .Call (.Attribute ea _ _) _ _ _ => [ea]
  | .items, .Call (.Attribute ea _ _) _ _ _ => [ea]
  | _, .Call _ es _ _ => es
  | _, _ => []
/-- pairs are unpacked -/
def tgOk : Src → Tg → Bool
  | .items, .tp _ => true
  | .items, _ => false
  | _, _ => true
/-- names of defs -/
def mtN (E : Eng) (S : Stc) : List Nat → List Expr → Bool
  | [], [] => true
  | f :: fs, .Name x _ :: es => (match E.fns[f]? with | some fi => decide (fi.name = x) | none => false) && glB S.sc x && mtN E S fs es
  | _, _ => false
/-- keys that stand in the text -/
def mtK : List Str → List (Option Expr) → Bool
  | [], [] => true
  | k :: ks, some (.Constant (.str x) _ _) :: es => decide (k = x) && mtK ks es
  | _, _ => false
mutual
def mtE (E : Eng) (S : Stc) : IE → Expr → Bool
  | .var i, .Name x _ => decide (S.N[i]? = some x) && visB S.sc x && okN x
  | .cst .non, .Constant .none _ _ => true
  | .cst (.bl b), .Constant (.bool c) _ _ => b == c
  | .cst (.int b), .Constant (.int c) _ _ => b == c
  | .cst (.str b), .Constant (.str c) _ _ => b == c
  | .glb x, .Name y _ => decide (x = y) && glB S.sc x
  | .bin op a b, .BinOp ea op' eb _ => decide (op = op') && mtE E S a ea && mtE E S b eb
  | .neg a, .UnaryOp .USub ea _ => mtE E S a ea
  | .cmp op a b, .Compare ea [op'] [eb] _ => decide (op = op') && !behindInMarks op eb && mtE E S a ea && mtE E S b eb
  | .isN a n, .Compare ea [op'] [.Constant .none _ _] _ => decide (op' = if n then .IsNot else .Is) && mtE E S a ea
  | .and l, .BoolOp .And es _ => mtL E S l es
  | .or l, .BoolOp .Or es _ => mtL E S l es
  | .not a, .UnaryOp .Not ea _ => mtE E S a ea
  | .ite c a b, .IfExp ec ea eb _ => mtE E S c ec && mtE E S a ea && mtE E S b eb
  | .tup l, .Tuple es _ _ => mtL E S l es
  | .lst l, .List es _ => mtL E S l es
  | .sub a i, .Subscript ea ei _ => mtE E S a ea && mtE E S i ei && noSlc ei
  | .slc a lo hi, .Subscript ea (.Slice elo ehi none _) _ => mtE E S a ea && mtO E S lo elo && mtO E S hi ehi
  | .call f as, .Call (.Name x _) (e :: es) [] _ => (match E.fns[f]? with
      | some fi => decide (fi.name = x)
      | none => false) && glB S.sc x && mtL E S as (e :: es)
  | .blt b as, .Call (.Name x _) (e :: es) [] _ => decide (bltN b = x) && decide (b ∈ E.blts) && glB S.sc x && mtL E S as (e :: es)
  | .isi a ty, .Call (.Name x _) [e, .Name y _] [] _ => decide (x = "isinstance") && decide (Str.ofString ty = y) && decide (ty ∈ E.tys) && glB S.sc x && glB S.sc y && mtE E S a e && noStar e
  | .cmpr elt tg k its cond own, .ListComp eelt [⟨etg, eit, eifs, ia⟩] scope _ => noSet eit && srcHd E S k eit && mtL E S its (srcAs k eit) && blkC S.N S.sc scope (ownL S.N own) && mtT (S.blk scope) tg etg && mtL E (S.blk scope) cond eifs && mtE E (S.blk scope) elt eelt && decide (ia = 0) && decide (cond.length ≤ 1) && (tgS tg).all (fun i => decide (i ∈ own)) && tgOk k tg
  | .chn o1 o2 a b c, .Compare ea [p1, p2] [eb, ec] _ => decide (o1 = p1) && decide (o2 = p2) && !lastMarks [o1, o2] [eb, ec] && mtE E S a ea && mtE E S b eb && mtE E S c ec
  | .split a b, .Call (.Attribute ea nm apos) [eb] [] cpos => decide (nm = "split") && (apos.endLine == cpos.line) && mtE E S a ea && mtE E S b eb && noStar eb && plainO ea
  | .dnew, .Dict [] [] _ => true
  | .fzv i, .Name x _ => decide (S.N[i]? = some x) && visB S.sc x && okN x
  | .dgt a k, .Call (.Attribute ea nm apos) [ek] [] cpos => decide (nm = "get") && (apos.endLine == cpos.line) && mtE E S a ea && mtE E S k ek && noStar ek && plainO ea
  | .dgd a k d, .Call (.Attribute ea nm apos) [ek, ed] [] cpos => decide (nm = "get") && (apos.endLine == cpos.line) && mtE E S a ea && mtE E S k ek && noStar ek && plainO ea && mtE E S d ed && noStar ed
  | .lrev a, .Call (.Name x _) [.Call (.Name y _) [e] [] _] [] _ => decide (x = "list") && decide (y = "reversed") && decide (("list" : Str) ∈ E.fre) && decide (("reversed" : Str) ∈ E.fre) && glB S.sc x && glB S.sc y && mtE E S a e && noStar e
  | .cmp2 elt tg k its tg1 k1 its1 own own1, .ListComp eelt [⟨etg, eit, [], ia⟩, ⟨etg1, eit1, [], ia1⟩] scope _ => (noSet eit && noSet eit1 && srcHd E S k eit && mtL E S its (srcAs k eit) && blkC S.N S.sc scope (ownL S.N own)) && (mtT (S.blk scope) tg etg && srcHd E (S.blk scope) k1 eit1 && mtL E (S.blk scope) its1 (srcAs k1 eit1) && mtT (S.blk scope) tg1 etg1 && mtE E (S.blk scope) elt eelt) &&
      (decide (ia = 0) && decide (ia1 = 0) && (tgS tg).all (fun i => decide (i ∈ own)) && (tgS tg1).all (fun i => decide (i ∈ own1)) && own1.all (fun i => decide (i ∈ own)) && tgOk k tg && tgOk k1 tg1)
  | .pick fs i as, .Call (.Subscript (.List ns _) ei _) es [] _ => mtN E S fs ns && decide (fs.length ≤ 8) && mtE E S i ei && noSlc ei && mtL E S as es && !es.isEmpty
  | .sset a, .Call (.Name x _) [.Call (.Name y _) [e] [] _] [] _ => decide (x = "sorted") && decide (y = "set") && decide (("sorted" : Str) ∈ E.fre) && decide (("set" : Str) ∈ E.fre) && glB S.sc x && glB S.sc y && mtE E S a e && noStar e
  | .ddis ks es, .Dict keys vals _ => mtK ks keys && mtL E S es vals && decide (ks.length ≤ 15) && !ks.isEmpty && decide (ks.length = es.length)
  | .mut m i as, .Call (.Attribute (.Name x _) nm apos) es [] cpos => decide (S.N[i]? = some x) && visB S.sc x && okN x && decide (nm = muN m) && (apos.endLine == cpos.line) && mtL E S as es && decide (es.length < 20)
  | _, _ => false
def mtL (E : Eng) (S : Stc) : List IE → List Expr → Bool
  | [], [] => true
  | a :: l, e :: es => mtE E S a e && mtL E S l es && noStar e
  | _, _ => false
def mtO (E : Eng) (S : Stc) : Option IE → Option Expr → Bool
  | none, none => true
  | some a, some e => mtE E S a e
  | _, _ => false
end

/-- a def's promise, where no text of an object is being made -/
structure FnG (P : Program) (w : World) (K : Fg) (mg : Str → Option Value) (base : Heap) (CX : CXT) (k : Nat) (fa : Addr) (fd : FuncData) (ps : List Str) (sp : Sp) : Prop where
  arity : ∀ vs H Q E, sp vs H Q E → vs.length = ps.length
  go : ∀ {A : Around} {outer : List Env} {s : Shared} {H : Hp} {args : Args} {us : List Value} {vs : List V} {Q : VK} {E : XK}, A.guards = some [] → Room k A → Env0 P w K mg base A outer s H → BindsTo s fd args (ps.zip us) → Vals vs us → sp vs H Q E →
    codeAny (model P w) A (.call (.ref fa) args) (CR CX outer P w H s Q E) s
structure FnX (E : Eng) (Φ : Nat → List PV → CO) (k : Nat) (P : Program) (w : World) (K : Fg) (mg : Str → Option Value) (base : Heap) (f : Nat) (fi : FnI) (fa : Addr) (fd : FuncData) (ps : List Str) : Prop where
  gm : mg fi.name = some (.ref fa)
  kp : PySem.W.keepIn K (.ref fa) = true
  ok : FnG P w K mg base (L2.CX P w) k fa fd ps (spF E Φ mg K fi f)
  b0 : Binds K fd ps []
  b1 : ∃ dvs dv, Binds K fd ps dv ∧ Vals dvs dv ∧ ∀ Z, RpL K Z fi.dfl dvs

structure Okx (E : Eng) (Φ : Nat → List PV → CO) (k : Nat) (S : Stc) (W : WX) (X : Cx) : Prop where
  calm : X.calm = true
  N : X.N = S.N
  sc : X.env.scope = S.sc
  nd : S.N.Nodup
  kind : X.env.scope.kind = .function
  st : ∀ x, (S.so.names.lookup x = some .local ∨ S.so.names.lookup x = some .cell) → Loc X.env.scope x ∧ (X.fn x = true ∨ X.env.scope.names.lookup x = some .local)
  room : Room k X.A
  tk : Takes X W
  fn : ∀ f fi, E.fns[f]? = some fi → ∃ fa fd ps, FnX E Φ k X.prog X.w X.K X.mg X.base f fi fa fd ps
  bl : ∀ b ∈ E.blts, if bltG b = true then X.mg (bltN b) = some (bltV b) else X.mg (bltN b) = none
  ty : ∀ t ∈ E.tys, X.mg (Str.ofString t) = none ∧ bootBuiltins (Str.ofString t) = some (.type t) ∧ X.mg "isinstance" = none
  gb : ∀ x p, E.glb.lookup x = some p → ∃ u v, X.mg x = some u ∧ RelV v u ∧ ∀ Z, Rp X.K Z p v
  fr : ∀ x ∈ E.fre, X.mg x = none
  gd : X.A.guards = some []

/-! ### what is wanted behind a step of the interpreter -/
def Post (E : Eng) (X : Cx) (W : WX) (g : Ent) (σ : St) (Z : Hp) {α : Type} (R : α → Sg → Hp → Hp → Prop) : Out α → Prop
  | .ok a ε' => ∀ Z' H', Same Z Z' → Good X.K g σ ε' Z' H' → R a ε' Z' H'
  | .exc c ε' => ∀ Z' H' C, Same Z Z' → Good X.K g σ ε' Z' H' → ClsA E X.mg c C → W (.ref C) none σ H'
  | .stuck => False
section
variable {E : Eng} {Φ : Nat → List PV → CO} {X : Cx} {W : WX} {g : Ent} {σ : St} {ε : Sg} {Z H : Hp}
theorem Post.mono {α : Type} {R : α → Sg → Hp → Hp → Prop} {Z1 : Hp} {o : Out α} (h : Post E X W g σ Z R o) (e : Same Z Z1) : Post E X W g σ Z1 R o := by
  cases o with
  | ok a ε' => exact fun Z' H' s G => h Z' H' (e.trans s) G
  | exc c ε' => exact fun Z' H' C s G => h Z' H' C (e.trans s) G
  | stuck => exact h
theorem Post.split {α β : Type} {R : β → Sg → Hp → Hp → Prop} {x : Out α} {f : α → Sg → Out β} (h : Post E X W g σ Z R (x.bind f)) : Post E X W g σ Z (fun a ε1 Z1 H1 => Post E X W g σ Z1 R (f a ε1)) x := by
  cases x with
  | ok a ε' => exact fun Z' H' s G => Post.mono (o := f a ε') h s
  | exc c ε' => exact h
  | stuck => exact h
theorem Post.imp {α : Type} {R R' : α → Sg → Hp → Hp → Prop} {o : Out α} (h : Post E X W g σ Z R o) (f : ∀ a ε' Z' H', Same Z Z' → Good X.K g σ ε' Z' H' → R a ε' Z' H' → R' a ε' Z' H') : Post E X W g σ Z R' o := by
  cases o with
  | ok a ε' => exact fun Z' H' s G => f _ _ _ _ s G (h Z' H' s G)
  | exc c ε' => exact h
  | stuck => exact h

/-- an operand -/
def OpdR (K : Fg) (σ : St) (Z : Hp) : Rv → V → Prop
  | .val p, v => Rp K Z p v
  | .fresh _, _ => False
  | .own i, v => σ[i]? = some (some v)
theorem OpdR.mono {K : Fg} {Z' : Hp} {r : Rv} {v : V} (h : OpdR K σ Z r v) (e : Same Z Z') : OpdR K σ Z' r v := by
  cases r with
  | val p => exact Rp.mono e h
  | fresh p => exact h
  | own i => exact h
theorem OpdR.rv {K : Fg} {r : Rv} {v : V} (h : OpdR K σ Z r v) : RvR K g σ ε Z H r v := by
  cases r with
  | val p => exact h
  | fresh p => exact h.elim
  | own i => exact h
theorem Good.opd {r : Rv} {v : V} (G : Good X.K g σ ε Z H) (h : RvR X.K g σ ε Z H r v) : ∃ Z', Same Z Z' ∧ Good X.K g σ ε Z' H ∧ OpdR X.K σ Z' r.opd v := by
  cases r with
  | val p => exact ⟨Z, .refl _, G, h⟩
  | own i => exact ⟨Z, .refl _, G, h⟩
  | fresh p =>
    obtain ⟨Z', s, G', r⟩ := G.frzFresh h
    exact ⟨Z', s, G', r⟩
theorem Good.frz {r : Rv} {v : V} {p : PV} {ε' : Sg} (G : Good X.K g σ ε Z H) (e : Eng.frz r ε = some (p, ε')) (h : RvR X.K g σ ε Z H r v) : ∃ Z', Same Z Z' ∧ Good X.K g σ ε' Z' H ∧ Rp X.K Z' p v := by
  cases r with
  | val q => cases e; exact ⟨Z, .refl _, G, h⟩
  | fresh q => cases e; exact G.frzFresh h
  | own i =>
    obtain ⟨u, Z', h1, s, G', r⟩ := G.frzS e
    have h : σ[i]? = some (some v) := h
    rw [h] at h1
    cases h1
    exact ⟨Z', s, G', r⟩
theorem Good.frzL : ∀ {rs : List Rv} {vs : List V} {ps : List PV} {ε ε' : Sg} {Z : Hp}, Good X.K g σ ε Z H → Eng.frzL rs ε = some (ps, ε') → Paired (OpdR X.K σ Z) rs vs → ∃ Z', Same Z Z' ∧ Good X.K g σ ε' Z' H ∧ RpL X.K Z' ps vs
  | [], _, _, _, _, Z, G, e, h => by cases e; cases h; exact ⟨Z, .refl _, G, .nil⟩
  | r :: rs, _, ps, ε, ε', Z, G, e, h => by
    cases h with
    | cons h t =>
      unfold Eng.frzL at e
      cases e1 : Eng.frz r ε with
      | none => rw [e1] at e; cases e
      | some q =>
        obtain ⟨p, ε1⟩ := q
        rw [e1] at e
        dsimp only at e
        obtain ⟨Z1, s1, G1, r1⟩ := G.frz e1 h.rv
        cases e2 : Eng.frzL rs ε1 with
        | none => rw [e2] at e; cases e
        | some q =>
          obtain ⟨ps', ε2⟩ := q
          rw [e2] at e
          cases e
          obtain ⟨Z2, s2, G2, r2⟩ := Good.frzL G1 e2 (Paired.mapP t fun _ _ q => q.mono s1)
          exact ⟨Z2, s1.trans s2, G2, .cons (r1.mono s2) r2⟩
theorem Good.peekL : ∀ {rs : List Rv} {vs : List V} {ps : List PV}, Good X.K g σ ε Z H → Eng.peekL ε rs = some ps → Paired (OpdR X.K σ Z) rs vs → ViewL X.K Z H ps vs
  | [], _, _, G, e, h => by cases e; cases h; exact .nil
  | r :: rs, _, ps, G, e, h => by
    cases h with
    | cons h t =>
      unfold Eng.peekL at e
      cases e1 : r.peek ε with
      | none => rw [e1] at e; cases e
      | some p =>
        cases e2 : Eng.peekL ε rs with
        | none => rw [e1, e2] at e; cases e
        | some ps' => rw [e1, e2] at e; cases e; exact .cons (G.peek e1 h.rv) (Good.peekL G e2 t)

/-! ### readings -/
def PR (X : Cx) (g : Ent) (σ : St) (Q : VK) : Rv → Sg → Hp → Hp → Prop := fun r ε' Z' H' => ∀ v, RvR X.K g σ ε' Z' H' r v → Q v H'
def PB (Q : Bool → Hp → Prop) : Bool → Sg → Hp → Hp → Prop := fun b _ _ H' => Q b H'
def PL (X : Cx) (σ : St) (Q : List V → Hp → Prop) : List Rv → Sg → Hp → Hp → Prop := fun rs _ Z' H' => ∀ vs, Paired (OpdR X.K σ Z') rs vs → Q vs H'
def PI' (Q : Option Int → Hp → Prop) : Option Int → Sg → Hp → Hp → Prop := fun o _ _ H' => Q o H'
def tE (E : Eng) (Φ : Nat → List PV → CO) (X : Cx) (W : WX) (e : IE) : TE := fun σ H Q => ∃ g ε Z, Good X.K g σ ε Z H ∧ Post E X W g σ Z (PR X g σ Q) (evE E Φ e ε)
def tT (E : Eng) (Φ : Nat → List PV → CO) (X : Cx) (W : WX) (e : IE) : TT := fun σ H Q => ∃ g ε Z, Good X.K g σ ε Z H ∧ Post E X W g σ Z (PB Q) (evT E Φ e ε)
def tA (E : Eng) (Φ : Nat → List PV → CO) (X : Cx) (W : WX) (l : List IE) : TA := fun σ H Q => ∃ g ε Z, Good X.K g σ ε Z H ∧ Post E X W g σ Z (PL X σ Q) (evA E Φ l ε)
def tO (E : Eng) (Φ : Nat → List PV → CO) (X : Cx) (W : WX) (l : Option IE) : TO := fun σ H Q => ∃ g ε Z, Good X.K g σ ε Z H ∧ Post E X W g σ Z (PI' Q) (evO E Φ l ε)

theorem tE_bind {α : Type} {R : α → Sg → Hp → Hp → Prop} {e : IE} {f : Rv → Sg → Out α} {Ψ : VK} (G : Good X.K g σ ε Z H) (h : Post E X W g σ Z R ((evE E Φ e ε).bind f))
    (k : ∀ r ε1 Z1 H1 v, Same Z Z1 → Good X.K g σ ε1 Z1 H1 → OpdR X.K σ Z1 r.opd v → Post E X W g σ Z1 R (f r ε1) → Ψ v H1) : tE E Φ X W e σ H Ψ := by
  refine ⟨g, ε, Z, G, h.split.imp fun r ε1 Z1 H1 s1 G1 h1 v rv => ?_⟩
  obtain ⟨Z2, s2, G2, o⟩ := G1.opd rv
  exact k r ε1 Z2 H1 v (s1.trans s2) G2 o (h1.mono s2)
theorem tT_bind {α : Type} {R : α → Sg → Hp → Hp → Prop} {e : IE} {f : Bool → Sg → Out α} {Ψ : Bool → Hp → Prop} (G : Good X.K g σ ε Z H) (h : Post E X W g σ Z R ((evT E Φ e ε).bind f))
    (k : ∀ b ε1 Z1 H1, Same Z Z1 → Good X.K g σ ε1 Z1 H1 → Post E X W g σ Z1 R (f b ε1) → Ψ b H1) : tT E Φ X W e σ H Ψ :=
  ⟨g, ε, Z, G, h.split.imp fun b ε1 Z1 H1 s1 G1 h1 => k b ε1 Z1 H1 s1 G1 h1⟩
theorem tA_bind {α : Type} {R : α → Sg → Hp → Hp → Prop} {l : List IE} {f : List Rv → Sg → Out α} {Ψ : List V → Hp → Prop} (G : Good X.K g σ ε Z H) (h : Post E X W g σ Z R ((evA E Φ l ε).bind f))
    (k : ∀ rs ε1 Z1 H1 vs, Same Z Z1 → Good X.K g σ ε1 Z1 H1 → Paired (OpdR X.K σ Z1) rs vs → Post E X W g σ Z1 R (f rs ε1) → Ψ vs H1) : tA E Φ X W l σ H Ψ :=
  ⟨g, ε, Z, G, h.split.imp fun b ε1 Z1 H1 s1 G1 h1 vs r => k b ε1 Z1 H1 vs s1 G1 r h1⟩
theorem tO_bind {α : Type} {R : α → Sg → Hp → Hp → Prop} {l : Option IE} {f : Option Int → Sg → Out α} {Ψ : Option Int → Hp → Prop} (G : Good X.K g σ ε Z H) (h : Post E X W g σ Z R ((evO E Φ l ε).bind f))
    (k : ∀ b ε1 Z1 H1, Same Z Z1 → Good X.K g σ ε1 Z1 H1 → Post E X W g σ Z1 R (f b ε1) → Ψ b H1) : tO E Φ X W l σ H Ψ :=
  ⟨g, ε, Z, G, h.split.imp fun b ε1 Z1 H1 s1 G1 h1 => k b ε1 Z1 H1 s1 G1 h1⟩

theorem Good.new (G : Good X.K g σ ε Z H) {a : Addr} (ha : H a = none) : (∀ i, IsOwn ε i → σ[i]? ≠ some (some (V.ref a))) ∧ ∀ q ∈ g.pr, q.1 ≠ a := by
  refine ⟨fun i ⟨k, p, e⟩ z => ?_, fun q hq z => ?_⟩
  · obtain ⟨b, h1, _, h2, _⟩ := G.slot _ _ e
    rw [h1] at z
    cases z
    exact h2.alive ha
  · have := (G.pr q hq).1
    rw [z, ha] at this
    cases this
/-- behind an operation that changes nothing -/
theorem Kont.of {Q : VK} {r : Rv} (G : Good X.K g σ ε Z H) (h : Post E X W g σ Z (PR X g σ Q) (.ok r ε)) : Kont X.K Z H Q r := by
  cases r with
  | val p => exact fun v Z' H' e rp => h Z' H' e.zz (G.ext e) v rp
  | fresh p => exact fun a Z' H' e ha hz o => h Z' H' e.zz (G.ext e) (.ref a) ⟨a, rfl, hz, G.al a ha, o, (G.new ha).1, (G.new ha).2⟩
  | own i => trivial
theorem Post.lift {Q : VK} {o : Option Rv} (h : Post E X W g σ Z (PR X g σ Q) (lift o ε)) : ∃ r, o = some r ∧ Post E X W g σ Z (PR X g σ Q) (.ok r ε) := by
  cases o with
  | none => exact h.elim
  | some r => exact ⟨r, rfl, h⟩
end
end Eng

namespace Eng
open PySem PySem.Spec L2
open PyProof.Rows hiding St

section
variable {E : Eng} {Φ : Nat → List PV → CO} {X : Cx} {W : WX} {g : Ent} {σ : St} {ε : Sg} {Z H : Hp}

/-! ### the call of a def -/
theorem run_fnX {CX : CXT} {k : Nat} {f : Addr} {fd : FuncData} {ps : List Str} {sp : Sp} {dvs : List V} {ds : List Value} {E' : St → XK} {pins : List (Addr × Obj)} {s : Shared} {Q : VK} {us : List Value} {vs : List V}
    (F : FnG X.prog X.w X.K X.mg X.base CX k f fd ps sp) (hgd : X.A.guards = some []) (hr : Room k X.A) (hb : Binds X.K fd ps ds) (hd : Vals dvs ds) (hx : PassesAt CX X σ (E' σ))
    (I : Inv X pins σ H s) (r : Vals vs us) (h : sp (vs ++ dvs) H Q (E' σ)) : wpAny (model X.prog X.w) X.A (call (.ref f) us) (EP X pins σ Q) X.xe s := by
  have r2 : Vals (vs ++ dvs) (us ++ ds) := r.append hd
  have hl : (us ++ ds).length = ps.length := by rw [← r2.length]; exact F.arity _ _ _ _ h
  refine wpAny_call (codeAny_mono (F.go (outer := X.stack) hgd hr I.env0 (hb s us I.kIn hl) r2 h) fun r s' hq => ?_)
  cases r with
  | error e => exact hx pins H s e s' I hq
  | ok fl =>
    cases fl with
    | ret u => exact I.after hq
    | next => exact False.elim hq
    | brk => exact False.elim hq
    | cont => exact False.elim hq
def tCallX (sp : Sp) (n : Nat) (dvs : List V) (E' : St → XK) (t : TA) : TE := fun σ H Q => t σ H fun vs H1 => (vs.length < n ∧ sp (vs ++ dvs) H1 Q (E' σ)) ∨ (¬ vs.length < n ∧ sp vs H1 Q (E' σ))
theorem starEach_no {e : Expr} {es : List Expr} {env : Env} (h : noStar e = true) : starEach (e :: es) env = (false, eval e env) :: starEach es env := by
  cases e <;> first | rfl | cases h
theorem mtL_star {S : Stc} : ∀ {l : List IE} {es : List Expr}, mtL E S l es = true → ∀ e ∈ es, noStar e = true
  | [], [], _ => fun e he => absurd he (by simp)
  | [], _ :: _, h => by cases h
  | _ :: _, [], h => by cases h
  | a :: l, e :: es, h => by
    unfold mtL at h
    simp only [Bool.and_eq_true] at h
    intro x hx
    rcases List.mem_cons.mp hx with rfl | hx
    · exact h.2
    · exact mtL_star h.1.2 x hx
theorem star_any {env : Env} {pos : Pos} : ∀ {es : List Expr}, (∀ e ∈ es, noStar e = true) → (backTo pos (starEach es env)).any (·.1) = false
  | [], _ => rfl
  | e :: es, h => by
    rw [starEach_no (h e List.mem_cons_self)]
    have := star_any (env := env) (pos := pos) (es := es) fun x hx => h x (List.mem_cons_of_mem _ hx)
    simpa [backTo] using this
theorem pe_callX {CX : CXT} {k : Nat} {f : Addr} {fd : FuncData} {ps : List Str} {sp : Sp} {dvs : List V} {ds : List Value} {E' : St → XK} {n : Nat} {x : Str} {p pos : Pos} {e : Expr} {es : List Expr} {t : TA}
    (F : FnG X.prog X.w X.K X.mg X.base CX k f fd ps sp) (hgd : X.A.guards = some []) (hr : Room k X.A) (hg : Gl X x) (hm : X.mg x = some (.ref f)) (hk : PySem.W.keepIn X.K (.ref f) = true) (hb0 : Binds X.K fd ps []) (hb : Binds X.K fd ps ds) (hd : Vals dvs ds)
    (hx : ∀ σ, PassesAt CX X σ (E' σ)) (ha : PA X (e :: es) t) (hdb : (x == ("__debug__" : Str)) = false) (hs : ∀ y ∈ e :: es, noStar y = true) : PE X (.Call (.Name x p) (e :: es) [] pos) (tCallX sp n dvs E' t) := by
  refine ⟨fun pins s σ H Q I h => ?_⟩
  refine wpAny_Call_Name_kw (ld_glob I hg hm ?_ hdb)
  refine PySem.W.callWith_K (h₀ := X.base) I.ok.mod.kin hk (thn (ha.run pos pins s σ H _ I h) fun us s1 ⟨vs, H1, I1, r, q⟩ => ⟨I1.kIn, ?_⟩) (starEach_no (hs e List.mem_cons_self)) (star_any fun y hy => hs y (List.mem_cons_of_mem _ hy))
  rcases q with ⟨_, q⟩ | ⟨_, q⟩
  · exact run_fnX F hgd hr hb hd (hx σ) I1 r q
  · exact run_fnX F hgd hr hb0 .nil (hx σ) I1 r (by rw [List.append_nil]; exact q)

/-! ### slots that a callee changes -/
theorem Good.argL : ∀ {ms : List Bool} {rs : List Rv} {vs : List V} {ps : List PV} {is : List Nat} {ε ε' : Sg} {Z : Hp}, Good X.K g σ ε Z H → Eng.argL ms rs ε = some (ps, is, ε') → Paired (OpdR X.K σ Z) rs vs →
    ∃ Z' as, Same Z Z' ∧ Good X.K g σ ε' Z' H ∧ ArgR X.K Z' H ms ps vs as ∧ Paired (fun i a => σ[i]? = some (some (V.ref a)) ∧ ∃ k p, ε'[i]? = some (.own k p)) is as ∧ is.Nodup
  | [], [], _, _, _, _, _, Z, G, e, h => by cases e; cases h; exact ⟨Z, [], .refl _, G, trivial, .nil, List.nodup_nil⟩
  | [], _ :: _, _, _, _, _, _, _, _, e, _ => by cases e
  | true :: _, [], _, _, _, _, _, _, _, e, _ => by cases e
  | false :: _, [], _, _, _, _, _, _, _, e, _ => by cases e
  | true :: _, .val _ :: _, _, _, _, _, _, _, _, e, _ => by cases e
  | true :: _, .fresh _ :: _, _, _, _, _, _, _, _, e, _ => by cases e
  | true :: ms, .own i :: rs, _, ps, is, ε, ε', Z, G, e, h => by
    cases h with
    | cons h t =>
      unfold Eng.argL at e
      cases e1 : Eng.argL ms rs ε with
      | none => rw [e1] at e; cases e
      | some q =>
        obtain ⟨ps', is', ε1⟩ := q
        rw [e1] at e
        dsimp only at e
        split at e
        · cases e
        · rename_i hni
          split at e
          · rename_i k p hi
            cases e
            obtain ⟨Z', as, s, G', ar, pr, nd⟩ := Good.argL G e1 t
            obtain ⟨a, h1, h2, h3, _⟩ := G'.slot _ _ hi
            have h : σ[i]? = some (some _) := h
            rw [h1] at h
            cases h
            exact ⟨Z', a :: as, s, G', ⟨rfl, h2, h3, ar⟩, .cons ⟨h1, _, _, hi⟩ pr, List.nodup_cons.mpr ⟨hni, nd⟩⟩
          · cases e
  | false :: ms, r :: rs, _, ps, is, ε, ε', Z, G, e, h => by
    cases h with
    | cons h t =>
      unfold Eng.argL at e
      cases e1 : Eng.frz r ε with
      | none => rw [e1] at e; cases e
      | some q =>
        obtain ⟨p, ε1⟩ := q
        rw [e1] at e
        dsimp only at e
        obtain ⟨Z1, s1, G1, r1⟩ := G.frz e1 h.rv
        cases e2 : Eng.argL ms rs ε1 with
        | none => rw [e2] at e; cases e
        | some q =>
          obtain ⟨ps', is', ε2⟩ := q
          rw [e2] at e
          cases e
          obtain ⟨Z2, as, s2, G2, ar, pr, nd⟩ := Good.argL G1 e2 (Paired.mapP t fun _ _ q => q.mono s1)
          exact ⟨Z2, as, s1.trans s2, G2, ⟨r1.mono s2, ar⟩, pr, nd⟩
theorem setOuts_get : ∀ {is : List Nat} {ps : List PV} {ε ε' : Sg}, is.Nodup → setOuts ε is ps = some ε' → ε'.length = ε.length ∧ is.length = ps.length ∧ (∀ j, j ∉ is → ε'[j]? = ε[j]?) ∧
    ∀ (n : Nat) (i : Nat) (p : PV), is[n]? = some i → ps[n]? = some p → ∃ k q, ε[i]? = some (.own k q) ∧ ε'[i]? = some (.own k p)
  | [], [], ε, ε', _, e => by cases e; exact ⟨rfl, rfl, fun _ _ => rfl, fun n i p h _ => by simp at h⟩
  | [], _ :: _, _, _, _, e => by cases e
  | _ :: _, [], _, _, _, e => by cases e
  | i :: is, p :: ps, ε, ε', nd, e => by
    unfold setOuts at e
    split at e
    · rename_i k q hi
      obtain ⟨h1, h0, h2, h3⟩ := setOuts_get (List.nodup_cons.mp nd).2 e
      have nin := (List.nodup_cons.mp nd).1
      have il : i < ε.length := (List.getElem?_eq_some_iff.mp hi).1
      refine ⟨by rw [h1, List.length_set], by simp [h0], fun j hj => ?_, fun n j r e1 e2 => ?_⟩
      · rw [List.mem_cons, not_or] at hj
        rw [h2 j hj.2, List.getElem?_set_ne (Ne.symm hj.1)]
      · cases n with
        | zero =>
          simp at e1 e2
          subst e1; subst e2
          exact ⟨k, q, hi, by rw [h2 _ nin, List.getElem?_set_self il]⟩
        | succ n =>
          simp at e1 e2
          obtain ⟨k', q', h4, h5⟩ := h3 n j r e1 e2
          have ne : i ≠ j := fun z => nin (by rw [z]; exact List.mem_of_getElem? e1)
          rw [List.getElem?_set_ne ne] at h4
          exact ⟨k', q', h4, h5⟩
    · cases e
theorem Paired.getP {α β : Type} {F : α → β → Prop} : ∀ {l : List α} {m : List β} {n : Nat} {x : α}, Paired F l m → l[n]? = some x → ∃ y, m[n]? = some y ∧ F x y
  | _, _, _, _, .nil, e => by simp at e
  | _, _, 0, _, .cons h _, e => by simp at e; subst e; exact ⟨_, rfl, h⟩
  | _, _, n + 1, x, .cons _ t, e => by
    obtain ⟨y, h1, h2⟩ := Paired.getP (n := n) (x := x) t (by simpa using e)
    exact ⟨y, by simpa using h1, h2⟩
theorem Paired.getP' {α β : Type} {F : α → β → Prop} : ∀ {l : List α} {m : List β} {n : Nat} {y : β}, Paired F l m → m[n]? = some y → ∃ x, l[n]? = some x ∧ F x y
  | _, _, _, _, .nil, e => by simp at e
  | _, _, 0, _, .cons h _, e => by simp at e; subst e; exact ⟨_, rfl, h⟩
  | _, _, n + 1, x, .cons _ t, e => by
    obtain ⟨y, h1, h2⟩ := Paired.getP' (n := n) (y := x) t (by simpa using e)
    exact ⟨y, by simpa using h1, h2⟩
/-- behind a call -/
theorem Good.call {Z' H' : Hp} {as : List Addr} {is : List Nat} {outs : List PV} {ε' : Sg} (G : Good X.K g σ ε Z H) (ia : Paired (fun i a => σ[i]? = some (some (V.ref a)) ∧ ∃ k p, ε[i]? = some (.own k p)) is as) (nd : is.Nodup)
    (e : setOuts ε is outs = some ε') (A : Aft X.K Z H Z' H' as outs) : Good X.K g σ ε' Z' H' := by
  obtain ⟨l1, l0, l2, l3⟩ := setOuts_get nd e
  have back : ∀ {b : Addr}, b ∈ as → ∃ i ∈ is, σ[i]? = some (some (V.ref b)) ∧ IsOwn ε i := fun {b} hb => by
    obtain ⟨n, hn⟩ := List.mem_iff_getElem?.mp hb
    obtain ⟨i, h1, h2, k, p, h3⟩ := Paired.getP' ia hn
    exact ⟨i, List.mem_of_getElem? h1, h2, k, p, h3⟩
  have own' : ∀ {j}, IsOwn ε' j → IsOwn ε j := fun {j} ⟨k, p, h⟩ => by
    by_cases hj : j ∈ is
    · obtain ⟨n, hn⟩ := List.mem_iff_getElem?.mp hj
      obtain ⟨a, _, _, q⟩ := Paired.getP ia hn
      exact q
    · rw [l2 j hj] at h; exact ⟨k, p, h⟩
  have alive : ∀ {b : Addr}, H b ≠ none → H' b ≠ none := fun {b} h z => h (A.al b z)
  have zn : ∀ {b : Addr}, Z b = none → H b ≠ none → Z' b = none := fun {b} z h => by
    cases q : Z' b with
    | none => rfl
    | some u =>
      rcases A.zf b (by rw [q]; exact fun y => nomatch y) with y | y
      · exact absurd z y
      · exact absurd y h
  refine ⟨by rw [l1]; exact G.len, fun j s hs => ?_, fun j l a oj ol => G.dis j l a (own' oj) (own' ol), A.zh, fun b o h n => ?_, fun b h => G.al b (A.al b h), fun b z => ?_, G.zz.trans A.zz, fun j a hj => ?_, fun q hq => ?_⟩
  · by_cases hj : j ∈ is
    · obtain ⟨n, hn⟩ := List.mem_iff_getElem?.mp hj
      obtain ⟨a, ha, h1, k, p, h2⟩ := Paired.getP ia hn
      obtain ⟨p', hp⟩ := Paired.getP A.out ha
      obtain ⟨k', q', h3, h4⟩ := l3 n j p' hn hp.1
      rw [h4] at hs
      cases hs
      obtain ⟨b, g1, g2, g3, g4⟩ := G.slot _ _ h3
      rw [h1] at g1
      cases g1
      exact ⟨a, h1, zn g2 g3.alive, hp.2, g4⟩
    · rw [l2 j hj] at hs
      have q := G.slot j s hs
      cases s with
      | none => trivial
      | val p => obtain ⟨v, q1, q2⟩ := q; exact ⟨v, q1, q2.mono A.zz⟩
      | own k p =>
        obtain ⟨b, q1, q2, q3, q4⟩ := q
        have nb : b ∉ as := fun hb => by
          obtain ⟨i, hi, e1, oi⟩ := back hb
          exact hj (G.dis i j b oi ⟨k, p, hs⟩ e1 q1 ▸ hi)
        exact ⟨b, q1, zn q2 q3.alive, q3.mono A.zz fun o h => A.hh _ _ h nb, q4⟩
  · by_cases hb : b ∈ as
    · obtain ⟨i, hi, e1, k, p, e2⟩ := back hb
      obtain ⟨c, g1, _, _, g4, g5⟩ := G.slot _ _ e2
      rw [e1] at g1
      cases g1
      cases k with
      | true => rw [g4 rfl] at h; cases h
      | false => exact absurd (List.mem_map.mpr ⟨_, g5 rfl, rfl⟩) n
    · exact A.hh _ _ (G.hh b o h n) hb
  · rcases A.zf b z with y | y
    · exact G.zf b y
    · exact .inr (G.al b y)
  · obtain ⟨h1, p, h2⟩ := G.io j a hj
    refine ⟨h1, ?_⟩
    by_cases hm : j ∈ is
    · obtain ⟨n, hn⟩ := List.mem_iff_getElem?.mp hm
      obtain ⟨a', ha, _⟩ := Paired.getP ia hn
      obtain ⟨p', hp⟩ := Paired.getP A.out ha
      obtain ⟨k', q', h3, h4⟩ := l3 n j p' hn hp.1
      rw [h2] at h3
      cases h3
      exact ⟨_, h4⟩
    · exact ⟨p, by rw [l2 j hm]; exact h2⟩
  · obtain ⟨q1, q2, q3⟩ := G.pr q hq
    have nq : q.1 ∉ as := fun hb => by
      obtain ⟨i, _, e1, oi⟩ := back hb
      exact q3 i oi e1
    exact ⟨A.hh _ _ q1 nq, zn q2 (by rw [q1]; exact fun y => nomatch y), fun j oj => q3 j (own' oj)⟩
end
end Eng

namespace Eng
open PySem PySem.Spec L2
open PyProof.Rows hiding St

section
variable {E : Eng} {Φ : Nat → List PV → CO} {k : Nat} {S : Stc} {X : Cx} {W : WX}
/-- an object is looked after, from here on -/
theorem Good.prAdd {g : Ent} {σ : St} {ε : Sg} {Z H : Hp} {D : Addr} {o : HO} (G : Good X.K g σ ε Z H) (h : H D = some o) (hz : Z D = none) (hn : ∀ j, IsOwn ε j → σ[j]? ≠ some (some (V.ref D))) : Good X.K { g with pr := (D, o) :: g.pr } σ ε Z H :=
  ⟨G.len, G.slot, G.dis, G.zh, G.hh, G.al, G.zf, G.zz, G.io, fun q hq => by
    rcases List.mem_cons.mp hq with rfl | hq
    · exact ⟨h, hz, hn⟩
    · exact G.pr q hq⟩
theorem Good.prDrop {g : Ent} {σ : St} {ε : Sg} {Z H : Hp} {D : Addr} {o : HO} (G : Good X.K { g with pr := (D, o) :: g.pr } σ ε Z H) : Good X.K g σ ε Z H ∧ H D = some o ∧ Z D = none ∧ ∀ j, IsOwn ε j → σ[j]? ≠ some (some (V.ref D)) :=
  ⟨⟨G.len, G.slot, G.dis, G.zh, G.hh, G.al, G.zf, G.zz, G.io, fun q hq => G.pr q (List.mem_cons_of_mem _ hq)⟩, G.pr (D, o) List.mem_cons_self⟩

theorem Out.bind_bind {α β γ : Type} {o : Out α} {f : α → Sg → Out β} {h : β → Sg → Out γ} : (o.bind f).bind h = o.bind fun a ε => (f a ε).bind h := by
  cases o <;> rfl
theorem Post.imp2 {g g2 : Ent} {σ : St} {Z : Hp} {α : Type} {R1 R2 : α → Sg → Hp → Hp → Prop} {o : Out α} (h : Post E X W g σ Z R1 o) (dn : ∀ {ε' Z' H'}, Good X.K g2 σ ε' Z' H' → Good X.K g σ ε' Z' H')
    (k : ∀ a ε' Z' H', Same Z Z' → Good X.K g2 σ ε' Z' H' → R1 a ε' Z' H' → R2 a ε' Z' H') : Post E X W g2 σ Z R2 o := by
  cases o with
  | ok a ε' => exact fun Z' H' s G => k a ε' Z' H' s G (h Z' H' s (dn G))
  | exc c ε' => exact fun Z' H' C s G => h Z' H' C s (dn G)
  | stuck => exact h
theorem Okx.vis (ok : Okx E Φ k S W X) {i : Nat} {x : Str} {pos : Pos} (h : (decide (S.N[i]? = some x) && visB S.sc x && okN x) = true) : PE X (.Name x pos) (tVar i) := by
  simp only [Bool.and_eq_true, decide_eq_true_eq] at h
  exact pe_var (by rw [ok.N]; exact h.1.1) (by rw [ok.sc]; exact vis_of h.1.2) (okN_1 h.2) (okN_2 h.2)
theorem Okx.gl (ok : Okx E Φ k S W X) {x : Str} (h : glB S.sc x = true) : Gl X x ∧ okN x = true := by
  unfold glB at h
  simp only [Bool.and_eq_true, decide_eq_true_eq] at h
  refine ⟨?_, h.2⟩
  show X.env.scope.names.lookup x = _
  rw [ok.sc]; exact h.1
theorem Okx.hu (ok : Okx E Φ k S W X) : X.A.units + 64 < cLine := ok.room.units

/-! ### names, constants -/
theorem s_var (ok : Okx E Φ k S W X) {i : Nat} {x : Str} {pos : Pos} (h : (decide (S.N[i]? = some x) && visB S.sc x && okN x) = true) : PE X (.Name x pos) (tE E Φ X W (.var i)) := by
  refine ⟨fun pins s σ H Q I hq => ?_⟩
  obtain ⟨g, ε, Z, G, h1⟩ := hq
  refine (ok.vis h).run pins s σ H Q I ?_
  have h1 : Post E X W g σ Z (PR X g σ Q) (match ε[i]? with | some (.val p) => .ok (.val p) ε | some (.own _ _) => .ok (.own i) ε | _ => .stuck) := h1
  cases e : ε[i]? with
  | none => rw [e] at h1; exact h1.elim
  | some sl =>
    rw [e] at h1
    cases sl with
    | none => exact h1.elim
    | val p =>
      obtain ⟨v, q1, q2⟩ := G.slot _ _ e
      exact ⟨v, q1, h1 Z H (.refl _) G v q2⟩
    | own k p =>
      obtain ⟨a, q1, _⟩ := G.slot _ _ e
      exact ⟨_, q1, h1 Z H (.refl _) G _ q1⟩
theorem s_cst {p : PV} {v : V} {ex : Expr} (he : PE X ex (tC v)) (r : ∀ Z, Rp X.K Z p v) : PE X ex (tE E Φ X W (.cst p)) := by
  refine ⟨fun pins s σ H Q I hq => ?_⟩
  obtain ⟨g, ε, Z, G, h1⟩ := hq
  exact he.run pins s σ H Q I (h1 Z H (.refl _) G v (r Z))
theorem s_glb (ok : Okx E Φ k S W X) {x : Str} {pos : Pos} (h : glB S.sc x = true) : PE X (.Name x pos) (tE E Φ X W (.glb x)) := by
  refine ⟨fun pins s σ H Q I hq => ?_⟩
  obtain ⟨g, ε, Z, G, h1⟩ := hq
  have h1 : Post E X W g σ Z (PR X g σ Q) (match E.glb.lookup x with | some p => .ok (.val p) ε | none => .stuck) := h1
  cases e : E.glb.lookup x with
  | none => rw [e] at h1; exact h1.elim
  | some p =>
    rw [e] at h1
    obtain ⟨u, v, m, r, rp⟩ := ok.gb x p e
    exact (pe_glob (ok.gl h).1 m r (okN_1 (ok.gl h).2)).run pins s σ H Q I (h1 Z H (.refl _) G v (rp Z))

/-! ### operators -/
theorem s_bin {op : Operator} {a b : IE} {ea eb : Expr} {pos : Pos} (ha : PE X ea (tE E Φ X W a)) (hb : PE X eb (tE E Φ X W b)) : PE X (.BinOp ea op eb pos) (tE E Φ X W (.bin op a b)) := by
  refine ⟨fun pins s σ H Q I hq => ?_⟩
  obtain ⟨g, ε, Z, G, h1⟩ := hq
  refine (pe_op (op_binE op) ha hb).run pins s σ H Q I ?_
  refine tE_bind G h1 fun ra ε1 Z1 H1 x s1 G1 rx h2 => tE_bind G1 h2 fun rb ε2 Z2 H2 y s2 G2 ry h3 => ?_
  split at h3
  · rename_i p q ep eq
    obtain ⟨r, er, h4⟩ := h3.lift
    exact ⟨Z2, p, q, r, G2.zh, G2.peek ep (rx.mono s2).rv, G2.peek eq ry.rv, er, Kont.of G2 h4⟩
  · exact h3.elim
theorem s_neg {a : IE} {ea : Expr} {pos : Pos} (ha : PE X ea (tE E Φ X W a)) : PE X (.UnaryOp .USub ea pos) (tE E Φ X W (.neg a)) := by
  refine ⟨fun pins s σ H Q I hq => ?_⟩
  obtain ⟨g, ε, Z, G, h1⟩ := hq
  refine (pe_un op_negE ha).run pins s σ H Q I ?_
  refine tE_bind G h1 fun ra ε1 Z1 H1 x s1 G1 rx h2 => ?_
  split at h2
  · rename_i p ep
    obtain ⟨r, er, h4⟩ := h2.lift
    cases eo : opNeg p with
    | none => rw [eo] at er; cases er
    | some q => rw [eo] at er; cases er; exact ⟨Z1, p, q, G1.zh, G1.peek ep rx.rv, eo, Kont.of G1 h4⟩
  · exact h2.elim
theorem s_cmp (ok : Okx E Φ k S W X) {op : CmpOp} {a b : IE} {ea eb : Expr} {pos : Pos} (hop : behindInMarks op eb = false) (ha : PE X ea (tE E Φ X W a)) (hb : PE X eb (tE E Φ X W b)) : PE X (.Compare ea [op] [eb] pos) (tE E Φ X W (.cmp op a b)) := by
  refine ⟨fun pins s σ H Q I hq => ?_⟩
  obtain ⟨g, ε, Z, G, h1⟩ := hq
  refine (pe_cmpR (op_cmpE (by have := ok.room.un; omega) op) ha hb hop).run pins s σ H Q I ?_
  refine tE_bind G h1 fun ra ε1 Z1 H1 x s1 G1 rx h2 => tE_bind G1 h2 fun rb ε2 Z2 H2 y s2 G2 ry h3 => ?_
  split at h3
  · rename_i p q ep eq
    cases eo : opCmp op p q with
    | none => rw [eo] at h3; exact h3.elim
    | some b => rw [eo] at h3; exact ⟨Z2, p, q, b, G2.zh, G2.peek ep (rx.mono s2).rv, G2.peek eq ry.rv, eo, h3 Z2 H2 (.refl _) G2 _ (.bl b)⟩
  · exact h3.elim
theorem t_cmp (ok : Okx E Φ k S W X) {op : CmpOp} {a b : IE} {ea eb : Expr} {pos : Pos} (hop : behindInMarks op eb = false) (ha : PE X ea (tE E Φ X W a)) (hb : PE X eb (tE E Φ X W b)) : PT X (.Compare ea [op] [eb] pos) (tT E Φ X W (.cmp op a b)) := by
  refine ⟨fun pins s σ H Q I hq => ?_⟩
  obtain ⟨g, ε, Z, G, h1⟩ := hq
  refine (pt_cmpR (op_cmpE (by have := ok.room.un; omega) op) ha hb hop).run pins s σ H Q I ?_
  refine tE_bind G h1 fun ra ε1 Z1 H1 x s1 G1 rx h2 => tE_bind G1 h2 fun rb ε2 Z2 H2 y s2 G2 ry h3 => ?_
  split at h3
  · rename_i p q ep eq
    cases eo : opCmp op p q with
    | none => rw [eo] at h3; exact h3.elim
    | some b => rw [eo] at h3; exact ⟨Z2, p, q, b, G2.zh, G2.peek ep (rx.mono s2).rv, G2.peek eq ry.rv, eo, b, rfl, h3 Z2 H2 (.refl _) G2⟩
  · exact h3.elim
theorem s_chn (ok : Okx E Φ k S W X) {o1 o2 : CmpOp} {a b c : IE} {ea eb ec : Expr} {pos : Pos} (hm : lastMarks [o1, o2] [eb, ec] = false) (ha : PE X ea (tE E Φ X W a)) (hb : PE X eb (tE E Φ X W b)) (hc : PE X ec (tE E Φ X W c)) : PE X (.Compare ea [o1, o2] [eb, ec] pos) (tE E Φ X W (.chn o1 o2 a b c)) := by
  refine ⟨fun pins s σ H Q I hq => ?_⟩
  obtain ⟨g, ε, Z, G, h1⟩ := hq
  have hu : X.A.units + 65 < cLine := by have := ok.room.un; omega
  refine (pe_chain (op_cmpE hu o1) (op_cmpE hu o2) ha hb hc hm).run pins s σ H Q I ?_
  refine tE_bind G h1 fun ra ε1 Z1 H1 x s1 G1 rx h2 => tE_bind G1 h2 fun rb ε2 Z2 H2 y s2 G2 ry h3 => ?_
  split at h3
  · rename_i p q ep eq
    split at h3
    · rename_i eo
      refine ⟨Z2, p, q, true, G2.zh, G2.peek ep (rx.mono s2).rv, G2.peek eq ry.rv, eo, true, rfl, ?_⟩
      rw [if_pos rfl]
      refine tE_bind G2 h3 fun rc ε3 Z3 H3 z s3 G3 rz h4 => ?_
      split at h4
      · rename_i q' r' eq' er
        cases eo2 : opCmp o2 q' r' with
        | none => rw [eo2] at h4; exact h4.elim
        | some b2 => rw [eo2] at h4; exact ⟨Z3, q', r', b2, G3.zh, G3.peek eq' (ry.mono s3).rv, G3.peek er rz.rv, eo2, h4 Z3 H3 (.refl _) G3 _ (.bl b2)⟩
      · exact h4.elim
    · rename_i eo
      refine ⟨Z2, p, q, false, G2.zh, G2.peek ep (rx.mono s2).rv, G2.peek eq ry.rv, eo, false, rfl, ?_⟩
      rw [if_neg Bool.false_ne_true]
      exact h3 Z2 H2 (.refl _) G2 _ (.bl false)
    · exact h3.elim
  · exact h3.elim
theorem t_chn (ok : Okx E Φ k S W X) {o1 o2 : CmpOp} {a b c : IE} {ea eb ec : Expr} {pos : Pos} (hm : lastMarks [o1, o2] [eb, ec] = false) (ha : PE X ea (tE E Φ X W a)) (hb : PE X eb (tE E Φ X W b)) (hc : PE X ec (tE E Φ X W c)) : PT X (.Compare ea [o1, o2] [eb, ec] pos) (tT E Φ X W (.chn o1 o2 a b c)) := by
  refine ⟨fun pins s σ H Q I hq => ?_⟩
  obtain ⟨g, ε, Z, G, h1⟩ := hq
  have hu : X.A.units + 65 < cLine := by have := ok.room.un; omega
  refine (pt_chain (op_cmpE hu o1) (op_cmpE hu o2) ha hb hc hm).run pins s σ H Q I ?_
  refine tE_bind G h1 fun ra ε1 Z1 H1 x s1 G1 rx h2 => tE_bind G1 h2 fun rb ε2 Z2 H2 y s2 G2 ry h3 => ?_
  split at h3
  · rename_i p q ep eq
    split at h3
    · rename_i eo
      refine ⟨Z2, p, q, true, G2.zh, G2.peek ep (rx.mono s2).rv, G2.peek eq ry.rv, eo, true, rfl, ?_⟩
      rw [if_pos rfl]
      refine tE_bind G2 h3 fun rc ε3 Z3 H3 z s3 G3 rz h4 => ?_
      split at h4
      · rename_i q' r' eq' er
        cases eo2 : opCmp o2 q' r' with
        | none => rw [eo2] at h4; exact h4.elim
        | some b2 => rw [eo2] at h4; exact ⟨Z3, q', r', b2, G3.zh, G3.peek eq' (ry.mono s3).rv, G3.peek er rz.rv, eo2, b2, rfl, h4 Z3 H3 (.refl _) G3⟩
      · exact h4.elim
    · rename_i eo
      refine ⟨Z2, p, q, false, G2.zh, G2.peek ep (rx.mono s2).rv, G2.peek eq ry.rv, eo, false, rfl, ?_⟩
      rw [if_neg Bool.false_ne_true]
      exact ⟨false, rfl, h3 Z2 H2 (.refl _) G2⟩
    · exact h3.elim
  · exact h3.elim
/-- list(reversed(e)), e a list -/
def tLRev (K : Fg) (te : TE) : TE := fun σ H Q => te σ H fun v H1 => ∃ (a : Addr) (xs : List V), v = .ref a ∧ SqL K H1 a xs ∧ ∀ q, H1 q = none → Q (.ref q) (upd H1 q (.lst xs.reverse))
theorem pe_listRev {e : Expr} {te : TE} {p p2 pos pos2 : Pos} (calm : X.calm = true) (hg : Gl X "list") (hm : X.mg "list" = none) (hg2 : Gl X "reversed") (hm2 : X.mg "reversed" = none) (he : PE X e te) (hs : noStar e = true) :
    PE X (.Call (.Name "list" p) [.Call (.Name "reversed" p2) [e] [] pos2] [] pos) (tLRev X.K te) := by
  have st1 := starEach_no (env := X.env) (es := []) hs
  have st2 := starEach_no (e := .Call (.Name "reversed" p2) [e] [] pos2) (env := X.env) (es := []) rfl
  refine ⟨fun pins s σ H Q I h => ?_⟩
  refine Call_ (ld_blt I hg hm (show bootBuiltins "list" = some (.type "list") by decide +kernel) (PyProof.Rows.callWith_type1 (args_cons (Call_ (ld_blt I hg2 hm2 PyProof.Rows.boot_reversed (PyProof.Rows.callWith_type1 (args_cons (thn (he.run pins s σ H _ I h) fun u s1 ⟨v, H1, I1, r1, q1⟩ => args_nil ?_) st1) st1 rfl))) st2) st2 rfl))
  obtain ⟨a, xs, rfl, hq, q⟩ := q1
  obtain rfl : u = Value.ref a := r1
  obtain ⟨its, rv, pl, hz⟩ := I1.list hq
  have hl := pl.isList
  refine call_reversed_list hl (args_nil ?_)
  have I2 : Inv X pins σ H1 { s1 with heap := s1.heap.push (revObj a ((its.toArray.size : Int) - 1)) } := I1.kept (t' := s1.toks) fun b o e => Heap.get?_push_of_some _ e
  obtain ⟨f0, f1, f2, f3, f4, f5⟩ := I1.fpOk (H' := H1) (b := s1.heap.objs.size) (Nat.le_refl _) (I1.hok.fresh (Nat.le_refl _))
  have apart : a ≠ s1.heap.objs.size := let ⟨_, z, _⟩ := hl; Nat.ne_of_lt (Heap.lt_size z)
  have fits : its.toArray.size ≤ sizeLine := by rw [List.size_toArray, ← rv.length]; exact hz
  refine list_of_rev (s := { s1 with heap := s1.heap.push (revObj a ((its.toArray.size : Int) - 1)) }) (I1.ok.hd calm) ⟨_, Heap.get?_push_size _ rfl, rfl, rfl⟩ (hl.push _) apart fits fun h2 tk acc c keep at2 got => ?_
  have news : (s1.heap.push (revObj a ((its.toArray.size : Int) - 1))).objs.size = s1.heap.objs.size + 1 := by simp [Heap.push]
  have fr : H1 (s1.heap.push (revObj a ((its.toArray.size : Int) - 1))).objs.size = none := I1.hok.fresh (by rw [news]; exact Nat.le_succ _)
  refine ⟨.ref _, upd H1 _ (.lst xs.reverse), I1.laid (t' := tk) (fun b u e => keep b u (Nat.ne_of_lt (Heap.lt_size e)) (Heap.get?_push_of_some _ e)) (by rw [news]; exact Nat.le_succ _) ⟨by rw [List.length_reverse]; exact hz, acc.toList, c, RT.vals_rev rv got, ?_⟩, rfl, q _ fr⟩
  rw [Array.toArray_toList]
  exact at2
theorem s_lrev (ok : Okx E Φ k S W X) {a : IE} {e : Expr} {p p2 pos pos2 : Pos} (hg : Gl X "list") (hm : X.mg "list" = none) (hg2 : Gl X "reversed") (hm2 : X.mg "reversed" = none) (he : PE X e (tE E Φ X W a)) (hs : noStar e = true) :
    PE X (.Call (.Name "list" p) [.Call (.Name "reversed" p2) [e] [] pos2] [] pos) (tE E Φ X W (.lrev a)) := by
  refine ⟨fun pins s σ H Q I hq => ?_⟩
  obtain ⟨g, ε, Z, G, h1⟩ := hq
  refine (pe_listRev ok.calm hg hm hg2 hm2 he hs).run pins s σ H Q I ?_
  refine tE_bind G h1 fun ra ε1 Z1 H1 x s1 G1 rx h2 => ?_
  have fin : ∀ {l : List PV} {p0 : PV}, ra.opd.peek ε1 = some p0 → (p0 = .lst l ∨ p0 = .scr l) → Post E X W g σ Z1 (PR X g σ Q) (.ok (.fresh (.lst l.reverse)) ε1) → ∃ (a : Addr) (xs : List V), x = .ref a ∧ SqL X.K H1 a xs ∧ ∀ q, H1 q = none → Q (.ref q) (upd H1 q (.lst xs.reverse)) := fun {l p0} ep e0 h3 => by
    have kk := Kont.of G1 h3
    rcases e0 with rfl | rfl
    · obtain ⟨a, vs, rfl, h4, h5⟩ := (G1.peek ep rx.rv).lst G1.zh
      exact ⟨a, vs, rfl, .inl h4, frE G1.zh kk h5.reverse⟩
    · obtain ⟨a, vs, rfl, h4, h5⟩ := (G1.peek ep rx.rv).scr G1.zh
      exact ⟨a, vs, rfl, h4, frE G1.zh kk h5.reverse⟩
  split at h2
  · rename_i l ep
    exact fin ep (.inl rfl) h2
  · rename_i l ep
    exact fin ep (.inr rfl) h2
  · exact h2.elim
theorem rp_strs {K : Fg} {Z : Hp} : ∀ l : List Str, RpL K Z (l.map PV.str) (l.map V.str)
  | [] => .nil
  | x :: l => .cons (.str x) (rp_strs l)
theorem s_split {a b : IE} {ea eb : Expr} {apos cpos : Pos} (ha : PE X ea (tE E Φ X W a)) (hb : PE X eb (tE E Φ X W b)) (hs : noStar eb = true) (hl : (apos.endLine == cpos.line) = true) (hbase : attributeBase ea "split" X.env (eval ea X.env) = eval ea X.env) :
    PE X (.Call (.Attribute ea "split" apos) [eb] [] cpos) (tE E Φ X W (.split a b)) := by
  refine ⟨fun pins s σ H Q I hq => ?_⟩
  obtain ⟨g, ε, Z, G, h1⟩ := hq
  refine (pe_split ha hb (starEach_no hs) hbase hl).run pins s σ H Q I ?_
  refine tE_bind G h1 fun ra ε1 Z1 H1 x s1 G1 rx h2 => ?_
  split at h2
  · rename_i w ep
    obtain rfl := (G1.peek ep rx.rv).str
    refine ⟨⟨w, rfl⟩, tE_bind G1 h2 fun rb ε2 Z2 H2 y s2 G2 ry h3 => ?_⟩
    split at h3
    · rename_i t eq
      split at h3
      · rename_i hz
        obtain rfl := (G2.peek eq ry.rv).str
        exact ⟨w, t, rfl, rfl, hz.1, hz.2, frE G2.zh (Kont.of G2 h3) (rp_strs _)⟩
      · exact h3.elim
    · exact h3.elim
  · exact h2.elim
theorem rp_nn {K : Fg} {Z : Hp} {p : PV} {v : V} (h : Rp K Z p v) (hp : p ≠ .non) : v ≠ .non := by
  intro e
  subst e
  cases h
  exact hp rfl
theorem view_nn {K : Fg} {Z H : Hp} {p : PV} {v : V} (h : View K Z H p v) (hp : p ≠ .non) : v ≠ .non := by
  rcases h with h | ⟨a, rfl, _⟩
  · exact rp_nn h hp
  · exact fun z => nomatch z
theorem s_isN {a : IE} {n : Bool} {op : CmpOp} {ea : Expr} {j : Nat} {pos pos' : Pos} (hop : op = if n = true then .IsNot else .Is) (ha : PE X ea (tE E Φ X W a)) : PE X (.Compare ea [op] [.Constant .none j pos'] pos) (tE E Φ X W (.isN a n)) := by
  refine ⟨fun pins s σ H Q I hq => ?_⟩
  obtain ⟨g, ε, Z, G, h1⟩ := hq
  have key : ∀ (Q : VK), Post E X W g σ Z (PR X g σ Q) (evE E Φ (.isN a n) ε) → tE E Φ X W a σ H (fun x H1 => Q (.bl (if n = true then !decide (x = .non) else decide (x = .non))) H1) := fun Q h1 => by
    refine tE_bind G h1 fun ra ε1 Z1 H1 x s1 G1 rx h2 => ?_
    split at h2
    · rename_i ep
      have w := (G1.peek ep rx.rv).non
      subst w
      have := h2 Z1 H1 (.refl _) G1 _ (.bl _)
      cases n <;> simpa using this
    · rename_i p hn ep
      have w := view_nn (G1.peek ep rx.rv) hn
      have := h2 Z1 H1 (.refl _) G1 _ (.bl _)
      cases n <;> simpa [w] using this
    · exact h2.elim
  cases n with
  | true =>
    cases hop
    exact (pe_cmp (pc_notN ha) rfl).run pins s σ H Q I (key Q h1)
  | false =>
    cases hop
    exact (pe_cmp (pc_isN ha) rfl).run pins s σ H Q I (key Q h1)
theorem t_isN {a : IE} {n : Bool} {op : CmpOp} {ea : Expr} {j : Nat} {pos pos' : Pos} (hop : op = if n = true then .IsNot else .Is) (ha : PE X ea (tE E Φ X W a)) : PT X (.Compare ea [op] [.Constant .none j pos'] pos) (tT E Φ X W (.isN a n)) := by
  refine ⟨fun pins s σ H Q I hq => ?_⟩
  obtain ⟨g, ε, Z, G, h1⟩ := hq
  have key : ∀ (Q : Bool → Hp → Prop), Post E X W g σ Z (PB Q) (evT E Φ (.isN a n) ε) → tE E Φ X W a σ H (fun x H1 => Q (if n = true then !decide (x = .non) else decide (x = .non)) H1) := fun Q h1 => by
    refine tE_bind G h1 fun ra ε1 Z1 H1 x s1 G1 rx h2 => ?_
    split at h2
    · rename_i ep
      have w := (G1.peek ep rx.rv).non
      subst w
      have := h2 Z1 H1 (.refl _) G1
      cases n <;> simpa [PB] using this
    · rename_i p hn ep
      have w := view_nn (G1.peek ep rx.rv) hn
      have := h2 Z1 H1 (.refl _) G1
      cases n <;> simpa [w, PB] using this
    · exact h2.elim
  have wrap : ∀ (t : TE), (∀ Q : VK, tE E Φ X W a σ H (fun x H1 => Q (.bl (if n = true then !decide (x = .non) else decide (x = .non))) H1) → t σ H Q) → tB t σ H Q := fun t f =>
    f _ (by
      obtain ⟨g', ε', Z', G', p⟩ := key Q h1
      exact ⟨g', ε', Z', G', p.imp fun r ε1 Z1 H1 _ _ h v rv => ⟨_, rfl, h v rv⟩⟩)
  cases n with
  | true =>
    cases hop
    exact (pt_cmp (pc_notN ha) rfl).run pins s σ H Q I (wrap _ fun Q h => h)
  | false =>
    cases hop
    exact (pt_cmp (pc_isN ha) rfl).run pins s σ H Q I (wrap _ fun Q h => h)

/-! ### and, or, not, if -/
theorem truth_some {ε : Sg} {r : Rv} {b : Bool} (e : (r.peek ε).bind truth = some b) : ∃ p, r.peek ε = some p ∧ truth p = some b := by
  cases h : r.peek ε with
  | none => rw [h] at e; cases e
  | some p => rw [h] at e; exact ⟨p, rfl, e⟩
def tAndL (E : Eng) (Φ : Nat → List PV → CO) (X : Cx) (W : WX) (l : List IE) : TE := fun σ H Q => ∃ g ε Z, Good X.K g σ ε Z H ∧ Post E X W g σ Z (PR X g σ Q) (evAnd E Φ l ε)
def tOrL (E : Eng) (Φ : Nat → List PV → CO) (X : Cx) (W : WX) (l : List IE) : TE := fun σ H Q => ∃ g ε Z, Good X.K g σ ε Z H ∧ Post E X W g σ Z (PR X g σ Q) (evOr E Φ l ε)
def tAndLT (E : Eng) (Φ : Nat → List PV → CO) (X : Cx) (W : WX) (l : List IE) : TT := fun σ H Q => ∃ g ε Z, Good X.K g σ ε Z H ∧ Post E X W g σ Z (PB Q) (evAndT E Φ l ε)
def tOrLT (E : Eng) (Φ : Nat → List PV → CO) (X : Cx) (W : WX) (l : List IE) : TT := fun σ H Q => ∃ g ε Z, Good X.K g σ ε Z H ∧ Post E X W g σ Z (PB Q) (evOrT E Φ l ε)
theorem s_and1 {a : IE} {ea : Expr} {pos : Pos} (ha : PE X ea (tE E Φ X W a)) : PE X (.BoolOp .And [ea] pos) (tAndL E Φ X W [a]) := by
  refine ⟨fun pins s σ H Q I hq => ?_⟩
  obtain ⟨g, ε, Z, G, h1⟩ := hq
  exact (pe_one ha).run pins s σ H Q I ⟨g, ε, Z, G, h1⟩
theorem s_or1 {a : IE} {ea : Expr} {pos : Pos} (ha : PE X ea (tE E Φ X W a)) : PE X (.BoolOp .Or [ea] pos) (tOrL E Φ X W [a]) := by
  refine ⟨fun pins s σ H Q I hq => ?_⟩
  obtain ⟨g, ε, Z, G, h1⟩ := hq
  exact (pe_one ha).run pins s σ H Q I ⟨g, ε, Z, G, h1⟩
theorem s_and2 {a b : IE} {l : List IE} {ea eb : Expr} {es : List Expr} {pos : Pos} (ha : PE X ea (tE E Φ X W a)) (hb : PE X (.BoolOp .And (eb :: es) pos) (tAndL E Φ X W (b :: l))) : PE X (.BoolOp .And (ea :: eb :: es) pos) (tAndL E Φ X W (a :: b :: l)) := by
  refine ⟨fun pins s σ H Q I hq => ?_⟩
  obtain ⟨g, ε, Z, G, h1⟩ := hq
  refine (pe_andT ha hb).run pins s σ H Q I ?_
  refine tE_bind G h1 fun ra ε1 Z1 H1 x s1 G1 rx h2 => ?_
  split at h2
  · rename_i et
    obtain ⟨p, ep, et⟩ := truth_some et
    exact ⟨true, truth_ok G1.zh (G1.peek ep rx.rv) et, by rw [if_pos rfl]; exact ⟨g, ε1, Z1, G1, h2⟩⟩
  · rename_i et
    obtain ⟨p, ep, et⟩ := truth_some et
    exact ⟨false, truth_ok G1.zh (G1.peek ep rx.rv) et, by rw [if_neg Bool.false_ne_true]; exact h2 Z1 H1 (.refl _) G1 _ rx.rv⟩
  · exact h2.elim
theorem s_or2 {a b : IE} {l : List IE} {ea eb : Expr} {es : List Expr} {pos : Pos} (ha : PE X ea (tE E Φ X W a)) (hb : PE X (.BoolOp .Or (eb :: es) pos) (tOrL E Φ X W (b :: l))) : PE X (.BoolOp .Or (ea :: eb :: es) pos) (tOrL E Φ X W (a :: b :: l)) := by
  refine ⟨fun pins s σ H Q I hq => ?_⟩
  obtain ⟨g, ε, Z, G, h1⟩ := hq
  refine (pe_orT ha hb).run pins s σ H Q I ?_
  refine tE_bind G h1 fun ra ε1 Z1 H1 x s1 G1 rx h2 => ?_
  split at h2
  · rename_i et
    obtain ⟨p, ep, et⟩ := truth_some et
    exact ⟨false, truth_ok G1.zh (G1.peek ep rx.rv) et, by rw [if_neg Bool.false_ne_true]; exact ⟨g, ε1, Z1, G1, h2⟩⟩
  · rename_i et
    obtain ⟨p, ep, et⟩ := truth_some et
    exact ⟨true, truth_ok G1.zh (G1.peek ep rx.rv) et, by rw [if_pos rfl]; exact h2 Z1 H1 (.refl _) G1 _ rx.rv⟩
  · exact h2.elim
theorem t_and1 {a : IE} {ea : Expr} {pos : Pos} (ha : PT X ea (tT E Φ X W a)) : PW X (.BoolOp .And [ea] pos) (tAndLT E Φ X W [a]) := by
  refine ⟨fun wh pins s σ H Q I hq => ?_⟩
  obtain ⟨g, ε, Z, G, h1⟩ := hq
  exact (pw_and1 ha).run wh pins s σ H Q I ⟨g, ε, Z, G, h1⟩
theorem t_or1 {a : IE} {ea : Expr} {pos : Pos} (ha : PT X ea (tT E Φ X W a)) : PW X (.BoolOp .Or [ea] pos) (tOrLT E Φ X W [a]) := by
  refine ⟨fun wh pins s σ H Q I hq => ?_⟩
  obtain ⟨g, ε, Z, G, h1⟩ := hq
  exact (pw_or1 ha).run wh pins s σ H Q I ⟨g, ε, Z, G, h1⟩
theorem t_and2 {a b : IE} {l : List IE} {ea eb : Expr} {es : List Expr} {pos : Pos} (ha : PT X ea (tT E Φ X W a)) (hb : PW X (.BoolOp .And (eb :: es) pos) (tAndLT E Φ X W (b :: l))) : PW X (.BoolOp .And (ea :: eb :: es) pos) (tAndLT E Φ X W (a :: b :: l)) := by
  refine ⟨fun wh pins s σ H Q I hq => ?_⟩
  obtain ⟨g, ε, Z, G, h1⟩ := hq
  refine (pw_and ha hb).run wh pins s σ H Q I ?_
  refine tT_bind G h1 fun t ε1 Z1 H1 s1 G1 h2 => ?_
  cases t with
  | true => rw [if_pos rfl]; exact ⟨g, ε1, Z1, G1, h2⟩
  | false => rw [if_neg Bool.false_ne_true]; exact h2 Z1 H1 (.refl _) G1
theorem t_or2 {a b : IE} {l : List IE} {ea eb : Expr} {es : List Expr} {pos : Pos} (ha : PT X ea (tT E Φ X W a)) (hb : PW X (.BoolOp .Or (eb :: es) pos) (tOrLT E Φ X W (b :: l))) : PW X (.BoolOp .Or (ea :: eb :: es) pos) (tOrLT E Φ X W (a :: b :: l)) := by
  refine ⟨fun wh pins s σ H Q I hq => ?_⟩
  obtain ⟨g, ε, Z, G, h1⟩ := hq
  refine (pw_or ha hb).run wh pins s σ H Q I ?_
  refine tT_bind G h1 fun t ε1 Z1 H1 s1 G1 h2 => ?_
  cases t with
  | true => rw [if_pos rfl]; exact h2 Z1 H1 (.refl _) G1
  | false => rw [if_neg Bool.false_ne_true]; exact ⟨g, ε1, Z1, G1, h2⟩
theorem s_not {a : IE} {ea : Expr} {pos : Pos} (ha : PE X ea (tE E Φ X W a)) : PE X (.UnaryOp .Not ea pos) (tE E Φ X W (.not a)) := by
  refine ⟨fun pins s σ H Q I hq => ?_⟩
  obtain ⟨g, ε, Z, G, h1⟩ := hq
  refine (pe_notT ha).run pins s σ H Q I ?_
  refine tE_bind G h1 fun ra ε1 Z1 H1 x s1 G1 rx h2 => ?_
  split at h2
  · rename_i b et
    obtain ⟨p, ep, et⟩ := truth_some et
    exact ⟨b, truth_ok G1.zh (G1.peek ep rx.rv) et, h2 Z1 H1 (.refl _) G1 _ (.bl _)⟩
  · exact h2.elim
theorem t_not {a : IE} {ea : Expr} {pos : Pos} (ha : PT X ea (tT E Φ X W a)) : PT X (.UnaryOp .Not ea pos) (tT E Φ X W (.not a)) := by
  refine ⟨fun pins s σ H Q I hq => ?_⟩
  obtain ⟨g, ε, Z, G, h1⟩ := hq
  exact (pt_not ha).run pins s σ H Q I (tT_bind G h1 fun t ε1 Z1 H1 s1 G1 h2 => h2 Z1 H1 (.refl _) G1)
theorem s_ite {c a b : IE} {ec ea eb : Expr} {pos : Pos} (hc : PT X ec (tT E Φ X W c)) (ha : PE X ea (tE E Φ X W a)) (hb : PE X eb (tE E Φ X W b)) : PE X (.IfExp ec ea eb pos) (tE E Φ X W (.ite c a b)) := by
  refine ⟨fun pins s σ H Q I hq => ?_⟩
  obtain ⟨g, ε, Z, G, h1⟩ := hq
  refine (pe_ifExp hc ha hb).run pins s σ H Q I ?_
  refine tT_bind G h1 fun t ε1 Z1 H1 s1 G1 h2 => ?_
  cases t with
  | true => rw [if_pos rfl]; exact ⟨g, ε1, Z1, G1, h2⟩
  | false => rw [if_neg Bool.false_ne_true]; exact ⟨g, ε1, Z1, G1, h2⟩

/-! ### displays, argument lists -/
theorem s_nil : PA X [] (tA E Φ X W []) := by
  refine ⟨fun pos pins s σ H Q I hq => ?_⟩
  obtain ⟨g, ε, Z, G, h1⟩ := hq
  exact pa_nil.run pos pins s σ H Q I (h1 Z H (.refl _) G [] .nil)
theorem s_cons {a : IE} {l : List IE} {ea : Expr} {es : List Expr} (hn : noStar ea = true) (ha : PE X ea (tE E Φ X W a)) (hl : PA X es (tA E Φ X W l)) : PA X (ea :: es) (tA E Φ X W (a :: l)) := by
  refine ⟨fun pos pins s σ H Q I hq => ?_⟩
  obtain ⟨g, ε, Z, G, h1⟩ := hq
  refine (pa_cons ha hl (starEach_no hn)).run pos pins s σ H Q I ?_
  refine tE_bind G h1 fun ra ε1 Z1 H1 x s1 G1 rx h2 => tA_bind G1 h2 fun rs ε2 Z2 H2 vs s2 G2 rl h3 => ?_
  exact h3 Z2 H2 (.refl _) G2 _ (.cons (rx.mono s2) rl)
theorem s_tup {l : List IE} {es : List Expr} {n : Nat} {pos : Pos} (hl : PA X es (tA E Φ X W l)) : PE X (.Tuple es n pos) (tE E Φ X W (.tup l)) := by
  refine ⟨fun pins s σ H Q I hq => ?_⟩
  obtain ⟨g, ε, Z, G, h1⟩ := hq
  refine (pe_tup hl).run pins s σ H Q I ?_
  refine tA_bind G h1 fun rs ε1 Z1 H1 vs s1 G1 rl h2 => ?_
  split at h2
  · rename_i ps ε2 ef
    obtain ⟨Z2, s2, G2, r2⟩ := G1.frzL ef rl
    split at h2
    · rename_i hz
      refine ⟨by rw [r2.length]; exact hz, fun p hp => ?_⟩
      have e := Ext.newF (o := .tup vs) G2.zh hp
      exact h2 _ _ (s2.trans e.zz) (G2.ext e) _ (.tup (.inl (.inl upd_same)) (r2.mono e.zz))
    · exact h2.elim
  · exact h2.elim
theorem s_lst {l : List IE} {es : List Expr} {pos : Pos} (hl : PA X es (tA E Φ X W l)) : PE X (.List es pos) (tE E Φ X W (.lst l)) := by
  refine ⟨fun pins s σ H Q I hq => ?_⟩
  obtain ⟨g, ε, Z, G, h1⟩ := hq
  refine (pe_lst hl).run pins s σ H Q I ?_
  refine tA_bind G h1 fun rs ε1 Z1 H1 vs s1 G1 rl h2 => ?_
  split at h2
  · rename_i ps ε2 ef
    obtain ⟨Z2, s2, G2, r2⟩ := G1.frzL ef rl
    split at h2
    · rename_i hz
      refine ⟨by rw [r2.length]; exact hz, fun p hp => ?_⟩
      have e := Ext.new (o := .lst vs) G2.zh hp
      exact h2 _ _ s2 (G2.ext e) _ ⟨p, rfl, G2.zh.free hp, G2.al p hp, ⟨vs, upd_same, r2⟩, (G2.new hp).1, (G2.new hp).2⟩
    · exact h2.elim
  · exact h2.elim

/-! ### subscripts, slices -/
theorem plainIx {ei : Expr} (h : noSlc ei = true) : PlainIx ei := by
  intro o i
  cases ei <;> first | rfl | cases h
theorem s_sub (ok : Okx E Φ k S W X) {a i : IE} {ea ei : Expr} {pos : Pos} (hn : noSlc ei = true) (ha : PE X ea (tE E Φ X W a)) (hi : PE X ei (tE E Φ X W i)) : PE X (.Subscript ea ei pos) (tE E Φ X W (.sub a i)) := by
  refine ⟨fun pins s σ H Q I hq => ?_⟩
  obtain ⟨g, ε, Z, G, h1⟩ := hq
  refine (pe_ix (ix_E (by have := ok.room.un; omega)) ha hi (plainIx hn)).run pins s σ H Q I ?_
  refine tE_bind G h1 fun ra ε1 Z1 H1 x s1 G1 rx h2 => tE_bind G1 h2 fun rb ε2 Z2 H2 y s2 G2 ry h3 => ?_
  split at h3
  · rename_i p q ep eq
    obtain ⟨r, er, h4⟩ := h3.lift
    cases eo : opIx p q with
    | none => rw [eo] at er; cases er
    | some r' => rw [eo] at er; cases er; exact ⟨Z2, p, q, r', G2.zh, G2.peek ep (rx.mono s2).rv, G2.peek eq ry.rv, eo, Kont.of G2 h4⟩
  · exact h3.elim
theorem s_none : PO X none (tO E Φ X W none) := by
  refine ⟨fun pins s σ H Q I hq => ?_⟩
  obtain ⟨g, ε, Z, G, h1⟩ := hq
  exact po_none.run pins s σ H Q I (h1 Z H (.refl _) G)
theorem s_some {a : IE} {ea : Expr} (ha : PE X ea (tE E Φ X W a)) : PO X (some ea) (tO E Φ X W (some a)) := by
  refine ⟨fun pins s σ H Q I hq => ?_⟩
  obtain ⟨g, ε, Z, G, h1⟩ := hq
  refine (po_some ha).run pins s σ H Q I ?_
  refine tE_bind G h1 fun ra ε1 Z1 H1 x s1 G1 rx h2 => ?_
  split at h2
  · rename_i i ep
    exact ⟨i, (G1.peek ep rx.rv).int, h2 Z1 H1 (.refl _) G1⟩
  · exact h2.elim
theorem s_slc {a : IE} {lo hi : Option IE} {ea : Expr} {elo ehi : Option Expr} {pos p2 : Pos} (ha : PE X ea (tE E Φ X W a)) (hl : PO X elo (tO E Φ X W lo)) (hh : PO X ehi (tO E Φ X W hi)) : PE X (.Subscript ea (.Slice elo ehi none p2) pos) (tE E Φ X W (.slc a lo hi)) := by
  refine ⟨fun pins s σ H Q I hq => ?_⟩
  obtain ⟨g, ε, Z, G, h1⟩ := hq
  refine (pe_slice sl_E ha hl hh).run pins s σ H Q I ?_
  refine tE_bind G h1 fun ra ε1 Z1 H1 x s1 G1 rx h2 => tO_bind G1 h2 fun l ε2 Z2 H2 s2 G2 h3 => tO_bind G2 h3 fun u ε3 Z3 H3 s3 G3 h4 => ?_
  split at h4
  · rename_i p ep
    obtain ⟨r, er, h5⟩ := h4.lift
    exact ⟨Z3, p, r, G3.zh, G3.peek ep ((rx.mono s2).mono s3).rv, er, Kont.of G3 h5⟩
  · exact h4.elim

/-! ### calls -/
theorem argR_len {K : Fg} {Z H : Hp} : ∀ {ms : List Bool} {ps : List PV} {vs : List V} {as : List Addr}, ArgR K Z H ms ps vs as → ps.length = ms.length ∧ vs.length = ms.length
  | [], [], [], [], _ => ⟨rfl, rfl⟩
  | [], [], [], _ :: _, h => h.elim
  | [], [], _ :: _, _, h => h.elim
  | [], _ :: _, _, _, h => h.elim
  | true :: _, [], _, _, h => h.elim
  | true :: _, _ :: _, [], _, h => h.elim
  | true :: _, _ :: _, _ :: _, [], h => h.elim
  | true :: ms, p :: ps, v :: vs, a :: as, h => by
    obtain ⟨h1, h2⟩ := argR_len h.2.2.2
    simp [h1, h2]
  | false :: _, [], _, _, h => h.elim
  | false :: _, _ :: _, [], _, h => h.elim
  | false :: ms, p :: ps, v :: vs, as, h => by
    obtain ⟨h1, h2⟩ := argR_len h.2
    simp [h1, h2]
theorem argR_more {K : Fg} {Z H : Hp} {qs : List PV} {ws : List V} : ∀ {m2 : List Bool}, m2.all (! ·) = true → m2.length = qs.length → RpL K Z qs ws → ∀ {ms : List Bool} {ps : List PV} {vs : List V} {as : List Addr}, ArgR K Z H ms ps vs as → ArgR K Z H (ms ++ m2) (ps ++ qs) (vs ++ ws) as := by
  intro m2 hm hl r
  have base : ∀ {m2 : List Bool} {qs : List PV} {ws : List V}, m2.all (! ·) = true → m2.length = qs.length → RpL K Z qs ws → ArgR K Z H m2 qs ws [] := by
    intro m2
    induction m2 with
    | nil => intro qs ws _ hl r; cases r with | nil => trivial | cons _ _ => simp at hl
    | cons b m ih =>
      intro qs ws hm hl r
      cases r with
      | nil => simp at hl
      | cons h t =>
        rw [List.all_cons, Bool.and_eq_true] at hm
        cases b with
        | true => exact absurd hm.1 (by decide)
        | false => exact ⟨h, ih hm.2 (by simpa using hl) t⟩
  intro ms
  induction ms with
  | nil =>
    intro ps vs as h
    have hl' := argR_len h
    cases ps with
    | cons _ _ => simp at hl'
    | nil =>
      cases vs with
      | cons _ _ => simp at hl'
      | nil =>
        cases as with
        | cons _ _ => exact h.elim
        | nil => exact base hm hl r
  | cons b ms ih =>
    intro ps vs as h
    have hl' := argR_len h
    cases ps with
    | nil => simp at hl'
    | cons p ps =>
      cases vs with
      | nil => simp at hl'
      | cons v vs =>
        cases b with
        | false => exact ⟨h.1, ih h.2⟩
        | true =>
          cases as with
          | nil => exact h.elim
          | cons a as => exact ⟨h.1, h.2.1, h.2.2.1, ih h.2.2.2⟩
theorem setOuts_own {is : List Nat} {outs : List PV} {ε ε' : Sg} (nd : is.Nodup) (e : setOuts ε is outs = some ε') {j : Nat} (h : IsOwn ε' j) : IsOwn ε j := by
  obtain ⟨_, l0, l2, l3⟩ := setOuts_get nd e
  by_cases hj : j ∈ is
  · obtain ⟨n, hn⟩ := List.mem_iff_getElem?.mp hj
    have hlt := (List.getElem?_eq_some_iff.mp hn).1
    obtain ⟨k, q, h1, _⟩ := l3 n j (outs[n]'(by omega)) hn (List.getElem?_eq_getElem _)
    exact ⟨k, q, h1⟩
  · obtain ⟨k, p, q⟩ := h
    exact ⟨k, p, by rw [← l2 j hj]; exact q⟩
theorem addr_nodup {σ : St} : ∀ {is : List Nat} {as : List Addr} {ε : Sg}, (∀ i j a, i ∈ is → j ∈ is → σ[i]? = some (some (V.ref a)) → σ[j]? = some (some (V.ref a)) → i = j) → Paired (fun i a => σ[i]? = some (some (V.ref a)) ∧ ∃ k p, ε[i]? = some (Slot.own k p)) is as → is.Nodup → as.Nodup
  | [], _, _, _, h, _ => by cases h; exact List.nodup_nil
  | i :: is, _, ε, d, h, nd => by
    cases h with
    | @cons _ a _ as h t =>
      have nd' := List.nodup_cons.mp nd
      refine List.nodup_cons.mpr ⟨fun ha => ?_, addr_nodup (fun j l b hj hl => d j l b (List.mem_cons_of_mem _ hj) (List.mem_cons_of_mem _ hl)) t nd'.2⟩
      obtain ⟨n, hn⟩ := List.mem_iff_getElem?.mp ha
      obtain ⟨j, hj, e, _⟩ := Paired.getP' t hn
      have hj := List.mem_of_getElem? hj
      exact nd'.1 (d i j a List.mem_cons_self (List.mem_cons_of_mem _ hj) h.1 e ▸ hj)
/-- the promise at the call, from what the interpreter says -/
theorem call_ok {g : Ent} {σ : St} {ε1 : Sg} {Z1 H1 : Hp} {Q : VK} {f : Nat} {fi : FnI} {rs : List Rv} {vs dvs : List V} (G1 : Good X.K g σ ε1 Z1 H1)
    (rl : Paired (OpdR X.K σ Z1) rs vs) (rd : ∀ Z, RpL X.K Z fi.dfl dvs) (h : Post E X W g σ Z1 (PR X g σ Q) (doCall Φ fi.mask fi.dfl fi.np f rs ε1)) :
    (vs.length < fi.np ∧ spF E Φ X.mg X.K fi f (vs ++ dvs) H1 Q (WE W σ)) ∨ (¬ vs.length < fi.np ∧ spF E Φ X.mg X.K fi f vs H1 Q (WE W σ)) := by
  have hvl : vs.length = rs.length := (Paired.length rl).symm
  unfold doCall at h
  split at h
  · exact h.elim
  · rename_i ps is ε2 ea
    obtain ⟨Z2, as, s2, G2, ar, ia, nd⟩ := G1.argL ea rl
    have hpl := argR_len ar
    by_cases hc : fi.mask.length = fi.np ∧ (if ps.length < fi.np then ps ++ fi.dfl else ps).length = fi.np ∧ (fi.mask.drop rs.length).all (! ·) = true
    · rw [if_pos hc] at h
      obtain ⟨hm, hl, hall⟩ := hc
      have ndA : as.Nodup := addr_nodup (fun i j a hi hj => G2.dis i j a (by
        obtain ⟨n, hn⟩ := List.mem_iff_getElem?.mp hi
        obtain ⟨_, _, _, q⟩ := Paired.getP ia hn
        exact q) (by
        obtain ⟨n, hn⟩ := List.mem_iff_getElem?.mp hj
        obtain ⟨_, _, _, q⟩ := Paired.getP ia hn
        exact q)) ia nd
      have post : PostC E X.mg X.K Z2 H1 as Q (WE W σ) (Φ f (if ps.length < fi.np then ps ++ fi.dfl else ps)) := by
        cases eo : Φ f (if ps.length < fi.np then ps ++ fi.dfl else ps) with
        | stuck => rw [eo] at h; exact h.elim
        | ok r fr outs =>
          rw [eo] at h
          dsimp only at h
          intro v Z' H' A rr
          split at h
          · rename_i ε3 es
            have G3 := G2.call ia nd es A
            refine h Z' H' (s2.trans A.zz) G3 v ?_
            unfold ResR at rr
            cases fr with
            | false => exact rr
            | true =>
              obtain ⟨a, e, z, hn, o⟩ := rr
              exact ⟨a, e, z, G2.al a hn, o, fun i oi => (G2.new hn).1 i (setOuts_own nd es oi), (G2.new hn).2⟩
          · exact h.elim
        | exc c outs =>
          rw [eo] at h
          dsimp only at h
          intro C Z' H' A cl
          split at h
          · rename_i ε3 es
            exact h Z' H' C (s2.trans A.zz) (G2.call ia nd es A) cl
          · exact h.elim
      by_cases hlt : vs.length < fi.np
      · left
        have hlp : ps.length < fi.np := by rw [hpl.1, ← hpl.2]; exact hlt
        rw [if_pos hlp] at post hl
        refine ⟨hlt, Z2, ps ++ fi.dfl, as, G2.zh, hl, ?_, ndA, post⟩
        have e : fi.mask = fi.mask.take rs.length ++ fi.mask.drop rs.length := (List.take_append_drop _ _).symm
        rw [e]
        refine argR_more hall ?_ (rd Z2) ar
        rw [List.length_append] at hl
        have h1 := hpl.1
        rw [List.length_take] at h1
        rw [List.length_drop]
        omega
      · right
        have hlp : ¬ ps.length < fi.np := by rw [hpl.1, ← hpl.2]; exact hlt
        rw [if_neg hlp] at post hl
        refine ⟨hlt, Z2, ps, as, G2.zh, hl, ?_, ndA, post⟩
        have e : fi.mask.take rs.length = fi.mask := by
          rw [List.take_of_length_le]
          omega
        rw [e] at ar
        exact ar
    · rw [if_neg hc] at h
      exact h.elim
theorem s_call (ok : Okx E Φ k S W X) {f : Nat} {fi : FnI} {as : List IE} {e : Expr} {es : List Expr} {x : Str} {p pos : Pos} (hf : E.fns[f]? = some fi) (hx : fi.name = x) (hg : glB S.sc x = true) (hs : ∀ y ∈ e :: es, noStar y = true)
    (ha : PA X (e :: es) (tA E Φ X W as)) : PE X (.Call (.Name x p) (e :: es) [] pos) (tE E Φ X W (.call f as)) := by
  subst hx
  obtain ⟨fa, fd, ps, F⟩ := ok.fn f fi hf
  obtain ⟨dvs, dv, b1, hv, hd⟩ := F.b1
  refine ⟨fun pins s σ H Q I hq => ?_⟩
  obtain ⟨g, ε, Z, G, h1⟩ := hq
  refine (pe_callX (n := fi.np) (E' := WE W) F.ok ok.gd ok.room (ok.gl hg).1 F.gm F.kp F.b0 b1 hv (fun σ => passAt ok.tk σ) ha (okN_1 (ok.gl hg).2) hs).run pins s σ H Q I ?_
  refine tA_bind G h1 fun rs ε1 Z1 H1 vs s1 G1 rl h2 => ?_
  rw [hf] at h2
  exact call_ok G1 rl hd h2
/-! ### the call of what an expression gives -/
/-- the def that a value is -/
def isDef (E : Eng) (Φ : Nat → List PV → CO) (k : Nat) (X : Cx) (v : V) (f : Nat) (fi : FnI) : Prop := ∃ fa fd ps, v = .ref fa ∧ E.fns[f]? = some fi ∧ FnX E Φ k X.prog X.w X.K X.mg X.base f fi fa fd ps
def tCallV (E : Eng) (Φ : Nat → List PV → CO) (k : Nat) (X : Cx) (W : WX) (tf : TE) (t : TA) : TE := fun σ H Q => tf σ H fun v H1 => ∃ f fi, isDef E Φ k X v f fi ∧ t σ H1 fun vs H2 => ∀ dvs, (∀ Z, RpL X.K Z fi.dfl dvs) → (vs.length < fi.np ∧ spF E Φ X.mg X.K fi f (vs ++ dvs) H2 Q (WE W σ)) ∨ (¬ vs.length < fi.np ∧ spF E Φ X.mg X.K fi f vs H2 Q (WE W σ))
theorem pe_callV (ok : Okx E Φ k S W X) {fe e : Expr} {es : List Expr} {pos : Pos} {tf : TE} {t : TA} (hf : PE X fe tf) (arm : eval (.Call fe (e :: es) [] pos) X.env = (do callWith pos (← eval fe X.env) [] (backTo pos (starEach (e :: es) X.env)) (backToKw pos (keywordEach [] X.env)))) (ha : PA X (e :: es) t) (hs : ∀ y ∈ e :: es, noStar y = true) :
    PE X (.Call fe (e :: es) [] pos) (tCallV E Φ k X W tf t) := by
  refine ⟨fun pins s σ H Q I h => ?_⟩
  rw [arm]
  refine wpAny_bind (thn (hf.run pins s σ H _ I h) fun u s1 ⟨v, H1, I1, r1, f, fi, ⟨fa, fd, ps, ev, ef, F⟩, q⟩ => ?_)
  subst ev
  cases r1
  obtain ⟨dvs, dv, b1, hv, hd⟩ := F.b1
  refine PySem.W.callWith_K (h₀ := X.base) I1.ok.mod.kin F.kp (thn (ha.run pos pins s1 σ H1 _ I1 q) fun us s2 ⟨vs, H2, I2, r, q⟩ => ⟨I2.kIn, ?_⟩) (starEach_no (hs e List.mem_cons_self)) (star_any fun y hy => hs y (List.mem_cons_of_mem _ hy))
  rcases q dvs hd with ⟨_, q⟩ | ⟨_, q⟩
  · exact run_fnX F.ok ok.gd ok.room b1 hv (passAt ok.tk σ) I2 r q
  · exact run_fnX F.ok ok.gd ok.room F.b0 .nil (passAt ok.tk σ) I2 r (by rw [List.append_nil]; exact q)
def tNames (fvs : List V) : TA := fun _ H Q => Q fvs H
theorem names_pa (ok : Okx E Φ k S W X) : ∀ {fs : List Nat} {ns : List Expr}, mtN E S fs ns = true → ∃ fvs : List V, PA X ns (tNames fvs) ∧ fvs.length = fs.length ∧ ∀ (j f : Nat), fs[j]? = some f → ∃ v fi, fvs[j]? = some v ∧ isDef E Φ k X v f fi
  | [], [], _ => ⟨[], pa_nil, rfl, fun j f h => by simp at h⟩
  | [], _ :: _, m => by cases m
  | _ :: _, [], m => by cases m
  | f :: fs, e :: ns, m => by
    cases e <;> first | (cases m; done) | skip
    rename_i x p
    have m : ((match E.fns[f]? with | some fi => decide (fi.name = x) | none => false) && glB S.sc x && mtN E S fs ns) = true := m
    rw [Bool.and_eq_true, Bool.and_eq_true] at m
    obtain ⟨⟨m1, m2⟩, m3⟩ := m
    cases ef : E.fns[f]? with
    | none => rw [ef] at m1; cases m1
    | some fi =>
      rw [ef] at m1
      have m1 := of_decide_eq_true m1
      subst m1
      obtain ⟨fvs, h1, h2, h3⟩ := names_pa ok m3
      obtain ⟨fa, fd, ps, F⟩ := ok.fn f fi ef
      obtain ⟨gl, on⟩ := ok.gl m2
      refine ⟨.ref fa :: fvs, pa_cons (pe_glob (v := .ref fa) gl F.gm rfl (okN_1 on)) h1 rfl, by simp [h2], fun j f' h => ?_⟩
      cases j with
      | zero =>
        have h : some f = some f' := h
        cases h
        exact ⟨_, fi, rfl, fa, fd, ps, rfl, ef, F⟩
      | succ j => exact h3 j f' h
theorem s_pick (ok : Okx E Φ k S W X) {fs : List Nat} {i : IE} {as : List IE} {ns : List Expr} {ei e : Expr} {es : List Expr} {p1 p2 pos : Pos} (mn : mtN E S fs ns = true) (h8 : fs.length ≤ 8) (hn : noSlc ei = true) (hi : PE X ei (tE E Φ X W i)) (hs : ∀ y ∈ e :: es, noStar y = true) (ha : PA X (e :: es) (tA E Φ X W as)) :
    PE X (.Call (.Subscript (.List ns p1) ei p2) (e :: es) [] pos) (tE E Φ X W (.pick fs i as)) := by
  obtain ⟨fvs, hpa, hl, hj⟩ := names_pa ok mn
  refine ⟨fun pins s σ H Q I hq => ?_⟩
  obtain ⟨g, ε, Z, G, h1⟩ := hq
  refine (pe_callV ok (pe_ix ix_list (pe_lst hpa) hi (plainIx hn)) rfl ha hs).run pins s σ H Q I ?_
  refine ⟨by rw [hl, sizeLine_eq]; omega, fun p hp => ?_⟩
  have GD := (G.ext (Ext.new (o := .lst fvs) G.zh hp)).prAdd (D := p) (o := .lst fvs) upd_same (G.zh.free hp) (G.new hp).1
  have h1 : Post E X W g σ Z (PR X g σ Q) ((evE E Φ i ε).bind fun ri ε1 => match ri.opd.peek ε1 with
    | some (.int n) => match atI fs n with
      | some f => (evA E Φ as ε1).bind fun rs ε2 => match E.fns[f]? with
        | some fi => doCall Φ fi.mask fi.dfl fi.np f rs ε2
        | none => .stuck
      | none => .stuck
    | _ => .stuck) := h1
  refine ⟨_, ε, Z, GD, h1.split.imp2 (fun z => z.prDrop.1) fun r ε1 Z1 H1 s1 G1 h2 y rv => ?_⟩
  obtain ⟨Z2, s2, G2, o⟩ := G1.opd rv
  have h2 := h2.mono s2
  split at h2
  · rename_i n ep
    obtain rfl := (G2.peek ep o.rv).int
    obtain ⟨G3, q1, q2, q3⟩ := G2.prDrop
    split at h2
    · rename_i f ef
      unfold atI at ef
      obtain ⟨j, e1, e2⟩ := Option.bind_eq_some_iff.mp ef
      obtain ⟨v, fi, e3, D⟩ := hj j f e2
      refine ⟨p, fvs, n, v, rfl, rfl, .inl (.inl q1), by unfold atI; rw [hl, e1]; exact e3, f, fi, D, ?_⟩
      refine tA_bind G3 h2 fun rs ε2 Z3 H3 vs s3 G4 rl h3 dvs hd => ?_
      obtain ⟨_, _, _, _, ef2, _⟩ := D
      rw [ef2] at h3
      exact call_ok G4 rl hd h3
    · exact h2.elim
  · exact h2.elim
end
end Eng

namespace Eng
open PySem PySem.Spec L2
open PyProof.Rows hiding St

section
variable {E : Eng} {Φ : Nat → List PV → CO} {k : Nat} {S : Stc} {X : Cx} {W : WX}

/-! ### other tests: by the value's truth -/
def truthK (r : Rv) (ε : Sg) : Out Bool := match (r.opd.peek ε).bind truth with
  | some b => .ok b ε
  | none => .stuck
theorem bind_assoc {α β γ : Type} (x : Out α) (f : α → Sg → Out β) (h : β → Sg → Out γ) : (x.bind f).bind h = x.bind fun a ε => (f a ε).bind h := by
  cases x <;> rfl
theorem t_val {e : IE} {ex : Expr} (he : PE X ex (tE E Φ X W e)) (hv : ∀ ε, evT E Φ e ε = (evE E Φ e ε).bind truthK) (hi : ∀ whole, isTrue ex X.env whole = (do let v ← whole; standAt ex.pos; holding [v] (truthy v))) : PT X ex (tT E Φ X W e) := by
  refine ⟨fun pins s σ H Q I hq => ?_⟩
  obtain ⟨g, ε, Z, G, h1⟩ := hq
  rw [hv] at h1
  refine (pt_truth he hi).run pins s σ H Q I ?_
  refine tE_bind G h1 fun ra ε1 Z1 H1 x s1 G1 rx h2 => ?_
  unfold truthK at h2
  split at h2
  · rename_i b et
    obtain ⟨p, ep, et⟩ := truth_some et
    exact ⟨b, truth_ok G1.zh (G1.peek ep rx.rv) et, h2 Z1 H1 (.refl _) G1⟩
  · exact h2.elim
theorem v_var (i : Nat) (ε : Sg) : evT E Φ (.var i) ε = (evE E Φ (.var i) ε).bind truthK := by
  show (match (peekS ε i).bind truth with | some b => Out.ok b ε | none => .stuck) = (match ε[i]? with | some (.val p) => Out.ok (Rv.val p) ε | some (.own _ _) => .ok (Rv.own i) ε | _ => .stuck).bind truthK
  cases e : ε[i]? with
  | none => simp [peekS, e, Out.bind]
  | some s => cases s <;> simp [peekS, e, Out.bind, truthK, Rv.opd, Rv.peek]
theorem v_cst (p : PV) (ε : Sg) : evT E Φ (.cst p) ε = (evE E Φ (.cst p) ε).bind truthK := rfl
theorem v_call (f : Nat) (as : List IE) (ε : Sg) : evT E Φ (.call f as) ε = (evE E Φ (.call f as) ε).bind truthK := by
  show _ = ((evA E Φ as ε).bind fun rs ε1 => match E.fns[f]? with | some fi => doCall Φ fi.mask fi.dfl fi.np f rs ε1 | none => .stuck).bind truthK
  rw [bind_assoc]
  show (evA E Φ as ε).bind _ = _
  congr 1
  funext rs ε1
  cases E.fns[f]? <;> rfl
theorem v_blt (b : Blt) (as : List IE) (ε : Sg) : evT E Φ (.blt b as) ε = (evE E Φ (.blt b as) ε).bind truthK := by
  show _ = ((evA E Φ as ε).bind fun rs ε1 => match peekL ε1 rs with | some ps => lift (opBlt b ps) ε1 | none => .stuck).bind truthK
  rw [bind_assoc]
  show (evA E Φ as ε).bind _ = _
  congr 1
  funext rs ε1
  cases peekL ε1 rs <;> rfl
theorem v_isi (a : IE) (ty : String) (ε : Sg) : evT E Φ (.isi a ty) ε = (evE E Φ (.isi a ty) ε).bind truthK := by
  show _ = ((evE E Φ a ε).bind fun ra ε1 => match ra.opd.peek ε1 with | some p => lift ((opIsi p ty).map fun b => Rv.val (.bl b)) ε1 | none => .stuck).bind truthK
  rw [bind_assoc]
  show (evE E Φ a ε).bind _ = _
  congr 1
  funext ra ε1
  cases ra.opd.peek ε1 with
  | none => rfl
  | some p =>
    show (match opIsi p ty with | some b => Out.ok b ε1 | none => .stuck) = (lift ((opIsi p ty).map fun b => Rv.val (.bl b)) ε1).bind truthK
    cases opIsi p ty <;> rfl
theorem v_sub (a i : IE) (ε : Sg) : evT E Φ (.sub a i) ε = (evE E Φ (.sub a i) ε).bind truthK := by
  show _ = ((evE E Φ a ε).bind fun ra ε1 => (evE E Φ i ε1).bind fun rb ε2 => match ra.opd.peek ε2, rb.opd.peek ε2 with | some p, some q => lift ((opIx p q).map Rv.val) ε2 | _, _ => .stuck).bind truthK
  rw [bind_assoc]
  show (evE E Φ a ε).bind _ = _
  congr 1
  funext ra ε1
  rw [bind_assoc]
  congr 1
  funext rb ε2
  cases ra.opd.peek ε2 with
  | none => rfl
  | some p =>
    cases rb.opd.peek ε2 with
    | none => rfl
    | some q =>
      show (match (opIx p q).bind truth with | some b => Out.ok b ε2 | none => .stuck) = (lift ((opIx p q).map Rv.val) ε2).bind truthK
      cases opIx p q <;> rfl

/-! ### built-in functions, isinstance -/
theorem s_blt (ok : Okx E Φ k S W X) {b : Blt} {as : List IE} {e : Expr} {es : List Expr} {x : Str} {p pos : Pos} (hx : bltN b = x) (hb : b ∈ E.blts) (hg : glB S.sc x = true) (hs : ∀ y ∈ e :: es, noStar y = true)
    (ha : PA X (e :: es) (tA E Φ X W as)) : PE X (.Call (.Name x p) (e :: es) [] pos) (tE E Φ X W (.blt b as)) := by
  subst hx
  obtain ⟨gl, on⟩ := ok.gl hg
  have m := ok.bl b hb
  refine ⟨fun pins s σ H Q I hq => ?_⟩
  obtain ⟨g, ε, Z, G, h1⟩ := hq
  have rd : tCB (rBlt X.K b) (tA E Φ X W as) σ H Q := by
    refine tA_bind G h1 fun rs ε1 Z1 H1 vs s1 G1 rl h2 => ?_
    split at h2
    · rename_i ps ep
      obtain ⟨r, er, h4⟩ := h2.lift
      exact ⟨Z1, ps, r, G1.zh, G1.peekL ep rl, er, Kont.of G1 h4⟩
    · exact h2.elim
  have he := starEach_no (env := X.env) (es := es) (hs e List.mem_cons_self)
  have hp := star_any (env := X.env) (pos := pos) fun y hy => hs y (List.mem_cons_of_mem e hy)
  have c := call_blt (X := X) ok.gd (by have := ok.room.un; omega) ok.calm b
  cases hbg : bltG b with
  | true =>
    rw [if_pos hbg] at m
    cases b <;> first | cases hbg | skip
    all_goals exact (pe_callBfun c gl m ha (okN_1 on) he hp).run pins s σ H Q I rd
  | false =>
    rw [if_neg (by rw [hbg]; exact Bool.false_ne_true)] at m
    have bo := blt_boot b hbg
    cases b with
    | gcd => cases hbg
    | isqrt => cases hbg
    | dict => exact (pe_callTy c gl m bo ha (okN_3 on) (okN_1 on) he hp).run pins s σ H Q I rd
    | int => exact (pe_callTy c gl m bo ha (okN_3 on) (okN_1 on) he hp).run pins s σ H Q I rd
    | abs => exact (pe_callB c gl m bo ha (okN_3 on) (okN_1 on) he hp).run pins s σ H Q I rd
    | len => exact (pe_callB c gl m bo ha (okN_3 on) (okN_1 on) he hp).run pins s σ H Q I rd
    | all => exact (pe_callB c gl m bo ha (okN_3 on) (okN_1 on) he hp).run pins s σ H Q I rd
    | repr => exact (pe_callB c gl m bo ha (okN_3 on) (okN_1 on) he hp).run pins s σ H Q I rd
    | sorted => exact (pe_callB c gl m bo ha (okN_3 on) (okN_1 on) he hp).run pins s σ H Q I rd
    | any => exact (pe_callB c gl m bo ha (okN_3 on) (okN_1 on) he hp).run pins s σ H Q I rd
    | min => exact (pe_callB c gl m bo ha (okN_3 on) (okN_1 on) he hp).run pins s σ H Q I rd
    | max => exact (pe_callB c gl m bo ha (okN_3 on) (okN_1 on) he hp).run pins s σ H Q I rd
    | str => exact (pe_callTy c gl m bo ha (okN_3 on) (okN_1 on) he hp).run pins s σ H Q I rd
    | list => exact (pe_callTy c gl m bo ha (okN_3 on) (okN_1 on) he hp).run pins s σ H Q I rd
    | tuple => exact (pe_callTy c gl m bo ha (okN_3 on) (okN_1 on) he hp).run pins s σ H Q I rd
theorem s_isi (ok : Okx E Φ k S W X) {a : IE} {ty : String} {e : Expr} {y : Str} {p p2 pos : Pos} (hy : Str.ofString ty = y) (ht : ty ∈ E.tys) (hg : glB S.sc "isinstance" = true) (hgy : glB S.sc y = true) (hs : noStar e = true)
    (ha : PE X e (tE E Φ X W a)) : PE X (.Call (.Name "isinstance" p) [e, .Name y p2] [] pos) (tE E Φ X W (.isi a ty)) := by
  subst hy
  obtain ⟨gl, on⟩ := ok.gl hg
  obtain ⟨gy, ony⟩ := ok.gl hgy
  obtain ⟨m1, m2, m3⟩ := ok.ty ty ht
  refine ⟨fun pins s σ H Q I hq => ?_⟩
  obtain ⟨g, ε, Z, G, h1⟩ := hq
  have pe2 : PE X (.Name (Str.ofString ty) p2) (tC (.ty ty)) := pe_bltn gy m1 m2 rfl (okN_3 ony) (okN_1 ony)
  refine (pe_callB call_isiE gl m3 (by decide +kernel) (pa_cons ha (pa_cons pe2 pa_nil rfl) (starEach_no hs)) (by decide) (by decide) (starEach_no hs) rfl).run pins s σ H Q I ?_
  refine tE_bind G h1 fun ra ε1 Z1 H1 x s1 G1 rx h2 => ?_
  split at h2
  · rename_i q ep
    cases eo : opIsi q ty with
    | none => rw [eo] at h2; exact h2.elim
    | some b => rw [eo] at h2; exact ⟨Z1, q, x, ty, b, rfl, G1.zh, G1.peek ep rx.rv, eo, h2 Z1 H1 (.refl _) G1 _ (.bl b)⟩
  · exact h2.elim

/-! ### dicts -/
/-- what is handed back is locked -/
def tLkE (t : TE) : TE := fun σ H Q => t σ H fun x H' => ∃ d u, x = .ref d ∧ H' d = some u ∧ Mut (some u) ∧ ∀ od, Q x (upd H' d (.frz od u))
theorem pe_lkE {e : Expr} {t : TE} (h : PE X e t) : PE X e (tLkE t) := by
  refine ⟨fun pins s σ H Q I q => ?_⟩
  refine wpAny_mono (h.run pins s σ H _ I q) (fun u s' z => ?_) fun _ _ z => z
  obtain ⟨x, H', I', rx, d, ob, rfl, hd, mu, q⟩ := z
  obtain ⟨od, I2⟩ := I'.lock hd mu
  exact ⟨.ref d, _, I2, rx, q od⟩
theorem s_dnew {pos : Pos} : PE X (.Dict [] [] pos) (tE E Φ X W .dnew) := by
  refine ⟨fun pins s σ H Q I hq => ?_⟩
  obtain ⟨g, ε, Z, G, h1⟩ := hq
  have kk : Kont X.K Z H Q (.fresh (.dct [])) := Kont.of G h1
  exact (pe_lkE pe_dnewK).run pins s σ H Q I (dcE (ps := []) (vs := []) G.zh kk .nil)
/-! ### sorted(set(texts)), a dict from what stands in the text -/
theorem strsP_rp {K : Fg} {Z : Hp} : ∀ {l : List PV} {zs : List Str} {vs : List V}, strsP l = some zs → RpL K Z l vs → l = zs.map PV.str ∧ vs = zs.map V.str
  | [], zs, _, e, r => by cases e; cases r; exact ⟨rfl, rfl⟩
  | .str x :: l, zs, _, e, r => by
    unfold strsP at e
    cases e1 : strsP l with
    | none => rw [e1] at e; cases e
    | some ys =>
      rw [e1] at e
      cases e
      cases r with
      | cons h t =>
        cases h
        obtain ⟨h1, h2⟩ := strsP_rp e1 t
        exact ⟨by rw [h1]; rfl, by rw [h2]; rfl⟩
  | .non :: _, _, _, e, _ => by cases e
  | .bl _ :: _, _, _, e, _ => by cases e
  | .int _ :: _, _, _, e, _ => by cases e
  | .tup _ :: _, _, _, e, _ => by cases e
  | .lst _ :: _, _, _, e, _ => by cases e
  | .dct _ :: _, _, _, e, _ => by cases e
  | .set _ :: _, _, _, e, _ => by cases e
  | .scr _ :: _, _, _, e, _ => by cases e
theorem s_sset (ok : Okx E Φ k S W X) {a : IE} {e : Expr} {p p2 pos pos2 : Pos} (hg : Gl X "sorted") (hm : X.mg "sorted" = none) (hg2 : Gl X "set") (hm2 : X.mg "set" = none) (he : PE X e (tE E Φ X W a)) (hs : noStar e = true) :
    PE X (.Call (.Name "sorted" p) [.Call (.Name "set" p2) [e] [] pos2] [] pos) (tE E Φ X W (.sset a)) := by
  refine ⟨fun pins s σ H Q I hq => ?_⟩
  obtain ⟨g, ε, Z, G, h1⟩ := hq
  refine (pe_sset ok.calm (by have := ok.room.un; omega) hg hm hg2 hm2 he (starEach_no hs)).run pins s σ H Q I ?_
  refine tE_bind G h1 fun ra ε1 Z1 H1 x s1 G1 rx h2 => ?_
  split at h2
  · rename_i l ep
    split at h2
    · rename_i zs ez
      split at h2
      · rename_i hz
        obtain ⟨a, vs, rfl, h4, h5⟩ := (G1.peek ep rx.rv).lst G1.zh
        obtain ⟨e1, rfl⟩ := strsP_rp ez h5
        exact ⟨a, zs, rfl, .inl h4, hz, frE G1.zh (Kont.of G1 h2) (rp_strs _)⟩
      · exact h2.elim
    · exact h2.elim
  · exact h2.elim
/-- what the pairs of a display are made by -/
def trsK (E : Eng) (Φ : Nat → List PV → CO) (X : Cx) (W : WX) : List Str → List IE → List (TE × TE)
  | k :: ks, e :: es => (tC (.str k), tE E Φ X W e) :: trsK E Φ X W ks es
  | _, _ => []
theorem pairs_ok {g g2 : Ent} {σ : St} {α : Type} {R : α → Sg → Hp → Hp → Prop} (dn : ∀ {ε' Z' H'}, Good X.K g2 σ ε' Z' H' → Good X.K g σ ε' Z' H') : ∀ {ks : List Str} {es : List IE} {ε : Sg} {Z H : Hp} {f : List Rv → Sg → Out α} {Ψ : List (V × V) → Hp → Prop}, Good X.K g2 σ ε Z H → ks.length = es.length →
    Post E X W g σ Z R ((evA E Φ es ε).bind f) → (∀ rs ε1 Z1 H1 vs, Same Z Z1 → Good X.K g2 σ ε1 Z1 H1 → Paired (OpdR X.K σ Z1) rs vs → ks.length = vs.length → Post E X W g σ Z1 R (f rs ε1) → Ψ ((ks.map V.str).zip vs) H1) → tPairs (trsK E Φ X W ks es) σ H Ψ
  | [], [], ε, Z, H, f, Ψ, G, _, h, k => k [] ε Z H [] (.refl _) G .nil rfl h
  | [], _ :: _, _, _, _, _, _, _, l, _, _ => by simp at l
  | _ :: _, [], _, _, _, _, _, _, l, _, _ => by simp at l
  | x :: ks, e :: es, ε, Z, H, f, Ψ, G, l, h, k => by
    have h : Post E X W g σ Z R (((evE E Φ e ε).bind fun r ε1 => (evA E Φ es ε1).bind fun rs ε2 => .ok (r.opd :: rs) ε2).bind f) := h
    rw [Out.bind_bind] at h
    show tE E Φ X W e σ H _
    refine ⟨g2, ε, Z, G, h.split.imp2 dn fun r ε1 Z1 H1 s1 G1 h1 v rv => ?_⟩
    obtain ⟨Z2, s2, G2, o⟩ := G1.opd rv
    have h1 := h1.mono s2
    rw [Out.bind_bind] at h1
    refine pairs_ok dn G2 (by simpa using l) h1 fun rs ε2 Z3 H3 vs s3 G3 rl lv h3 => ?_
    exact k (r.opd :: rs) ε2 Z3 H3 (v :: vs) ((s1.trans s2).trans s3) G3 (.cons (o.mono s3) rl) (by simp [lv]) h3
theorem rpk_zip {K : Fg} {Z : Hp} : ∀ {ks : List Str} {ps : List PV} {vs : List V}, RpL K Z ps vs → RpK K Z ((ks.map Sum.inr).zip ps) ((ks.map Sum.inr).zip vs)
  | [], _, _, _ => .nil
  | _ :: _, [], _, .nil => .nil
  | x :: ks, _ :: _, _, .cons h t => .cons h (rpk_zip t)
theorem s_ddis {ks : List Str} {es : List IE} {keys : List (Option Expr)} {vals : List Expr} {pos : Pos} (hp : PPs X pos keys vals (trsK E Φ X W ks es)) (hall : keys.all (·.isSome) = true) (hl : keys.length = vals.length) (h0 : keys ≠ []) (h15 : keys.length ≤ 15) (hk : ks.length ≤ 15) (hke : ks.length = es.length) :
    PE X (.Dict keys vals pos) (tE E Φ X W (.ddis ks es)) := by
  refine ⟨fun pins s σ H Q I hq => ?_⟩
  obtain ⟨g, ε, Z, G, h1⟩ := hq
  refine (pe_lkE (pe_disp hp hall hl h0 h15)).run pins s σ H Q I fun p hn => ?_
  have G0 := G.ext (Ext.new (o := .dK []) G.zh hn)
  have GD := G0.prAdd (D := p) (o := .dK []) upd_same (G.zh.free hn) (G.new hn).1
  have hp0 : g.H0 p = none := G.al p hn
  have hpr := (G.new hn).2
  refine pairs_ok (g := g) (fun z => z.prDrop.1) GD hke h1 fun rs ε1 Z1 H1 vs s1 G1 rl lv h2 => ?_
  split at h2
  · rename_i ps ε2 ef
    obtain ⟨Z2, s2, G2, r2⟩ := G1.frzL ef rl
    obtain ⟨G3, q1, q2, q3⟩ := G2.prDrop
    refine ⟨q1, (ks.map Sum.inr).zip vs, ?_, ?_, p, _, rfl, upd_same, trivial, fun od => ?_⟩
    · clear lv h2 ef rl r2 hke hk h1 hp
      induction ks generalizing vs with
      | nil => rfl
      | cons x ks ih =>
        cases vs with
        | nil => rfl
        | cons v vs => exact congrArg _ (ih vs)
    · rw [List.length_zip, List.length_map]; omega
    · rw [upd_upd]
      have rk : RpK X.K Z2 (dM [] ((ks.map Sum.inr).zip ps)) (mergeK [] ((ks.map Sum.inr).zip vs)) := (rpk_zip r2).merge .nil
      exact h2 Z2 _ s2 (G3.away q1 hp0 q2 q3 hpr) (.ref p) ⟨p, rfl, q2, hp0, ⟨od, _, upd_same, rk⟩, q3, hpr⟩
  · exact h2.elim
theorem s_fzv (ok : Okx E Φ k S W X) {i : Nat} {x : Str} {pos : Pos} (h : (decide (S.N[i]? = some x) && visB S.sc x && okN x) = true) : PE X (.Name x pos) (tE E Φ X W (.fzv i)) := by
  refine ⟨fun pins s σ H Q I hq => ?_⟩
  obtain ⟨g, ε, Z, G, h1⟩ := hq
  refine (ok.vis h).run pins s σ H Q I ?_
  have h1 : Post E X W g σ Z (PR X g σ Q) (match Eng.frzS ε i with | some (p, ε1) => .ok (.val p) ε1 | none => .stuck) := h1
  split at h1
  · rename_i p ε1 e
    obtain ⟨v, Z', e1, s1, G1, rp⟩ := G.frzS e
    exact ⟨v, e1, h1 Z' H s1 G1 v rp⟩
  · exact h1.elim
theorem m1_of {o e : Expr} {nm : Str} {apos cpos : Pos} (hb : attributeBase o nm X.env (eval o X.env) = eval o X.env) (hs : noStar e = true) (hl : (apos.endLine == cpos.line) = true) : M1 X o nm apos e cpos := by
  have h := starEach_no (env := X.env) (es := []) hs
  refine ⟨hb, ?_, hl, ?_⟩
  · rw [h]; rfl
  · rw [h]; rfl
theorem m2_of {o e f : Expr} {nm : Str} {apos cpos : Pos} (hb : attributeBase o nm X.env (eval o X.env) = eval o X.env) (hs : noStar e = true) (hf : noStar f = true) (hl : (apos.endLine == cpos.line) = true) : M2 X o nm apos e f cpos := by
  have h := starEach_no (env := X.env) (es := [f]) hs
  have h2 := starEach_no (env := X.env) (es := []) hf
  refine ⟨hb, ?_, hl, ?_⟩
  · rw [h, h2]; rfl
  · rw [h, h2]; rfl
/-- a dict is looked at -/
theorem dget_view {K : Fg} {Z H : Hp} {l : List (Key × PV)} {a : Addr} {q : PV} {y : V} {kk : Key} (zh : Same Z H) (va : View K Z H (.dct l) (.ref a)) (vq : View K Z H q y) (ek : keyP q = some kk) :
    ∃ o, DGet H a y o ∧ ((dG l kk = none ∧ o = none) ∨ ∃ p v, dG l kk = some p ∧ o = some v ∧ Rp K Z p v) := by
  obtain ⟨a', ob, vs, e, h1, r1⟩ := va.dct zh
  cases e
  cases key_view ek vq
  rcases r1.get kk with ⟨z1, z2⟩ | ⟨p, v, e1, e2, rp⟩
  · exact ⟨none, .inl ⟨vs, kk, .inr ⟨ob, h1⟩, rfl, z2.symm⟩, .inl ⟨z1, rfl⟩⟩
  · exact ⟨some v, .inl ⟨vs, kk, .inr ⟨ob, h1⟩, rfl, e2.symm⟩, .inr ⟨p, v, e1, rfl, rp⟩⟩
theorem isD_view {K : Fg} {Z H : Hp} {l : List (Key × PV)} {v : V} (zh : Same Z H) (va : View K Z H (.dct l) v) : ∃ a, v = .ref a ∧ IsD H a := by
  obtain ⟨a', ob, vs, e, h1, r1⟩ := va.dct zh
  exact ⟨a', e, .inl ⟨vs, .inr ⟨ob, h1⟩⟩⟩
theorem s_dgt (ok : Okx E Φ k S W X) {a kx : IE} {ea ek : Expr} {apos cpos : Pos} (ha : PE X ea (tE E Φ X W a)) (hk : PE X ek (tE E Φ X W kx)) (hs : noStar ek = true) (hl : (apos.endLine == cpos.line) = true) (hb : attributeBase ea "get" X.env (eval ea X.env) = eval ea X.env) :
    PE X (.Call (.Attribute ea "get" apos) [ek] [] cpos) (tE E Φ X W (.dgt a kx)) := by
  refine ⟨fun pins s σ H Q I hq => ?_⟩
  obtain ⟨g, ε, Z, G, h1⟩ := hq
  refine (pe_dget1 (by have := ok.room.un; omega) ha hk (m1_of hb hs hl)).run pins s σ H Q I ?_
  refine tE_bind G h1 fun ra ε1 Z1 H1 x s1 G1 rx h2 => ?_
  split at h2
  · rename_i l0 el
    obtain ⟨ad, rfl, isd⟩ := isD_view G1.zh (G1.peek el rx.rv)
    refine ⟨ad, rfl, isd, tE_bind G1 h2 fun rk ε2 Z2 H2 y s2 G2 ry h3 => ?_⟩
    split at h3
    · rename_i l q el2 eq
      split at h3
      · rename_i kk ek2
        obtain ⟨o, dg, ho⟩ := dget_view G2.zh (G2.peek el2 (rx.mono s2).rv) (G2.peek eq ry.rv) ek2
        refine ⟨o, dg, ?_⟩
        rcases ho with ⟨z1, rfl⟩ | ⟨p, v, e1, rfl, rp⟩
        · rw [z1] at h3
          exact h3 Z2 H2 (.refl _) G2 _ .non
        · rw [e1] at h3
          exact h3 Z2 H2 (.refl _) G2 _ rp
      · exact h3.elim
    · exact h3.elim
  · exact h2.elim
theorem s_dgd (ok : Okx E Φ k S W X) {a kx d : IE} {ea ek ed : Expr} {apos cpos : Pos} (ha : PE X ea (tE E Φ X W a)) (hk : PE X ek (tE E Φ X W kx)) (hd : PE X ed (tE E Φ X W d)) (hs : noStar ek = true) (hs2 : noStar ed = true) (hl : (apos.endLine == cpos.line) = true)
    (hb : attributeBase ea "get" X.env (eval ea X.env) = eval ea X.env) : PE X (.Call (.Attribute ea "get" apos) [ek, ed] [] cpos) (tE E Φ X W (.dgd a kx d)) := by
  refine ⟨fun pins s σ H Q I hq => ?_⟩
  obtain ⟨g, ε, Z, G, h1⟩ := hq
  refine (pe_dget2 (by have := ok.room.un; omega) ha hk hd (m2_of hb hs hs2 hl)).run pins s σ H Q I ?_
  refine tE_bind G h1 fun ra ε1 Z1 H1 x s1 G1 rx h2 => ?_
  split at h2
  · rename_i l0 el
    obtain ⟨ad, rfl, isd⟩ := isD_view G1.zh (G1.peek el rx.rv)
    refine ⟨ad, rfl, isd, tE_bind G1 h2 fun rk ε2 Z2 H2 y s2 G2 ry h3 => ?_⟩
    obtain ⟨g', ε', Z', G', hp⟩ : ∃ (g' : Ent) (ε' : Sg) (Z' : Hp), Good X.K g' σ ε' Z' H2 ∧ Post E X W g' σ Z' (fun rd ε3 Z3 H3 => ∀ v, RvR X.K g' σ ε3 Z3 H3 rd v → ∃ o, DGet H3 ad y o ∧ Q (o.getD v) H3) (evE E Φ d ε') := by
      refine ⟨g, ε2, Z2, G2, h3.split.imp fun rd ε3 Z3 H3 s3 G3 h4 v rv => ?_⟩
      split at h4
      · rename_i pd ε4 ef
        obtain ⟨Z4, s4, G4, rp4⟩ := G3.frz ef rv
        split at h4
        · rename_i l q el2 eq
          split at h4
          · rename_i kk ek2
            obtain ⟨o, dg, ho⟩ := dget_view G4.zh (G4.peek el2 (((rx.mono s2).mono s3).mono s4).rv) (G4.peek eq ((ry.mono s3).mono s4).rv) ek2
            refine ⟨o, dg, ?_⟩
            rcases ho with ⟨z1, rfl⟩ | ⟨p, v', e1, rfl, rp⟩
            · rw [z1] at h4
              exact h4 Z4 H3 s4 G4 _ rp4
            · rw [e1] at h4
              exact h4 Z4 H3 s4 G4 _ rp
          · exact h4.elim
        · exact h4.elim
      · exact h4.elim
    exact ⟨g', ε', Z', G', hp⟩
  · exact h2.elim
/-! ### a list of one's own is changed -/
theorem Good.setOwn {g : Ent} {σ : St} {ε : Sg} {Z H : Hp} {i : Nat} {a : Addr} {kk : Bool} {p p' : PV} {o : HO} (G : Good X.K g σ ε Z H) (e : ε[i]? = some (.own kk p)) (es : σ[i]? = some (some (V.ref a))) (r : OwnR X.K Z (upd H a o) a p') :
    Good X.K g σ (ε.set i (.own kk p')) Z (upd H a o) := by
  obtain ⟨b, h1, h2, h3, _⟩ := G.slot _ _ e
  rw [es] at h1
  cases h1
  refine G.call (as := [a]) (is := [i]) (outs := [p']) (.cons ⟨es, _, _, e⟩ .nil) (by simp) (by unfold setOuts; rw [e]; rfl) ⟨.refl _, fun b u q => ?_, fun b u q hb => ?_, fun b q => ?_, fun b z => .inl z, .cons r .nil⟩
  · rw [upd_ne (ne_of_none q h2)]; exact G.zh _ _ q
  · rw [upd_ne (by simpa using hb)]; exact q
  · by_cases hb : b = a
    · subst hb; rw [upd_same] at q; cases q
    · rw [upd_ne hb] at q; exact q
theorem mu_start (ok : Okx E Φ k S W X) {g : Ent} {σ : St} {ε : Sg} {Z H : Hp} {i : Nat} {l : List PV} (G : Good X.K g σ ε Z H) (e : peekS ε i = some (.lst l)) : ∃ a, σ[i]? = some (some (V.ref a)) ∧ tyV X.K "list" (.ref a) H := by
  obtain ⟨v, h1, h2⟩ := G.peekS e
  obtain ⟨a, vs, rfl, h3, _⟩ := h2.lst G.zh
  exact ⟨a, h1, .inl ⟨rfl, vs, .inl h3⟩⟩
theorem opMut_pop {p p' r : PV} (e : opMut .pop p [] = some (p', r)) : ∃ l, p = .lst l ∧ l[l.length - 1]? = some r ∧ p' = .lst l.dropLast := by
  cases p with
  | lst l =>
    refine ⟨l, rfl, ?_⟩
    have e : (match l[l.length - 1]? with | some p => some (PV.lst l.dropLast, p) | none => none) = some (p', r) := e
    cases h : l[l.length - 1]? with
    | none => rw [h] at e; cases e
    | some q => rw [h] at e; cases e; exact ⟨rfl, rfl⟩
  | _ => cases e
theorem opMut_append {p p' r : PV} {ps : List PV} (e : opMut .append p ps = some (p', r)) : ∃ (l : List PV) (q : PV), p = .lst l ∧ ps = [q] ∧ l.length < sizeLine ∧ p' = .lst (l ++ [q]) ∧ r = .non := by
  cases p <;> first | (cases e; done) | skip
  rename_i l
  match ps, e with
  | [], e => cases e
  | q :: q2 :: ps, e => cases e
  | [q], e =>
    have e : (if l.length < sizeLine then some (PV.lst (l ++ [q]), PV.non) else none) = some (p', r) := e
    split at e
    · rename_i h
      cases e
      exact ⟨l, q, rfl, rfl, h, rfl, rfl⟩
    · cases e
theorem s_append (ok : Okx E Φ k S W X) {i : Nat} {a : IE} {x : Str} {e : Expr} {px apos cpos : Pos} (hv : (decide (S.N[i]? = some x) && visB S.sc x && okN x) = true) (hline : (apos.endLine == cpos.line) = true) (hs : noStar e = true)
    (ha : PA X [e] (tA E Φ X W [a])) : PE X (.Call (.Attribute (.Name x px) "append" apos) [e] [] cpos) (tE E Φ X W (.mut .append i [a])) := by
  refine ⟨fun pins s σ H Q I hq => ?_⟩
  obtain ⟨g, ε, Z, G, h1⟩ := hq
  refine (pe_bm PySem.F.plainAttrs_list PySem.F.slot_list_append PySem.F.type_list_append mt_append (ok.vis hv) ha rfl (by rw [starEach_no hs]; rfl) hline (starEach_no hs) rfl).run pins s σ H Q I ?_
  have h1 : Post E X W g σ Z (PR X g σ Q) (if 1 = 1 then match peekS ε i with
    | some (.lst _) => (evA E Φ [a] ε).bind fun rs ε1 => match Eng.frzL rs ε1 with
      | some (ps, ε2) => match ε2[i]? with
        | some (.own k p) => match opMut .append p ps with
          | some (p', r) => .ok (.val r) (ε2.set i (.own k p'))
          | none => .stuck
        | _ => .stuck
      | none => .stuck
    | _ => .stuck else .stuck) := h1
  rw [if_pos rfl] at h1
  split at h1
  · rename_i l el
    obtain ⟨b, hb, ty⟩ := mu_start ok G el
    refine ⟨.ref b, hb, ty, tA_bind G h1 fun rs ε1 Z1 H1 vs s1 G1 rl h2 => ?_⟩
    split at h2
    · rename_i ps ε2 ef
      obtain ⟨Z2, s2, G2, r2⟩ := G1.frzL ef rl
      split at h2
      · rename_i kk p ei
        obtain ⟨b', e1, e2, e3, _⟩ := G2.slot _ _ ei
        rw [hb] at e1
        cases e1
        cases eo : opMut .append p ps with
        | none => rw [eo] at h2; exact h2.elim
        | some q =>
          obtain ⟨p', r⟩ := q
          rw [eo] at h2
          obtain ⟨l', p1, rfl, rfl, hz, rfl, rfl⟩ := opMut_append eo
          obtain ⟨xs, e4, r4⟩ := e3
          obtain ⟨y, rfl, r5⟩ := r2.one
          refine ⟨b, xs, y, rfl, rfl, e4, by rw [r4.length]; exact hz, ?_⟩
          exact h2 Z2 _ s2 (G2.setOwn ei hb ⟨_, upd_same, r4.snoc r5⟩) _ .non
      · exact h2.elim
    · exact h2.elim
  · exact h1.elim
theorem s_pop (ok : Okx E Φ k S W X) {i : Nat} {x : Str} {px apos cpos : Pos} (hv : (decide (S.N[i]? = some x) && visB S.sc x && okN x) = true) (hline : (apos.endLine == cpos.line) = true) :
    PE X (.Call (.Attribute (.Name x px) "pop" apos) [] [] cpos) (tE E Φ X W (.mut .pop i [])) := by
  refine ⟨fun pins s σ H Q I hq => ?_⟩
  obtain ⟨g, ε, Z, G, h1⟩ := hq
  refine (pe_bm0 PySem.F.plainAttrs_list PySem.F.slot_list_pop PySem.F.type_list_pop mt_pop (ok.vis hv) rfl hline).run pins s σ H Q I ?_
  have h1 : Post E X W g σ Z (PR X g σ Q) (if 0 = 0 then match peekS ε i with
    | some (.lst _) => match ε[i]? with
        | some (.own k p) => match opMut .pop p [] with
          | some (p', r) => .ok (.val r) (ε.set i (.own k p'))
          | none => .stuck
        | _ => .stuck
    | _ => .stuck else .stuck) := h1
  rw [if_pos rfl] at h1
  split at h1
  · rename_i l el
    obtain ⟨b, hb, ty⟩ := mu_start ok G el
    refine ⟨.ref b, hb, ty, ?_⟩
    split at h1
    · rename_i kk p ei
      obtain ⟨b', e1, e2, e3, _⟩ := G.slot _ _ ei
      rw [hb] at e1
      cases e1
      cases eo : opMut .pop p [] with
      | none => rw [eo] at h1; exact h1.elim
      | some q =>
        obtain ⟨p', r⟩ := q
        rw [eo] at h1
        obtain ⟨l', rfl, hy, rfl⟩ := opMut_pop eo
        obtain ⟨xs, e4, r4⟩ := e3
        obtain ⟨w, h5, r5⟩ := r4.get hy
        refine ⟨b, xs, w, rfl, rfl, e4, by rw [r4.length]; exact h5, ?_⟩
        refine h1 Z _ (.refl _) (G.setOwn ei hb ⟨_, upd_same, ?_⟩) _ r5
        rw [List.dropLast_eq_take, List.dropLast_eq_take, r4.length]
        exact r4.take _
    · exact h1.elim
  · exact h1.elim
theorem opMut_popAt {p p' r : PV} {ps : List PV} (e : opMut .popAt p ps = some (p', r)) : ∃ (l : List PV) (i : Int), p = .lst l ∧ ps = [.int i] ∧ 0 ≤ i ∧ i < 2 ^ 62 ∧ l[i.toNat]? = some r ∧ p' = .lst (l.eraseIdx i.toNat) := by
  cases p <;> first | (cases e; done) | skip
  rename_i l
  match ps, e with
  | [], e => cases e
  | q :: q2 :: ps, e => cases q <;> cases e
  | [q], e =>
    cases q <;> first | (cases e; done) | skip
    rename_i i
    have e : (if ixB i = true then match l[i.toNat]? with | some p => some (PV.lst (l.eraseIdx i.toNat), p) | none => none else none) = some (p', r) := e
    split at e
    · rename_i h0
      have h : 0 ≤ i ∧ i < 2 ^ 62 := of_decide_eq_true h0
      cases hq : l[i.toNat]? with
      | none => rw [hq] at e; cases e
      | some y => rw [hq] at e; cases e; exact ⟨l, i, rfl, rfl, h.1, h.2, hq, rfl⟩
    · cases e
theorem opMut_insert {p p' r : PV} {ps : List PV} (e : opMut .insert p ps = some (p', r)) : ∃ (l : List PV) (i : Int) (q : PV), p = .lst l ∧ ps = [.int i, q] ∧ 0 ≤ i ∧ i < 2 ^ 62 ∧ l.length < sizeLine ∧ p' = .lst (l.take i.toNat ++ [q] ++ l.drop i.toNat) ∧ r = .non := by
  cases p <;> first | (cases e; done) | skip
  rename_i l
  match ps, e with
  | [], e => cases e
  | [q], e => cases q <;> cases e
  | q :: q2 :: q3 :: ps, e => cases q <;> cases e
  | [q, q2], e =>
    cases q <;> first | (cases e; done) | skip
    rename_i i
    have e : (if ixB i = true ∧ l.length < sizeLine then some (PV.lst (l.take i.toNat ++ [q2] ++ l.drop i.toNat), PV.non) else none) = some (p', r) := e
    split at e
    · rename_i h
      have h0 : 0 ≤ i ∧ i < 2 ^ 62 := of_decide_eq_true h.1
      cases e
      exact ⟨l, i, q2, rfl, rfl, h0.1, h0.2, h.2, rfl, rfl⟩
    · cases e
theorem seqIx {i : Int} {n : Nat} (h0 : 0 ≤ i) (h : i.toNat < n) : seqIndex? i n = some i.toNat := by
  unfold seqIndex?
  have h1 : ¬ i < 0 := by omega
  have h2 : i < n := by omega
  simp [h1, h0, h2]
theorem s_popAt (ok : Okx E Φ k S W X) {i : Nat} {a : IE} {x : Str} {e : Expr} {px apos cpos : Pos} (hv : (decide (S.N[i]? = some x) && visB S.sc x && okN x) = true) (hline : (apos.endLine == cpos.line) = true) (hs : noStar e = true)
    (ha : PA X [e] (tA E Φ X W [a])) : PE X (.Call (.Attribute (.Name x px) "pop" apos) [e] [] cpos) (tE E Φ X W (.mut .popAt i [a])) := by
  refine ⟨fun pins s σ H Q I hq => ?_⟩
  obtain ⟨g, ε, Z, G, h1⟩ := hq
  refine (pe_bm PySem.F.plainAttrs_list PySem.F.slot_list_pop PySem.F.type_list_pop mt_popAt (ok.vis hv) ha rfl (by rw [starEach_no hs]; rfl) hline (starEach_no hs) rfl).run pins s σ H Q I ?_
  have h1 : Post E X W g σ Z (PR X g σ Q) (if 1 = 1 then match peekS ε i with
    | some (.lst _) => (evA E Φ [a] ε).bind fun rs ε1 => match Eng.frzL rs ε1 with
      | some (ps, ε2) => match ε2[i]? with
        | some (.own k p) => match opMut .popAt p ps with
          | some (p', r) => .ok (.val r) (ε2.set i (.own k p'))
          | none => .stuck
        | _ => .stuck
      | none => .stuck
    | _ => .stuck else .stuck) := h1
  rw [if_pos rfl] at h1
  split at h1
  · rename_i l el
    obtain ⟨b, hb, ty⟩ := mu_start ok G el
    refine ⟨.ref b, hb, ty, tA_bind G h1 fun rs ε1 Z1 H1 vs s1 G1 rl h2 => ?_⟩
    split at h2
    · rename_i ps ε2 ef
      obtain ⟨Z2, s2, G2, r2⟩ := G1.frzL ef rl
      split at h2
      · rename_i kk p ei
        obtain ⟨b', e1, e2, e3, _⟩ := G2.slot _ _ ei
        rw [hb] at e1
        cases e1
        cases eo : opMut .popAt p ps with
        | none => rw [eo] at h2; exact h2.elim
        | some q =>
          obtain ⟨p', r⟩ := q
          rw [eo] at h2
          obtain ⟨l', j, rfl, rfl, j0, j1, hy, rfl⟩ := opMut_popAt eo
          obtain ⟨xs, e4, r4⟩ := e3
          obtain ⟨y, rfl, r5⟩ := r2.one
          cases r5
          obtain ⟨w, h5, r5⟩ := r4.get hy
          have lt := (List.getElem?_eq_some_iff.mp h5).1
          exact ⟨b, xs, j, j.toNat, w, rfl, rfl, e4, by omega, by omega, seqIx j0 lt, h5, h2 Z2 _ s2 (G2.setOwn ei hb ⟨_, upd_same, r4.erase _⟩) _ r5⟩
      · exact h2.elim
    · exact h2.elim
  · exact h1.elim
theorem s_insert (ok : Okx E Φ k S W X) {i : Nat} {a c : IE} {x : Str} {e d : Expr} {px apos cpos : Pos} (hv : (decide (S.N[i]? = some x) && visB S.sc x && okN x) = true) (hline : (apos.endLine == cpos.line) = true) (hs : noStar e = true) (hd : noStar d = true)
    (ha : PA X [e, d] (tA E Φ X W [a, c])) : PE X (.Call (.Attribute (.Name x px) "insert" apos) [e, d] [] cpos) (tE E Φ X W (.mut .insert i [a, c])) := by
  refine ⟨fun pins s σ H Q I hq => ?_⟩
  obtain ⟨g, ε, Z, G, h1⟩ := hq
  refine (pe_bm PySem.F.plainAttrs_list PySem.F.slot_list_insert PySem.F.type_list_insert mt_insert (ok.vis hv) ha rfl (by rw [starEach_no hs, starEach_no hd]; rfl) hline (starEach_no hs) (by rw [starEach_no hd]; rfl)).run pins s σ H Q I ?_
  have h1 : Post E X W g σ Z (PR X g σ Q) (if 2 = 2 then match peekS ε i with
    | some (.lst _) => (evA E Φ [a, c] ε).bind fun rs ε1 => match Eng.frzL rs ε1 with
      | some (ps, ε2) => match ε2[i]? with
        | some (.own k p) => match opMut .insert p ps with
          | some (p', r) => .ok (.val r) (ε2.set i (.own k p'))
          | none => .stuck
        | _ => .stuck
      | none => .stuck
    | _ => .stuck else .stuck) := h1
  rw [if_pos rfl] at h1
  split at h1
  · rename_i l el
    obtain ⟨b, hb, ty⟩ := mu_start ok G el
    refine ⟨.ref b, hb, ty, tA_bind G h1 fun rs ε1 Z1 H1 vs s1 G1 rl h2 => ?_⟩
    split at h2
    · rename_i ps ε2 ef
      obtain ⟨Z2, s2, G2, r2⟩ := G1.frzL ef rl
      split at h2
      · rename_i kk p ei
        obtain ⟨b', e1, e2, e3, _⟩ := G2.slot _ _ ei
        rw [hb] at e1
        cases e1
        cases eo : opMut .insert p ps with
        | none => rw [eo] at h2; exact h2.elim
        | some q =>
          obtain ⟨p', r⟩ := q
          rw [eo] at h2
          obtain ⟨l', j, q, rfl, rfl, j0, j1, hz, rfl, rfl⟩ := opMut_insert eo
          obtain ⟨xs, e4, r4⟩ := e3
          cases r2 with
          | cons r5 r6 =>
            cases r5
            obtain ⟨y, rfl, r7⟩ := r6.one
            exact ⟨b, xs, j, y, rfl, rfl, e4, by rw [r4.length]; exact hz, by omega, by omega, h2 Z2 _ s2 (G2.setOwn ei hb ⟨_, upd_same, ((r4.take _).snoc r7).append (r4.drop _)⟩) _ .non⟩
      · exact h2.elim
    · exact h2.elim
  · exact h1.elim
end
end Eng

namespace Eng
open PySem PySem.Spec L2
open PyProof.Rows hiding St

section
variable {E : Eng} {Φ : Nat → List PV → CO} {k : Nat} {S : Stc} {X : Cx} {W : WX}

/-! ### targets -/
theorem Good.setVal {g : Ent} {σ : St} {ε : Sg} {Z H : Hp} {i : Nat} {p : PV} {v : V} (G : Good X.K g σ ε Z H) (hi : i < ε.length) (hn : ∀ q, ε[i]? ≠ some (.own false q)) (r : Rp X.K Z p v) : Good X.K g (σ.set i (some v)) (ε.set i (.val p)) Z H where
  len := by rw [List.length_set, List.length_set]; exact G.len
  slot := fun j s hs => by
    rcases getElem?_set_eq hs with ⟨rfl, rfl⟩ | ⟨nj, hs⟩
    · exact ⟨v, by rw [List.getElem?_set_self (by rw [G.len]; exact hi)], r⟩
    · have q := G.slot j s hs
      cases s with
      | none => trivial
      | val p => obtain ⟨u, q1, q2⟩ := q; exact ⟨u, by rw [List.getElem?_set_ne (Ne.symm nj)]; exact q1, q2⟩
      | own k p => obtain ⟨b, q1, q2⟩ := q; exact ⟨b, by rw [List.getElem?_set_ne (Ne.symm nj)]; exact q1, q2⟩
  dis := fun j l a oj ol ej el => by
    obtain ⟨nj, oj⟩ := isOwn_set_val oj
    obtain ⟨nl, ol⟩ := isOwn_set_val ol
    rw [List.getElem?_set_ne (Ne.symm nj)] at ej
    rw [List.getElem?_set_ne (Ne.symm nl)] at el
    exact G.dis j l a oj ol ej el
  zh := G.zh
  hh := G.hh
  al := G.al
  zf := G.zf
  zz := G.zz
  io := fun j a hj => by
    obtain ⟨h1, p', h2⟩ := G.io j a hj
    have nj : i ≠ j := fun z => by subst z; exact hn _ h2
    exact ⟨by rw [List.getElem?_set_ne nj]; exact h1, p', by rw [List.getElem?_set_ne nj]; exact h2⟩
  pr := fun q hq => by
    obtain ⟨q1, q2, q3⟩ := G.pr q hq
    refine ⟨q1, q2, fun j oj => ?_⟩
    obtain ⟨nj, oj⟩ := isOwn_set_val oj
    rw [List.getElem?_set_ne (Ne.symm nj)]
    exact q3 j oj
/-- what is wanted of a target -/
def gT (X : Cx) (t : Tg) : TG := fun v σ H Q => ∃ g ε Z p ε', Good X.K g σ ε Z H ∧ Rp X.K Z p v ∧ asgT t p ε = some ε' ∧ ∀ σ', Good X.K g σ' ε' Z H → (∀ j, j ∉ tgS t → σ'[j]? = σ[j]?) → Q σ' H
def gTs (X : Cx) (ts : List Tg) : TGs := fun vs σ H Q => ∃ g ε Z ps ε', Good X.K g σ ε Z H ∧ RpL X.K Z ps vs ∧ asgTs ts ps ε = some ε' ∧ ∀ σ', Good X.K g σ' ε' Z H → (∀ j, j ∉ tgSs ts → σ'[j]? = σ[j]?) → Q σ' H
theorem assignEach_no : ∀ {es : List Expr} {env : Env}, (∀ e ∈ es, noStar e = true) → (assignEach es env).length = es.length ∧ (assignEach es env).findIdx? (·.1) = none
  | [], _, _ => ⟨rfl, rfl⟩
  | e :: es, env, h => by
    obtain ⟨h1, h2⟩ := assignEach_no (es := es) (env := env) fun x hx => h x (List.mem_cons_of_mem _ hx)
    have e1 : assignEach (e :: es) env = (false, assign e env) :: assignEach es env := by
      have := h e List.mem_cons_self
      cases e <;> first | rfl | cases this
    rw [e1]
    refine ⟨by rw [List.length_cons, h1, List.length_cons], ?_⟩
    rw [List.findIdx?_cons, h2]
    rfl
theorem stB_of {so : Scope} {x : Str} (h : stB so x = true) : so.names.lookup x = some .local ∨ so.names.lookup x = some .cell := by
  unfold stB at h
  split at h
  · exact .inl (by assumption)
  · exact .inr (by assumption)
  · cases h
theorem mtTs_star : ∀ {l : List Tg} {es : List Expr}, mtTs S l es = true → es.length = l.length ∧ ∀ e ∈ es, noStar e = true
  | [], [], _ => ⟨rfl, fun e he => absurd he (by simp)⟩
  | [], _ :: _, h => by cases h
  | _ :: _, [], h => by cases h
  | a :: l, e :: es, h => by
    unfold mtTs at h
    simp only [Bool.and_eq_true] at h
    obtain ⟨h1, h2⟩ := mtTs_star h.1.2
    refine ⟨by simp [h1], fun x hx => ?_⟩
    rcases List.mem_cons.mp hx with rfl | hx
    · exact h.2
    · exact h2 x hx
theorem asgTs_len : ∀ {ts : List Tg} {ps : List PV} {ε ε' : Sg}, asgTs ts ps ε = some ε' → ps.length = ts.length
  | [], [], _, _, _ => rfl
  | [], _ :: _, _, _, e => by cases e
  | _ :: _, [], _, _, e => by cases e
  | t :: ts, p :: ps, ε, ε', e => by
    unfold asgTs at e
    split at e
    · rw [List.length_cons, List.length_cons, asgTs_len e]
    · cases e
mutual
theorem s_tg (ok : Okx E Φ k S W X) : ∀ {t : Tg} {ex : Expr}, mtT S t ex = true → PG X ex (gT X t)
  | .nm i, ex, m => by
    cases ex <;> first | (exact absurd m Bool.false_ne_true) | skip
    rename_i x pos
    have m : (decide (S.N[i]? = some x) && stB S.so x) = true := m
    simp only [Bool.and_eq_true, decide_eq_true_eq] at m
    obtain ⟨lo, fn⟩ := ok.st x (stB_of m.2)
    refine ⟨fun pins s σ H v u Q I r hq => ?_⟩
    obtain ⟨g, ε, Z, p, ε', G, rp, e, q⟩ := hq
    have hi : X.N[i]? = some x := by rw [ok.N]; exact m.1
    refine (pg_name (by rw [ok.N]; exact ok.nd) hi lo fn).run pins s σ H v u Q I r ?_
    have e : (match ε[i]? with | some (.own false _) => none | some _ => some (ε.set i (.val p)) | none => none) = some ε' := e
    split at e
    · cases e
    · rename_i s' hno hs
      cases e
      refine q _ (G.setVal (List.getElem?_eq_some_iff.mp hs).1 (fun q z => by rw [hs] at z; cases z; exact hno _ rfl) rp) fun j hj => ?_
      have hj : j ∉ [i] := hj
      rw [List.getElem?_set_ne]
      intro z
      exact hj (by simp [z])
    · cases e
  | .tp l, ex, m => by
    cases ex <;> first | (exact absurd m Bool.false_ne_true) | skip
    rename_i es n pos
    have m : mtTs S l es = true := m
    obtain ⟨hlen, hst⟩ := mtTs_star m
    obtain ⟨a1, a2⟩ := assignEach_no (env := X.env) hst
    refine ⟨fun pins s σ H v u Q I r hq => ?_⟩
    obtain ⟨g, ε, Z, p, ε', G, rp, e, q⟩ := hq
    cases p <;> first | (cases e; done) | skip
    · rename_i ps
      have e : asgTs l ps ε = some ε' := e
      obtain ⟨a, vs, rfl, h1, h2⟩ := View.tup G.zh (.inl rp)
      refine (pg_tup ok.calm (s_tgs ok m) a1 a2).run pins s σ H _ u Q I r ?_
      exact ⟨a, vs, rfl, h1, by rw [h2.length, asgTs_len e, hlen], g, ε, Z, ps, ε', G, h2, e, q⟩
    · rename_i ps
      have e : asgTs l ps ε = some ε' := e
      obtain ⟨a, vs, rfl, h1, h2⟩ := View.lst G.zh (.inl rp)
      refine (pg_lst ok.calm (s_tgs ok m) a1 a2).run pins s σ H _ u Q I r ?_
      exact ⟨a, vs, rfl, .inl h1, by rw [h2.length, asgTs_len e, hlen], g, ε, Z, ps, ε', G, h2, e, q⟩
theorem s_tgs (ok : Okx E Φ k S W X) : ∀ {ts : List Tg} {es : List Expr}, mtTs S ts es = true → PGs X es (gTs X ts)
  | [], es, m => by
    cases es <;> first | (exact absurd m Bool.false_ne_true) | skip
    refine ⟨fun pins s σ H vs us Q I r hq => ?_⟩
    obtain ⟨g, ε, Z, ps, ε', G, rp, e, q⟩ := hq
    cases ps <;> first | (cases e; done) | skip
    cases e
    cases rp
    exact pgs_nil.run pins s σ H _ us Q I r ⟨rfl, q σ G fun _ _ => rfl⟩
  | t :: ts, es, m => by
    cases es with
    | nil => exact absurd m Bool.false_ne_true
    | cons e0 es =>
    have m : (mtT S t e0 && mtTs S ts es && noStar e0) = true := m
    simp only [Bool.and_eq_true] at m
    have ea : assignEach (e0 :: es) X.env = (false, assign e0 X.env) :: assignEach es X.env := by
      have := m.2
      cases e0 <;> first | rfl | cases this
    refine ⟨fun pins s σ H vs us Q I r hq => ?_⟩
    obtain ⟨g, ε, Z, ps, ε', G, rp, e, q⟩ := hq
    cases ps with
    | nil => cases e
    | cons p ps =>
    cases rp with
    | @cons _ v _ vs h t' =>
    unfold asgTs at e
    split at e
    · rename_i ε1 e1
      refine (pgs_cons (s_tg ok m.1.1) (s_tgs ok m.1.2) (by rw [ea]; rfl)).run pins s σ H _ us Q I r ?_
      refine ⟨v, vs, rfl, g, ε, Z, p, ε1, G, h, e1, fun σ1 G1 k1 => ?_⟩
      refine ⟨g, ε1, Z, ps, ε', G1, t', e, fun σ2 G2 k2 => q σ2 G2 fun j hj => ?_⟩
      have hj : j ∉ tgS t ++ tgSs ts := hj
      rw [List.mem_append, not_or] at hj
      rw [k2 j hj.2, k1 j hj.1]
    · cases e
end
end
end Eng

set_option maxHeartbeats 4000000
namespace Eng
open PySem PySem.Spec L2
open PyProof.Rows hiding St

/-! ### what is walked -/
structure SrcJ (K : Fg) (r : Rv) (v : V) (po : Option PV) (items : List PV) (J : It) (Z0 : Hp) : Prop where
  stop : ∀ {g : Ent} {i : Nat} {τ : St} {ε : Sg} {Z H : Hp}, Same Z0 Z → Good K g τ ε Z H → r.peek ε = po → OpdR K τ Z r v → items.length ≤ i → J.stop i H
  go : ∀ {g : Ent} {i : Nat} {τ : St} {ε : Sg} {Z H : Hp}, Same Z0 Z → Good K g τ ε Z H → r.peek ε = po → OpdR K τ Z r v → i < items.length → J.go i H
  yld : ∀ {g : Ent} {i : Nat} {τ : St} {ε : Sg} {Z H H' : Hp} {x : V} {p : PV}, Same Z0 Z → Good K g τ ε Z H → r.peek ε = po → OpdR K τ Z r v → J.yld i H x H' → items[i]? = some p →
    ∃ Z', Same Z Z' ∧ Good K g τ ε Z' H' ∧ Rp K Z' p x ∧ ∀ b, H b ≠ none → H' b = H b ∧ Z' b = Z b
section
variable {X : Cx} {g : Ent} {r : Rv} {a : Addr} {l : List PV} {Z0 : Hp}
theorem src_tup : SrcJ X.K r (.ref a) (some (.tup l)) l (Itt X.K a) Z0 where
  stop := fun {g i τ ε Z H} _ G pk ro hl => by
    obtain ⟨a', vs, ea, h4, h5⟩ := (G.peek pk ro.rv).tup G.zh
    cases ea
    exact ⟨vs, h4, by rw [h5.length]; exact hl⟩
  go := fun {g i τ ε Z H} _ G pk ro hl => by
    obtain ⟨a', vs, ea, h4, h5⟩ := (G.peek pk ro.rv).tup G.zh
    cases ea
    obtain ⟨x, hx, _⟩ := h5.get (List.getElem?_eq_getElem hl)
    exact ⟨vs, x, h4, hx⟩
  yld := fun {g i τ ε Z H H' x p} _ G pk ro y hp => by
    obtain ⟨a', vs, ea, h4, h5⟩ := (G.peek pk ro.rv).tup G.zh
    cases ea
    obtain ⟨rfl, y⟩ := y
    obtain ⟨x', hx, rp⟩ := h5.get hp
    rw [y vs h4] at hx
    cases hx
    exact ⟨Z, .refl _, G, rp, fun _ _ => ⟨rfl, rfl⟩⟩
/-- a list, whichever -/
theorem view_list {K : Fg} {Z H : Hp} {p0 : PV} {v : V} (zh : Same Z H) (e : p0 = .lst l ∨ p0 = .scr l) (h : View K Z H p0 v) : ∃ a xs, v = .ref a ∧ SqL K H a xs ∧ RpL K Z l xs := by
  rcases e with rfl | rfl
  · obtain ⟨a, vs, rfl, h1, h2⟩ := h.lst zh
    exact ⟨a, vs, rfl, .inl h1, h2⟩
  · obtain ⟨a, vs, rfl, h1, h2⟩ := h.scr zh
    exact ⟨a, vs, rfl, h1, h2⟩
theorem src_lst {p0 : PV} (e0 : p0 = .lst l ∨ p0 = .scr l) : SrcJ X.K r (.ref a) (some p0) l (Itl X.K a) Z0 where
  stop := fun {g i τ ε Z H} _ G pk ro hl => by
    obtain ⟨a', vs, ea, h4, h5⟩ := view_list G.zh e0 (G.peek pk ro.rv)
    cases ea
    exact ⟨vs, h4, by rw [h5.length]; exact hl⟩
  go := fun {g i τ ε Z H} _ G pk ro hl => by
    obtain ⟨a', vs, ea, h4, h5⟩ := view_list G.zh e0 (G.peek pk ro.rv)
    cases ea
    obtain ⟨x, hx, _⟩ := h5.get (List.getElem?_eq_getElem hl)
    exact ⟨vs, x, h4, hx⟩
  yld := fun {g i τ ε Z H H' x p} _ G pk ro y hp => by
    obtain ⟨a', vs, ea, h4, h5⟩ := view_list G.zh e0 (G.peek pk ro.rv)
    cases ea
    obtain ⟨rfl, y⟩ := y
    obtain ⟨x', hx, rp⟩ := h5.get hp
    rw [y vs h4] at hx
    cases hx
    exact ⟨Z, .refl _, G, rp, fun _ _ => ⟨rfl, rfl⟩⟩
theorem src_rng {lo : Int} {n : Nat} {v : V} : SrcJ X.K (.val .non) v (some .non) (rngL lo n) (Itr lo n) Z0 where
  stop := fun {g i τ ε Z H} _ G pk ro hl => by
    have hl : ((List.range n).map fun k => PV.int (lo + (k : Nat))).length ≤ i := hl
    rw [List.length_map, List.length_range] at hl
    exact hl
  go := fun {g i τ ε Z H} _ G pk ro hl => by
    have hl : i < ((List.range n).map fun k => PV.int (lo + (k : Nat))).length := hl
    rw [List.length_map, List.length_range] at hl
    exact hl
  yld := fun {g i τ ε Z H H' x p} _ G pk ro y hp => by
    obtain ⟨rfl, rfl⟩ := y
    have hp : ((List.range n).map fun k => PV.int (lo + (k : Nat)))[i]? = some p := hp
    rw [List.getElem?_map] at hp
    cases e : (List.range n)[i]? with
    | none => rw [e] at hp; cases hp
    | some j =>
      rw [e] at hp
      cases hp
      have : j = i := by
        have h := List.getElem?_eq_some_iff.mp e
        obtain ⟨h1, h2⟩ := h
        rw [List.getElem_range] at h2
        exact h2.symm
      subst this
      exact ⟨Z, .refl _, G, .int _, fun _ _ => ⟨rfl, rfl⟩⟩
theorem src_rngC {lo c : Int} {n : Nat} {v : V} : SrcJ X.K (.val .non) v (some .non) (rngC lo c n) (Itc lo c n) Z0 where
  stop := fun {g i τ ε Z H} _ G pk ro hl => by
    have hl : ((List.range n).map fun k => PV.int (lo + (k : Nat) * c)).length ≤ i := hl
    rw [List.length_map, List.length_range] at hl
    exact hl
  go := fun {g i τ ε Z H} _ G pk ro hl => by
    have hl : i < ((List.range n).map fun k => PV.int (lo + (k : Nat) * c)).length := hl
    rw [List.length_map, List.length_range] at hl
    exact hl
  yld := fun {g i τ ε Z H H' x p} _ G pk ro y hp => by
    obtain ⟨rfl, rfl⟩ := y
    have hp : ((List.range n).map fun k => PV.int (lo + (k : Nat) * c))[i]? = some p := hp
    rw [List.getElem?_map] at hp
    cases e : (List.range n)[i]? with
    | none => rw [e] at hp; cases hp
    | some j =>
      rw [e] at hp
      cases hp
      have : j = i := by
        have h := List.getElem?_eq_some_iff.mp e
        obtain ⟨h1, h2⟩ := h
        rw [List.getElem_range] at h2
        exact h2.symm
      subst this
      exact ⟨Z, .refl _, G, .int _, fun _ _ => ⟨rfl, rfl⟩⟩
theorem rev_get {α : Type} {l : List α} {i : Nat} (h : i < l.length) : l.reverse[i]? = l[l.length - 1 - i]? := by
  rw [List.getElem?_reverse h]
theorem src_revL {p0 : PV} (e0 : p0 = .lst l ∨ p0 = .scr l) : SrcJ X.K r (.ref a) (some p0) l.reverse (Itv X.K a l.length) Z0 where
  stop := fun {g i τ ε Z H} _ G pk ro hl => by
    rw [List.length_reverse] at hl
    exact hl
  go := fun {g i τ ε Z H} _ G pk ro hl => by
    rw [List.length_reverse] at hl
    obtain ⟨a', vs, ea, h4, h5⟩ := view_list G.zh e0 (G.peek pk ro.rv)
    cases ea
    obtain ⟨x, hx, _⟩ := h5.get (i := l.length - 1 - i) (List.getElem?_eq_getElem (by omega))
    exact ⟨hl, vs, x, h4, hx⟩
  yld := fun {g i τ ε Z H H' x p} _ G pk ro y hp => by
    obtain ⟨a', vs, ea, h4, h5⟩ := view_list G.zh e0 (G.peek pk ro.rv)
    cases ea
    obtain ⟨rfl, y⟩ := y
    have hi : i < l.length := by
      have := (List.getElem?_eq_some_iff.mp hp).1
      rwa [List.length_reverse] at this
    rw [rev_get hi] at hp
    obtain ⟨x', hx, rp⟩ := h5.get hp
    rw [y vs h4] at hx
    cases hx
    exact ⟨Z, .refl _, G, rp, fun _ _ => ⟨rfl, rfl⟩⟩
theorem src_revT : SrcJ X.K r (.ref a) (some (.tup l)) l.reverse (RT.ItvT X.K a l.length) Z0 where
  stop := fun {g i τ ε Z H} _ G pk ro hl => by
    rw [List.length_reverse] at hl
    exact hl
  go := fun {g i τ ε Z H} _ G pk ro hl => by
    rw [List.length_reverse] at hl
    obtain ⟨a', vs, ea, h4, h5⟩ := (G.peek pk ro.rv).tup G.zh
    cases ea
    obtain ⟨x, hx, _⟩ := h5.get (i := l.length - 1 - i) (List.getElem?_eq_getElem (by omega))
    exact ⟨hl, vs, x, h4, hx⟩
  yld := fun {g i τ ε Z H H' x p} _ G pk ro y hp => by
    obtain ⟨a', vs, ea, h4, h5⟩ := (G.peek pk ro.rv).tup G.zh
    cases ea
    obtain ⟨rfl, y⟩ := y
    have hi : i < l.length := by
      have := (List.getElem?_eq_some_iff.mp hp).1
      rwa [List.length_reverse] at this
    rw [rev_get hi] at hp
    obtain ⟨x', hx, rp⟩ := h5.get hp
    rw [y vs h4] at hx
    cases hx
    exact ⟨Z, .refl _, G, rp, fun _ _ => ⟨rfl, rfl⟩⟩
theorem src_str {s : Str} {v : V} {po : Option PV} : SrcJ X.K r v po (s.cps.toList.map fun c => .str ⟨#[c]⟩) (Its s) Z0 where
  stop := fun {g i τ ε Z H} _ G pk ro hl => by
    rw [List.length_map, Array.length_toList] at hl
    exact hl
  go := fun {g i τ ε Z H} _ G pk ro hl => by
    rw [List.length_map, Array.length_toList] at hl
    exact hl
  yld := fun {g i τ ε Z H H' x p} _ G pk ro y hp => by
    obtain ⟨rfl, c, hc, rfl⟩ := y
    rw [List.getElem?_map, Array.getElem?_toList, hc] at hp
    cases hp
    exact ⟨Z, .refl _, G, .str _, fun _ _ => ⟨rfl, rfl⟩⟩
end

section
variable {E : Eng} {Φ : Nat → List PV → CO} {k : Nat} {S : Stc} {X : Cx} {W : WX}
def PI2 (X : Cx) (g : Ent) (σ : St) (R : It → Hp → Prop) : Rv × List PV → Sg → Hp → Hp → Prop := fun q ε' Z' H' => ∀ v J, OpdR X.K σ Z' q.1 v → SrcJ X.K q.1 v (q.1.peek ε') q.2 J Z' → R J H'
noncomputable def evI (E : Eng) (Φ : Nat → List PV → CO) (sk : Src) (its : List IE) (ε : Sg) : Out (Rv × List PV) := (evA E Φ its ε).bind fun rs ε1 => match srcI sk rs ε1 with
  | some q => .ok q ε1
  | none => .stuck
def tI (E : Eng) (Φ : Nat → List PV → CO) (X : Cx) (W : WX) (sk : Src) (its : List IE) : TI := fun σ H R => ∃ g ε Z, Good X.K g σ ε Z H ∧ Post E X W g σ Z (PI2 X g σ R) (evI E Φ sk its ε)
/-- one argument -/
theorem evI_one {sk : Src} {e : IE} {ε : Sg} : evI E Φ sk [e] ε = (evE E Φ e ε).bind fun r ε1 => match srcI sk [r.opd] ε1 with
  | some q => .ok q ε1
  | none => .stuck := by
  unfold evI
  show ((evE E Φ e ε).bind fun r ε1 => Out.ok [r.opd] ε1).bind _ = _
  cases evE E Φ e ε <;> rfl
theorem s_srcV {tg : Expr} {e : IE} {ex : Expr} (h : PE X ex (tE E Φ X W e)) : PI X tg ex (tI E Φ X W .val [e]) := by
  refine ⟨fun pins s σ H R I hq => ?_⟩
  obtain ⟨g, ε, Z, G, h1⟩ := hq
  rw [evI_one] at h1
  cases hev : evE E Φ e ε with
  | stuck => rw [hev] at h1; exact h1.elim
  | exc c ε1 =>
    rw [hev] at h1
    refine (pi_list h).run pins s σ H R I ⟨g, ε, Z, G, ?_⟩
    rw [hev]; exact h1
  | ok r ε1 =>
    rw [hev] at h1
    have h1 : Post E X W g σ Z (PI2 X g σ R) (match (r.opd.peek ε1).bind fun p => (itemsOf p).map fun l => (r.opd, l) with | some q => .ok q ε1 | none => .stuck) := h1
    cases ep : r.opd.peek ε1 with
    | none => rw [ep] at h1; exact h1.elim
    | some p0 =>
      rw [ep] at h1
      have h1 : Post E X W g σ Z (PI2 X g σ R) (match (itemsOf p0).map fun l => (r.opd, l) with | some q => .ok q ε1 | none => .stuck) := h1
      cases p0 <;> first | (exact h1.elim) | skip
      · -- a text
        rename_i x _
        refine (pi_str h).run pins s σ H R I ⟨g, ε, Z, G, ?_⟩
        rw [hev]
        intro Z1 H1 s1 G1 v rv
        obtain ⟨Z2, s2, G2, ro⟩ := G1.opd rv
        obtain rfl := (G2.peek ep ro.rv).str
        exact ⟨x, rfl, h1 Z2 H1 (s1.trans s2) G2 _ (Its x) ro src_str⟩
      · rename_i l _
        refine (pi_tup h).run pins s σ H R I ⟨g, ε, Z, G, ?_⟩
        rw [hev]
        intro Z1 H1 s1 G1 v rv
        obtain ⟨Z2, s2, G2, ro⟩ := G1.opd rv
        obtain ⟨a, vs, rfl, h4, h5⟩ := (G2.peek ep ro.rv).tup G2.zh
        refine ⟨a, rfl, ⟨vs, h4⟩, h1 Z2 H1 (s1.trans s2) G2 _ (Itt X.K a) ro ?_⟩
        show SrcJ X.K r.opd _ (r.opd.peek ε1) l _ _
        rw [ep]
        exact src_tup
      · rename_i l _
        refine (pi_list h).run pins s σ H R I ⟨g, ε, Z, G, ?_⟩
        rw [hev]
        intro Z1 H1 s1 G1 v rv
        obtain ⟨Z2, s2, G2, ro⟩ := G1.opd rv
        obtain ⟨a, vs, rfl, h4, h5⟩ := view_list G2.zh (.inl rfl) (G2.peek ep ro.rv)
        refine ⟨a, rfl, ⟨vs, h4⟩, h1 Z2 H1 (s1.trans s2) G2 _ (Itl X.K a) ro ?_⟩
        show SrcJ X.K r.opd _ (r.opd.peek ε1) l _ _
        rw [ep]
        exact src_lst (.inl rfl)
      · rename_i l _
        refine (pi_list h).run pins s σ H R I ⟨g, ε, Z, G, ?_⟩
        rw [hev]
        intro Z1 H1 s1 G1 v rv
        obtain ⟨Z2, s2, G2, ro⟩ := G1.opd rv
        obtain ⟨a, vs, rfl, h4, h5⟩ := view_list G2.zh (.inr rfl) (G2.peek ep ro.rv)
        refine ⟨a, rfl, ⟨vs, h4⟩, h1 Z2 H1 (s1.trans s2) G2 _ (Itl X.K a) ro ?_⟩
        show SrcJ X.K r.opd _ (r.opd.peek ε1) l _ _
        rw [ep]
        exact src_lst (.inr rfl)
theorem s_srcRev {tg : Expr} {e : IE} {ex : Expr} {p pos : Pos} (hg : Gl X "reversed") (hm : X.mg "reversed" = none) (hs : noStar ex = true) (h : PE X ex (tE E Φ X W e)) : PI X tg (.Call (.Name "reversed" p) [ex] [] pos) (tI E Φ X W .rev [e]) := by
  refine ⟨fun pins s σ H R I hq => ?_⟩
  obtain ⟨g, ε, Z, G, h1⟩ := hq
  rw [evI_one] at h1
  refine (RT.pi_revA hg hm h (starEach_no hs)).run pins s σ H R I ⟨g, ε, Z, G, ?_⟩
  cases hev : evE E Φ e ε with
  | stuck => rw [hev] at h1; exact h1.elim
  | exc c ε1 => rw [hev] at h1; exact h1
  | ok r ε1 =>
    rw [hev] at h1
    intro Z1 H1 s1 G1 v rv
    obtain ⟨Z2, s2, G2, ro⟩ := G1.opd rv
    have h1 : Post E X W g σ Z (PI2 X g σ R) (match (match r.opd.peek ε1 with
      | some (.lst l) => some (r.opd, l.reverse)
      | some (.scr l) => some (r.opd, l.reverse)
      | some (.tup l) => some (r.opd, l.reverse)
      | _ => none) with | some q => .ok q ε1 | none => .stuck) := h1
    cases ep : r.opd.peek ε1 with
    | none => rw [ep] at h1; exact h1.elim
    | some p0 =>
      rw [ep] at h1
      cases p0 <;> first | (exact h1.elim) | skip
      · rename_i l
        obtain ⟨a, vs, rfl, h4, h5⟩ := (G2.peek ep ro.rv).tup G2.zh
        refine ⟨a, vs, rfl, .inr ⟨h4, ?_⟩⟩
        rw [h5.length]
        refine h1 Z2 H1 (s1.trans s2) G2 _ (RT.ItvT X.K a l.length) ro ?_
        show SrcJ X.K r.opd _ (r.opd.peek ε1) l.reverse _ _
        rw [ep]
        exact src_revT
      · rename_i l
        obtain ⟨a, vs, rfl, h4, h5⟩ := view_list G2.zh (.inl rfl) (G2.peek ep ro.rv)
        refine ⟨a, vs, rfl, .inl ⟨h4, ?_⟩⟩
        rw [h5.length]
        refine h1 Z2 H1 (s1.trans s2) G2 _ (Itv X.K a l.length) ro ?_
        show SrcJ X.K r.opd _ (r.opd.peek ε1) l.reverse _ _
        rw [ep]
        exact src_revL (.inl rfl)
      · rename_i l
        obtain ⟨a, vs, rfl, h4, h5⟩ := view_list G2.zh (.inr rfl) (G2.peek ep ro.rv)
        refine ⟨a, vs, rfl, .inl ⟨h4, ?_⟩⟩
        rw [h5.length]
        refine h1 Z2 H1 (s1.trans s2) G2 _ (Itv X.K a l.length) ro ?_
        show SrcJ X.K r.opd _ (r.opd.peek ε1) l.reverse _ _
        rw [ep]
        exact src_revL (.inr rfl)
theorem evA_len : ∀ {l : List IE} {ε ε' : Sg} {rs : List Rv}, evA E Φ l ε = .ok rs ε' → rs.length = l.length
  | [], _, _, _, e => by cases e; rfl
  | a :: l, ε, ε', rs, e => by
    have e : ((evE E Φ a ε).bind fun r ε1 => (evA E Φ l ε1).bind fun rs ε2 => Out.ok (r.opd :: rs) ε2) = .ok rs ε' := e
    cases h1 : evE E Φ a ε with
    | stuck => rw [h1] at e; cases e
    | exc c ε1 => rw [h1] at e; cases e
    | ok r ε1 =>
      rw [h1] at e
      have e : ((evA E Φ l ε1).bind fun rs ε2 => Out.ok (r.opd :: rs) ε2) = .ok rs ε' := e
      cases h2 : evA E Φ l ε1 with
      | stuck => rw [h2] at e; cases e
      | exc c ε1 => rw [h2] at e; cases e
      | ok rs' ε2 =>
        rw [h2] at e
        cases e
        rw [List.length_cons, List.length_cons, evA_len h2]
theorem rgB_of {i : Int} (h : rgB i = true) : -(2 ^ 62) ≤ i ∧ i < 2 ^ 62 := of_decide_eq_true h
theorem view_ints {K : Fg} {Z H : Hp} : ∀ {l : List Int} {vs : List V}, ViewL K Z H (l.map PV.int) vs → vs = l.map V.int
  | [], _, h => by cases h; rfl
  | i :: l, _, h => by
    cases h with
    | cons h t =>
      obtain rfl := h.int
      rw [view_ints t]; rfl
theorem s_srcRng {tg : Expr} {its : List IE} {es : List Expr} {p pos : Pos} (hg : Gl X "range") (hm : X.mg "range" = none) (hs : ∀ e ∈ es, noStar e = true) (h1 : 1 ≤ es.length) (h3 : es.length ≤ 3) (hl : its.length = es.length) (h : PA X es (tA E Φ X W its)) :
    PI X tg (.Call (.Name "range" p) es [] pos) (tI E Φ X W .rng its) := by
  -- the ints behind it
  have key : ∀ {g : Ent} {σ : St} {ε : Sg} {Z H : Hp} {R : It → Hp → Prop}, Good X.K g σ ε Z H → Post E X W g σ Z (PI2 X g σ R) (evI E Φ .rng its ε) →
      Post E X W g σ Z (PL X σ (fun vs H' => ∃ l : List Int, vs = l.map V.int ∧ ((∃ j, l = [j] ∧ rgB j = true ∧ R (Itr 0 j.toNat) H') ∨ (∃ i j, l = [i, j] ∧ rgB i = true ∧ rgB j = true ∧ R (Itr i (j - i).toNat) H') ∨
        ∃ i j c, l = [i, j, c] ∧ ((c ≠ 0 ∧ c.natAbs < 1073741824) ∧ Builtin.Range.small i j c = true ∧ 0 ≤ Builtin.Range.rangeSize i j c) ∧ R (Itc i c (Builtin.Range.rangeSize i j c).toNat) H'))) (evA E Φ its ε) := fun {g σ ε Z H R} G h => by
    unfold evI at h
    cases hev : evA E Φ its ε with
    | stuck => rw [hev] at h; exact h.elim
    | exc c ε1 => rw [hev] at h; exact h
    | ok rs ε1 =>
      rw [hev] at h
      intro Z1 H1 s1 G1 vs pr
      have h : Post E X W g σ Z (PI2 X g σ R) (match srcI .rng rs ε1 with | some q => .ok q ε1 | none => .stuck) := h
      have hsr : srcI .rng rs ε1 = (match peekL ε1 rs with
        | some [.int j] => if rgB j = true then some (.val .non, rngL 0 j.toNat) else none
        | some [.int i, .int j] => if rgB i = true ∧ rgB j = true then some (.val .non, rngL i (j - i).toNat) else none
        | some [.int i, .int j, .int c] => if (c ≠ 0 ∧ c.natAbs < 1073741824) ∧ Builtin.Range.small i j c = true ∧ 0 ≤ Builtin.Range.rangeSize i j c then some (.val .non, rngC i c (Builtin.Range.rangeSize i j c).toNat) else none
        | _ => none) := by
          rcases rs with _ | ⟨r1, _ | ⟨r2, rs⟩⟩ <;> rfl
      rw [hsr] at h
      split at h
      · rename_i q eq
        split at eq
        · rename_i j ej
          split at eq
          · rename_i hb
            cases eq
            have e := view_ints (l := [j]) (G1.peekL ej pr)
            exact ⟨[j], e, .inl ⟨j, rfl, hb, h Z1 H1 s1 G1 .non _ .non src_rng⟩⟩
          · cases eq
        · rename_i i j ej
          split at eq
          · rename_i hb
            cases eq
            have e := view_ints (l := [i, j]) (G1.peekL ej pr)
            exact ⟨[i, j], e, .inr (.inl ⟨i, j, rfl, hb.1, hb.2, h Z1 H1 s1 G1 .non _ .non src_rng⟩)⟩
          · cases eq
        · rename_i i j c ej
          split at eq
          · rename_i hb
            cases eq
            have e := view_ints (l := [i, j, c]) (G1.peekL ej pr)
            exact ⟨[i, j, c], e, .inr (.inr ⟨i, j, c, rfl, hb, h Z1 H1 s1 G1 .non _ .non src_rngC⟩)⟩
          · cases eq
        · cases eq
      · exact h.elim
  have hlen : ∀ {g : Ent} {σ : St} {ε : Sg} {Z : Hp} {Q : List V → Hp → Prop}, Post E X W g σ Z (PL X σ Q) (evA E Φ its ε) → Post E X W g σ Z (PL X σ (fun vs H' => vs.length = its.length ∧ Q vs H')) (evA E Φ its ε) := fun {g σ ε Z Q} h => by
    cases hev : evA E Φ its ε with
    | stuck => rw [hev] at h; exact h.elim
    | exc c ε1 => rw [hev] at h; exact h
    | ok rs ε1 =>
      rw [hev] at h
      intro Z1 H1 s1 G1 vs pr
      refine ⟨?_, h Z1 H1 s1 G1 vs pr⟩
      rw [← evA_len hev, Paired.length pr]
  match es, hs, h1, h3, hl, h with
  | [a], hs, _, _, hl, h =>
    refine ⟨fun pins s σ H R I hq => ?_⟩
    obtain ⟨g, ε, Z, G, hq⟩ := hq
    refine (pi_range1 hg hm h (starEach_no (hs a List.mem_cons_self))).run pins s σ H R I ⟨g, ε, Z, G, (hlen (key G hq)).imp fun rs ε' Z1 H1 s1 G1 hh vs pr => ?_⟩
    obtain ⟨hn, l, rfl, hh⟩ := hh vs pr
    rcases hh with ⟨j, rfl, hb, q⟩ | ⟨i, j, rfl, hb, hc, q⟩ | ⟨i, j, c, rfl, hb, q⟩
    · exact ⟨j, rfl, (rgB_of hb).1, (rgB_of hb).2, q⟩
    · rw [hl] at hn; simp at hn
    · rw [hl] at hn; simp at hn
  | [a, b], hs, _, _, hl, h =>
    refine ⟨fun pins s σ H R I hq => ?_⟩
    obtain ⟨g, ε, Z, G, hq⟩ := hq
    have e1 := starEach_no (env := X.env) (es := [b]) (hs a List.mem_cons_self)
    have e2 := starEach_no (env := X.env) (es := []) (hs b (by simp))
    have e2' : starEach [b] X.env = [(false, eval b X.env)] := e2
    refine (pi_range2 hg hm h (by rw [e1, e2']) e2').run pins s σ H R I ⟨g, ε, Z, G, (hlen (key G hq)).imp fun rs ε' Z1 H1 s1 G1 hh vs pr => ?_⟩
    obtain ⟨hn, l, rfl, hh⟩ := hh vs pr
    rcases hh with ⟨j, rfl, hb, q⟩ | ⟨i, j, rfl, hb, hc, q⟩ | ⟨i, j, c, rfl, hb, q⟩
    · rw [hl] at hn; simp at hn
    · exact ⟨i, j, rfl, ⟨(rgB_of hb).1, (rgB_of hb).2, (rgB_of hc).1, (rgB_of hc).2⟩, q⟩
    · rw [hl] at hn; simp at hn
  | [a, b, c], hs, _, _, hl, h =>
    refine ⟨fun pins s σ H R I hq => ?_⟩
    obtain ⟨g, ε, Z, G, hq⟩ := hq
    refine (pi_range3 hg hm h (starEach_no (hs a List.mem_cons_self)) (star_any fun y hy => hs y (List.mem_cons_of_mem _ hy))).run pins s σ H R I ⟨g, ε, Z, G, (hlen (key G hq)).imp fun rs ε' Z1 H1 s1 G1 hh vs pr => ?_⟩
    obtain ⟨hn, l, rfl, hh⟩ := hh vs pr
    rcases hh with ⟨j, rfl, hb, q⟩ | ⟨i, j, rfl, hb, hc, q⟩ | ⟨i, j, c, rfl, hb, q⟩
    · rw [hl] at hn; simp at hn
    · rw [hl] at hn; simp at hn
    · exact ⟨i, j, c, _, rfl, ⟨hb.1.1, hb.1.2, hb.2.1, (Int.toNat_of_nonneg hb.2.2).symm⟩, q⟩
  | [], _, h1, _, _, _ => exact absurd h1 (by simp)
  | _ :: _ :: _ :: _ :: _, _, _, h3, _, _ => exact absurd h3 (by simp)
end
/-! ### dicts that are walked -/
theorem frz_dct {K : Fg} {Z : Hp} {l : List (Key × PV)} {v : V} (h : Rp K Z (.dct l) v) : ∃ a o vs, v = .ref a ∧ Z a = some (.frz o (.dK vs)) ∧ RpK K Z l vs := by
  cases h with
  | dct h r => exact ⟨_, _, _, rfl, h, r⟩
section
variable {X : Cx} {g : Ent} {a : Addr} {l : List (Key × PV)} {ob : Obj} {vs : List (Key × V)}
/-- the entries, whichever state -/
theorem entry_at {K : Fg} {Z : Hp} : ∀ {l : List (Key × PV)} {vs : List (Key × V)} {i : Nat} {k : Key} {v : V}, RpK K Z l vs → vs[i]? = some (k, v) → ∃ p, l[i]? = some (k, p) ∧ Rp K Z p v
  | _, _, _, _, _, .nil, e => by simp at e
  | _, _, 0, _, _, .cons h _, e => by simp at e; obtain ⟨rfl, rfl⟩ := e; exact ⟨_, rfl, h⟩
  | _, _, i + 1, k, v, .cons _ t, e => by
    obtain ⟨p, h1, h2⟩ := entry_at (i := i) (k := k) (v := v) t (by simpa using e)
    exact ⟨p, by simpa using h1, h2⟩
theorem dct_same {K : Fg} {Z0 Z : Hp} (hZ : Z0 a = some (.frz ob (.dK vs))) (s : Same Z0 Z) : Z a = some (.frz ob (.dK vs)) := s _ _ hZ
theorem src_keys {Z0 : Hp} (hZ : Z0 a = some (.frz ob (.dK vs))) (r0 : RpK X.K Z0 l vs) : SrcJ X.K (.val (.dct l)) (.ref a) (some (.dct l)) (l.map fun kv => kP kv.1) (Itk a ob vs) Z0 where
  stop := fun {g i τ ε Z H} s G pk ro hl => ⟨G.zh _ _ (s _ _ hZ), by rw [r0.length]; simpa using hl⟩
  go := fun {g i τ ε Z H} s G pk ro hl => ⟨G.zh _ _ (s _ _ hZ), by rw [r0.length]; simpa using hl⟩
  yld := fun {g i τ ε Z H H' x p} s G pk ro y hp => by
    obtain ⟨rfl, k, v, e, rfl⟩ := y
    obtain ⟨q, h1, _⟩ := entry_at r0 e
    rw [List.getElem?_map, h1] at hp
    cases hp
    exact ⟨Z, .refl _, G, kP_rp k, fun _ _ => ⟨rfl, rfl⟩⟩
theorem src_vals {Z0 : Hp} (hZ : Z0 a = some (.frz ob (.dK vs))) (r0 : RpK X.K Z0 l vs) : SrcJ X.K (.val (.dct l)) (.ref a) (some (.dct l)) (l.map fun kv => kv.2) (Itd a ob vs) Z0 where
  stop := fun {g i τ ε Z H} s G pk ro hl => ⟨G.zh _ _ (s _ _ hZ), by rw [r0.length]; simpa using hl⟩
  go := fun {g i τ ε Z H} s G pk ro hl => ⟨G.zh _ _ (s _ _ hZ), by rw [r0.length]; simpa using hl⟩
  yld := fun {g i τ ε Z H H' x p} s G pk ro y hp => by
    obtain ⟨rfl, k, e⟩ := y
    obtain ⟨q, h1, h2⟩ := entry_at r0 e
    rw [List.getElem?_map, h1] at hp
    cases hp
    exact ⟨Z, .refl _, G, h2.mono s, fun _ _ => ⟨rfl, rfl⟩⟩
theorem src_items {Z0 : Hp} (hZ : Z0 a = some (.frz ob (.dK vs))) (r0 : RpK X.K Z0 l vs) : SrcJ X.K (.val (.dct l)) (.ref a) (some (.dct l)) (l.map fun kv => .tup [kP kv.1, kv.2]) (Iti a ob vs) Z0 where
  stop := fun {g i τ ε Z H} s G pk ro hl => ⟨G.zh _ _ (s _ _ hZ), by rw [r0.length]; simpa using hl⟩
  go := fun {g i τ ε Z H} s G pk ro hl => ⟨G.zh _ _ (s _ _ hZ), by rw [r0.length]; simpa using hl⟩
  yld := fun {g i τ ε Z H H' x p} s G pk ro y hp => by
    obtain ⟨T, k, v, e, rfl, hT, rfl⟩ := y
    obtain ⟨q, h1, h2⟩ := entry_at r0 e
    rw [List.getElem?_map, h1] at hp
    cases hp
    have ex := Ext.newF (o := .tup [kV k, v]) G.zh hT
    refine ⟨_, ex.zz, G.ext ex, .tup (.inl (.inl upd_same)) (.cons (kP_rp k) (.cons ((h2.mono s).mono ex.zz) .nil)), fun b hb => ?_⟩
    have ne : b ≠ T := fun z => hb (by rw [z]; exact hT)
    exact ⟨upd_ne ne, upd_ne ne⟩
end
section
variable {E : Eng} {Φ : Nat → List PV → CO} {X : Cx} {W : WX}
theorem srcI_keys {r : Rv} {ε : Sg} {q : Rv × List PV} (h : srcI .keys [r] ε = some q) : ∃ l, r = .val (.dct l) ∧ q = (.val (.dct l), l.map fun kv => kP kv.1) := by
  cases r with
  | val p => cases p <;> first | (cases h; done) | (cases h; exact ⟨_, rfl, rfl⟩)
  | fresh p => cases h
  | own i => cases h
theorem srcI_vals {r : Rv} {ε : Sg} {q : Rv × List PV} (h : srcI .vals [r] ε = some q) : ∃ l, r = .val (.dct l) ∧ q = (.val (.dct l), l.map fun kv => kv.2) := by
  cases r with
  | val p => cases p <;> first | (cases h; done) | (cases h; exact ⟨_, rfl, rfl⟩)
  | fresh p => cases h
  | own i => cases h
theorem srcI_items {r : Rv} {ε : Sg} {q : Rv × List PV} (h : srcI .items [r] ε = some q) : ∃ l, r = .val (.dct l) ∧ q = (.val (.dct l), l.map fun kv => .tup [kP kv.1, kv.2]) := by
  cases r with
  | val p => cases p <;> first | (cases h; done) | (cases h; exact ⟨_, rfl, rfl⟩)
  | fresh p => cases h
  | own i => cases h
/-- behind the dict that is walked -/
theorem walk_dct {sk : Src} {e : IE} {g : Ent} {σ : St} {ε : Sg} {Z : Hp} {R : It → Hp → Prop} {Ψ : VK} {f : List (Key × PV) → List PV} (hsk : ∀ {r : Rv} {ε : Sg} {q : Rv × List PV}, srcI sk [r] ε = some q → ∃ l, r = .val (.dct l) ∧ q = (.val (.dct l), f l))
    (h1 : Post E X W g σ Z (PI2 X g σ R) (evI E Φ sk [e] ε))
    (k : ∀ (l : List (Key × PV)) (Z1 H1 : Hp) (a : Addr) (ob : Obj) (vs : List (Key × V)), Z1 a = some (.frz ob (.dK vs)) → RpK X.K Z1 l vs → Same Z1 H1 → (∀ J, SrcJ X.K (.val (.dct l)) (.ref a) (some (.dct l)) (f l) J Z1 → R J H1) → Ψ (.ref a) H1) : Post E X W g σ Z (PR X g σ Ψ) (evE E Φ e ε) := by
  rw [evI_one] at h1
  refine h1.split.imp fun r ε1 Z1 H1 s1 G1 h2 v rv => ?_
  obtain ⟨Z2, s2, G2, ro⟩ := G1.opd rv
  split at h2
  · rename_i q eq
    obtain ⟨l, er, rfl⟩ := hsk eq
    rw [er] at ro
    have ro : Rp X.K Z2 (.dct l) v := ro
    obtain ⟨a, ob, vs, rfl, hZ, rk⟩ := frz_dct ro
    exact k l Z2 H1 a ob vs hZ rk G2.zh fun J SJ => h2 Z2 H1 s2 G2 _ J ro SJ
  · exact h2.elim
theorem s_srcKeys {tg : Expr} {e : IE} {ex : Expr} (h : PE X ex (tE E Φ X W e)) : PI X tg ex (tI E Φ X W .keys [e]) := by
  refine ⟨fun pins s σ H R I hq => ?_⟩
  obtain ⟨g, ε, Z, G, h1⟩ := hq
  exact (pi_keys h).run pins s σ H R I ⟨g, ε, Z, G, walk_dct srcI_keys h1 fun l Z1 H1 a ob vs hZ rk zh q => ⟨a, ob, rfl, .inl ⟨vs, zh _ _ hZ, q _ (src_keys hZ rk)⟩⟩⟩
theorem s_srcVals {tg : Expr} {e : IE} {ex : Expr} {apos cpos : Pos} (h : PE X ex (tE E Φ X W e)) (hb : attributeBase ex "values" X.env (eval ex X.env) = eval ex X.env) (hl : (apos.endLine == cpos.line) = true) : PI X tg (.Call (.Attribute ex "values" apos) [] [] cpos) (tI E Φ X W .vals [e]) := by
  refine ⟨fun pins s σ H R I hq => ?_⟩
  obtain ⟨g, ε, Z, G, h1⟩ := hq
  exact (pi_values h hb hl).run pins s σ H R I ⟨g, ε, Z, G, walk_dct srcI_vals h1 fun l Z1 H1 a ob vs hZ rk zh q => ⟨a, ob, vs, rfl, zh _ _ hZ, q _ (src_vals hZ rk)⟩⟩
theorem s_srcItems {elts : List Expr} {kk : Nat} {tpos : Pos} {e : IE} {ex : Expr} {apos cpos : Pos} (h : PE X ex (tE E Φ X W e)) (hb : attributeBase ex "items" X.env (eval ex X.env) = eval ex X.env) (hl : (apos.endLine == cpos.line) = true) :
    PI X (.Tuple elts kk tpos) (.Call (.Attribute ex "items" apos) [] [] cpos) (tI E Φ X W .items [e]) := by
  refine ⟨fun pins s σ H R I hq => ?_⟩
  obtain ⟨g, ε, Z, G, h1⟩ := hq
  exact (pi_items h hb hl).run pins s σ H R I ⟨g, ε, Z, G, walk_dct srcI_items h1 fun l Z1 H1 a ob vs hZ rk zh q => ⟨a, ob, vs, rfl, zh _ _ hZ, q _ (src_items hZ rk)⟩⟩
end
end Eng

namespace Eng
open PySem PySem.Spec L2
open PyProof.Rows hiding St

section
variable {E : Eng} {Φ : Nat → List PV → CO} {k : Nat} {S : Stc} {X : Cx} {W : WX}

/-! ### a comprehension's own names -/
theorem wipeS_get : ∀ {own : List Nat} {ε ε2 : Sg}, wipeS ε own = some ε2 → ε2.length = ε.length ∧ (∀ j, j ∉ own → ε2[j]? = ε[j]?) ∧ (∀ j, j ∈ own → ∀ s, ε2[j]? = some s → s = .none) ∧ ∀ j, j ∈ own → ¬ IsOwn ε j
  | [], ε, ε2, e => by cases e; exact ⟨rfl, fun _ _ => rfl, fun j h => absurd h (by simp), fun j h => absurd h (by simp)⟩
  | i :: is, ε, ε2, e => by
    unfold wipeS at e
    split at e
    · rename_i ε1 e1
      obtain ⟨h1, h2, h3, h4⟩ := wipeS_get e1
      split at e
      · cases e
      · rename_i hno
        cases e
        refine ⟨by rw [List.length_set, h1], fun j hj => ?_, fun j hj s hs => ?_, fun j hj oj => ?_⟩
        · rw [List.mem_cons, not_or] at hj
          rw [List.getElem?_set_ne (Ne.symm hj.1), h2 j hj.2]
        · rcases getElem?_set_eq hs with ⟨_, z⟩ | ⟨nj, hs⟩
          · exact z
          · rcases List.mem_cons.mp hj with z | z
            · exact absurd z nj
            · exact h3 j z s hs
        · rcases List.mem_cons.mp hj with rfl | z
          · by_cases hm : j ∈ is
            · exact h4 j hm oj
            · obtain ⟨kk, p, e⟩ := oj
              exact hno kk p (by rw [h2 j hm]; exact e)
          · exact h4 j z oj
    · cases e
theorem wipe_in {σ : St} : ∀ {own : List Nat} {j : Nat} {v : V}, j ∈ own → (wipe σ own)[j]? ≠ some (some v) := fun {own j v} hj h => (wipe_some h).2 hj
theorem Good.wipe {g : Ent} {σ : St} {ε ε2 : Sg} {Z H : Hp} {own : List Nat} (G : Good X.K g σ ε Z H) (e : wipeS ε own = some ε2) : Good X.K g (L2.wipe σ own) ε2 Z H := by
  obtain ⟨h1, h2, h3, h4⟩ := wipeS_get e
  have io : ∀ {j}, IsOwn ε2 j → j ∉ own ∧ IsOwn ε j := fun {j} oj => by
    obtain ⟨kk, p, q⟩ := oj
    have nj : j ∉ own := fun z => by have := h3 j z _ q; cases this
    exact ⟨nj, kk, p, by rw [← h2 j nj]; exact q⟩
  refine ⟨by rw [wipe_length, h1]; exact G.len, fun j s hs => ?_, fun j l a oj ol ej el => ?_, G.zh, G.hh, G.al, G.zf, G.zz, fun j a hj => ?_, fun q hq => ?_⟩
  · by_cases hj : j ∈ own
    · rw [h3 j hj s hs]; trivial
    · rw [h2 j hj] at hs
      have q := G.slot j s hs
      cases s with
      | none => trivial
      | val p => obtain ⟨v, q1, q2⟩ := q; exact ⟨v, by rw [wipe_out hj]; exact q1, q2⟩
      | own kk p => obtain ⟨b, q1, q2⟩ := q; exact ⟨b, by rw [wipe_out hj]; exact q1, q2⟩
  · obtain ⟨nj, oj⟩ := io oj
    obtain ⟨nl, ol⟩ := io ol
    rw [wipe_out nj] at ej
    rw [wipe_out nl] at el
    exact G.dis j l a oj ol ej el
  · obtain ⟨q1, p, q2⟩ := G.io j a hj
    have nj : j ∉ own := fun z => h4 j z ⟨_, _, q2⟩
    exact ⟨by rw [wipe_out nj]; exact q1, p, by rw [h2 j nj]; exact q2⟩
  · obtain ⟨q1, q2, q3⟩ := G.pr q hq
    refine ⟨q1, q2, fun j oj => ?_⟩
    obtain ⟨nj, oj⟩ := io oj
    rw [wipe_out nj]
    exact q3 j oj
theorem backS_get {ε0 : Sg} {ε : Sg} : ∀ {own : List Nat}, ε.length = ε0.length → (backS ε0 ε own).length = ε.length ∧ (∀ j, j ∉ own → (backS ε0 ε own)[j]? = ε[j]?) ∧ ∀ j, j ∈ own → (backS ε0 ε own)[j]? = ε0[j]?
  | [], _ => ⟨rfl, fun _ _ => rfl, fun j h => absurd h (by simp)⟩
  | i :: is, hl => by
    obtain ⟨h1, h2, h3⟩ := backS_get (own := is) hl
    cases e : ε0[i]? with
    | none =>
      have eb : backS ε0 ε (i :: is) = backS ε0 ε is := by rw [backS, e]
      rw [eb]
      refine ⟨h1, fun j hj => h2 j fun z => hj (List.mem_cons_of_mem _ z), fun j hj => ?_⟩
      rcases List.mem_cons.mp hj with rfl | z
      · rw [e]
        apply List.getElem?_eq_none
        rw [h1, hl]
        exact List.getElem?_eq_none_iff.mp e
      · exact h3 j z
    | some s =>
      have eb : backS ε0 ε (i :: is) = (backS ε0 ε is).set i s := by rw [backS, e]
      rw [eb]
      refine ⟨by rw [List.length_set, h1], fun j hj => ?_, fun j hj => ?_⟩
      · rw [List.mem_cons, not_or] at hj
        rw [List.getElem?_set_ne (Ne.symm hj.1), h2 j hj.2]
      · by_cases hji : j = i
        · subst hji
          rw [List.getElem?_set_self (by rw [h1, hl]; exact (List.getElem?_eq_some_iff.mp e).1), e]
        · rw [List.getElem?_set_ne (Ne.symm hji)]
          rcases List.mem_cons.mp hj with z | z
          · exact absurd z hji
          · exact h3 j z
/-- the names that the comprehension hid are there again -/
theorem Good.back {g : Ent} {σ : St} {ε1 ε7 : Sg} {Z1 H1 Z H : Hp} {own : List Nat} (G1 : Good X.K g σ ε1 Z1 H1) (hn : ∀ j, j ∈ own → ¬ IsOwn ε1 j) (G : Good X.K g (L2.wipe σ own) ε7 Z H) (s : Same Z1 Z) : Good X.K g σ (backS ε1 ε7 own) Z H := by
  have hl : ε7.length = ε1.length := by rw [← G.len, wipe_length, G1.len]
  obtain ⟨h1, h2, h3⟩ := backS_get (own := own) hl
  have io : ∀ {j}, IsOwn (backS ε1 ε7 own) j → j ∉ own ∧ IsOwn ε7 j := fun {j} oj => by
    obtain ⟨kk, p, q⟩ := oj
    have nj : j ∉ own := fun z => hn j z ⟨kk, p, by rw [← h3 j z]; exact q⟩
    exact ⟨nj, kk, p, by rw [← h2 j nj]; exact q⟩
  refine ⟨by rw [h1, hl]; exact G1.len, fun j s' hs => ?_, fun j l a oj ol ej el => ?_, G.zh, G.hh, G.al, G.zf, G.zz, fun j a hj => ?_, fun q hq => ?_⟩
  · by_cases hj : j ∈ own
    · rw [h3 j hj] at hs
      have q := G1.slot j s' hs
      cases s' with
      | none => trivial
      | val p => obtain ⟨v, q1, q2⟩ := q; exact ⟨v, q1, q2.mono s⟩
      | own kk p => exact absurd ⟨kk, p, hs⟩ (hn j hj)
    · rw [h2 j hj] at hs
      have q := G.slot j s' hs
      cases s' with
      | none => trivial
      | val p => obtain ⟨v, q1, q2⟩ := q; exact ⟨v, by rw [← wipe_out hj]; exact q1, q2⟩
      | own kk p => obtain ⟨b, q1, q2⟩ := q; exact ⟨b, by rw [← wipe_out hj]; exact q1, q2⟩
  · obtain ⟨nj, oj⟩ := io oj
    obtain ⟨nl, ol⟩ := io ol
    exact G.dis j l a oj ol (by rw [wipe_out nj]; exact ej) (by rw [wipe_out nl]; exact el)
  · obtain ⟨q1, p, q2⟩ := G.io j a hj
    have nj : j ∉ own := fun z => wipe_in z q1
    exact ⟨by rw [← wipe_out nj]; exact q1, p, by rw [h2 j nj]; exact q2⟩
  · obtain ⟨q1, q2, q3⟩ := G.pr q hq
    refine ⟨q1, q2, fun j oj => ?_⟩
    obtain ⟨nj, oj⟩ := io oj
    rw [← wipe_out nj]
    exact q3 j oj
/-! ### the block -/
def W0 : WX := fun _ _ _ _ => False
theorem Okx.blk (ok : Okx E Φ k S W X) {scope : Scope} {own : List Nat} (bo : BlkOk S.N S.sc scope (ownL S.N own)) (s : Shared) (H : Hp) (C : Addr) (cl : List (Str × Addr)) (fp : List Addr) :
    Okx E Φ k (S.blk scope) W0 (X.blk s H scope (compEnvC scope cl C X.env) fp) where
  calm := ok.calm
  N := ok.N
  sc := by
    show relS scope X.env.scope = relS scope S.sc
    rw [ok.sc]
  nd := ok.nd
  kind := bo.kind
  st := fun x hx => by
    have hx : scope.names.lookup x = some .local ∨ scope.names.lookup x = some .cell := hx
    rcases hx with hx | hx
    · have q : (relS scope X.env.scope).names.lookup x = some .local := lookup_relS_keep (fun z => nomatch z) hx
      exact ⟨.inl q, .inr q⟩
    · have q : (relS scope X.env.scope).names.lookup x = some .cell := lookup_relS_keep (fun z => nomatch z) hx
      refine ⟨.inr q, .inl ?_⟩
      show (scope.names.lookup x == some .cell) = true
      rw [hx]; rfl
  room := ok.room
  tk := takes0
  fn := ok.fn
  bl := ok.bl
  ty := ok.ty
  gb := ok.gb
  fr := ok.fr
  gd := ok.gd

/-! ### a comprehension -/
def tC1 (E : Eng) (Φ : Nat → List PV → CO) (X : Cx) (W : WX) (l : List IE) : TT := fun σ H Q => ∃ g ε Z, Good X.K g σ ε Z H ∧ Post E X W g σ Z (PB Q) (evC E Φ l ε)
noncomputable def turnI (E : Eng) (Φ : Nat → List PV → CO) (elt : IE) (tg : Tg) (cond : List IE) : PV → Sg → Out (Option PV) := fun p ε => match asgT tg p ε with
  | some ε3 => (evC E Φ cond ε3).bind fun t ε4 => if t then (evE E Φ elt ε4).bind fun r ε5 => match frz r ε5 with
      | some (q, ε6) => .ok (some q) ε6
      | none => .stuck
    else .ok none ε4
  | none => .stuck
theorem wipe_eq {σ σ2 : St} {own : List Nat} (hl : σ2.length = (L2.wipe σ own).length) (h : ∀ j, j ∉ own → σ2[j]? = (L2.wipe σ own)[j]?) : L2.wipe σ2 own = L2.wipe σ own := by
  apply List.ext_getElem?
  intro j
  by_cases hj : j ∈ own
  · have key : ∀ τ : St, j < τ.length → (L2.wipe τ own)[j]? = some none := fun τ hlt => by
      have hw : j < (L2.wipe τ own).length := by rw [wipe_length]; exact hlt
      cases e : (L2.wipe τ own)[j]? with
      | none => rw [List.getElem?_eq_none_iff] at e; omega
      | some o =>
        cases o with
        | none => rfl
        | some v => exact absurd e (wipe_in hj)
    by_cases hlt : j < σ.length
    · rw [key σ hlt, key σ2 (by rw [hl, wipe_length]; exact hlt)]
    · rw [List.getElem?_eq_none, List.getElem?_eq_none]
      · rw [wipe_length]; omega
      · rw [wipe_length, hl, wipe_length]; omega
  · rw [wipe_out hj, h j hj]
theorem stays_peek {r : Rv} {ε ε' : Sg} {p : PV} (h : stays r ε ε' = true) (e : r.peek ε = some p) : r.peek ε' = some p := by
  cases r with
  | val q => exact e
  | fresh q => exact e
  | own i =>
    classical
    have h : peekS ε' i = peekS ε i := of_decide_eq_true (p := peekS ε' i = peekS ε i) (by simpa only [stays] using h)
    show peekS ε' i = some p
    rw [h]; exact e
theorem stays_eq {r : Rv} {ε ε' : Sg} (h : stays r ε ε' = true) : r.peek ε' = r.peek ε := by
  cases r with
  | val q => rfl
  | fresh q => rfl
  | own i =>
    classical
    exact of_decide_eq_true (p := peekS ε' i = peekS ε i) (by simpa only [stays] using h)
mutual
theorem asgT_len : ∀ {t : Tg} {p : PV} {ε ε' : Sg}, asgT t p ε = some ε' → ε'.length = ε.length
  | .nm i, p, ε, ε', e => by
    have e : (match ε[i]? with | some (.own false _) => none | some _ => some (ε.set i (.val p)) | none => none) = some ε' := e
    split at e
    · cases e
    · cases e; rw [List.length_set]
    · cases e
  | .tp l, .tup ps, ε, ε', e => asgTs_len' (show asgTs l ps ε = some ε' from e)
  | .tp l, .lst ps, ε, ε', e => asgTs_len' (show asgTs l ps ε = some ε' from e)
  | .tp _, .non, _, _, e => nomatch e
  | .tp _, .bl _, _, _, e => nomatch e
  | .tp _, .int _, _, _, e => nomatch e
  | .tp _, .str _, _, _, e => nomatch e
  | .tp _, .dct _, _, _, e => nomatch e
  | .tp _, .set _, _, _, e => nomatch e
  | .tp _, .scr _, _, _, e => nomatch e
theorem asgTs_len' : ∀ {ts : List Tg} {ps : List PV} {ε ε' : Sg}, asgTs ts ps ε = some ε' → ε'.length = ε.length
  | [], [], _, _, e => by cases e; rfl
  | [], _ :: _, _, _, e => by cases e
  | _ :: _, [], _, _, e => by cases e
  | t :: ts, p :: ps, ε, ε', e => by
    unfold asgTs at e
    split at e
    · rename_i ε1 e1
      rw [asgTs_len' e, asgT_len e1]
    · cases e
end
theorem cmp_ok {g : Ent} {σ : St} {ε1 : Sg} {Z1 H1 : Hp} {Q : VK} {elt : IE} {tg : Tg} {cond : List IE} {own : List Nat} {r : Rv} {items : List PV} {v0 : V}
    (G1 : Good X.K g σ ε1 Z1 H1) (hr : OpdR X.K σ Z1 r v0) (hw : walkOk r own = true) (hto : ∀ i ∈ tgS tg, i ∈ own) {ε2 : Sg} (ew : wipeS ε1 own = some ε2)
    (h : Post E X W g σ Z1 (PR X g σ Q) (match cmpI own r (turnI E Φ elt tg cond) items [] ε2 with | .ok acc ε7 => .ok (.fresh (.lst acc)) (backS ε1 ε7 own) | _ => .stuck)) (D : Addr) (hD : H1 D = none)
    (J : It) (SJ : SrcJ X.K r v0 (r.peek ε1) items J Z1) :
    ∃ W' : Nat → Nat → Hp → Prop, (∃ m, W' 0 m (upd H1 D (.lst []))) ∧ ∀ i m H, W' i m H →
      (J.stop i H ∧ Q (.ref D) H) ∨ (J.go i H ∧ ∃ Nx : Hp → Prop, (∀ H', Nx H' → ∃ m', m' < m ∧ W' (i + 1) m' H') ∧ ∀ x H', J.yld i H x H' → gT X tg x (L2.wipe σ own) H' fun σ2 H2 => L2.wipe σ2 own = L2.wipe σ own ∧ tC1 E Φ X W0 cond σ2 H2 fun b H3 =>
        if b = true then tE E Φ X W0 elt σ2 H3 fun y H4 => ∃ acc, H4 D = some (.lst acc) ∧ acc.length < sizeLine ∧ Nx (upd H4 D (.lst (acc ++ [y]))) else Nx H3) := by
  obtain ⟨w1, w2, w3, w4⟩ := wipeS_get ew
  have hD0 : g.H0 D = none := G1.al D hD
  have hDp := (G1.new hD).2
  let Wx : Nat → Nat → Hp → Prop := fun i m Hc => ∃ ε Z acc vs, m = items.length - i ∧ i ≤ items.length ∧ Same Z1 Z ∧ Good X.K g (L2.wipe σ own) ε Z Hc ∧ Hc D = some (.lst vs) ∧ RpL X.K Z acc vs ∧ Z D = none ∧
    (∀ j, IsOwn ε j → (L2.wipe σ own)[j]? ≠ some (some (V.ref D))) ∧ r.peek ε = r.peek ε1 ∧ OpdR X.K (L2.wipe σ own) Z r v0 ∧
    Post E X W g σ Z1 (PR X g σ Q) (match cmpI own r (turnI E Φ elt tg cond) (items.drop i) acc ε with | .ok acc ε7 => .ok (.fresh (.lst acc)) (backS ε1 ε7 own) | _ => .stuck)
  have hrw : ∀ Z, OpdR X.K σ Z r v0 → OpdR X.K (L2.wipe σ own) Z r v0 := fun Z hr => by
    cases r with
    | val q => exact hr
    | fresh q => exact hr
    | own i =>
      have hni : i ∉ own := of_decide_eq_true (p := i ∉ own) hw
      show (L2.wipe σ own)[i]? = _
      rw [wipe_out hni]; exact hr
  have hpk : r.peek ε2 = r.peek ε1 := by
    cases r with
    | val q => rfl
    | fresh q => rfl
    | own i =>
      have hni : i ∉ own := of_decide_eq_true (p := i ∉ own) hw
      show peekS ε2 i = peekS ε1 i
      unfold peekS
      rw [w2 i hni]
  refine ⟨Wx, ⟨items.length, ε2, Z1, [], [], rfl, Nat.zero_le _, .refl _, (G1.ext (Ext.new (o := .lst []) G1.zh hD)).wipe ew, upd_same, .nil, G1.zh.free hD, fun j oj z => ?_, hpk, hrw _ hr, h⟩, ?_⟩
  · by_cases hj : j ∈ own
    · exact wipe_in hj z
    · rw [wipe_out hj] at z
      obtain ⟨kk, p, e⟩ := oj
      exact (G1.new hD).1 j ⟨kk, p, by rw [← w2 j hj]; exact e⟩ z
  · rintro i m Hc ⟨ε, Z, acc, vs, rfl, hi, s1, G, d1, d2, d3, d4, pk, ro, rest⟩
    by_cases hlt : i < items.length
    · right
      have hdrop : items.drop i = items[i] :: items.drop (i + 1) := List.drop_eq_getElem_cons hlt
      refine ⟨SJ.go s1 G pk ro hlt, Wx (i + 1) (items.length - (i + 1)), fun H' w => ⟨_, by omega, w⟩, fun x H' y => ?_⟩
      obtain ⟨Zy, sy, Gy, rp0, ky⟩ := SJ.yld s1 G pk ro y (List.getElem?_eq_getElem hlt)
      have hne : Hc D ≠ none := by rw [d1]; exact fun z => nomatch z
      have d1 : H' D = some (.lst vs) := by rw [(ky D hne).1]; exact d1
      have d3 : Zy D = none := by rw [(ky D hne).2]; exact d3
      have d2 := d2.mono sy
      have s1 := s1.trans sy
      have ro := ro.mono sy
      rw [hdrop] at rest
      unfold cmpI at rest
      cases et : turnI E Φ elt tg cond items[i] ε with
      | stuck => rw [et] at rest; exact rest.elim
      | exc c e' => rw [et] at rest; exact rest.elim
      | ok o ε6 =>
        rw [et] at rest
        dsimp only at rest
        cases ew6 : wipeS ε6 own with
        | none => rw [ew6] at rest; exact rest.elim
        | some ε8 =>
          rw [ew6] at rest
          dsimp only at rest
          cases est : stays r ε ε8 with
          | false => rw [est, if_neg Bool.false_ne_true] at rest; exact rest.elim
          | true =>
            rw [est, if_pos rfl] at rest
            unfold turnI at et
            cases ea : asgT tg items[i] ε with
            | none => rw [ea] at et; cases et
            | some ε3 =>
              rw [ea] at et
              dsimp only at et
              have GD := Gy.prAdd (D := D) (o := .lst vs) d1 d3 d4
              refine ⟨_, ε, Zy, items[i], ε3, GD, rp0, ea, fun σ2 G3 k3 => ?_⟩
              have hl2 : σ2.length = (L2.wipe σ own).length := by
                rw [G3.len, GD.len]
                exact asgT_len ea
              have hwe : L2.wipe σ2 own = L2.wipe σ own := wipe_eq hl2 fun j hj => k3 j fun z => hj (hto j z)
              refine ⟨hwe, ?_⟩
              cases ec : evC E Φ cond ε3 with
              | stuck => rw [ec] at et; cases et
              | exc c e' => rw [ec] at et; cases et
              | ok t ε4 =>
                rw [ec] at et
                have et : (if t then (evE E Φ elt ε4).bind fun r ε5 => match frz r ε5 with
                  | some (q, ε6) => Out.ok (some q) ε6
                  | none => .stuck
                  else Out.ok none ε4) = .ok o ε6 := et
                refine ⟨_, ε3, Zy, G3, ?_⟩
                rw [ec]
                intro Z4 H4 s4 G4
                -- the next state
                have next : ∀ {Z5 H5 : Hp} {acc' : List PV} {vs' : List V} {ε5 : Sg}, Same Zy Z5 → Good X.K g σ2 ε5 Z5 H5 → wipeS ε5 own = some ε8 → H5 D = some (.lst vs') → RpL X.K Z5 acc' vs' → Z5 D = none → (∀ j, IsOwn ε5 j → σ2[j]? ≠ some (some (V.ref D))) →
                    Post E X W g σ Z1 (PR X g σ Q) (match cmpI own r (turnI E Φ elt tg cond) (items.drop (i + 1)) acc' ε8 with | .ok acc ε7 => .ok (.fresh (.lst acc)) (backS ε1 ε7 own) | _ => .stuck) → Wx (i + 1) (items.length - (i + 1)) H5 := fun {Z5 H5 acc' vs' ε5} s5 G5 e5 h1 h2 h3 h4 h5 => by
                  have G5' := G5.wipe e5
                  rw [hwe] at G5'
                  obtain ⟨v1, v2, v3, v4⟩ := wipeS_get e5
                  refine ⟨ε8, Z5, acc', vs', rfl, hlt, s1.trans s5, G5', h1, h2, h3, fun j oj z => ?_, (stays_eq est).trans pk, ro.mono s5, h5⟩
                  by_cases hj : j ∈ own
                  · exact wipe_in hj z
                  · obtain ⟨kk, p, e⟩ := oj
                    rw [← hwe, wipe_out hj] at z
                    exact h4 j ⟨kk, p, by rw [← v2 j hj]; exact e⟩ z
                cases t with
                | false =>
                  rw [if_neg Bool.false_ne_true] at et
                  cases et
                  show Wx (i + 1) (items.length - (i + 1)) H4
                  obtain ⟨G5, q1, q2, q3⟩ := G4.prDrop
                  exact next s4 G5 ew6 q1 (d2.mono s4) q2 q3 rest
                | true =>
                  rw [if_pos rfl] at et
                  show tE E Φ X W0 elt σ2 H4 _
                  cases ee : evE E Φ elt ε4 with
                  | stuck => rw [ee] at et; cases et
                  | exc c e' => rw [ee] at et; cases et
                  | ok r5 ε5 =>
                    rw [ee] at et
                    have et : (match frz r5 ε5 with | some (q, ε6) => Out.ok (some q) ε6 | none => .stuck) = .ok o ε6 := et
                    refine ⟨_, ε4, Z4, G4, ?_⟩
                    rw [ee]
                    intro Z5 H5 s5 G5 v rv
                    split at et
                    · rename_i q ε6' ef
                      cases et
                      obtain ⟨Z6, s6, G6, rq⟩ := G5.frz ef rv
                      obtain ⟨G7, q1, q2, q3⟩ := G6.prDrop
                      dsimp only at rest
                      have hls := d2.length
                      by_cases hz : acc.length < sizeLine
                      · rw [if_pos hz] at rest
                        refine ⟨vs, q1, by rw [hls]; exact hz, ?_⟩
                        have s46 := (s4.trans s5).trans s6
                        exact next s46 (G7.away q1 hD0 q2 q3 hDp) ew6 upd_same ((d2.mono s46).snoc rq) q2 q3 rest
                      · rw [if_neg hz] at rest
                        exact rest.elim
                    · cases et
    · left
      have e : i = items.length := by omega
      subst e
      rw [List.drop_length] at rest
      have rest : Post E X W g σ Z1 (PR X g σ Q) (.ok (.fresh (.lst acc)) (backS ε1 ε own)) := rest
      refine ⟨SJ.stop s1 G pk ro (Nat.le_refl _), ?_⟩
      have hl : ε.length = ε1.length := by rw [← G.len, wipe_length, G1.len]
      obtain ⟨b1, b2, b3⟩ := backS_get (own := own) hl
      refine rest Z Hc s1 (G1.back w4 G s1) _ ⟨D, rfl, d3, hD0, ⟨vs, d1, d2⟩, fun j oj z => ?_, hDp⟩
      obtain ⟨kk, p, e⟩ := oj
      by_cases hj : j ∈ own
      · rw [b3 j hj] at e
        exact w4 j hj ⟨kk, p, e⟩
      · rw [b2 j hj] at e
        exact d4 j ⟨kk, p, e⟩ (by rw [wipe_out hj]; exact z)
theorem ownL_map {N : List Str} {own : List Nat} : (ownL N own).map (·.2) = own := by
  unfold ownL
  rw [List.map_map]
  exact List.map_id _
theorem cmp_read {elt : IE} {tg : Tg} {sk : Src} {its : List IE} {cond : List IE} {own : List Nat} (hto : ∀ i ∈ tgS tg, i ∈ own) {σ : St} {H : Hp} {Q : VK} (hq : tE E Φ X W (.cmpr elt tg sk its cond own) σ H Q) :
    tLc (tI E Φ X W sk its) (gT X tg) (tC1 E Φ X W0 cond) (tE E Φ X W0 elt) own σ H Q := by
  obtain ⟨g, ε, Z, G, h1⟩ := hq
  refine ⟨g, ε, Z, G, ?_⟩
  have h1 : Post E X W g σ Z (PR X g σ Q) ((evA E Φ its ε).bind fun rs ε1 => match srcI sk rs ε1, wipeS ε1 own with
        | some (r, ps), some ε2 => if walkOk r own = true then match cmpI own r (turnI E Φ elt tg cond) ps [] ε2 with
            | .ok acc ε7 => .ok (.fresh (.lst acc)) (backS ε1 ε7 own)
            | _ => .stuck
          else .stuck
        | _, _ => .stuck) := h1
  unfold evI
  cases hev : evA E Φ its ε with
  | stuck => rw [hev] at h1; exact h1.elim
  | exc c e' => rw [hev] at h1; exact h1
  | ok rs ε1 =>
    rw [hev] at h1
    have h1 : Post E X W g σ Z (PR X g σ Q) (match srcI sk rs ε1, wipeS ε1 own with
        | some (r, ps), some ε2 => if walkOk r own = true then match cmpI own r (turnI E Φ elt tg cond) ps [] ε2 with
            | .ok acc ε7 => .ok (.fresh (.lst acc)) (backS ε1 ε7 own)
            | _ => .stuck
          else .stuck
        | _, _ => .stuck) := h1
    show Post E X W g σ Z (PI2 X g σ _) (match srcI sk rs ε1 with | some q => .ok q ε1 | none => .stuck)
    cases es : srcI sk rs ε1 with
    | none => rw [es] at h1; exact h1.elim
    | some q =>
      obtain ⟨r, items⟩ := q
      rw [es] at h1
      cases ew : wipeS ε1 own with
      | none => rw [ew] at h1; exact h1.elim
      | some ε2 =>
        rw [ew] at h1
        dsimp only at h1
        by_cases hw : walkOk r own = true
        · rw [if_pos hw] at h1
          intro Z1 H1 s1 G1 v J ro SJ D hD
          exact cmp_ok G1 ro hw hto ew (h1.mono s1) D hD J SJ
        · rw [if_neg hw] at h1
          exact h1.elim
theorem s_cmpr (ok : Okx E Φ k S W X) {elt : IE} {tg : Tg} {sk : Src} {its : List IE} {cond : List IE} {own : List Nat} {eelt etg eit : Expr} {eifs : List Expr} {scope : Scope} {pos : Pos} (hit : PI X etg eit (tI E Φ X W sk its)) (hns : ∀ x, foldedSetIterable eit X.env x = pure x)
    (bo : BlkOk S.N S.sc scope (ownL S.N own)) (hto : ∀ i ∈ tgS tg, i ∈ own)
    (hg : ∀ (s : Shared) (H : Hp) (C : Addr) (cl : List (Str × Addr)) (fp : List Addr), PG (X.blk s H scope (compEnvC scope cl C X.env) fp) etg (gT X tg))
    (ht : ∀ (s : Shared) (H : Hp) (C : Addr) (cl : List (Str × Addr)) (fp : List Addr), PTs (X.blk s H scope (compEnvC scope cl C X.env) fp) eifs (tC1 E Φ X W0 cond))
    (he : ∀ (s : Shared) (H : Hp) (C : Addr) (cl : List (Str × Addr)) (fp : List Addr), PE (X.blk s H scope (compEnvC scope cl C X.env) fp) eelt (tE E Φ X W0 elt)) :
    PE X (.ListComp eelt [⟨etg, eit, eifs, 0⟩] scope pos) (tE E Φ X W (.cmpr elt tg sk its cond own)) := by
  have bo' : BlkOk X.N X.env.scope scope (ownL S.N own) := by rw [ok.N, ok.sc]; exact bo
  have hnd : X.N.Nodup := by rw [ok.N]; exact ok.nd
  refine ⟨fun pins s σ H Q I hq => ?_⟩
  exact (pe_lc ok.calm hnd hit bo' hg ht he hns).run pins s σ H Q I (by rw [ownL_map]; exact cmp_read hto hq)
/-- x = [..] on one line -/
theorem s_setLc (ok : Okx E Φ k S W X) {i : Nat} {y : Str} {py spos : Pos} {elt : IE} {tg : Tg} {sk : Src} {its : List IE} {cond : List IE} {own : List Nat} {eelt etg eit : Expr} {eifs : List Expr} {scope : Scope} {pos : Pos} (hy : S.N[i]? = some y) (hyl : X.env.scope.names.lookup y = some .local)
    (hsw : swapsWith (.ListComp eelt [⟨etg, eit, eifs, 0⟩] scope pos) (some (.Name y py)) spos.line X.env = pure true) (hit : PI X etg eit (tI E Φ X W sk its)) (hns : ∀ x, foldedSetIterable eit X.env x = pure x)
    (bo : BlkOk S.N S.sc scope (ownL S.N own)) (hto : ∀ i ∈ tgS tg, i ∈ own)
    (hg : ∀ (s : Shared) (H : Hp) (C : Addr) (cl : List (Str × Addr)) (fp : List Addr), PG (X.blk s H scope (compEnvC scope cl C X.env) fp) etg (gT X tg))
    (ht : ∀ (s : Shared) (H : Hp) (C : Addr) (cl : List (Str × Addr)) (fp : List Addr), PTs (X.blk s H scope (compEnvC scope cl C X.env) fp) eifs (tC1 E Φ X W0 cond))
    (he : ∀ (s : Shared) (H : Hp) (C : Addr) (cl : List (Str × Addr)) (fp : List Addr), PE (X.blk s H scope (compEnvC scope cl C X.env) fp) eelt (tE E Φ X W0 elt)) :
    PS X (.Assign [.Name y py] (.ListComp eelt [⟨etg, eit, eifs, 0⟩] scope pos) spos) (tAsg (tE E Φ X W (.cmpr elt tg sk its cond own)) (gName i)) := by
  have bo' : BlkOk X.N X.env.scope scope (ownL S.N own) := by rw [ok.N, ok.sc]; exact bo
  have hnd : X.N.Nodup := by rw [ok.N]; exact ok.nd
  have hy' : X.N[i]? = some y := by rw [ok.N]; exact hy
  refine ⟨fun pins s σ H D I hq => ?_⟩
  have hq : tE E Φ X W (.cmpr elt tg sk its cond own) σ H (fun x H1 => gName i x σ H1 D.nx) := hq
  refine (ps_setLc ok.calm hnd hy' hyl hsw hit bo' hg ht he hns).run pins s σ H D I ?_
  show tLc _ _ _ _ _ _ _ _
  rw [ownL_map]; exact cmp_read hto hq
end
end Eng

namespace Eng
open PySem PySem.Spec L2
open PyProof.Rows hiding St
section
variable {E : Eng} {Φ : Nat → List PV → CO} {k : Nat} {S : Stc} {X : Cx} {W : WX}
/-- the turns of a comprehension whose list stands at D -/
theorem cmp_loop {g : Ent} {σ : St} {ε2 : Sg} {Z1 H1 : Hp} {Stop : Hp → Prop} {elt : IE} {tg : Tg} {cond : List IE} {own : List Nat} {r : Rv} {items acc0 : List PV} {vs0 : List V} {v0 : V} {po : Option PV} {R : Out (List PV) → Prop}
    (hr : OpdR X.K (L2.wipe σ own) Z1 r v0) (hto : ∀ i ∈ tgS tg, i ∈ own) (hpk : r.peek ε2 = po) (G0 : Good X.K g (L2.wipe σ own) ε2 Z1 H1) {D : Addr} (b1 : H1 D = some (.lst vs0)) (b2 : RpL X.K Z1 acc0 vs0) (b3 : Z1 D = none)
    (b4 : ∀ j, IsOwn ε2 j → (L2.wipe σ own)[j]? ≠ some (some (V.ref D))) (hD0 : g.H0 D = none) (hDp : ∀ q ∈ g.pr, q.1 ≠ D) (Rs : R .stuck → False) (Re : ∀ c e, R (.exc c e) → False) (h : R (cmpI own r (turnI E Φ elt tg cond) items acc0 ε2))
    (fin : ∀ {acc : List PV} {vs : List V} {ε : Sg} {Z Hc : Hp}, Same Z1 Z → Good X.K g (L2.wipe σ own) ε Z Hc → Hc D = some (.lst vs) → RpL X.K Z acc vs → Z D = none → (∀ j, IsOwn ε j → (L2.wipe σ own)[j]? ≠ some (some (V.ref D))) → R (.ok acc ε) → Stop Hc)
    (J : It) (SJ : SrcJ X.K r v0 po items J Z1) :
    ∃ W' : Nat → Nat → Hp → Prop, (∃ m, W' 0 m H1) ∧ ∀ i m H, W' i m H →
      (J.stop i H ∧ Stop H) ∨ (J.go i H ∧ ∃ Nx : Hp → Prop, (∀ H', Nx H' → ∃ m', m' < m ∧ W' (i + 1) m' H') ∧ ∀ x H', J.yld i H x H' → gT X tg x (L2.wipe σ own) H' fun σ2 H2 => L2.wipe σ2 own = L2.wipe σ own ∧ tC1 E Φ X W0 cond σ2 H2 fun b H3 =>
        if b = true then tE E Φ X W0 elt σ2 H3 fun y H4 => ∃ acc, H4 D = some (.lst acc) ∧ acc.length < sizeLine ∧ Nx (upd H4 D (.lst (acc ++ [y]))) else Nx H3) := by
  let Wx : Nat → Nat → Hp → Prop := fun i m Hc => ∃ ε Z acc vs, m = items.length - i ∧ i ≤ items.length ∧ Same Z1 Z ∧ Good X.K g (L2.wipe σ own) ε Z Hc ∧ Hc D = some (.lst vs) ∧ RpL X.K Z acc vs ∧ Z D = none ∧
    (∀ j, IsOwn ε j → (L2.wipe σ own)[j]? ≠ some (some (V.ref D))) ∧ r.peek ε = po ∧ OpdR X.K (L2.wipe σ own) Z r v0 ∧ R (cmpI own r (turnI E Φ elt tg cond) (items.drop i) acc ε)
  refine ⟨Wx, ⟨items.length, ε2, Z1, acc0, vs0, rfl, Nat.zero_le _, .refl _, G0, b1, b2, b3, b4, hpk, hr, h⟩, ?_⟩
  rintro i m Hc ⟨ε, Z, acc, vs, rfl, hi, s1, G, d1, d2, d3, d4, pk, ro, rest⟩
  by_cases hlt : i < items.length
  · right
    have hdrop : items.drop i = items[i] :: items.drop (i + 1) := List.drop_eq_getElem_cons hlt
    refine ⟨SJ.go s1 G pk ro hlt, Wx (i + 1) (items.length - (i + 1)), fun H' w => ⟨_, by omega, w⟩, fun x H' y => ?_⟩
    obtain ⟨Zy, sy, Gy, rp0, ky⟩ := SJ.yld s1 G pk ro y (List.getElem?_eq_getElem hlt)
    have hne : Hc D ≠ none := by rw [d1]; exact fun z => nomatch z
    have d1 : H' D = some (.lst vs) := by rw [(ky D hne).1]; exact d1
    have d3 : Zy D = none := by rw [(ky D hne).2]; exact d3
    have d2 := d2.mono sy
    have s1 := s1.trans sy
    have ro := ro.mono sy
    rw [hdrop] at rest
    unfold cmpI at rest
    cases et : turnI E Φ elt tg cond items[i] ε with
    | stuck => rw [et] at rest; exact (Rs rest).elim
    | exc c e' => rw [et] at rest; exact (Rs rest).elim
    | ok o ε6 =>
      rw [et] at rest
      dsimp only at rest
      cases ew6 : wipeS ε6 own with
      | none => rw [ew6] at rest; exact (Rs rest).elim
      | some ε8 =>
        rw [ew6] at rest
        dsimp only at rest
        cases est : stays r ε ε8 with
        | false => rw [est, if_neg Bool.false_ne_true] at rest; exact (Rs rest).elim
        | true =>
          rw [est, if_pos rfl] at rest
          unfold turnI at et
          cases ea : asgT tg items[i] ε with
          | none => rw [ea] at et; cases et
          | some ε3 =>
            rw [ea] at et
            dsimp only at et
            have GD := Gy.prAdd (D := D) (o := .lst vs) d1 d3 d4
            refine ⟨_, ε, Zy, items[i], ε3, GD, rp0, ea, fun σ2 G3 k3 => ?_⟩
            have hl2 : σ2.length = (L2.wipe σ own).length := by
              rw [G3.len, GD.len]
              exact asgT_len ea
            have hwe : L2.wipe σ2 own = L2.wipe σ own := wipe_eq hl2 fun j hj => k3 j fun z => hj (hto j z)
            refine ⟨hwe, ?_⟩
            cases ec : evC E Φ cond ε3 with
            | stuck => rw [ec] at et; cases et
            | exc c e' => rw [ec] at et; cases et
            | ok t ε4 =>
              rw [ec] at et
              have et : (if t then (evE E Φ elt ε4).bind fun r ε5 => match frz r ε5 with
                | some (q, ε6) => Out.ok (some q) ε6
                | none => .stuck
                else Out.ok none ε4) = .ok o ε6 := et
              refine ⟨_, ε3, Zy, G3, ?_⟩
              rw [ec]
              intro Z4 H4 s4 G4
              have next : ∀ {Z5 H5 : Hp} {acc' : List PV} {vs' : List V} {ε5 : Sg}, Same Zy Z5 → Good X.K g σ2 ε5 Z5 H5 → wipeS ε5 own = some ε8 → H5 D = some (.lst vs') → RpL X.K Z5 acc' vs' → Z5 D = none → (∀ j, IsOwn ε5 j → σ2[j]? ≠ some (some (V.ref D))) →
                  R (cmpI own r (turnI E Φ elt tg cond) (items.drop (i + 1)) acc' ε8) → Wx (i + 1) (items.length - (i + 1)) H5 := fun {Z5 H5 acc' vs' ε5} s5 G5 e5 h1 h2 h3 h4 h5 => by
                have G5' := G5.wipe e5
                rw [hwe] at G5'
                obtain ⟨v1, v2, v3, v4⟩ := wipeS_get e5
                refine ⟨ε8, Z5, acc', vs', rfl, hlt, s1.trans s5, G5', h1, h2, h3, fun j oj z => ?_, (stays_eq est).trans pk, ro.mono s5, h5⟩
                by_cases hj : j ∈ own
                · exact wipe_in hj z
                · obtain ⟨kk, p, e⟩ := oj
                  rw [← hwe, wipe_out hj] at z
                  exact h4 j ⟨kk, p, by rw [← v2 j hj]; exact e⟩ z
              cases t with
              | false =>
                rw [if_neg Bool.false_ne_true] at et
                cases et
                show Wx (i + 1) (items.length - (i + 1)) H4
                obtain ⟨G5, q1, q2, q3⟩ := G4.prDrop
                exact next s4 G5 ew6 q1 (d2.mono s4) q2 q3 rest
              | true =>
                rw [if_pos rfl] at et
                show tE E Φ X W0 elt σ2 H4 _
                cases ee : evE E Φ elt ε4 with
                | stuck => rw [ee] at et; cases et
                | exc c e' => rw [ee] at et; cases et
                | ok r5 ε5 =>
                  rw [ee] at et
                  have et : (match frz r5 ε5 with | some (q, ε6) => Out.ok (some q) ε6 | none => .stuck) = .ok o ε6 := et
                  refine ⟨_, ε4, Z4, G4, ?_⟩
                  rw [ee]
                  intro Z5 H5 s5 G5 v rv
                  split at et
                  · rename_i q ε6' ef
                    cases et
                    obtain ⟨Z6, s6, G6, rq⟩ := G5.frz ef rv
                    obtain ⟨G7, q1, q2, q3⟩ := G6.prDrop
                    dsimp only at rest
                    have hls := d2.length
                    by_cases hz : acc.length < sizeLine
                    · rw [if_pos hz] at rest
                      refine ⟨vs, q1, by rw [hls]; exact hz, ?_⟩
                      have s46 := (s4.trans s5).trans s6
                      exact next s46 (G7.away q1 hD0 q2 q3 hDp) ew6 upd_same ((d2.mono s46).snoc rq) q2 q3 rest
                    · rw [if_neg hz] at rest
                      exact (Rs rest).elim
                  · cases et
  · left
    have e : i = items.length := by omega
    subst e
    rw [List.drop_length] at rest
    exact ⟨SJ.stop s1 G pk ro (Nat.le_refl _), fin s1 G d1 d2 d3 d4 rest⟩
theorem turn_nil {elt : IE} {tg : Tg} : (fun q ε => match asgT tg q ε with
      | some ε6 => (evE E Φ elt ε6).bind fun r6 ε7 => match frz r6 ε7 with
        | some (y, ε8) => Out.ok (some y) ε8
        | none => .stuck
      | none => .stuck) = turnI E Φ elt tg [] := by
  funext q ε
  unfold turnI
  cases asgT tg q ε <;> rfl
/-- one outer turn -/
noncomputable def turnO (E : Eng) (Φ : Nat → List PV → CO) (elt : IE) (tg : Tg) (tg1 : Tg) (k1 : Src) (its1 : List IE) (own1 : List Nat) : PV → List PV → Sg → Out (List PV) := fun p acc ε => match asgT tg p ε with
  | some ε3 => (evA E Φ its1 ε3).bind fun rs1 ε4 => match srcI k1 rs1 ε4, wipeS ε4 own1 with
    | some (r1, qs), some ε5 => if walkOk r1 own1 = true then cmpI own1 r1 (turnI E Φ elt tg1 []) qs acc ε5 else .stuck
    | _, _ => .stuck
  | none => .stuck
theorem ev_cmp2 {elt : IE} {tg : Tg} {sk : Src} {its : List IE} {tg1 : Tg} {k1 : Src} {its1 : List IE} {own own1 : List Nat} {ε : Sg} : evE E Φ (.cmp2 elt tg sk its tg1 k1 its1 own own1) ε = (evA E Φ its ε).bind fun rs ε1 => match srcI sk rs ε1, wipeS ε1 own with
    | some (r, ps), some ε2 => if walkOk r own = true then match cmpO own r (turnO E Φ elt tg tg1 k1 its1 own1) ps [] ε2 with
        | .ok acc ε7 => .ok (.fresh (.lst acc)) (backS ε1 ε7 own)
        | _ => .stuck
      else .stuck
    | _, _ => .stuck := by
  unfold turnO
  rw [← turn_nil]
  rfl
theorem wipe_wipe {σ : St} {own own1 : List Nat} (h : ∀ i ∈ own1, i ∈ own) : L2.wipe (L2.wipe σ own1) own = L2.wipe σ own :=
  wipe_eq (by rw [wipe_length, wipe_length]) fun j hj => by rw [wipe_out (fun z => hj (h j z)), wipe_out hj]
theorem cmp2_ok {g : Ent} {σ : St} {ε1 : Sg} {Z1 H1 : Hp} {Q : VK} {elt : IE} {tg tg1 : Tg} {k1 : Src} {its1 : List IE} {own own1 : List Nat} {r : Rv} {items : List PV} {v0 : V}
    (G1 : Good X.K g σ ε1 Z1 H1) (hr : OpdR X.K σ Z1 r v0) (hw : walkOk r own = true) (hto : ∀ i ∈ tgS tg, i ∈ own) (hto1 : ∀ i ∈ tgS tg1, i ∈ own1) (hoo : ∀ i ∈ own1, i ∈ own) {ε2 : Sg} (ew : wipeS ε1 own = some ε2)
    (h : Post E X W g σ Z1 (PR X g σ Q) (match cmpO own r (turnO E Φ elt tg tg1 k1 its1 own1) items [] ε2 with | .ok acc ε7 => .ok (.fresh (.lst acc)) (backS ε1 ε7 own) | _ => .stuck)) (D : Addr) (hD : H1 D = none)
    (J : It) (SJ : SrcJ X.K r v0 (r.peek ε1) items J Z1) :
    ∃ W' : Nat → Nat → Hp → Prop, (∃ m, W' 0 m (upd H1 D (.lst []))) ∧ ∀ i m H, W' i m H →
      (J.stop i H ∧ Q (.ref D) H) ∨ (J.go i H ∧ ∃ Nx : Hp → Prop, (∀ H', Nx H' → ∃ m', m' < m ∧ W' (i + 1) m' H') ∧ ∀ x H', J.yld i H x H' → gT X tg x (L2.wipe σ own) H' fun σ2 H2 => L2.wipe σ2 own = L2.wipe σ own ∧ tC1 E Φ X W0 [] σ2 H2 fun b H3 =>
        if b = true then tI E Φ X W0 k1 its1 σ2 H3 fun J1 H4 => ∃ W1 : Nat → Nat → Hp → Prop, (∃ m, W1 0 m H4) ∧ ∀ j k H, W1 j k H →
          (J1.stop j H ∧ Nx H) ∨ (J1.go j H ∧ ∃ Nx1 : Hp → Prop, (∀ H', Nx1 H' → ∃ k', k' < k ∧ W1 (j + 1) k' H') ∧ ∀ x H', J1.yld j H x H' → gT X tg1 x (L2.wipe σ2 own1) H' fun σ3 H5 => L2.wipe σ3 own1 = L2.wipe σ2 own1 ∧ tC1 E Φ X W0 [] σ3 H5 fun b H6 =>
            if b = true then tE E Φ X W0 elt σ3 H6 fun y H7 => ∃ acc, H7 D = some (.lst acc) ∧ acc.length < sizeLine ∧ Nx1 (upd H7 D (.lst (acc ++ [y]))) else Nx1 H6)
        else Nx H3) := by
  obtain ⟨w1, w2, w3, w4⟩ := wipeS_get ew
  have hD0 : g.H0 D = none := G1.al D hD
  have hDp := (G1.new hD).2
  let Wx : Nat → Nat → Hp → Prop := fun i m Hc => ∃ ε Z acc vs, m = items.length - i ∧ i ≤ items.length ∧ Same Z1 Z ∧ Good X.K g (L2.wipe σ own) ε Z Hc ∧ Hc D = some (.lst vs) ∧ RpL X.K Z acc vs ∧ Z D = none ∧
    (∀ j, IsOwn ε j → (L2.wipe σ own)[j]? ≠ some (some (V.ref D))) ∧ r.peek ε = r.peek ε1 ∧ OpdR X.K (L2.wipe σ own) Z r v0 ∧
    Post E X W g σ Z1 (PR X g σ Q) (match cmpO own r (turnO E Φ elt tg tg1 k1 its1 own1) (items.drop i) acc ε with | .ok acc ε7 => .ok (.fresh (.lst acc)) (backS ε1 ε7 own) | _ => .stuck)
  have hrw : ∀ {τ : St} {Z : Hp} {r : Rv} {v : V} {own : List Nat}, walkOk r own = true → OpdR X.K τ Z r v → OpdR X.K (L2.wipe τ own) Z r v := fun {τ Z r v own} hw hr => by
    cases r with
    | val q => exact hr
    | fresh q => exact hr
    | own i =>
      have hni : i ∉ own := of_decide_eq_true (p := i ∉ own) hw
      show (L2.wipe τ own)[i]? = _
      rw [wipe_out hni]; exact hr
  have hpw : ∀ {r : Rv} {own : List Nat} {ε ε' : Sg}, walkOk r own = true → wipeS ε own = some ε' → r.peek ε' = r.peek ε := fun {r own ε ε'} hw ew => by
    cases r with
    | val q => rfl
    | fresh q => rfl
    | own i =>
      have hni : i ∉ own := of_decide_eq_true (p := i ∉ own) hw
      show peekS ε' i = peekS ε i
      unfold peekS
      rw [(wipeS_get ew).2.1 i hni]
  refine ⟨Wx, ⟨items.length, ε2, Z1, [], [], rfl, Nat.zero_le _, .refl _, (G1.ext (Ext.new (o := .lst []) G1.zh hD)).wipe ew, upd_same, .nil, G1.zh.free hD, fun j oj z => ?_, hpw hw ew, hrw hw hr, h⟩, ?_⟩
  · by_cases hj : j ∈ own
    · exact wipe_in hj z
    · rw [wipe_out hj] at z
      obtain ⟨kk, p, e⟩ := oj
      exact (G1.new hD).1 j ⟨kk, p, by rw [← w2 j hj]; exact e⟩ z
  · rintro i m Hc ⟨ε, Z, acc, vs, rfl, hi, s1, G, d1, d2, d3, d4, pk, ro, rest⟩
    by_cases hlt : i < items.length
    · right
      have hdrop : items.drop i = items[i] :: items.drop (i + 1) := List.drop_eq_getElem_cons hlt
      refine ⟨SJ.go s1 G pk ro hlt, Wx (i + 1) (items.length - (i + 1)), fun H' w => ⟨_, by omega, w⟩, fun x H' y => ?_⟩
      obtain ⟨Zy, sy, Gy, rp0, ky⟩ := SJ.yld s1 G pk ro y (List.getElem?_eq_getElem hlt)
      have hne : Hc D ≠ none := by rw [d1]; exact fun z => nomatch z
      have d1 : H' D = some (.lst vs) := by rw [(ky D hne).1]; exact d1
      have d3 : Zy D = none := by rw [(ky D hne).2]; exact d3
      have d2 := d2.mono sy
      have s1 := s1.trans sy
      have ro := ro.mono sy
      rw [hdrop] at rest
      unfold cmpO at rest
      cases et : turnO E Φ elt tg tg1 k1 its1 own1 items[i] acc ε with
      | stuck => rw [et] at rest; exact rest.elim
      | exc c e' => rw [et] at rest; exact rest.elim
      | ok acc' ε6 =>
        rw [et] at rest
        dsimp only at rest
        cases ew6 : wipeS ε6 own with
        | none => rw [ew6] at rest; exact rest.elim
        | some ε8 =>
          rw [ew6] at rest
          dsimp only at rest
          cases est : stays r ε ε8 with
          | false => rw [est, if_neg Bool.false_ne_true] at rest; exact rest.elim
          | true =>
            rw [est, if_pos rfl] at rest
            unfold turnO at et
            cases ea : asgT tg items[i] ε with
            | none => rw [ea] at et; cases et
            | some ε3 =>
              rw [ea] at et
              dsimp only at et
              have GD := Gy.prAdd (D := D) (o := .lst vs) d1 d3 d4
              refine ⟨_, ε, Zy, items[i], ε3, GD, rp0, ea, fun σ2 G3 k3 => ?_⟩
              have hl2 : σ2.length = (L2.wipe σ own).length := by
                rw [G3.len, GD.len]
                exact asgT_len ea
              have hwe : L2.wipe σ2 own = L2.wipe σ own := wipe_eq hl2 fun j hj => k3 j fun z => hj (hto j z)
              refine ⟨hwe, _, ε3, Zy, G3, ?_⟩
              rw [show evC E Φ [] ε3 = .ok true ε3 from rfl]
              intro Z4 H4 s4 G4
              show tI E Φ X W0 k1 its1 σ2 H4 _
              refine ⟨_, ε3, Z4, G4, ?_⟩
              unfold evI
              cases ev : evA E Φ its1 ε3 with
              | stuck => rw [ev] at et; cases et
              | exc c e' => rw [ev] at et; cases et
              | ok rs1 ε4 =>
                rw [ev] at et
                have et : (match srcI k1 rs1 ε4, wipeS ε4 own1 with
                  | some (r1, qs), some ε5 => if walkOk r1 own1 = true then cmpI own1 r1 (turnI E Φ elt tg1 []) qs acc ε5 else .stuck
                  | _, _ => .stuck) = .ok acc' ε6 := et
                show Post E X W0 _ σ2 Z4 _ (match srcI k1 rs1 ε4 with | some q => .ok q ε4 | none => .stuck)
                cases es : srcI k1 rs1 ε4 with
                | none => rw [es] at et; cases et
                | some q =>
                  obtain ⟨r1, qs⟩ := q
                  rw [es] at et
                  cases ew1 : wipeS ε4 own1 with
                  | none => rw [ew1] at et; cases et
                  | some ε5 =>
                    rw [ew1] at et
                    dsimp only at et
                    by_cases hw1 : walkOk r1 own1 = true
                    · rw [if_pos hw1] at et
                      intro Z5 H5 s5 G5 v1 J1 ro1 SJ1
                      obtain ⟨G6, q1, q2, q3⟩ := G5.prDrop
                      obtain ⟨u1, u2, u3, u4⟩ := wipeS_get ew1
                      have s45 := s4.trans s5
                      refine cmp_loop (R := fun o => o = .ok acc' ε6) (po := r1.peek ε4) (hrw hw1 ro1) hto1 (hpw hw1 ew1) (G6.wipe ew1) q1 (d2.mono s45) q2 (fun j oj z => ?_) hD0 hDp (fun z => nomatch z) (fun _ _ z => nomatch z) et (fun {acc2 vs2 ε9 Z9 H9} s9 G9 e1 e2 e3 e4 e5 => ?_) J1 SJ1
                      · by_cases hj : j ∈ own1
                        · exact wipe_in hj z
                        · rw [wipe_out hj] at z
                          obtain ⟨kk, p, e⟩ := oj
                          exact q3 j ⟨kk, p, by rw [← u2 j hj]; exact e⟩ z
                      · cases e5
                        have G10 := G9.wipe ew6
                        rw [wipe_wipe hoo, hwe] at G10
                        obtain ⟨v1, v2, v3, v4⟩ := wipeS_get ew6
                        have s59 := s45.trans s9
                        refine ⟨ε8, Z9, acc', vs2, rfl, hlt, s1.trans s59, G10, e1, e2, e3, fun j oj z => ?_, (stays_eq est).trans pk, ro.mono s59, rest⟩
                        by_cases hj : j ∈ own
                        · exact wipe_in hj z
                        · obtain ⟨kk, p, e⟩ := oj
                          rw [← hwe, wipe_out hj] at z
                          exact e4 j ⟨kk, p, by rw [← v2 j hj]; exact e⟩ (by rw [wipe_out fun y => hj (hoo j y)]; exact z)
                    · rw [if_neg hw1] at et
                      cases et
    · left
      have e : i = items.length := by omega
      subst e
      rw [List.drop_length] at rest
      have rest : Post E X W g σ Z1 (PR X g σ Q) (.ok (.fresh (.lst acc)) (backS ε1 ε own)) := rest
      refine ⟨SJ.stop s1 G pk ro (Nat.le_refl _), ?_⟩
      have hl : ε.length = ε1.length := by rw [← G.len, wipe_length, G1.len]
      obtain ⟨b1, b2, b3⟩ := backS_get (own := own) hl
      refine rest Z Hc s1 (G1.back w4 G s1) _ ⟨D, rfl, d3, hD0, ⟨vs, d1, d2⟩, fun j oj z => ?_, hDp⟩
      obtain ⟨kk, p, e⟩ := oj
      by_cases hj : j ∈ own
      · rw [b3 j hj] at e
        exact w4 j hj ⟨kk, p, e⟩
      · rw [b2 j hj] at e
        exact d4 j ⟨kk, p, e⟩ (by rw [wipe_out hj]; exact z)
theorem cmp2_read {elt : IE} {tg : Tg} {sk : Src} {its : List IE} {tg1 : Tg} {k1 : Src} {its1 : List IE} {own own1 : List Nat} (hto : ∀ i ∈ tgS tg, i ∈ own) (hto1 : ∀ i ∈ tgS tg1, i ∈ own1) (hoo : ∀ i ∈ own1, i ∈ own) {σ : St} {H : Hp} {Q : VK} (hq : tE E Φ X W (.cmp2 elt tg sk its tg1 k1 its1 own own1) σ H Q) :
    tLc2 (tI E Φ X W sk its) (gT X tg) (tC1 E Φ X W0 []) (tI E Φ X W0 k1 its1) (gT X tg1) (tC1 E Φ X W0 []) (tE E Φ X W0 elt) own own1 σ H Q := by
  obtain ⟨g, ε, Z, G, h1⟩ := hq
  refine ⟨g, ε, Z, G, ?_⟩
  rw [ev_cmp2] at h1
  unfold evI
  cases hev : evA E Φ its ε with
  | stuck => rw [hev] at h1; exact h1.elim
  | exc c e' => rw [hev] at h1; exact h1
  | ok rs ε1 =>
    rw [hev] at h1
    have h1 : Post E X W g σ Z (PR X g σ Q) (match srcI sk rs ε1, wipeS ε1 own with
        | some (r, ps), some ε2 => if walkOk r own = true then match cmpO own r (turnO E Φ elt tg tg1 k1 its1 own1) ps [] ε2 with
            | .ok acc ε7 => .ok (.fresh (.lst acc)) (backS ε1 ε7 own)
            | _ => .stuck
          else .stuck
        | _, _ => .stuck) := h1
    show Post E X W g σ Z (PI2 X g σ _) (match srcI sk rs ε1 with | some q => .ok q ε1 | none => .stuck)
    cases es : srcI sk rs ε1 with
    | none => rw [es] at h1; exact h1.elim
    | some q =>
      obtain ⟨r, items⟩ := q
      rw [es] at h1
      cases ew : wipeS ε1 own with
      | none => rw [ew] at h1; exact h1.elim
      | some ε2 =>
        rw [ew] at h1
        dsimp only at h1
        by_cases hw : walkOk r own = true
        · rw [if_pos hw] at h1
          intro Z1 H1 s1 G1 v J ro SJ D hD
          exact cmp2_ok G1 ro hw hto hto1 hoo ew (h1.mono s1) D hD J SJ
        · rw [if_neg hw] at h1
          exact h1.elim
theorem s_cmp2 (ok : Okx E Φ k S W X) {elt : IE} {tg : Tg} {sk : Src} {its : List IE} {tg1 : Tg} {k1 : Src} {its1 : List IE} {own own1 : List Nat} {eelt etg eit etg1 eit1 : Expr} {scope : Scope} {pos : Pos} (hit : PI X etg eit (tI E Φ X W sk its)) (hns : ∀ x, foldedSetIterable eit X.env x = pure x) (hns1 : ∀ env x, foldedSetIterable eit1 env x = pure x)
    (bo : BlkOk S.N S.sc scope (ownL S.N own)) (hto : ∀ i ∈ tgS tg, i ∈ own) (hto1 : ∀ i ∈ tgS tg1, i ∈ own1) (hoo : ∀ i ∈ own1, i ∈ own)
    (hg : ∀ (s : Shared) (H : Hp) (C : Addr) (cl : List (Str × Addr)) (fp : List Addr), PG (X.blk s H scope (compEnvC scope cl C X.env) fp) etg (gT X tg))
    (hi1 : ∀ (s : Shared) (H : Hp) (C : Addr) (cl : List (Str × Addr)) (fp : List Addr), PI (X.blk s H scope (compEnvC scope cl C X.env) fp) etg1 eit1 (tI E Φ X W0 k1 its1))
    (hg1 : ∀ (s : Shared) (H : Hp) (C : Addr) (cl : List (Str × Addr)) (fp : List Addr), PG (X.blk s H scope (compEnvC scope cl C X.env) fp) etg1 (gT X tg1))
    (ht : ∀ (s : Shared) (H : Hp) (C : Addr) (cl : List (Str × Addr)) (fp : List Addr), PTs (X.blk s H scope (compEnvC scope cl C X.env) fp) [] (tC1 E Φ X W0 []))
    (he : ∀ (s : Shared) (H : Hp) (C : Addr) (cl : List (Str × Addr)) (fp : List Addr), PE (X.blk s H scope (compEnvC scope cl C X.env) fp) eelt (tE E Φ X W0 elt)) :
    PE X (.ListComp eelt [⟨etg, eit, [], 0⟩, ⟨etg1, eit1, [], 0⟩] scope pos) (tE E Φ X W (.cmp2 elt tg sk its tg1 k1 its1 own own1)) := by
  have bo' : BlkOk X.N X.env.scope scope (ownL S.N own) := by rw [ok.N, ok.sc]; exact bo
  have hnd : X.N.Nodup := by rw [ok.N]; exact ok.nd
  refine ⟨fun pins s σ H Q I hq => ?_⟩
  exact (pe_lc2 ok.calm hnd hit bo' (by rw [ownL_map]; exact hoo) hg ht hi1 hg1 ht he hns hns1).run pins s σ H Q I (by rw [ownL_map]; exact cmp2_read hto hto1 hoo hq)
theorem s_setLc2 (ok : Okx E Φ k S W X) {i : Nat} {y : Str} {py spos : Pos} (hy : S.N[i]? = some y) (hyl : X.env.scope.names.lookup y = some .local) {elt : IE} {tg : Tg} {sk : Src} {its : List IE} {tg1 : Tg} {k1 : Src} {its1 : List IE} {own own1 : List Nat} {eelt etg eit etg1 eit1 : Expr} {scope : Scope} {pos : Pos}
    (hsw : swapsWith (.ListComp eelt [⟨etg, eit, [], 0⟩, ⟨etg1, eit1, [], 0⟩] scope pos) (some (.Name y py)) spos.line X.env = pure true) (hit : PI X etg eit (tI E Φ X W sk its)) (hns : ∀ x, foldedSetIterable eit X.env x = pure x) (hns1 : ∀ env x, foldedSetIterable eit1 env x = pure x)
    (bo : BlkOk S.N S.sc scope (ownL S.N own)) (hto : ∀ i ∈ tgS tg, i ∈ own) (hto1 : ∀ i ∈ tgS tg1, i ∈ own1) (hoo : ∀ i ∈ own1, i ∈ own)
    (hg : ∀ (s : Shared) (H : Hp) (C : Addr) (cl : List (Str × Addr)) (fp : List Addr), PG (X.blk s H scope (compEnvC scope cl C X.env) fp) etg (gT X tg))
    (hi1 : ∀ (s : Shared) (H : Hp) (C : Addr) (cl : List (Str × Addr)) (fp : List Addr), PI (X.blk s H scope (compEnvC scope cl C X.env) fp) etg1 eit1 (tI E Φ X W0 k1 its1))
    (hg1 : ∀ (s : Shared) (H : Hp) (C : Addr) (cl : List (Str × Addr)) (fp : List Addr), PG (X.blk s H scope (compEnvC scope cl C X.env) fp) etg1 (gT X tg1))
    (ht : ∀ (s : Shared) (H : Hp) (C : Addr) (cl : List (Str × Addr)) (fp : List Addr), PTs (X.blk s H scope (compEnvC scope cl C X.env) fp) [] (tC1 E Φ X W0 []))
    (he : ∀ (s : Shared) (H : Hp) (C : Addr) (cl : List (Str × Addr)) (fp : List Addr), PE (X.blk s H scope (compEnvC scope cl C X.env) fp) eelt (tE E Φ X W0 elt)) :
    PS X (.Assign [.Name y py] (.ListComp eelt [⟨etg, eit, [], 0⟩, ⟨etg1, eit1, [], 0⟩] scope pos) spos) (tAsg (tE E Φ X W (.cmp2 elt tg sk its tg1 k1 its1 own own1)) (gName i)) := by
  have bo' : BlkOk X.N X.env.scope scope (ownL S.N own) := by rw [ok.N, ok.sc]; exact bo
  have hnd : X.N.Nodup := by rw [ok.N]; exact ok.nd
  have hy' : X.N[i]? = some y := by rw [ok.N]; exact hy
  refine ⟨fun pins s σ H D I hq => ?_⟩
  have hq : tE E Φ X W (.cmp2 elt tg sk its tg1 k1 its1 own own1) σ H (fun x H1 => gName i x σ H1 D.nx) := hq
  refine (ps_setLc2 ok.calm hnd hy' hyl hsw hit bo' (by rw [ownL_map]; exact hoo) hg ht hi1 hg1 ht he hns hns1).run pins s σ H D I ?_
  show tLc2 _ _ _ _ _ _ _ _ _ _ _ _
  rw [ownL_map]; exact cmp2_read hto hto1 hoo hq
end
end Eng

set_option maxHeartbeats 4000000
namespace Eng
open PySem PySem.Spec L2
open PyProof.Rows hiding St

section
variable {E : Eng} {Φ : Nat → List PV → CO} {k : Nat}

/-- what a comprehension's parts give -/
structure CmpOk (E : Eng) (Φ : Nat → List PV → CO) (X : Cx) (W : WX) (S : Stc) (elt : IE) (tg : Tg) (sk : Src) (its : List IE) (cond : List IE) (own : List Nat) (eelt etg eit : Expr) (eifs : List Expr) (scope : Scope) : Prop where
  hit : PI X etg eit (tI E Φ X W sk its)
  hns : ∀ x, foldedSetIterable eit X.env x = pure x
  bo : BlkOk S.N S.sc scope (ownL S.N own)
  hto : ∀ i ∈ tgS tg, i ∈ own
  hg : ∀ (s : Shared) (H : Hp) (C : Addr) (cl : List (Str × Addr)) (fp : List Addr), PG (X.blk s H scope (compEnvC scope cl C X.env) fp) etg (gT X tg)
  ht : ∀ (s : Shared) (H : Hp) (C : Addr) (cl : List (Str × Addr)) (fp : List Addr), PTs (X.blk s H scope (compEnvC scope cl C X.env) fp) eifs (tC1 E Φ X W0 cond)
  he : ∀ (s : Shared) (H : Hp) (C : Addr) (cl : List (Str × Addr)) (fp : List Addr), PE (X.blk s H scope (compEnvC scope cl C X.env) fp) eelt (tE E Φ X W0 elt)

theorem sc_nil {X : Cx} : PTs X [] (tC1 E Φ X W0 []) := by
  refine ⟨fun pins s σ H Q I hq => ?_⟩
  obtain ⟨g, ε, Z, G, h1⟩ := hq
  exact pts_nil.run pins s σ H Q I (h1 Z H (.refl _) G)
theorem sc_one {X : Cx} {c : IE} {ec : Expr} (h : PT X ec (tT E Φ X W0 c)) : PTs X [ec] (tC1 E Φ X W0 [c]) := by
  refine ⟨fun pins s σ H Q I hq => ?_⟩
  obtain ⟨g, ε, Z, G, h1⟩ := hq
  exact (pts_one h).run pins s σ H Q I ⟨g, ε, Z, G, h1⟩

theorem t_stuck {X : Cx} {W : WX} {e : IE} {ex : Expr} (h : ∀ ε, evT E Φ e ε = .stuck) : PT X ex (tT E Φ X W e) := by
  refine ⟨fun pins s σ H Q I hq => ?_⟩
  obtain ⟨g, ε, Z, G, h1⟩ := hq
  rw [h] at h1
  exact h1.elim
section
variable {S : Stc} {ex : Expr}
theorem soundCst (p : PV) {X : Cx} {W : WX} (ok : Okx E Φ k S W X) (m : mtE E S (.cst p) ex = true) : PE X ex (tE E Φ X W (.cst p)) := by
  cases p <;> cases ex <;> first | (exact absurd m Bool.false_ne_true) | skip
  all_goals
    rename_i c _ _
    cases c <;> first | (exact absurd m Bool.false_ne_true) | skip
  · exact s_cst pe_non fun _ => .non
  · rename_i b _ _ c
    have e := beq_iff_eq.mp (show (b == c) = true from m)
    subst e
    exact s_cst pe_bl fun _ => .bl _
  · rename_i b _ _ c
    have e := beq_iff_eq.mp (show (b == c) = true from m)
    subst e
    exact s_cst pe_int fun _ => .int _
  · rename_i b _ _ c
    have e := beq_iff_eq.mp (show (b == c) = true from m)
    subst e
    exact s_cst pe_str fun _ => .str _
theorem mt_cmp {op : CmpOp} {a b : IE} (m : mtE E S (.cmp op a b) ex = true) : ∃ ea eb pos, ex = .Compare ea [op] [eb] pos ∧ behindInMarks op eb = false ∧ mtE E S a ea = true ∧ mtE E S b eb = true := by
  cases ex <;> first | (exact absurd m Bool.false_ne_true) | skip
  rename_i ea ops es pos
  match ops, es, m with
  | [op'], [eb], m =>
    have m1 : (decide (op = op') && !behindInMarks op eb && mtE E S a ea && mtE E S b eb) = true := m
    simp only [Bool.and_eq_true, decide_eq_true_eq, Bool.not_eq_true'] at m1
    obtain ⟨⟨⟨h1, h2⟩, h3⟩, h4⟩ := m1
    subst h1
    exact ⟨_, _, _, rfl, h2, h3, h4⟩
  | [], _, m => exact absurd m Bool.false_ne_true
  | _ :: _ :: _, _, m => exact absurd m Bool.false_ne_true
  | [_], [], m => exact absurd m Bool.false_ne_true
  | [_], _ :: _ :: _, m => exact absurd m Bool.false_ne_true
theorem mt_chn {o1 o2 : CmpOp} {a b c : IE} (m : mtE E S (.chn o1 o2 a b c) ex = true) : ∃ ea eb ec pos, ex = .Compare ea [o1, o2] [eb, ec] pos ∧ lastMarks [o1, o2] [eb, ec] = false ∧ mtE E S a ea = true ∧ mtE E S b eb = true ∧ mtE E S c ec = true := by
  cases ex <;> first | (exact absurd m Bool.false_ne_true) | skip
  rename_i ea ops es pos
  match ops, es, m with
  | [p1, p2], [eb, ec], m =>
    have m1 : (decide (o1 = p1) && decide (o2 = p2) && !lastMarks [o1, o2] [eb, ec] && mtE E S a ea && mtE E S b eb && mtE E S c ec) = true := m
    simp only [Bool.and_eq_true, decide_eq_true_eq, Bool.not_eq_true'] at m1
    obtain ⟨⟨⟨⟨⟨h1, h2⟩, h3⟩, h4⟩, h5⟩, h6⟩ := m1
    subst h1
    subst h2
    exact ⟨_, _, _, _, rfl, h3, h4, h5, h6⟩
  | [], _, m => exact absurd m Bool.false_ne_true
  | [_], _, m => exact absurd m Bool.false_ne_true
  | [_, _], [], m => exact absurd m Bool.false_ne_true
  | [_, _], [_], m => exact absurd m Bool.false_ne_true
  | [_, _], _ :: _ :: _ :: _, m => exact absurd m Bool.false_ne_true
  | _ :: _ :: _ :: _, _, m => exact absurd m Bool.false_ne_true
theorem mt_lrev {a : IE} (m : mtE E S (.lrev a) ex = true) : ∃ p p2 e pos pos2, ex = .Call (.Name "list" p) [.Call (.Name "reversed" p2) [e] [] pos2] [] pos ∧ ("list" : Str) ∈ E.fre ∧ ("reversed" : Str) ∈ E.fre ∧ glB S.sc "list" = true ∧ glB S.sc "reversed" = true ∧ mtE E S a e = true ∧ noStar e = true := by
  cases ex <;> first | (exact absurd m Bool.false_ne_true) | skip
  rename_i fn es ks pos
  cases fn <;> first | (exact absurd m Bool.false_ne_true) | skip
  rename_i x p
  cases es with
  | nil => cases ks <;> exact absurd m Bool.false_ne_true
  | cons e1 rest =>
    cases e1 <;> first | (exact absurd m Bool.false_ne_true) | (cases ks <;> cases rest <;> exact absurd m Bool.false_ne_true) | skip
    rename_i fn2 es2 ks2 pos2
    cases fn2 <;> first | (exact absurd m Bool.false_ne_true) | (cases ks <;> cases rest <;> exact absurd m Bool.false_ne_true) | skip
    rename_i y p2
    match es2, ks2, rest, ks, m with
    | [e], [], [], [], m =>
      have m1 : (decide (x = "list") && decide (y = "reversed") && decide (("list" : Str) ∈ E.fre) && decide (("reversed" : Str) ∈ E.fre) && glB S.sc x && glB S.sc y && mtE E S a e && noStar e) = true := m
      rw [Bool.and_eq_true, Bool.and_eq_true, Bool.and_eq_true, Bool.and_eq_true, Bool.and_eq_true, Bool.and_eq_true, Bool.and_eq_true] at m1
      obtain ⟨⟨⟨⟨⟨⟨⟨h1, h2⟩, h3⟩, h4⟩, h5⟩, h6⟩, h7⟩, h8⟩ := m1
      have h1 := of_decide_eq_true h1
      have h2 := of_decide_eq_true h2
      subst h1
      subst h2
      exact ⟨p, p2, e, pos, pos2, rfl, of_decide_eq_true h3, of_decide_eq_true h4, h5, h6, h7, h8⟩
    | [], k2, r, kk, m => cases k2 <;> cases r <;> cases kk <;> exact absurd m Bool.false_ne_true
    | [_], _ :: _, r, kk, m => cases r <;> cases kk <;> exact absurd m Bool.false_ne_true
    | _ :: _ :: _, k2, r, kk, m => cases k2 <;> cases r <;> cases kk <;> exact absurd m Bool.false_ne_true
    | [_], [], _ :: _, kk, m => cases kk <;> exact absurd m Bool.false_ne_true
    | [_], [], [], _ :: _, m => exact absurd m Bool.false_ne_true
theorem mt_split {a b : IE} (m : mtE E S (.split a b) ex = true) : ∃ ea eb apos cpos, ex = .Call (.Attribute ea "split" apos) [eb] [] cpos ∧ (apos.endLine == cpos.line) = true ∧ mtE E S a ea = true ∧ mtE E S b eb = true ∧ noStar eb = true ∧ plainO ea = true := by
  cases ex <;> first | (exact absurd m Bool.false_ne_true) | skip
  rename_i fn es ks cpos
  cases fn <;> first | (exact absurd m Bool.false_ne_true) | skip
  rename_i ea nm apos
  match es, ks, m with
  | [eb], [], m =>
    have m1 : (decide (nm = "split") && (apos.endLine == cpos.line) && mtE E S a ea && mtE E S b eb && noStar eb && plainO ea) = true := m
    rw [Bool.and_eq_true, Bool.and_eq_true, Bool.and_eq_true, Bool.and_eq_true, Bool.and_eq_true] at m1
    obtain ⟨⟨⟨⟨⟨h1, h2⟩, h3⟩, h4⟩, h5⟩, h6⟩ := m1
    have h1 := of_decide_eq_true h1
    subst h1
    exact ⟨ea, eb, apos, cpos, rfl, h2, h3, h4, h5, h6⟩
  | [], [], m => exact absurd m Bool.false_ne_true
  | [], _ :: _, m => exact absurd m Bool.false_ne_true
  | [_], _ :: _, m => exact absurd m Bool.false_ne_true
  | _ :: _ :: _, [], m => exact absurd m Bool.false_ne_true
  | _ :: _ :: _, _ :: _, m => exact absurd m Bool.false_ne_true
theorem mt_dgt {a kx : IE} (m : mtE E S (.dgt a kx) ex = true) : ∃ ea ek apos cpos, ex = .Call (.Attribute ea "get" apos) [ek] [] cpos ∧ (apos.endLine == cpos.line) = true ∧ mtE E S a ea = true ∧ mtE E S kx ek = true ∧ noStar ek = true ∧ plainO ea = true := by
  cases ex <;> first | (exact absurd m Bool.false_ne_true) | skip
  rename_i fn es ks cpos
  cases fn <;> first | (exact absurd m Bool.false_ne_true) | skip
  rename_i ea nm apos
  match es, ks, m with
  | [ek], [], m =>
    have m1 : (decide (nm = "get") && (apos.endLine == cpos.line) && mtE E S a ea && mtE E S kx ek && noStar ek && plainO ea) = true := m
    rw [Bool.and_eq_true, Bool.and_eq_true, Bool.and_eq_true, Bool.and_eq_true, Bool.and_eq_true] at m1
    obtain ⟨⟨⟨⟨⟨h1, h2⟩, h3⟩, h4⟩, h5⟩, h6⟩ := m1
    have h1 := of_decide_eq_true h1
    subst h1
    exact ⟨ea, ek, apos, cpos, rfl, h2, h3, h4, h5, h6⟩
  | [], [], m => exact absurd m Bool.false_ne_true
  | [], _ :: _, m => exact absurd m Bool.false_ne_true
  | [_], _ :: _, m => exact absurd m Bool.false_ne_true
  | _ :: _ :: _, [], m => exact absurd m Bool.false_ne_true
  | _ :: _ :: _, _ :: _, m => exact absurd m Bool.false_ne_true
theorem mt_dgd {a kx d : IE} (m : mtE E S (.dgd a kx d) ex = true) : ∃ ea ek ed apos cpos, ex = .Call (.Attribute ea "get" apos) [ek, ed] [] cpos ∧ (apos.endLine == cpos.line) = true ∧ mtE E S a ea = true ∧ mtE E S kx ek = true ∧ noStar ek = true ∧ plainO ea = true ∧ mtE E S d ed = true ∧ noStar ed = true := by
  cases ex <;> first | (exact absurd m Bool.false_ne_true) | skip
  rename_i fn es ks cpos
  cases fn <;> first | (exact absurd m Bool.false_ne_true) | skip
  rename_i ea nm apos
  match es, ks, m with
  | [ek, ed], [], m =>
    have m1 : (decide (nm = "get") && (apos.endLine == cpos.line) && mtE E S a ea && mtE E S kx ek && noStar ek && plainO ea && mtE E S d ed && noStar ed) = true := m
    rw [Bool.and_eq_true, Bool.and_eq_true, Bool.and_eq_true, Bool.and_eq_true, Bool.and_eq_true, Bool.and_eq_true, Bool.and_eq_true] at m1
    obtain ⟨⟨⟨⟨⟨⟨⟨h1, h2⟩, h3⟩, h4⟩, h5⟩, h6⟩, h7⟩, h8⟩ := m1
    have h1 := of_decide_eq_true h1
    subst h1
    exact ⟨ea, ek, ed, apos, cpos, rfl, h2, h3, h4, h5, h6, h7, h8⟩
  | [], [], m => exact absurd m Bool.false_ne_true
  | [], _ :: _, m => exact absurd m Bool.false_ne_true
  | [_], [], m => exact absurd m Bool.false_ne_true
  | [_], _ :: _, m => exact absurd m Bool.false_ne_true
  | [_, _], _ :: _, m => exact absurd m Bool.false_ne_true
  | _ :: _ :: _ :: _, [], m => exact absurd m Bool.false_ne_true
  | _ :: _ :: _ :: _, _ :: _, m => exact absurd m Bool.false_ne_true
theorem mt_isN {a : IE} {n : Bool} (m : mtE E S (.isN a n) ex = true) : ∃ ea op j pos pos', ex = .Compare ea [op] [.Constant .none j pos'] pos ∧ (op = if n = true then .IsNot else .Is) ∧ mtE E S a ea = true := by
  cases ex <;> first | (exact absurd m Bool.false_ne_true) | skip
  rename_i ea ops es pos
  match ops, es, m with
  | [op'], [eb], m =>
    cases eb <;> first | (exact absurd m Bool.false_ne_true) | skip
    rename_i c j pos'
    cases c <;> first | (exact absurd m Bool.false_ne_true) | skip
    have m1 : (decide (op' = if n then .IsNot else .Is) && mtE E S a ea) = true := m
    simp only [Bool.and_eq_true, decide_eq_true_eq] at m1
    exact ⟨_, _, _, _, _, rfl, m1.1, m1.2⟩
  | [], _, m => exact absurd m Bool.false_ne_true
  | _ :: _ :: _, _, m => exact absurd m Bool.false_ne_true
  | [_], [], m => exact absurd m Bool.false_ne_true
  | [_], e1 :: _ :: _, m =>
    cases e1 <;> first | (exact absurd m Bool.false_ne_true) | skip
    rename_i c _ _
    cases c <;> exact absurd m Bool.false_ne_true
theorem mt_slc {a : IE} {lo hi : Option IE} (m : mtE E S (.slc a lo hi) ex = true) : ∃ ea elo ehi pos p2, ex = .Subscript ea (.Slice elo ehi none p2) pos ∧ mtE E S a ea = true ∧ mtO E S lo elo = true ∧ mtO E S hi ehi = true := by
  cases ex <;> first | (exact absurd m Bool.false_ne_true) | skip
  rename_i ea es pos
  cases es <;> first | (exact absurd m Bool.false_ne_true) | skip
  rename_i l u st p2
  cases st <;> first | (exact absurd m Bool.false_ne_true) | skip
  have m1 : (mtE E S a ea && mtO E S lo l && mtO E S hi u) = true := m
  simp only [Bool.and_eq_true] at m1
  exact ⟨_, _, _, _, _, rfl, m1.1.1, m1.1.2, m1.2⟩
theorem mt_call {f : Nat} {as : List IE} (m : mtE E S (.call f as) ex = true) : ∃ fi x e es p pos, ex = .Call (.Name x p) (e :: es) [] pos ∧ E.fns[f]? = some fi ∧ fi.name = x ∧ glB S.sc x = true ∧ mtL E S as (e :: es) = true := by
  cases ex <;> first | (exact absurd m Bool.false_ne_true) | skip
  rename_i fn es ks pos
  cases fn <;> first | (exact absurd m Bool.false_ne_true) | skip
  rename_i x p
  match es, ks, m with
  | e :: es, [], m =>
    have m1 : ((match E.fns[f]? with
      | some fi => decide (fi.name = x)
      | none => false) && glB S.sc x && mtL E S as (e :: es)) = true := m
    rw [Bool.and_eq_true, Bool.and_eq_true] at m1
    obtain ⟨⟨h1, h2⟩, h3⟩ := m1
    cases hf : E.fns[f]? with
    | none => rw [hf] at h1; exact absurd h1 Bool.false_ne_true
    | some fi =>
      rw [hf] at h1
      exact ⟨fi, x, e, es, p, pos, rfl, rfl, of_decide_eq_true h1, h2, h3⟩
  | [], _, m => exact absurd m Bool.false_ne_true
  | _ :: _, _ :: _, m => exact absurd m Bool.false_ne_true
theorem mt_blt {b : Blt} {as : List IE} (m : mtE E S (.blt b as) ex = true) : ∃ x e es p pos, ex = .Call (.Name x p) (e :: es) [] pos ∧ bltN b = x ∧ b ∈ E.blts ∧ glB S.sc x = true ∧ mtL E S as (e :: es) = true := by
  cases ex <;> first | (exact absurd m Bool.false_ne_true) | skip
  rename_i fn es ks pos
  cases fn <;> first | (exact absurd m Bool.false_ne_true) | skip
  rename_i x p
  match es, ks, m with
  | e :: es, [], m =>
    have m1 : (decide (bltN b = x) && decide (b ∈ E.blts) && glB S.sc x && mtL E S as (e :: es)) = true := m
    simp only [Bool.and_eq_true, decide_eq_true_eq] at m1
    exact ⟨x, e, es, p, pos, rfl, m1.1.1.1, m1.1.1.2, m1.1.2, m1.2⟩
  | [], _, m => exact absurd m Bool.false_ne_true
  | _ :: _, _ :: _, m => exact absurd m Bool.false_ne_true
theorem mt_isi {a : IE} {ty : String} (m : mtE E S (.isi a ty) ex = true) : ∃ e y p p2 pos, ex = .Call (.Name "isinstance" p) [e, .Name y p2] [] pos ∧ Str.ofString ty = y ∧ ty ∈ E.tys ∧ glB S.sc "isinstance" = true ∧ glB S.sc y = true ∧ mtE E S a e = true ∧ noStar e = true := by
  cases ex <;> first | (exact absurd m Bool.false_ne_true) | skip
  rename_i fn es ks pos
  cases fn <;> first | (exact absurd m Bool.false_ne_true) | skip
  rename_i x p
  match es, ks, m with
  | [e, e2], [], m =>
    cases e2 <;> first | (exact absurd m Bool.false_ne_true) | skip
    rename_i y p2
    have m1 : (decide (x = "isinstance") && decide (Str.ofString ty = y) && decide (ty ∈ E.tys) && glB S.sc x && glB S.sc y && mtE E S a e && noStar e) = true := m
    simp only [Bool.and_eq_true, decide_eq_true_eq] at m1
    obtain ⟨⟨⟨⟨⟨⟨h1, h2⟩, h3⟩, h4⟩, h5⟩, h6⟩, h7⟩ := m1
    subst h1
    exact ⟨e, y, p, p2, pos, rfl, h2, h3, h4, h5, h6, h7⟩
  | [], _, m => exact absurd m Bool.false_ne_true
  | [_], _, m => exact absurd m Bool.false_ne_true
  | _ :: e2 :: _ :: _, _, m => cases e2 <;> exact absurd m Bool.false_ne_true
  | [_, e2], _ :: _, m => cases e2 <;> exact absurd m Bool.false_ne_true
theorem mt_cmpr {elt : IE} {tg : Tg} {sk : Src} {its : List IE} {cond : List IE} {own : List Nat} (m : mtE E S (.cmpr elt tg sk its cond own) ex = true) : ∃ eelt etg eit eifs scope pos, ex = .ListComp eelt [⟨etg, eit, eifs, 0⟩] scope pos ∧ noSet eit = true ∧ (srcHd E S sk eit = true ∧ mtL E S its (srcAs sk eit) = true) ∧
    blkC S.N S.sc scope (ownL S.N own) = true ∧ mtT (S.blk scope) tg etg = true ∧ mtL E (S.blk scope) cond eifs = true ∧ mtE E (S.blk scope) elt eelt = true ∧ cond.length ≤ 1 ∧ (∀ i ∈ tgS tg, i ∈ own) ∧ tgOk sk tg = true := by
  cases ex <;> first | (exact absurd m Bool.false_ne_true) | skip
  rename_i eelt gs scope pos
  match gs, m with
  | [⟨etg, eit, eifs, ia⟩], m =>
    have m1 : (noSet eit && srcHd E S sk eit && mtL E S its (srcAs sk eit) && blkC S.N S.sc scope (ownL S.N own) && mtT (S.blk scope) tg etg && mtL E (S.blk scope) cond eifs && mtE E (S.blk scope) elt eelt && decide (ia = 0) && decide (cond.length ≤ 1) && (tgS tg).all (fun i => decide (i ∈ own)) && tgOk sk tg) = true := m
    simp only [Bool.and_eq_true, decide_eq_true_eq, List.all_eq_true] at m1
    obtain ⟨⟨⟨⟨⟨⟨⟨⟨⟨⟨h1, h2⟩, h2'⟩, h3⟩, h4⟩, h5⟩, h6⟩, h7⟩, h8⟩, h9⟩, h10⟩ := m1
    subst h7
    exact ⟨_, _, _, _, _, _, rfl, h1, ⟨h2, h2'⟩, h3, h4, h5, h6, h8, h9, h10⟩
  | [], m => exact absurd m Bool.false_ne_true
  | ⟨_, _, _, _⟩ :: _ :: _, m => exact absurd m Bool.false_ne_true
theorem mt_cmp2 {elt : IE} {tg : Tg} {sk : Src} {its : List IE} {tg1 : Tg} {k1 : Src} {its1 : List IE} {own own1 : List Nat} (m : mtE E S (.cmp2 elt tg sk its tg1 k1 its1 own own1) ex = true) : ∃ eelt etg eit etg1 eit1 scope pos, ex = .ListComp eelt [⟨etg, eit, [], 0⟩, ⟨etg1, eit1, [], 0⟩] scope pos ∧
    (noSet eit = true ∧ noSet eit1 = true ∧ srcHd E S sk eit = true ∧ mtL E S its (srcAs sk eit) = true ∧ blkC S.N S.sc scope (ownL S.N own) = true) ∧ (mtT (S.blk scope) tg etg = true ∧ srcHd E (S.blk scope) k1 eit1 = true ∧ mtL E (S.blk scope) its1 (srcAs k1 eit1) = true ∧ mtT (S.blk scope) tg1 etg1 = true ∧ mtE E (S.blk scope) elt eelt = true) ∧
    (∀ i ∈ tgS tg, i ∈ own) ∧ (∀ i ∈ tgS tg1, i ∈ own1) ∧ (∀ i ∈ own1, i ∈ own) ∧ tgOk sk tg = true ∧ tgOk k1 tg1 = true := by
  cases ex <;> first | (exact absurd m Bool.false_ne_true) | skip
  rename_i eelt gs scope pos
  match gs, m with
  | [⟨etg, eit, [], ia⟩, ⟨etg1, eit1, [], ia1⟩], m =>
    have m1 : ((noSet eit && noSet eit1 && srcHd E S sk eit && mtL E S its (srcAs sk eit) && blkC S.N S.sc scope (ownL S.N own)) && (mtT (S.blk scope) tg etg && srcHd E (S.blk scope) k1 eit1 && mtL E (S.blk scope) its1 (srcAs k1 eit1) && mtT (S.blk scope) tg1 etg1 && mtE E (S.blk scope) elt eelt) &&
      (decide (ia = 0) && decide (ia1 = 0) && (tgS tg).all (fun i => decide (i ∈ own)) && (tgS tg1).all (fun i => decide (i ∈ own1)) && own1.all (fun i => decide (i ∈ own)) && tgOk sk tg && tgOk k1 tg1)) = true := m
    simp only [Bool.and_eq_true, decide_eq_true_eq, List.all_eq_true] at m1
    obtain ⟨⟨⟨⟨⟨⟨h1, h2⟩, h3⟩, h4⟩, h5⟩, ⟨⟨⟨g1, g2⟩, g3⟩, g4⟩, g5⟩, ⟨⟨⟨⟨⟨f1, f2⟩, f3⟩, f4⟩, f5⟩, f6⟩, f7⟩ := m1
    subst f1
    subst f2
    exact ⟨_, _, _, _, _, _, _, rfl, ⟨h1, h2, h3, h4, h5⟩, ⟨g1, g2, g3, g4, g5⟩, f3, f4, f5, f6, f7⟩
  | [], m => exact absurd m Bool.false_ne_true
  | [⟨_, _, l, _⟩], m => cases l <;> exact absurd m Bool.false_ne_true
  | [⟨_, _, _ :: _, _⟩, ⟨_, _, _, _⟩], m => exact absurd m Bool.false_ne_true
  | [⟨_, _, [], _⟩, ⟨_, _, _ :: _, _⟩], m => exact absurd m Bool.false_ne_true
  | ⟨_, _, l, _⟩ :: ⟨_, _, l1, _⟩ :: _ :: _, m => cases l <;> cases l1 <;> exact absurd m Bool.false_ne_true
theorem mt_pick {fs : List Nat} {i : IE} {as : List IE} (m : mtE E S (.pick fs i as) ex = true) : ∃ ns p1 ei p2 e es pos, ex = .Call (.Subscript (.List ns p1) ei p2) (e :: es) [] pos ∧ mtN E S fs ns = true ∧ fs.length ≤ 8 ∧ mtE E S i ei = true ∧ noSlc ei = true ∧ mtL E S as (e :: es) = true := by
  cases ex <;> first | (exact absurd m Bool.false_ne_true) | skip
  rename_i fn es ks pos
  cases fn <;> first | (exact absurd m Bool.false_ne_true) | skip
  rename_i b ei p2
  cases b <;> first | (exact absurd m Bool.false_ne_true) | skip
  rename_i ns p1
  cases ks with
  | cons _ _ => exact absurd m Bool.false_ne_true
  | nil =>
    have m : (mtN E S fs ns && decide (fs.length ≤ 8) && mtE E S i ei && noSlc ei && mtL E S as es && !es.isEmpty) = true := m
    simp only [Bool.and_eq_true, decide_eq_true_eq] at m
    obtain ⟨⟨⟨⟨⟨h1, h2⟩, h3⟩, h4⟩, h5⟩, h6⟩ := m
    cases es with
    | nil => exact absurd h6 (by decide)
    | cons e es => exact ⟨_, _, _, _, _, _, _, rfl, h1, h2, h3, h4, h5⟩
theorem mt_sset {a : IE} (m : mtE E S (.sset a) ex = true) : ∃ p p2 e pos pos2, ex = .Call (.Name "sorted" p) [.Call (.Name "set" p2) [e] [] pos2] [] pos ∧ ("sorted" : Str) ∈ E.fre ∧ ("set" : Str) ∈ E.fre ∧ glB S.sc "sorted" = true ∧ glB S.sc "set" = true ∧ mtE E S a e = true ∧ noStar e = true := by
  cases ex <;> first | (exact absurd m Bool.false_ne_true) | skip
  rename_i fn es ks pos
  cases fn <;> first | (exact absurd m Bool.false_ne_true) | skip
  rename_i x p
  cases es with
  | nil => cases ks <;> exact absurd m Bool.false_ne_true
  | cons e1 rest =>
    cases e1 <;> first | (exact absurd m Bool.false_ne_true) | (cases ks <;> cases rest <;> exact absurd m Bool.false_ne_true) | skip
    rename_i fn2 es2 ks2 pos2
    cases fn2 <;> first | (exact absurd m Bool.false_ne_true) | (cases ks <;> cases rest <;> exact absurd m Bool.false_ne_true) | skip
    rename_i y p2
    match es2, ks2, rest, ks, m with
    | [e], [], [], [], m =>
      have m1 : (decide (x = "sorted") && decide (y = "set") && decide (("sorted" : Str) ∈ E.fre) && decide (("set" : Str) ∈ E.fre) && glB S.sc x && glB S.sc y && mtE E S a e && noStar e) = true := m
      rw [Bool.and_eq_true, Bool.and_eq_true, Bool.and_eq_true, Bool.and_eq_true, Bool.and_eq_true, Bool.and_eq_true, Bool.and_eq_true] at m1
      obtain ⟨⟨⟨⟨⟨⟨⟨h1, h2⟩, h3⟩, h4⟩, h5⟩, h6⟩, h7⟩, h8⟩ := m1
      have h1 := of_decide_eq_true h1
      have h2 := of_decide_eq_true h2
      subst h1
      subst h2
      exact ⟨p, p2, e, pos, pos2, rfl, of_decide_eq_true h3, of_decide_eq_true h4, h5, h6, h7, h8⟩
    | [], k2, r, kk, m => cases k2 <;> cases r <;> cases kk <;> exact absurd m Bool.false_ne_true
    | [_], _ :: _, r, kk, m => cases r <;> cases kk <;> exact absurd m Bool.false_ne_true
    | _ :: _ :: _, k2, r, kk, m => cases k2 <;> cases r <;> cases kk <;> exact absurd m Bool.false_ne_true
    | [_], [], _ :: _, kk, m => cases kk <;> exact absurd m Bool.false_ne_true
    | [_], [], [], _ :: _, m => exact absurd m Bool.false_ne_true
theorem mt_ddis {ks : List Str} {es : List IE} (m : mtE E S (.ddis ks es) ex = true) : ∃ keys vals pos, ex = .Dict keys vals pos ∧ mtK ks keys = true ∧ mtL E S es vals = true ∧ ks.length ≤ 15 ∧ ks ≠ [] ∧ ks.length = es.length := by
  cases ex <;> first | (exact absurd m Bool.false_ne_true) | skip
  rename_i keys vals pos
  cases keys with
  | nil =>
    cases vals <;> first
      | exact absurd m Bool.false_ne_true
      | (have m : (mtK ks [] && _ && _ && _ && _) = true := m
         cases ks <;> simp [mtK] at m)
  | cons k0 keys =>
    have m : (mtK ks (k0 :: keys) && mtL E S es vals && decide (ks.length ≤ 15) && !ks.isEmpty && decide (ks.length = es.length)) = true := m
    simp only [Bool.and_eq_true, decide_eq_true_eq] at m
    obtain ⟨⟨⟨⟨h1, h2⟩, h3⟩, h4⟩, h5⟩ := m
    exact ⟨_, _, _, rfl, h1, h2, h3, fun z => by rw [z] at h4; exact absurd h4 (by decide), h5⟩
theorem mtK_facts : ∀ {ks : List Str} {keys : List (Option Expr)}, mtK ks keys = true → keys.all (·.isSome) = true ∧ keys.length = ks.length
  | [], [], _ => ⟨rfl, rfl⟩
  | [], _ :: _, h => by cases h
  | _ :: _, [], h => by cases h
  | k :: ks, none :: keys, h => by cases h
  | k :: ks, some e :: keys, h => by
    cases e <;> first | (cases h; done) | skip
    rename_i c _ _
    cases c <;> first | (cases h; done) | skip
    rename_i x
    have h : (decide (k = x) && mtK ks keys) = true := h
    rw [Bool.and_eq_true] at h
    obtain ⟨h1, h2⟩ := mtK_facts h.2
    exact ⟨by simpa using h1, by simp [h2]⟩
theorem mt_mut {mm : Mu} {i : Nat} {as : List IE} (m : mtE E S (.mut mm i as) ex = true) : ∃ x px apos es cpos, ex = .Call (.Attribute (.Name x px) (muN mm) apos) es [] cpos ∧ (decide (S.N[i]? = some x) && visB S.sc x && okN x) = true ∧ (apos.endLine == cpos.line) = true ∧ mtL E S as es = true := by
  cases ex <;> first | (exact absurd m Bool.false_ne_true) | skip
  rename_i fn es ks cpos
  cases fn <;> first | (exact absurd m Bool.false_ne_true) | skip
  rename_i o nm apos
  cases o <;> first | (exact absurd m Bool.false_ne_true) | skip
  rename_i x px
  cases ks with
  | cons _ _ => exact absurd m Bool.false_ne_true
  | nil =>
    have m1 : (decide (S.N[i]? = some x) && visB S.sc x && okN x && decide (nm = muN mm) && (apos.endLine == cpos.line) && mtL E S as es && decide (es.length < 20)) = true := m
    rw [Bool.and_eq_true, Bool.and_eq_true, Bool.and_eq_true, Bool.and_eq_true] at m1
    obtain ⟨⟨⟨⟨h1, h2⟩, h3⟩, h4⟩, h5⟩ := m1
    have h2 := of_decide_eq_true h2
    subst h2
    exact ⟨x, px, apos, es, cpos, rfl, h1, h3, h4⟩
end

theorem plain_base {ea : Expr} {nm : Str} {env : Env} (h : plainO ea = true) : attributeBase ea nm env (eval ea env) = eval ea env := by
  cases ea <;> first | rfl | exact absurd h Bool.false_ne_true
theorem mtL_len {S : Stc} : ∀ {l : List IE} {es : List Expr}, mtL E S l es = true → l.length = es.length
  | [], [], _ => rfl
  | [], _ :: _, h => absurd h Bool.false_ne_true
  | _ :: _, [], h => absurd h Bool.false_ne_true
  | a :: l, e :: es, h => by
    have h : (mtE E S a e && mtL E S l es && noStar e) = true := h
    simp only [Bool.and_eq_true] at h
    rw [List.length_cons, List.length_cons, mtL_len h.1.2]
theorem hd_rng {S : Stc} {X : Cx} {W : WX} {ex : Expr} (ok : Okx E Φ k S W X) (m : srcHd E S .rng ex = true) : ∃ p es pos, ex = .Call (.Name "range" p) es [] pos ∧ 1 ≤ es.length ∧ es.length ≤ 3 ∧ Gl X "range" ∧ X.mg "range" = none := by
  cases ex <;> first | (exact absurd m Bool.false_ne_true) | skip
  rename_i fn es ks pos
  cases fn <;> first | (exact absurd m Bool.false_ne_true) | skip
  rename_i x p
  cases ks with
  | cons _ _ => exact absurd m Bool.false_ne_true
  | nil =>
    have m : (decide (x = "range") && decide (("range" : Str) ∈ E.fre) && glB S.sc x && decide (1 ≤ es.length) && decide (es.length ≤ 3)) = true := m
    rw [Bool.and_eq_true, Bool.and_eq_true, Bool.and_eq_true, Bool.and_eq_true] at m
    obtain ⟨⟨⟨⟨h1, h2⟩, h3⟩, h4⟩, h5⟩ := m
    have h1 := of_decide_eq_true h1
    subst h1
    exact ⟨p, es, pos, rfl, of_decide_eq_true h4, of_decide_eq_true h5, (ok.gl h3).1, ok.fr _ (of_decide_eq_true h2)⟩
theorem hd_rev {S : Stc} {X : Cx} {W : WX} {ex : Expr} (ok : Okx E Φ k S W X) (m : srcHd E S .rev ex = true) : ∃ p e pos, ex = .Call (.Name "reversed" p) [e] [] pos ∧ Gl X "reversed" ∧ X.mg "reversed" = none := by
  cases ex <;> first | (exact absurd m Bool.false_ne_true) | skip
  rename_i fn es ks pos
  cases fn <;> first | (exact absurd m Bool.false_ne_true) | skip
  rename_i x p
  match es, ks, m with
  | [e], [], m =>
    have m : (decide (x = "reversed") && decide (("reversed" : Str) ∈ E.fre) && glB S.sc x) = true := m
    rw [Bool.and_eq_true, Bool.and_eq_true] at m
    obtain ⟨⟨h1, h2⟩, h3⟩ := m
    have h1 := of_decide_eq_true h1
    subst h1
    exact ⟨p, e, pos, rfl, (ok.gl h3).1, ok.fr _ (of_decide_eq_true h2)⟩
  | [], [], m => exact absurd m Bool.false_ne_true
  | [], _ :: _, m => exact absurd m Bool.false_ne_true
  | [_], _ :: _, m => exact absurd m Bool.false_ne_true
  | _ :: _ :: _, [], m => exact absurd m Bool.false_ne_true
  | _ :: _ :: _, _ :: _, m => exact absurd m Bool.false_ne_true
theorem hd_vals {S : Stc} {ex : Expr} (m : srcHd E S .vals ex = true) : ∃ ea apos cpos, ex = .Call (.Attribute ea "values" apos) [] [] cpos ∧ plainO ea = true ∧ (apos.endLine == cpos.line) = true := by
  cases ex <;> first | (exact absurd m Bool.false_ne_true) | skip
  rename_i fn es ks cpos
  cases fn <;> first | (exact absurd m Bool.false_ne_true) | skip
  rename_i ea nm apos
  match es, ks, m with
  | [], [], m =>
    have m1 : (decide (nm = "values") && plainO ea && (apos.endLine == cpos.line)) = true := m
    rw [Bool.and_eq_true, Bool.and_eq_true] at m1
    obtain ⟨⟨h1, h2⟩, h3⟩ := m1
    have h1 := of_decide_eq_true h1
    subst h1
    exact ⟨ea, apos, cpos, rfl, h2, h3⟩
  | [], _ :: _, m => exact absurd m Bool.false_ne_true
  | _ :: _, [], m => exact absurd m Bool.false_ne_true
  | _ :: _, _ :: _, m => exact absurd m Bool.false_ne_true
theorem hd_items {S : Stc} {ex : Expr} (m : srcHd E S .items ex = true) : ∃ ea apos cpos, ex = .Call (.Attribute ea "items" apos) [] [] cpos ∧ plainO ea = true ∧ (apos.endLine == cpos.line) = true := by
  cases ex <;> first | (exact absurd m Bool.false_ne_true) | skip
  rename_i fn es ks cpos
  cases fn <;> first | (exact absurd m Bool.false_ne_true) | skip
  rename_i ea nm apos
  match es, ks, m with
  | [], [], m =>
    have m1 : (decide (nm = "items") && plainO ea && (apos.endLine == cpos.line)) = true := m
    rw [Bool.and_eq_true, Bool.and_eq_true] at m1
    obtain ⟨⟨h1, h2⟩, h3⟩ := m1
    have h1 := of_decide_eq_true h1
    subst h1
    exact ⟨ea, apos, cpos, rfl, h2, h3⟩
  | [], _ :: _, m => exact absurd m Bool.false_ne_true
  | _ :: _, [], m => exact absurd m Bool.false_ne_true
  | _ :: _, _ :: _, m => exact absurd m Bool.false_ne_true
/-- such a target is a tuple -/
theorem tgOk_tup {S : Stc} {sk : Src} {tg : Tg} {etg : Expr} (h : tgOk sk tg = true) (m : mtT S tg etg = true) : sk = .items → ∃ elts kk tpos, etg = .Tuple elts kk tpos := by
  rintro rfl
  cases tg with
  | nm i => cases h
  | tp l =>
    cases etg <;> first | (exact absurd m Bool.false_ne_true) | skip
    exact ⟨_, _, _, rfl⟩
theorem s_srcAll {S : Stc} {X : Cx} {W : WX} {sk : Src} {its : List IE} {tg ex : Expr} (ht : sk = .items → ∃ elts kk tpos, tg = .Tuple elts kk tpos) (ok : Okx E Φ k S W X) (m1 : srcHd E S sk ex = true) (m2 : mtL E S its (srcAs sk ex) = true) (hA : PA X (srcAs sk ex) (tA E Φ X W its))
    (hE : ∀ e ex', its = [e] → mtE E S e ex' = true → PE X ex' (tE E Φ X W e)) : PI X tg ex (tI E Φ X W sk its) := by
  cases sk with
  | val =>
    match its, m2, hE with
    | [], m2, _ => exact absurd m2 Bool.false_ne_true
    | [e], m2, hE =>
      have m : (mtE E S e ex && mtL E S [] [] && noStar ex) = true := m2
      simp only [Bool.and_eq_true] at m
      exact s_srcV (hE e ex rfl m.1.1)
    | e :: e2 :: l, m2, _ =>
      have m : (mtE E S e ex && false && noStar ex) = true := m2
      simp at m
  | rev =>
    obtain ⟨p, e', pos, rfl, hg, hm⟩ := hd_rev ok m1
    match its, m2, hE with
    | [], m2, _ => exact absurd m2 Bool.false_ne_true
    | [e], m2, hE =>
      have m : (mtE E S e e' && mtL E S [] [] && noStar e') = true := m2
      simp only [Bool.and_eq_true] at m
      exact s_srcRev hg hm m.2 (hE e e' rfl m.1.1)
    | e :: e2 :: l, m2, _ =>
      have m : (mtE E S e e' && false && noStar e') = true := m2
      simp at m
  | keys =>
    match its, m2, hE with
    | [], m2, _ => exact absurd m2 Bool.false_ne_true
    | [e], m2, hE =>
      have m : (mtE E S e ex && mtL E S [] [] && noStar ex) = true := m2
      simp only [Bool.and_eq_true] at m
      exact s_srcKeys (hE e ex rfl m.1.1)
    | e :: e2 :: l, m2, _ =>
      have m : (mtE E S e ex && false && noStar ex) = true := m2
      simp at m
  | vals =>
    obtain ⟨ea, apos, cpos, rfl, hb, hl⟩ := hd_vals m1
    match its, m2, hE with
    | [], m2, _ => exact absurd m2 Bool.false_ne_true
    | [e], m2, hE =>
      have m : (mtE E S e ea && mtL E S [] [] && noStar ea) = true := m2
      simp only [Bool.and_eq_true] at m
      exact s_srcVals (hE e ea rfl m.1.1) (plain_base hb) hl
    | e :: e2 :: l, m2, _ =>
      have m : (mtE E S e ea && false && noStar ea) = true := m2
      simp at m
  | items =>
    obtain ⟨ea, apos, cpos, rfl, hb, hl⟩ := hd_items m1
    obtain ⟨elts, kk, tpos, rfl⟩ := ht rfl
    match its, m2, hE with
    | [], m2, _ => exact absurd m2 Bool.false_ne_true
    | [e], m2, hE =>
      have m : (mtE E S e ea && mtL E S [] [] && noStar ea) = true := m2
      simp only [Bool.and_eq_true] at m
      exact s_srcItems (hE e ea rfl m.1.1) (plain_base hb) hl
    | e :: e2 :: l, m2, _ =>
      have m : (mtE E S e ea && false && noStar ea) = true := m2
      simp at m
  | rng =>
    obtain ⟨p, es, pos, rfl, h1, h3, hg, hm⟩ := hd_rng ok m1
    have m : mtL E S its es = true := m2
    exact s_srcRng hg hm (mtL_star m) h1 h3 (mtL_len m) hA
/-- what a comprehension of two walks needs -/
structure Cmp2D (E : Eng) (Φ : Nat → List PV → CO) (S : Stc) (X : Cx) (W : WX) (elt : IE) (tg : Tg) (sk : Src) (its : List IE) (tg1 : Tg) (k1 : Src) (its1 : List IE) (own own1 : List Nat) (eelt etg eit etg1 eit1 : Expr) (scope : Scope) : Prop where
  hit : PI X etg eit (tI E Φ X W sk its)
  hns : ∀ x, foldedSetIterable eit X.env x = pure x
  hns1 : ∀ env x, foldedSetIterable eit1 env x = pure x
  bo : BlkOk S.N S.sc scope (ownL S.N own)
  hto : ∀ i ∈ tgS tg, i ∈ own
  hto1 : ∀ i ∈ tgS tg1, i ∈ own1
  hoo : ∀ i ∈ own1, i ∈ own
  hg : ∀ (s : Shared) (H : Hp) (C : Addr) (cl : List (Str × Addr)) (fp : List Addr), PG (X.blk s H scope (compEnvC scope cl C X.env) fp) etg (gT X tg)
  hi1 : ∀ (s : Shared) (H : Hp) (C : Addr) (cl : List (Str × Addr)) (fp : List Addr), PI (X.blk s H scope (compEnvC scope cl C X.env) fp) etg1 eit1 (tI E Φ X W0 k1 its1)
  hg1 : ∀ (s : Shared) (H : Hp) (C : Addr) (cl : List (Str × Addr)) (fp : List Addr), PG (X.blk s H scope (compEnvC scope cl C X.env) fp) etg1 (gT X tg1)
  ht : ∀ (s : Shared) (H : Hp) (C : Addr) (cl : List (Str × Addr)) (fp : List Addr), PTs (X.blk s H scope (compEnvC scope cl C X.env) fp) [] (tC1 E Φ X W0 [])
  he : ∀ (s : Shared) (H : Hp) (C : Addr) (cl : List (Str × Addr)) (fp : List Addr), PE (X.blk s H scope (compEnvC scope cl C X.env) fp) eelt (tE E Φ X W0 elt)
section
variable {S : Stc} {X : Cx} {W : WX} {elt : IE} {tg : Tg} {sk : Src} {its : List IE} {tg1 : Tg} {k1 : Src} {its1 : List IE} {own own1 : List Nat} {eelt etg eit etg1 eit1 : Expr} {scope : Scope}
theorem cmp2D (ok : Okx E Φ k S W X) (hA : PA X (srcAs sk eit) (tA E Φ X W its)) (hE : ∀ e ex', its = [e] → mtE E S e ex' = true → PE X ex' (tE E Φ X W e)) (h1 : noSet eit = true) (h2 : noSet eit1 = true) (h3 : srcHd E S sk eit = true) (h4 : mtL E S its (srcAs sk eit) = true) (h5 : blkC S.N S.sc scope (ownL S.N own) = true)
    (g1 : mtT (S.blk scope) tg etg = true) (g2 : srcHd E (S.blk scope) k1 eit1 = true) (g3 : mtL E (S.blk scope) its1 (srcAs k1 eit1) = true) (g4 : mtT (S.blk scope) tg1 etg1 = true) (f3 : ∀ i ∈ tgS tg, i ∈ own) (f4 : ∀ i ∈ tgS tg1, i ∈ own1) (f5 : ∀ i ∈ own1, i ∈ own) (f6 : tgOk sk tg = true) (f7 : tgOk k1 tg1 = true)
    (hA1 : ∀ (Y : Cx), Okx E Φ k (S.blk scope) W0 Y → PA Y (srcAs k1 eit1) (tA E Φ Y W0 its1)) (hE1 : ∀ (Y : Cx), Okx E Φ k (S.blk scope) W0 Y → ∀ e ex', its1 = [e] → mtE E (S.blk scope) e ex' = true → PE Y ex' (tE E Φ Y W0 e)) (hl : ∀ (Y : Cx), Okx E Φ k (S.blk scope) W0 Y → PE Y eelt (tE E Φ Y W0 elt)) :
    Cmp2D E Φ S X W elt tg sk its tg1 k1 its1 own own1 eelt etg eit etg1 eit1 scope := by
  have B := fun s H C cl fp => ok.blk (blkOk_by h5) s H C cl fp
  exact ⟨s_srcAll (tgOk_tup f6 g1) ok h3 h4 hA hE, noSet_fold h1, fun _ => noSet_fold h2, blkOk_by h5, f3, f4, f5, fun s H C cl fp => s_tg (B s H C cl fp) g1, fun s H C cl fp => s_srcAll (tgOk_tup f7 g4) (B s H C cl fp) g2 g3 (hA1 _ (B s H C cl fp)) (hE1 _ (B s H C cl fp)),
    fun s H C cl fp => s_tg (B s H C cl fp) g4, fun s H C cl fp => sc_nil (E := E) (Φ := Φ), fun s H C cl fp => hl _ (B s H C cl fp)⟩
theorem Cmp2D.pe {pos : Pos} (C : Cmp2D E Φ S X W elt tg sk its tg1 k1 its1 own own1 eelt etg eit etg1 eit1 scope) (ok : Okx E Φ k S W X) : PE X (.ListComp eelt [⟨etg, eit, [], 0⟩, ⟨etg1, eit1, [], 0⟩] scope pos) (tE E Φ X W (.cmp2 elt tg sk its tg1 k1 its1 own own1)) :=
  s_cmp2 ok C.hit C.hns C.hns1 C.bo C.hto C.hto1 C.hoo C.hg C.hi1 C.hg1 C.ht C.he
end
mutual
theorem soundE : (e : IE) → ∀ {S : Stc} {X : Cx} {W : WX} {ex : Expr}, Okx E Φ k S W X → mtE E S e ex = true → PE X ex (tE E Φ X W e)
  | .var i, S, X, W, ex, ok, m => by
    cases ex <;> first | (exact absurd m Bool.false_ne_true) | skip
    exact s_var ok m
  | .cst p, S, X, W, ex, ok, m => soundCst p ok m
  | .glb x, S, X, W, ex, ok, m => by
    cases ex <;> first | (exact absurd m Bool.false_ne_true) | skip
    rename_i y _
    have m1 : (decide (x = y) && glB S.sc x) = true := m
    simp only [Bool.and_eq_true, decide_eq_true_eq] at m1
    obtain ⟨e, m2⟩ := m1
    subst e
    exact s_glb ok m2
  | .bin op a b, S, X, W, ex, ok, m => by
    cases ex <;> first | (exact absurd m Bool.false_ne_true) | skip
    rename_i ea op' eb _
    have m : (decide (op = op') && mtE E S a ea && mtE E S b eb) = true := m
    simp only [Bool.and_eq_true, decide_eq_true_eq] at m
    obtain ⟨⟨rfl, m1⟩, m2⟩ := m
    exact s_bin (soundE a ok m1) (soundE b ok m2)
  | .neg a, S, X, W, ex, ok, m => by
    cases ex <;> first | (exact absurd m Bool.false_ne_true) | skip
    rename_i op ea _
    cases op <;> first | (exact absurd m Bool.false_ne_true) | skip
    exact s_neg (soundE a ok m)
  | .cmp op a b, S, X, W, ex, ok, m => by
    obtain ⟨ea, eb, pos, rfl, hop, m1, m2⟩ := mt_cmp m
    exact s_cmp ok hop (soundE a ok m1) (soundE b ok m2)
  | .chn o1 o2 a b c, S, X, W, ex, ok, m => by
    obtain ⟨ea, eb, ec, pos, rfl, hm, m1, m2, m3⟩ := mt_chn m
    exact s_chn ok hm (soundE a ok m1) (soundE b ok m2) (soundE c ok m3)
  | .split a b, S, X, W, ex, ok, m => by
    obtain ⟨ea, eb, apos, cpos, rfl, hl, m1, m2, hs, hp⟩ := mt_split m
    exact s_split (soundE a ok m1) (soundE b ok m2) hs hl (plain_base hp)
  | .lrev a, S, X, W, ex, ok, m => by
    obtain ⟨p, p2, e, pos, pos2, rfl, f1, f2, g1, g2, m1, hs⟩ := mt_lrev m
    exact s_lrev ok (ok.gl g1).1 (ok.fr _ f1) (ok.gl g2).1 (ok.fr _ f2) (soundE a ok m1) hs
  | .isN a n, S, X, W, ex, ok, m => by
    obtain ⟨ea, op, j, pos, pos', rfl, hop, m1⟩ := mt_isN m
    exact s_isN hop (soundE a ok m1)
  | .and l, S, X, W, ex, ok, m => by
    cases ex <;> first | (exact absurd m Bool.false_ne_true) | skip
    rename_i op es _
    cases op <;> first | (exact absurd m Bool.false_ne_true) | skip
    exact soundAnd l ok m
  | .or l, S, X, W, ex, ok, m => by
    cases ex <;> first | (exact absurd m Bool.false_ne_true) | skip
    rename_i op es _
    cases op <;> first | (exact absurd m Bool.false_ne_true) | skip
    exact soundOr l ok m
  | .not a, S, X, W, ex, ok, m => by
    cases ex <;> first | (exact absurd m Bool.false_ne_true) | skip
    rename_i op ea _
    cases op <;> first | (exact absurd m Bool.false_ne_true) | skip
    exact s_not (soundE a ok m)
  | .ite c a b, S, X, W, ex, ok, m => by
    cases ex <;> first | (exact absurd m Bool.false_ne_true) | skip
    rename_i ec ea eb _
    have m : (mtE E S c ec && mtE E S a ea && mtE E S b eb) = true := m
    simp only [Bool.and_eq_true] at m
    exact s_ite (soundT c ok m.1.1) (soundE a ok m.1.2) (soundE b ok m.2)
  | .tup l, S, X, W, ex, ok, m => by
    cases ex <;> first | (exact absurd m Bool.false_ne_true) | skip
    exact s_tup (soundA l ok m)
  | .lst l, S, X, W, ex, ok, m => by
    cases ex <;> first | (exact absurd m Bool.false_ne_true) | skip
    exact s_lst (soundA l ok m)
  | .sub a i, S, X, W, ex, ok, m => by
    cases ex <;> first | (exact absurd m Bool.false_ne_true) | skip
    rename_i ea ei _
    have m : (mtE E S a ea && mtE E S i ei && noSlc ei) = true := m
    simp only [Bool.and_eq_true] at m
    exact s_sub ok m.2 (soundE a ok m.1.1) (soundE i ok m.1.2)
  | .slc a lo hi, S, X, W, ex, ok, m => by
    obtain ⟨ea, elo, ehi, pos, p2, rfl, m1, m2, m3⟩ := mt_slc m
    exact s_slc (soundE a ok m1) (soundO lo ok m2) (soundO hi ok m3)
  | .call f as, S, X, W, ex, ok, m => by
    obtain ⟨fi, x, e, es, p, pos, rfl, hf, hx, hg, m1⟩ := mt_call m
    exact s_call ok hf hx hg (mtL_star m1) (soundA as ok m1)
  | .blt b as, S, X, W, ex, ok, m => by
    obtain ⟨x, e, es, p, pos, rfl, hx, hb, hg, m1⟩ := mt_blt m
    exact s_blt ok hx hb hg (mtL_star m1) (soundA as ok m1)
  | .isi a ty, S, X, W, ex, ok, m => by
    obtain ⟨e, y, p, p2, pos, rfl, hy, ht, hg, hgy, m1, hs⟩ := mt_isi m
    exact s_isi ok hy ht hg hgy hs (soundE a ok m1)
  | .cmpr elt tg sk its cond own, S, X, W, ex, ok, m => by
    obtain ⟨eelt, etg, eit, eifs, scope, pos, rfl, m1, m2, m3, m4, m5, m6, m7, m8, m9⟩ := mt_cmpr m
    have hcond : ∀ (Y : Cx), Okx E Φ k (S.blk scope) W0 Y → PTs Y eifs (tC1 E Φ Y W0 cond) := fun Y okY => soundC cond okY m5 m7
    have hE : ∀ e ex', its = [e] → mtE E S e ex' = true → PE X ex' (tE E Φ X W e) := match its with
      | [e] => fun e' ex' h m => by
        cases h
        exact soundE e ok m
      | [] => fun _ _ h _ => nomatch h
      | _ :: _ :: _ => fun _ _ h _ => by simp at h
    have hit : PI X etg eit (tI E Φ X W sk its) := s_srcAll (tgOk_tup m9 m4) ok m2.1 m2.2 (soundA its ok m2.2) hE
    have C : CmpOk E Φ X W S elt tg sk its cond own eelt etg eit eifs scope := by
      refine ⟨hit, noSet_fold m1, blkOk_by m3, m8, fun s H C cl fp => ?_, fun s H C cl fp => ?_, fun s H C cl fp => ?_⟩
      · exact s_tg (ok.blk (blkOk_by m3) s H C cl fp) m4
      · exact hcond _ (ok.blk (blkOk_by m3) s H C cl fp)
      · exact soundE elt (ok.blk (blkOk_by m3) s H C cl fp) m6
    exact s_cmpr ok C.hit C.hns C.bo C.hto C.hg C.ht C.he
  | .dnew, S, X, W, ex, ok, m => by
    cases ex <;> first | (exact absurd m Bool.false_ne_true) | skip
    rename_i ks vs pos
    cases ks with
    | cons _ _ => exact absurd m Bool.false_ne_true
    | nil =>
      cases vs with
      | cons _ _ => exact absurd m Bool.false_ne_true
      | nil => exact s_dnew
  | .fzv i, S, X, W, ex, ok, m => by
    cases ex <;> first | (exact absurd m Bool.false_ne_true) | skip
    exact s_fzv ok m
  | .dgt a kx, S, X, W, ex, ok, m => by
    obtain ⟨ea, ek, apos, cpos, rfl, h1, h2, h3, h4, h5⟩ := mt_dgt m
    exact s_dgt ok (soundE a ok h2) (soundE kx ok h3) h4 h1 (plain_base h5)
  | .dgd a kx d, S, X, W, ex, ok, m => by
    obtain ⟨ea, ek, ed, apos, cpos, rfl, h1, h2, h3, h4, h5, h6, h7⟩ := mt_dgd m
    exact s_dgd ok (soundE a ok h2) (soundE kx ok h3) (soundE d ok h6) h4 h7 h1 (plain_base h5)
  | .cmp2 elt tg sk its tg1 k1 its1 own own1, S, X, W, ex, ok, m => by
    obtain ⟨eelt, etg, eit, etg1, eit1, scope, pos, rfl, ⟨h1, h2, h3, h4, h5⟩, ⟨g1, g2, g3, g4, g5⟩, f3, f4, f5, f6, f7⟩ := mt_cmp2 m
    have hE : ∀ e ex', its = [e] → mtE E S e ex' = true → PE X ex' (tE E Φ X W e) := match its with
      | [e] => fun e' ex' h m => by
        cases h
        exact soundE e ok m
      | [] => fun _ _ h _ => nomatch h
      | _ :: _ :: _ => fun _ _ h _ => by simp at h
    have hE1 : ∀ (Y : Cx), Okx E Φ k (S.blk scope) W0 Y → ∀ e ex', its1 = [e] → mtE E (S.blk scope) e ex' = true → PE Y ex' (tE E Φ Y W0 e) := fun Y okY => match its1 with
      | [e] => fun e' ex' h m => by
        cases h
        exact soundE e okY m
      | [] => fun _ _ h _ => nomatch h
      | _ :: _ :: _ => fun _ _ h _ => by simp at h
    have hA1 : ∀ (Y : Cx), Okx E Φ k (S.blk scope) W0 Y → PA Y (srcAs k1 eit1) (tA E Φ Y W0 its1) := fun Y okY => soundA its1 okY g3
    exact (cmp2D ok (soundA its ok h4) hE h1 h2 h3 h4 h5 g1 g2 g3 g4 f3 f4 f5 f6 f7 hA1 hE1 (fun Y okY => soundE elt okY g5)).pe ok
  | .pick fs i as, S, X, W, ex, ok, m => by
    obtain ⟨ns, p1, ei, p2, e, es, pos, rfl, h1, h2, h3, h4, h5⟩ := mt_pick m
    exact s_pick ok h1 h2 h4 (soundE i ok h3) (fun y hy => mtL_star h5 y hy) (soundA as ok h5)
  | .sset a, S, X, W, ex, ok, m => by
    obtain ⟨p, p2, e, pos, pos2, rfl, f1, f2, g1, g2, m1, hs⟩ := mt_sset m
    exact s_sset ok (ok.gl g1).1 (ok.fr _ f1) (ok.gl g2).1 (ok.fr _ f2) (soundE a ok m1) hs
  | .ddis ks es, S, X, W, ex, ok, m => by
    obtain ⟨keys, vals, pos, rfl, m1, m2, m3, m4, m5⟩ := mt_ddis m
    obtain ⟨k1, k2⟩ := mtK_facts m1
    exact s_ddis (soundP es ok m1 m2 m5) k1 (by rw [k2, m5]; exact mtL_len m2) (fun z => by rw [z] at k2; exact m4 (List.length_eq_zero_iff.mp k2.symm)) (by omega) m3 m5
  | .mut mm i as, S, X, W, ex, ok, m => by
    obtain ⟨x, px, apos, es, cpos, rfl, hv, hl, ml⟩ := mt_mut m
    by_cases hn : as.length = muA mm
    · cases mm with
      | append =>
        match as, es, ml, hn with
        | [a], [e], ml, _ => exact s_append ok hv hl (mtL_star ml e List.mem_cons_self) (soundA [a] ok ml)
        | [a], [], ml, _ => exact absurd ml Bool.false_ne_true
        | [a], e :: e2 :: es, ml, _ => exact absurd (show (mtE E S a e && false && noStar e) = true from ml) (by simp)
      | pop =>
        match as, es, ml, hn with
        | [], [], ml, _ => exact s_pop ok hv hl
        | [], _ :: _, ml, _ => exact absurd ml Bool.false_ne_true
      | popAt =>
        match as, es, ml, hn with
        | [a], [e], ml, _ => exact s_popAt ok hv hl (mtL_star ml e List.mem_cons_self) (soundA [a] ok ml)
        | [a], [], ml, _ => exact absurd ml Bool.false_ne_true
        | [a], e :: e2 :: es, ml, _ => exact absurd (show (mtE E S a e && false && noStar e) = true from ml) (by simp)
      | insert =>
        match as, es, ml, hn with
        | [a, c], [e, d], ml, _ => exact s_insert ok hv hl (mtL_star ml e List.mem_cons_self) (mtL_star ml d (List.mem_cons_of_mem _ List.mem_cons_self)) (soundA [a, c] ok ml)
        | [a, c], [], ml, _ => exact absurd ml Bool.false_ne_true
        | [a, c], [e], ml, _ => exact absurd (show (mtE E S a e && false && noStar e) = true from ml) (by simp)
        | [a, c], e :: d :: e3 :: es, ml, _ => exact absurd (show (mtE E S a e && (mtE E S c d && false && noStar d) && noStar e) = true from ml) (by simp)
    · refine ⟨fun pins s σ H Q I hq => ?_⟩
      obtain ⟨g, ε, Z, G, h1⟩ := hq
      have h1 : Post E X W g σ Z (PR X g σ Q) (if as.length = muA mm then _ else .stuck) := h1
      rw [if_neg hn] at h1
      exact h1.elim
theorem soundT : (e : IE) → ∀ {S : Stc} {X : Cx} {W : WX} {ex : Expr}, Okx E Φ k S W X → mtE E S e ex = true → PT X ex (tT E Φ X W e)
  | .var i, S, X, W, ex, ok, m => by
    cases ex <;> first | (exact absurd m Bool.false_ne_true) | skip
    exact t_val (s_var ok m) (v_var i) fun _ => rfl
  | .cst p, S, X, W, ex, ok, m => by
    have h := soundCst p ok m
    cases p <;> cases ex <;> first | (exact absurd m Bool.false_ne_true) | skip
    all_goals exact t_val h (v_cst _) fun _ => rfl
  | .cmp op a b, S, X, W, ex, ok, m => by
    obtain ⟨ea, eb, pos, rfl, hop, m1, m2⟩ := mt_cmp m
    exact t_cmp ok hop (soundE a ok m1) (soundE b ok m2)
  | .chn o1 o2 a b c, S, X, W, ex, ok, m => by
    obtain ⟨ea, eb, ec, pos, rfl, hm, m1, m2, m3⟩ := mt_chn m
    exact t_chn ok hm (soundE a ok m1) (soundE b ok m2) (soundE c ok m3)
  | .lrev _, _, _, _, _, _, _ => t_stuck fun _ => rfl
  | .split _ _, _, _, _, _, _, _ => t_stuck fun _ => rfl
  | .isN a n, S, X, W, ex, ok, m => by
    obtain ⟨ea, op, j, pos, pos', rfl, hop, m1⟩ := mt_isN m
    exact t_isN hop (soundE a ok m1)
  | .and l, S, X, W, ex, ok, m => by
    cases ex <;> first | (exact absurd m Bool.false_ne_true) | skip
    rename_i op es _
    cases op <;> first | (exact absurd m Bool.false_ne_true) | skip
    exact (soundAndT l ok m).pt
  | .or l, S, X, W, ex, ok, m => by
    cases ex <;> first | (exact absurd m Bool.false_ne_true) | skip
    rename_i op es _
    cases op <;> first | (exact absurd m Bool.false_ne_true) | skip
    exact (soundOrT l ok m).pt
  | .not a, S, X, W, ex, ok, m => by
    cases ex <;> first | (exact absurd m Bool.false_ne_true) | skip
    rename_i op ea _
    cases op <;> first | (exact absurd m Bool.false_ne_true) | skip
    exact t_not (soundT a ok m)
  | .sub a i, S, X, W, ex, ok, m => by
    cases ex <;> first | (exact absurd m Bool.false_ne_true) | skip
    rename_i ea ei _
    have m' : (mtE E S a ea && mtE E S i ei && noSlc ei) = true := m
    simp only [Bool.and_eq_true] at m'
    exact t_val (s_sub ok m'.2 (soundE a ok m'.1.1) (soundE i ok m'.1.2)) (v_sub a i) fun _ => rfl
  | .call f as, S, X, W, ex, ok, m => by
    obtain ⟨fi, x, e, es, p, pos, rfl, hf, hx, hg, m1⟩ := mt_call m
    exact t_val (s_call ok hf hx hg (mtL_star m1) (soundA as ok m1)) (v_call f as) fun _ => rfl
  | .blt b as, S, X, W, ex, ok, m => by
    obtain ⟨x, e, es, p, pos, rfl, hx, hb, hg, m1⟩ := mt_blt m
    exact t_val (s_blt ok hx hb hg (mtL_star m1) (soundA as ok m1)) (v_blt b as) fun _ => rfl
  | .isi a ty, S, X, W, ex, ok, m => by
    obtain ⟨e, y, p, p2, pos, rfl, hy, ht, hg, hgy, m1, hs⟩ := mt_isi m
    exact t_val (s_isi ok hy ht hg hgy hs (soundE a ok m1)) (v_isi a ty) fun _ => rfl
  | .glb _, _, _, _, _, _, _ => t_stuck fun _ => rfl
  | .dnew, _, _, _, _, _, _ => t_stuck fun _ => rfl
  | .fzv _, _, _, _, _, _, _ => t_stuck fun _ => rfl
  | .dgt _ _, _, _, _, _, _, _ => t_stuck fun _ => rfl
  | .dgd _ _ _, _, _, _, _, _, _ => t_stuck fun _ => rfl
  | .bin _ _ _, _, _, _, _, _, _ => t_stuck fun _ => rfl
  | .neg _, _, _, _, _, _, _ => t_stuck fun _ => rfl
  | .ite _ _ _, _, _, _, _, _, _ => t_stuck fun _ => rfl
  | .tup _, _, _, _, _, _, _ => t_stuck fun _ => rfl
  | .lst _, _, _, _, _, _, _ => t_stuck fun _ => rfl
  | .slc _ _ _, _, _, _, _, _, _ => t_stuck fun _ => rfl
  | .cmpr _ _ _ _ _ _, _, _, _, _, _, _ => t_stuck fun _ => rfl
  | .mut _ _ _, _, _, _, _, _, _ => t_stuck fun _ => rfl
  | .sset _, _, _, _, _, _, _ => t_stuck fun _ => rfl
  | .pick _ _ _, _, _, _, _, _, _ => t_stuck fun _ => rfl
  | .cmp2 _ _ _ _ _ _ _ _ _, _, _, _, _, _, _ => t_stuck fun _ => rfl
  | .ddis _ _, _, _, _, _, _, _ => t_stuck fun _ => rfl
theorem soundP : (l : List IE) → ∀ {S : Stc} {X : Cx} {W : WX} {ks : List Str} {keys : List (Option Expr)} {vals : List Expr} {pos : Pos}, Okx E Φ k S W X → mtK ks keys = true → mtL E S l vals = true → ks.length = l.length → PPs X pos keys vals (trsK E Φ X W ks l)
  | [], S, X, W, ks, keys, vals, pos, ok, mk, ml, hl => by
    cases vals with
    | cons _ _ => exact absurd ml Bool.false_ne_true
    | nil =>
      cases ks with
      | cons _ _ => simp at hl
      | nil =>
        cases keys with
        | nil => exact pps_nil
        | cons _ _ => cases mk
  | a :: l, S, X, W, ks, keys, vals, pos, ok, mk, ml, hl => by
    cases vals with
    | nil => exact absurd ml Bool.false_ne_true
    | cons v vals =>
      cases ks with
      | nil => simp at hl
      | cons k0 ks =>
        cases keys with
        | nil => cases mk
        | cons k1 keys =>
          cases k1 with
          | none => cases mk
          | some e =>
            cases e <;> first | (cases mk; done) | skip
            rename_i c _ _
            cases c <;> first | (cases mk; done) | skip
            rename_i x
            have mk2 : (decide (k0 = x) && mtK ks keys) = true := mk
            have ml2 : (mtE E S a v && mtL E S l vals && noStar v) = true := ml
            simp only [Bool.and_eq_true, decide_eq_true_eq] at mk2 ml2
            obtain ⟨e0, mk3⟩ := mk2
            subst e0
            exact pps_cons pe_str (soundE a ok ml2.1.1) (soundP l ok mk3 ml2.1.2 (by simpa using hl))
theorem soundA : (l : List IE) → ∀ {S : Stc} {X : Cx} {W : WX} {es : List Expr}, Okx E Φ k S W X → mtL E S l es = true → PA X es (tA E Φ X W l)
  | [], S, X, W, es, ok, m => by
    cases es with
    | nil => exact s_nil
    | cons _ _ => exact absurd m Bool.false_ne_true
  | a :: l, S, X, W, es, ok, m => by
    cases es with
    | nil => exact absurd m Bool.false_ne_true
    | cons e es =>
      have m : (mtE E S a e && mtL E S l es && noStar e) = true := m
      simp only [Bool.and_eq_true] at m
      exact s_cons m.2 (soundE a ok m.1.1) (soundA l ok m.1.2)
theorem soundO : (o : Option IE) → ∀ {S : Stc} {X : Cx} {W : WX} {eo : Option Expr}, Okx E Φ k S W X → mtO E S o eo = true → PO X eo (tO E Φ X W o)
  | none, S, X, W, eo, ok, m => by
    cases eo with
    | none => exact s_none
    | some _ => exact absurd m Bool.false_ne_true
  | some a, S, X, W, eo, ok, m => by
    cases eo with
    | none => exact absurd m Bool.false_ne_true
    | some e => exact s_some (soundE a ok m)
theorem soundAnd : (l : List IE) → ∀ {S : Stc} {X : Cx} {W : WX} {es : List Expr} {pos : Pos}, Okx E Φ k S W X → mtL E S l es = true → PE X (.BoolOp .And es pos) (tAndL E Φ X W l)
  | [], S, X, W, es, pos, ok, m => ⟨fun pins s σ H Q I ⟨g, ε, Z, G, h⟩ => h.elim⟩
  | [a], S, X, W, es, pos, ok, m => by
    cases es with
    | nil => exact absurd m Bool.false_ne_true
    | cons e es =>
      have m : (mtE E S a e && mtL E S [] es && noStar e) = true := m
      simp only [Bool.and_eq_true] at m
      cases es with
      | nil => exact s_and1 (soundE a ok m.1.1)
      | cons _ _ => exact absurd m.1.2 Bool.false_ne_true
  | a :: b :: l, S, X, W, es, pos, ok, m => by
    cases es with
    | nil => exact absurd m Bool.false_ne_true
    | cons e es =>
      have m : (mtE E S a e && mtL E S (b :: l) es && noStar e) = true := m
      simp only [Bool.and_eq_true] at m
      have h := soundAnd (b :: l) (pos := pos) ok m.1.2
      cases es with
      | nil => exact absurd m.1.2 Bool.false_ne_true
      | cons e2 es => exact s_and2 (soundE a ok m.1.1) h
theorem soundOr : (l : List IE) → ∀ {S : Stc} {X : Cx} {W : WX} {es : List Expr} {pos : Pos}, Okx E Φ k S W X → mtL E S l es = true → PE X (.BoolOp .Or es pos) (tOrL E Φ X W l)
  | [], S, X, W, es, pos, ok, m => ⟨fun pins s σ H Q I ⟨g, ε, Z, G, h⟩ => h.elim⟩
  | [a], S, X, W, es, pos, ok, m => by
    cases es with
    | nil => exact absurd m Bool.false_ne_true
    | cons e es =>
      have m : (mtE E S a e && mtL E S [] es && noStar e) = true := m
      simp only [Bool.and_eq_true] at m
      cases es with
      | nil => exact s_or1 (soundE a ok m.1.1)
      | cons _ _ => exact absurd m.1.2 Bool.false_ne_true
  | a :: b :: l, S, X, W, es, pos, ok, m => by
    cases es with
    | nil => exact absurd m Bool.false_ne_true
    | cons e es =>
      have m : (mtE E S a e && mtL E S (b :: l) es && noStar e) = true := m
      simp only [Bool.and_eq_true] at m
      have h := soundOr (b :: l) (pos := pos) ok m.1.2
      cases es with
      | nil => exact absurd m.1.2 Bool.false_ne_true
      | cons e2 es => exact s_or2 (soundE a ok m.1.1) h
theorem soundAndT : (l : List IE) → ∀ {S : Stc} {X : Cx} {W : WX} {es : List Expr} {pos : Pos}, Okx E Φ k S W X → mtL E S l es = true → PW X (.BoolOp .And es pos) (tAndLT E Φ X W l)
  | [], S, X, W, es, pos, ok, m => ⟨fun wh pins s σ H Q I ⟨g, ε, Z, G, h⟩ => h.elim⟩
  | [a], S, X, W, es, pos, ok, m => by
    cases es with
    | nil => exact absurd m Bool.false_ne_true
    | cons e es =>
      have m : (mtE E S a e && mtL E S [] es && noStar e) = true := m
      simp only [Bool.and_eq_true] at m
      cases es with
      | nil => exact t_and1 (soundT a ok m.1.1)
      | cons _ _ => exact absurd m.1.2 Bool.false_ne_true
  | a :: b :: l, S, X, W, es, pos, ok, m => by
    cases es with
    | nil => exact absurd m Bool.false_ne_true
    | cons e es =>
      have m : (mtE E S a e && mtL E S (b :: l) es && noStar e) = true := m
      simp only [Bool.and_eq_true] at m
      have h := soundAndT (b :: l) (pos := pos) ok m.1.2
      cases es with
      | nil => exact absurd m.1.2 Bool.false_ne_true
      | cons e2 es => exact t_and2 (soundT a ok m.1.1) h
theorem soundOrT : (l : List IE) → ∀ {S : Stc} {X : Cx} {W : WX} {es : List Expr} {pos : Pos}, Okx E Φ k S W X → mtL E S l es = true → PW X (.BoolOp .Or es pos) (tOrLT E Φ X W l)
  | [], S, X, W, es, pos, ok, m => ⟨fun wh pins s σ H Q I ⟨g, ε, Z, G, h⟩ => h.elim⟩
  | [a], S, X, W, es, pos, ok, m => by
    cases es with
    | nil => exact absurd m Bool.false_ne_true
    | cons e es =>
      have m : (mtE E S a e && mtL E S [] es && noStar e) = true := m
      simp only [Bool.and_eq_true] at m
      cases es with
      | nil => exact t_or1 (soundT a ok m.1.1)
      | cons _ _ => exact absurd m.1.2 Bool.false_ne_true
  | a :: b :: l, S, X, W, es, pos, ok, m => by
    cases es with
    | nil => exact absurd m Bool.false_ne_true
    | cons e es =>
      have m : (mtE E S a e && mtL E S (b :: l) es && noStar e) = true := m
      simp only [Bool.and_eq_true] at m
      have h := soundOrT (b :: l) (pos := pos) ok m.1.2
      cases es with
      | nil => exact absurd m.1.2 Bool.false_ne_true
      | cons e2 es => exact t_or2 (soundT a ok m.1.1) h
theorem soundC : (l : List IE) → ∀ {S : Stc} {X : Cx} {es : List Expr}, Okx E Φ k S W0 X → mtL E S l es = true → l.length ≤ 1 → PTs X es (tC1 E Φ X W0 l)
  | [], S, X, es, ok, m, _ => by
    cases es with
    | nil => exact sc_nil
    | cons _ _ => exact absurd m Bool.false_ne_true
  | [a], S, X, es, ok, m, _ => by
    cases es with
    | nil => exact absurd m Bool.false_ne_true
    | cons e es =>
      have m : (mtE E S a e && mtL E S [] es && noStar e) = true := m
      simp only [Bool.and_eq_true] at m
      cases es with
      | nil => exact sc_one (soundT a ok m.1.1)
      | cons _ _ => exact absurd m.1.2 Bool.false_ne_true
  | _ :: _ :: _, S, X, es, ok, m, h => absurd h (by simp)
end
theorem soundI (sk : Src) (its : List IE) {S : Stc} {X : Cx} {W : WX} {tg ex : Expr} (ht : sk = .items → ∃ elts kk tpos, tg = .Tuple elts kk tpos) (ok : Okx E Φ k S W X) (m1 : srcHd E S sk ex = true) (m2 : mtL E S its (srcAs sk ex) = true) : PI X tg ex (tI E Φ X W sk its) :=
  s_srcAll ht ok m1 m2 (soundA its ok m2) fun e ex' _ m => soundE e ok m
end
end Eng

set_option maxHeartbeats 4000000
namespace Eng
open PySem PySem.Spec L2
open PyProof.Rows hiding St

/-! ### statements against the text -/
def noComp : Expr → Bool
  | .ListComp _ _ _ _ => false
  | .SetComp _ _ _ _ => false
  | .DictComp _ _ _ _ _ => false
  | _ => true
def noTup : Expr → Bool
  | .Tuple _ _ _ => false
  | _ => true
def isNm : Expr → Bool
  | .Name _ _ => true
  | _ => false
/-- nothing is swapped: other names, more of them, or constants -/
def noSwp (es : List Expr) : Expr → Bool
  | .Tuple vs _ _ => (es.length != 2 && es.length != 3) || vs.all (foldedForSure 8)
  | _ => true
/-- a, b = x, y -/
def par2 (S : Stc) (t : Tg) (e : IE) (es : List Expr) : Expr → Bool
  | .Tuple [a, b] _ _ => match t, e, es with
    | .tp [.nm i, .nm j], .tup [_, _], [.Name x px, .Name y py] => decide (S.N[i]? = some x) && decide (S.N[j]? = some y) && decide (i ≠ j) && decide (S.sc.names.lookup x = some .local) && decide (S.sc.names.lookup y = some .local) && (py.line == px.line) && noStar a && noStar b && !([a, b].all (foldedForSure 8)) && !([a, b].all (constantsAlone 8)) && !(x == y)
    | _, _, _ => false
  | _ => false
/-- y = [..]: the name is swapped with the comprehension's -/
def swB (sc : Scope) (y : Str) (py : Pos) (e : Expr) : Bool := match e with
  | .ListComp _ _ scope pos => decide (sc.names.lookup y = some .local) && (py.line == pos.line) && !(scope.names.any fun (n, k) => n == y && (k == .local || k == .cell))
  | _ => false
def mtHs (E : Eng) (S : Stc) : List (Nat × PV) → List ExceptHandler → Bool
  | [], [] => true
  | (c, p) :: hs, .ExceptHandler (some (.Name x _)) none [.Return (some ex) _] _ :: hds => decide (E.cls[c]? = some x) && glB S.sc x && mtE E S (.cst p) ex && mtHs E S hs hds
  | _, _ => false
/-- x = f if c else g; return x(args) -/
def isSel : IS → Bool
  | .selr _ _ _ _ _ => true
  | _ => false
def selM (E : Eng) (S : Stc) : IS → List IS → Stmt → List Stmt → Bool
  | .selr i c f g as, [], .Assign [.Name y _] (.IfExp ec (.Name xf pf) (.Name xg pg) _) _, [.Return (some (.Call (.Name y2 _) es [] _)) _] => (decide (S.N[i]? = some y) && stB S.so y && visB S.sc y && okN y && decide (y2 = y)) && (mtE E S c ec && mtN E S [f] [.Name xf pf] && mtN E S [g] [.Name xg pg] && mtL E S as es && !es.isEmpty)
  | _, _, _, _ => false
mutual
def mtS (E : Eng) (S : Stc) : IS → Stmt → Bool
  | .tryn body hs, .Try ebody hds [] [] _ => mtSs E S body ebody && mtHs E S hs hds && !hds.isEmpty
  | .pass, .Pass _ => true
  | .brk, .Break _ => true
  | .cont, .Continue _ => true
  | .expr e, .Expr ex _ => mtE E S e ex && noComp ex
  | .asg i e, .Assign [.Name y _] ex _ => decide (S.N[i]? = some y) && stB S.so y && mtE E S e ex
  | .asgT t e, .Assign [.Tuple es n pos'] ex _ => mtT S t (.Tuple es n pos') && mtE E S e ex && (noSwp es ex || par2 S t e es ex)
  | .ret e, .Return (some ex) _ => mtE E S e ex
  | .retN, .Return none _ => true
  | .ifs c a b, .If ec ea eb _ => mtE E S c ec && mtSs E S a ea && mtSs E S b eb
  | .raise c msg, .Raise (some (.Call (.Name x _) [.Constant (.str m) _ _] [] _)) none _ => decide (E.cls[c]? = some x) && decide (m = msg) && glB S.sc x
  | .raiseE c e, .Raise (some (.Call (.Name x _) [ex] [] _)) none _ => decide (E.cls[c]? = some x) && glB S.sc x && mtE E S e ex && noStar ex
  | .setI i ke ve, .Assign [.Subscript (.Name x _) ek _] ev _ => decide (S.N[i]? = some x) && visB S.sc x && okN x && mtE E S ke ek && noSlc ek && mtE E S ve ev && noComp ev
  | .aug i op e, .AugAssign (.Name x _) op' ex _ => decide (S.N[i]? = some x) && stB S.so x && decide (op = op') && mtE E S e ex
  | .tryx body c suite, .Try ebody [.ExceptHandler (some (.Name x _)) none esuite _] [] [] _ => mtSs E S body ebody && decide (E.cls[c]? = some x) && glB S.sc x && mtSs E S suite esuite && !esuite.isEmpty
  | .for_ tg k its body, .For etg eit ebody [] _ => mtT S tg etg && srcHd E S k eit && mtL E S its (srcAs k eit) && mtSs E S body ebody && noSet eit && tgOk k tg
  | .whl c body, .While ec ebody [] _ => mtE E S c ec && mtSs E S body ebody
  | _, _ => false
def mtSs (E : Eng) (S : Stc) : List IS → List Stmt → Bool
  | [], [] => true
  | s :: l, st :: sts => bif isSel s then selM E S s l st sts else (mtS E S s st && mtSs E S l sts)
  | _, _ => false
end

/-- an exception class of the text -/
structure ExF (X : Cx) (C : Addr) : Prop where
  inn : PySem.W.excIn X.K C HandSPX.veTail "ValueError.__new__" = true
  kp : PySem.W.keepIn X.K (.ref C) = true
  rs : Raises X (.ref C)
structure OkS (E : Eng) (Φ : Nat → List PV → CO) (k : Nat) (S : Stc) (W : WX) (X : Cx) : Prop where
  x : Okx E Φ k S W X
  hs : X.stack = X.env :: X.outer
  hf : X.env.frame = some X.env.locals
  po : PassesOwn (model X.prog X.w) X.A X.env X.xe
  ex : ∀ (c : Nat) (nm : Str), E.cls[c]? = some nm → ∃ C, X.mg nm = some (.ref C) ∧ ExF X C
  sb : ∀ (c d : Nat) (nc nd : Str) (C D : Addr), E.cls[c]? = some nc → E.cls[d]? = some nd → X.mg nc = some (.ref C) → X.mg nd = some (.ref D) → PySem.W.exmOne X.K (.ref C) (.ref D) = some (E.sub c d)

def SPost (E : Eng) (X : Cx) (W : WX) (g : Ent) (σ : St) (Z : Hp) (A : List Nat) (D : Ends) : SO → Prop
  | .nx ε' => ∀ σ' Z' H', Same Z Z' → Good X.K g σ' ε' Z' H' → (∀ j, j ∉ A → σ'[j]? = σ[j]?) → D.nx σ' H'
  | .bk ε' => ∀ σ' Z' H', Same Z Z' → Good X.K g σ' ε' Z' H' → (∀ j, j ∉ A → σ'[j]? = σ[j]?) → D.bk σ' H'
  | .ct ε' => ∀ σ' Z' H', Same Z Z' → Good X.K g σ' ε' Z' H' → (∀ j, j ∉ A → σ'[j]? = σ[j]?) → D.ct σ' H'
  | .rt r ε' => ∀ σ' v Z' H', Same Z Z' → Good X.K g σ' ε' Z' H' → RvR X.K g σ' ε' Z' H' r v → D.rt v H'
  | .exc c ε' => ∀ σ' Z' H' C, Same Z Z' → Good X.K g σ' ε' Z' H' → (∀ j, j ∉ A → σ'[j]? = σ[j]?) → ClsA E X.mg c C → W (.ref C) none σ' H'
  | .stuck => False
/-- what is made in the def is not locked for it -/
def GL (X : Cx) (g : Ent) : Prop := ∀ b, g.H0 b = none → ∀ o u, X.H_0 b ≠ some (.frz o u)
def tS (E : Eng) (Φ : Nat → List PV → CO) (X : Cx) (W : WX) (s : IS) : TS := fun D σ H => ∃ g ε Z, GL X g ∧ Good X.K g σ ε Z H ∧ SPost E X W g σ Z (asgsS s) D (exS E Φ s ε)
def tL (E : Eng) (Φ : Nat → List PV → CO) (X : Cx) (W : WX) (l : List IS) : TS := fun D σ H => ∃ g ε Z, GL X g ∧ Good X.K g σ ε Z H ∧ SPost E X W g σ Z (asgsL l) D (exL E Φ l ε)
section
variable {E : Eng} {Φ : Nat → List PV → CO} {k : Nat} {S : Stc} {X : Cx} {W : WX} {g : Ent} {σ : St} {ε : Sg} {Z H : Hp}
/-- from a later state -/
theorem SPost.from {A B : List Nat} {D : Ends} {o : SO} {σ1 : St} {Z1 : Hp} (h : SPost E X W g σ Z A D o) (s : Same Z Z1) (kp : ∀ j, j ∉ A → σ1[j]? = σ[j]?) (hb : ∀ j, j ∈ B → j ∈ A) : SPost E X W g σ1 Z1 B D o := by
  have kk : ∀ {σ' : St}, (∀ j, j ∉ B → σ'[j]? = σ1[j]?) → ∀ j, j ∉ A → σ'[j]? = σ[j]? := fun {σ'} q j hj => (q j fun z => hj (hb j z)).trans (kp j hj)
  cases o with
  | nx ε' => exact fun σ' Z' H' s' G q => h σ' Z' H' (s.trans s') G (kk q)
  | bk ε' => exact fun σ' Z' H' s' G q => h σ' Z' H' (s.trans s') G (kk q)
  | ct ε' => exact fun σ' Z' H' s' G q => h σ' Z' H' (s.trans s') G (kk q)
  | rt r ε' => exact fun σ' v Z' H' s' G q => h σ' v Z' H' (s.trans s') G q
  | exc c ε' => exact fun σ' Z' H' C s' G q cl => h σ' Z' H' C (s.trans s') G (kk q) cl
  | stuck => exact h
/-- an expression ahead of a statement's rest -/
theorem tE_s {A : List Nat} {D : Ends} {e : IE} {f : Rv → Sg → SO} {Ψ : VK} (G : Good X.K g σ ε Z H) (h : SPost E X W g σ Z A D (match evE E Φ e ε with | .ok r ε1 => f r ε1 | .exc c ε1 => .exc c ε1 | .stuck => .stuck))
    (k : ∀ r ε1 Z1 H1 v, Same Z Z1 → Good X.K g σ ε1 Z1 H1 → RvR X.K g σ ε1 Z1 H1 r v → SPost E X W g σ Z1 A D (f r ε1) → Ψ v H1) : tE E Φ X W e σ H Ψ := by
  refine ⟨g, ε, Z, G, ?_⟩
  cases hev : evE E Φ e ε with
  | ok r ε1 =>
    rw [hev] at h
    exact fun Z1 H1 s1 G1 v rv => k r ε1 Z1 H1 v s1 G1 rv (h.from s1 (fun _ _ => rfl) fun _ z => z)
  | exc c ε1 =>
    rw [hev] at h
    exact fun Z1 H1 C s1 G1 cl => h σ Z1 H1 C s1 G1 (fun _ _ => rfl) cl
  | stuck => rw [hev] at h; exact h.elim
theorem tT_s {A : List Nat} {D : Ends} {e : IE} {f : Bool → Sg → SO} {Ψ : Bool → Hp → Prop} (G : Good X.K g σ ε Z H) (h : SPost E X W g σ Z A D (match evT E Φ e ε with | .ok r ε1 => f r ε1 | .exc c ε1 => .exc c ε1 | .stuck => .stuck))
    (k : ∀ r ε1 Z1 H1, Same Z Z1 → Good X.K g σ ε1 Z1 H1 → SPost E X W g σ Z1 A D (f r ε1) → Ψ r H1) : tT E Φ X W e σ H Ψ := by
  refine ⟨g, ε, Z, G, ?_⟩
  cases hev : evT E Φ e ε with
  | ok r ε1 =>
    rw [hev] at h
    exact fun Z1 H1 s1 G1 => k r ε1 Z1 H1 s1 G1 (h.from s1 (fun _ _ => rfl) fun _ z => z)
  | exc c ε1 =>
    rw [hev] at h
    exact fun Z1 H1 C s1 G1 cl => h σ Z1 H1 C s1 G1 (fun _ _ => rfl) cl
  | stuck => rw [hev] at h; exact h.elim

/-! ### slots -/
theorem isOwn_set {i j : Nat} {s : Slot} (h : IsOwn (ε.set i s) j) : (j = i ∧ ∃ k p, s = .own k p) ∨ (j ≠ i ∧ IsOwn ε j) := by
  obtain ⟨k, q, e⟩ := h
  rcases getElem?_set_eq e with ⟨z, y⟩ | ⟨n, z⟩
  · exact .inl ⟨z, k, q, y.symm⟩
  · exact .inr ⟨n, k, q, z⟩
theorem Good.setFresh {i : Nat} {p : PV} {a : Addr} (G : Good X.K g σ ε Z H) (hi : i < ε.length) (hn : ∀ q, ε[i]? ≠ some (.own false q)) (r : RvR X.K g σ ε Z H (.fresh p) (.ref a)) : Good X.K g (σ.set i (some (.ref a))) (ε.set i (.own true p)) Z H := by
  obtain ⟨b, e, z0, h0, o, no, np⟩ := r
  cases e
  refine ⟨by rw [List.length_set, List.length_set]; exact G.len, fun j s hs => ?_, fun j l b oj ol ej el => ?_, G.zh, G.hh, G.al, G.zf, G.zz, fun j b hj => ?_, fun q hq => ?_⟩
  · rcases getElem?_set_eq hs with ⟨rfl, rfl⟩ | ⟨nj, hs⟩
    · exact ⟨a, by rw [List.getElem?_set_self (by rw [G.len]; exact hi)], z0, o, fun _ => h0, fun z => nomatch z⟩
    · have q := G.slot j s hs
      cases s with
      | none => trivial
      | val p => obtain ⟨u, q1, q2⟩ := q; exact ⟨u, by rw [List.getElem?_set_ne (Ne.symm nj)]; exact q1, q2⟩
      | own k p => obtain ⟨b, q1, q2⟩ := q; exact ⟨b, by rw [List.getElem?_set_ne (Ne.symm nj)]; exact q1, q2⟩
  · have hiσ : i < σ.length := by rw [G.len]; exact hi
    rcases isOwn_set oj with ⟨rfl, _⟩ | ⟨nj, oj'⟩ <;> rcases isOwn_set ol with ⟨rfl, _⟩ | ⟨nl, ol'⟩
    · rfl
    · rw [List.getElem?_set_self hiσ] at ej
      cases ej
      rw [List.getElem?_set_ne (Ne.symm nl)] at el
      exact absurd el (no l ol')
    · rw [List.getElem?_set_self hiσ] at el
      cases el
      rw [List.getElem?_set_ne (Ne.symm nj)] at ej
      exact absurd ej (no j oj')
    · rw [List.getElem?_set_ne (Ne.symm nj)] at ej
      rw [List.getElem?_set_ne (Ne.symm nl)] at el
      exact G.dis j l b oj' ol' ej el
  · obtain ⟨h1, p', h2⟩ := G.io j b hj
    have nj : i ≠ j := fun z => by subst z; exact hn _ h2
    exact ⟨by rw [List.getElem?_set_ne nj]; exact h1, p', by rw [List.getElem?_set_ne nj]; exact h2⟩
  · obtain ⟨q1, q2, q3⟩ := G.pr q hq
    refine ⟨q1, q2, fun j oj => ?_⟩
    rcases isOwn_set oj with ⟨rfl, _⟩ | ⟨nj, oj⟩
    · rw [List.getElem?_set_self (by rw [G.len]; exact hi)]
      intro z
      cases z
      exact np q hq rfl
    · rw [List.getElem?_set_ne (Ne.symm nj)]
      exact q3 j oj
theorem frzS_len {i : Nat} {p : PV} {ε' : Sg} (e : frzS ε i = some (p, ε')) : ε'.length = ε.length := by
  unfold Eng.frzS at e
  split at e <;> cases e <;> simp
theorem Good.put {i : Nat} {r : Rv} {v : V} {ε2 : Sg} (G : Good X.K g σ ε Z H) (e : putR i r ε = some ε2) (rv : RvR X.K g σ ε Z H r v) : ∃ Z2, Same Z Z2 ∧ Good X.K g (σ.set i (some v)) ε2 Z2 H := by
  unfold putR at e
  split at e
  · cases e
  · cases e
  · rename_i s hno hs
    have hi := (List.getElem?_eq_some_iff.mp hs).1
    have hn : ∀ q, ε[i]? ≠ some (.own false q) := fun q z => by rw [hs] at z; cases z; exact hno _ rfl
    cases r with
    | val p => cases e; exact ⟨Z, .refl _, G.setVal hi hn rv⟩
    | fresh p =>
      cases e
      obtain ⟨a, rfl, q⟩ := id rv
      exact ⟨Z, .refl _, G.setFresh hi hn rv⟩
    | own j =>
      dsimp only at e
      split at e
      · rename_i p ε1 ef
        cases e
        obtain ⟨u, Z2, h1, s2, G2, rp⟩ := G.frzS ef
        have rv : σ[j]? = some (some v) := rv
        rw [rv] at h1
        cases h1
        refine ⟨Z2, s2, G2.setVal (by rw [frzS_len ef]; exact hi) (fun q z => ?_) rp⟩
        unfold Eng.frzS at ef
        split at ef <;> cases ef
        · exact hn q z
        · rcases getElem?_set_eq z with ⟨_, y⟩ | ⟨_, y⟩
          · cases y
          · exact hn q y
      · cases e
theorem Good.drop {i : Nat} (G : Good X.K g σ ε Z H) (hn : ∀ q, ε[i]? ≠ some (.own false q)) : Good X.K g σ (ε.set i .none) Z H where
  len := by rw [List.length_set]; exact G.len
  slot := fun j s hs => by
    rcases getElem?_set_eq hs with ⟨rfl, rfl⟩ | ⟨nj, hs⟩
    · trivial
    · exact G.slot j s hs
  dis := fun j l a oj ol ej el => by
    rcases isOwn_set oj with ⟨_, _, _, z⟩ | ⟨nj, oj⟩
    · cases z
    · rcases isOwn_set ol with ⟨_, _, _, z⟩ | ⟨nl, ol⟩
      · cases z
      · exact G.dis j l a oj ol ej el
  zh := G.zh
  hh := G.hh
  al := G.al
  zf := G.zf
  zz := G.zz
  io := fun j a hj => by
    obtain ⟨h1, p, h2⟩ := G.io j a hj
    have nj : i ≠ j := fun z => by subst z; exact hn _ h2
    exact ⟨h1, p, by rw [List.getElem?_set_ne nj]; exact h2⟩
  pr := fun q hq => by
    obtain ⟨q1, q2, q3⟩ := G.pr q hq
    refine ⟨q1, q2, fun j oj => ?_⟩
    rcases isOwn_set oj with ⟨_, _, _, z⟩ | ⟨nj, oj⟩
    · cases z
    · exact q3 j oj
theorem Good.ret {r r' : Rv} {v : V} {ε2 : Sg} (G : Good X.K g σ ε Z H) (e : retR r ε = some (r', ε2)) (rv : RvR X.K g σ ε Z H r v) : Good X.K g σ ε2 Z H ∧ RvR X.K g σ ε2 Z H r' v := by
  cases r with
  | val p => cases e; exact ⟨G, rv⟩
  | fresh p => cases e; exact ⟨G, rv⟩
  | own j =>
    have e : (match ε[j]? with | some (.own true p) => some (Rv.fresh p, ε.set j .none) | some (.val p) => some (.val p, ε) | _ => none) = some (r', ε2) := e
    have rv : σ[j]? = some (some v) := rv
    split at e
    · rename_i p hs
      cases e
      obtain ⟨a, h1, h2, h3, h4, _⟩ := G.slot _ _ hs
      rw [rv] at h1
      cases h1
      refine ⟨G.drop fun q z => (by rw [hs] at z; cases z), a, rfl, h2, h4 rfl, h3, fun i oi z => ?_, fun q hq z => ?_⟩
      · rcases isOwn_set oi with ⟨_, _, _, y⟩ | ⟨nj, oi⟩
        · cases y
        · exact nj (G.dis i j a oi ⟨_, _, hs⟩ z rv)
      · exact (G.pr q hq).2.2 j ⟨_, _, hs⟩ (by rw [z]; exact rv)
    · rename_i p hs
      cases e
      obtain ⟨u, h1, h2⟩ := G.slot _ _ hs
      rw [rv] at h1
      cases h1
      exact ⟨G, h2⟩
    · cases e
end
end Eng

set_option maxHeartbeats 4000000
namespace Eng
open PySem PySem.Spec L2
open PyProof.Rows hiding St

section
variable {E : Eng} {Φ : Nat → List PV → CO} {k : Nat} {S : Stc} {X : Cx} {W : WX}

theorem swaps_no {e : Expr} {t : Option Expr} {l : Nat} {env : PySem.Env} (h : noComp e = true) : swapsWith e t l env = pure false := by
  cases e <;> first | rfl | cases h
theorem swaps_tup {e : Expr} {es : List Expr} {n : Nat} {p : Pos} {l : Nat} {env : PySem.Env} : swapsWithSole [.Tuple es n p] e l env = pure false := by
  cases e <;> rfl
theorem swapped_no {es : List Expr} {n : Nat} {p : Pos} {e : Expr} {env : PySem.Env} (h : noTup e = true) : swappedStores [.Tuple es n p] e env = pure none := by
  cases e <;> first | rfl | cases h
theorem swapped_nos {es : List Expr} {n : Nat} {p : Pos} {e : Expr} {env : PySem.Env} (h : noSwp es e = true) : swappedStores [.Tuple es n p] e env = pure none := by
  cases e <;> first | rfl | skip
  rename_i vs k2 p2
  have h : ((es.length != 2 && es.length != 3) || vs.all (foldedForSure 8)) = true := h
  unfold swappedStores
  simp only [pure_bind]
  rcases Bool.or_eq_true_iff.mp h with h | h
  · have : (es.length == 2 || es.length == 3) = false := by
      simp only [Bool.and_eq_true, bne_iff_ne, ne_eq] at h
      simp [h.1, h.2]
    simp [this]
  · simp only [h, if_true]
    split
    · rfl
    · split
      · rfl
      · split <;> rfl
theorem swapped_two {a b : Expr} {x y : Str} {px py pt : Pos} {kt k2 : Nat} {pt2 : Pos} {env : PySem.Env} (hb : env.blockKind = .function) (hx : env.scope.names.lookup x = some .local) (hy : env.scope.names.lookup y = some .local) (hl : (py.line == px.line) = true) (ha : noStar a = true) (hb2 : noStar b = true)
    (h1 : ([a, b].all (foldedForSure 8)) = false) (h2 : ([a, b].all (constantsAlone 8)) = false) (h3 : (x == y) = false) :
    swappedStores [.Tuple [.Name x px, .Name y py] kt pt] (.Tuple [a, b] k2 pt2) env = pure (some [x, y]) := by
  unfold swappedStores
  have k1 : env.kindOf x = some .local := hx
  have k3 : env.kindOf y = some .local := hy
  have hl' : py.line = px.line := beq_iff_eq.mp hl
  have h3' : x ≠ y := fun e => by rw [e, beq_self_eq_true] at h3; cases h3
  dsimp only
  have st : ∀ (g : Expr → Bool), (∀ e, noStar e = true → g e = false) → ([a, b].any g) = false := fun g hg => by simp [hg a ha, hg b hb2]
  rw [st _ (fun e he => by cases e <;> first | rfl | exact absurd he Bool.false_ne_true)]
  have fm : ∀ (g : Expr → Option Str), g (.Name x px) = some x → g (.Name y py) = some y → [Expr.Name x px, Expr.Name y py].filterMap g = [x, y] := fun g e1 e2 => by simp [e1, e2]
  rw [fm _ (by simp [k1]; rfl) (by simp [k3, hl']; rfl)]
  simp only [hb, h1, h2]
  have h4 : (y == x) = false := beq_eq_false_iff_ne.mpr (Ne.symm h3')
  simp [List.eraseDups_cons, h4]
theorem mt_asg {i : Nat} {e : IE} {st : Stmt} (m : mtS E S (.asg i e) st = true) : ∃ y py ex pos, st = .Assign [.Name y py] ex pos ∧ S.N[i]? = some y ∧ stB S.so y = true ∧ mtE E S e ex = true := by
  cases st <;> first | (exact absurd m Bool.false_ne_true) | skip
  rename_i ts ex pos
  match ts, m with
  | [], m => exact absurd m Bool.false_ne_true
  | t :: t2 :: ts, m => cases t <;> exact absurd m Bool.false_ne_true
  | [t], m =>
    cases t <;> first | (exact absurd m Bool.false_ne_true) | skip
    rename_i y py
    have m : (decide (S.N[i]? = some y) && stB S.so y && mtE E S e ex) = true := m
    simp only [Bool.and_eq_true, decide_eq_true_eq] at m
    exact ⟨y, py, ex, pos, rfl, m.1.1, m.1.2, m.2⟩
theorem mt_asgT {t : Tg} {e : IE} {st : Stmt} (m : mtS E S (.asgT t e) st = true) : ∃ es n p ex pos, st = .Assign [.Tuple es n p] ex pos ∧ mtT S t (.Tuple es n p) = true ∧ mtE E S e ex = true ∧ (noSwp es ex = true ∨ par2 S t e es ex = true) := by
  cases st <;> first | (exact absurd m Bool.false_ne_true) | skip
  rename_i ts ex pos
  match ts, m with
  | [], m => exact absurd m Bool.false_ne_true
  | t1 :: t2 :: ts, m => cases t1 <;> exact absurd m Bool.false_ne_true
  | [t1], m =>
    cases t1 <;> first | (exact absurd m Bool.false_ne_true) | skip
    rename_i es n p
    have m : (mtT S t (.Tuple es n p) && mtE E S e ex && (noSwp es ex || par2 S t e es ex)) = true := m
    simp only [Bool.and_eq_true, Bool.or_eq_true] at m
    exact ⟨es, n, p, ex, pos, rfl, m.1.1, m.1.2, m.2⟩

theorem s_expr {e : IE} {ex : Expr} {pos : Pos} (he : PE X ex (tE E Φ X W e)) (hn : noComp ex = true) : PS X (.Expr ex pos) (tS E Φ X W (.expr e)) := by
  refine ⟨fun pins s σ H D I hq => ?_⟩
  obtain ⟨g, ε, Z, gl, G, h⟩ := hq
  exact (ps_expr he (swaps_no hn)).run pins s σ H D I (tE_s G h fun r ε1 Z1 H1 v s1 G1 rv h1 => h1 σ Z1 H1 (.refl _) G1 fun _ _ => rfl)
theorem asg_read {i : Nat} {e : IE} {D : Ends} {σ : St} {H : Hp} (hq : tS E Φ X W (.asg i e) D σ H) : tAsg (tE E Φ X W e) (gName i) D σ H := by
  obtain ⟨g, ε, Z, gl, G, h⟩ := hq
  refine tE_s (A := asgsS (.asg i e)) (D := D) (f := fun r ε1 => match putR i r ε1 with | some ε2 => .nx ε2 | none => .stuck) G h fun r ε1 Z1 H1 v s1 G1 rv h1 => ?_
  split at h1
  · rename_i ε2 ep
    obtain ⟨Z2, s2, G2⟩ := G1.put ep rv
    refine h1 _ Z2 H1 s2 G2 fun j hj => ?_
    have hj : j ∉ [i] := hj
    rw [List.getElem?_set_ne]
    intro z
    exact hj (by simp [z])
  · exact h1.elim
theorem mt_lc {e : IE} {a : Expr} {gs : List Comprehension} {sc : Scope} {p : Pos} (m : mtE E S e (.ListComp a gs sc p) = true) : (∃ elt tg sk its cond own, e = .cmpr elt tg sk its cond own) ∨ ∃ elt tg sk its tg1 k1 its1 own own1, e = .cmp2 elt tg sk its tg1 k1 its1 own own1 := by
  cases e <;> first | (exact absurd m Bool.false_ne_true) | skip
  · rename_i q
    cases q <;> exact absurd m Bool.false_ne_true
  · exact .inl ⟨_, _, _, _, _, _, rfl⟩
  · exact .inr ⟨_, _, _, _, _, _, _, _, _, rfl⟩
theorem mt_sc {e : IE} {a : Expr} {gs : List Comprehension} {sc : Scope} {p : Pos} : ¬ mtE E S e (.SetComp a gs sc p) = true := fun m => by
  cases e <;> first | (exact absurd m Bool.false_ne_true) | skip
  rename_i q
  cases q <;> exact absurd m Bool.false_ne_true
theorem mt_dc {e : IE} {a b : Expr} {gs : List Comprehension} {sc : Scope} {p : Pos} : ¬ mtE E S e (.DictComp a b gs sc p) = true := fun m => by
  cases e <;> first | (exact absurd m Bool.false_ne_true) | skip
  rename_i q
  cases q <;> exact absurd m Bool.false_ne_true
theorem s_asg (ok : Okx E Φ k S W X) {i : Nat} {e : IE} {y : Str} {py : Pos} {ex : Expr} {pos : Pos} (hy : S.N[i]? = some y) (hst : stB S.so y = true) (m : mtE E S e ex = true) : PS X (.Assign [.Name y py] ex pos) (tS E Φ X W (.asg i e)) := by
  obtain ⟨lo, fn⟩ := ok.st y (stB_of hst)
  have hy' : X.N[i]? = some y := by rw [ok.N]; exact hy
  have hnd : X.N.Nodup := by rw [ok.N]; exact ok.nd
  by_cases hsw : swapsWith ex (some (.Name y py)) pos.line X.env = pure false
  · refine ⟨fun pins s σ H D I hq => ?_⟩
    exact (ps_set hnd hy' lo (soundE e ok m) hsw fn).run pins s σ H D I (asg_read hq)
  · -- a comprehension that is swapped with the name
    cases ex with
    | ListComp eelt gs scope cpos =>
      rcases mt_lc m with ⟨elt, tg, sk, its, cond, own, rfl⟩ | ⟨elt, tg, sk, its, tg1, k1, its1, own, own1, rfl⟩
      · obtain ⟨eelt', etg, eit, eifs, scope', pos', heq, m1, m2, m3, m4, m5, m6, m7, m8, m9⟩ := mt_cmpr m
        cases heq
        have hb : X.env.blockKind = .function := by unfold Env.blockKind; rw [ok.kind]; rfl
        have key : swapsWith (.ListComp eelt [⟨etg, eit, eifs, 0⟩] scope cpos) (some (.Name y py)) pos.line X.env = pure (X.env.blockKind == .function && X.env.kindOf y == some .local && py.line == cpos.line && !(scope.names.any fun (n, k) => n == y && (k == .local || k == .cell))) := rfl
        rw [key] at hsw
        cases hc : (X.env.blockKind == .function && X.env.kindOf y == some .local && py.line == cpos.line && !(scope.names.any fun (n, k) => n == y && (k == .local || k == .cell))) with
        | false => rw [hc] at hsw; exact absurd rfl hsw
        | true =>
          have hyl : X.env.scope.names.lookup y = some .local := by
            simp only [Bool.and_eq_true] at hc
            exact beq_iff_eq.mp hc.1.1.2
          rw [hc] at key
          refine ⟨fun pins s σ H D I hq => ?_⟩
          refine (s_setLc ok hy hyl key (soundI sk its (tgOk_tup m9 m4) ok m2.1 m2.2) (noSet_fold m1) (blkOk_by m3) m8 (fun s H C cl fp => s_tg (ok.blk (blkOk_by m3) s H C cl fp) m4) (fun s H C cl fp => soundC cond (ok.blk (blkOk_by m3) s H C cl fp) m5 m7) (fun s H C cl fp => soundE elt (ok.blk (blkOk_by m3) s H C cl fp) m6)).run pins s σ H D I (asg_read hq)
      · obtain ⟨eelt', etg, eit, etg1, eit1, scope', pos', heq, ⟨h1, h2, h3, h4, h5⟩, ⟨g1, g2, g3, g4, g5⟩, f3, f4, f5, f6, f7⟩ := mt_cmp2 m
        cases heq
        have hb : X.env.blockKind = .function := by unfold Env.blockKind; rw [ok.kind]; rfl
        have key : swapsWith (.ListComp eelt [⟨etg, eit, [], 0⟩, ⟨etg1, eit1, [], 0⟩] scope cpos) (some (.Name y py)) pos.line X.env = pure (X.env.blockKind == .function && X.env.kindOf y == some .local && py.line == cpos.line && !(scope.names.any fun (n, k) => n == y && (k == .local || k == .cell))) := rfl
        rw [key] at hsw
        cases hc : (X.env.blockKind == .function && X.env.kindOf y == some .local && py.line == cpos.line && !(scope.names.any fun (n, k) => n == y && (k == .local || k == .cell))) with
        | false => rw [hc] at hsw; exact absurd rfl hsw
        | true =>
          have hyl : X.env.scope.names.lookup y = some .local := by
            simp only [Bool.and_eq_true] at hc
            exact beq_iff_eq.mp hc.1.1.2
          rw [hc] at key
          have C := cmp2D ok (soundA its ok h4) (fun e ex' _ m => soundE e ok m) h1 h2 h3 h4 h5 g1 g2 g3 g4 f3 f4 f5 f6 f7 (fun Y okY => soundA its1 okY g3) (fun Y okY e ex' _ m => soundE e okY m) (fun Y okY => soundE elt okY g5)
          refine ⟨fun pins s σ H D I hq => ?_⟩
          exact (s_setLc2 ok hy hyl key C.hit C.hns C.hns1 C.bo C.hto C.hto1 C.hoo C.hg C.hi1 C.hg1 C.ht C.he).run pins s σ H D I (asg_read hq)
    | SetComp _ _ _ _ => exact absurd m mt_sc
    | DictComp _ _ _ _ _ => exact absurd m mt_dc
    | _ => exact absurd (swaps_no rfl) hsw
theorem Good.setNm {g : Ent} {σ : St} {ε ε' : Sg} {Z H : Hp} {i : Nat} {p : PV} {v : V} (G : Good X.K g σ ε Z H) (e : asgT (.nm i) p ε = some ε') (r : Rp X.K Z p v) : Good X.K g (σ.set i (some v)) ε' Z H := by
  have e : (match ε[i]? with | some (.own false _) => none | some _ => some (ε.set i (.val p)) | none => none) = some ε' := e
  split at e
  · cases e
  · rename_i s' hn hs
    cases e
    exact G.setVal (List.getElem?_eq_some_iff.mp hs).1 (fun q z => by rw [hs] at z; cases z; exact hn q rfl) r
  · cases e
theorem s_asgT0 (ok : Okx E Φ k S W X) {t : Tg} {e : IE} {es : List Expr} {n : Nat} {p : Pos} {ex : Expr} {pos : Pos} (mt : mtT S t (.Tuple es n p) = true) (m : mtE E S e ex = true) (hn : noSwp es ex = true) : PS X (.Assign [.Tuple es n p] ex pos) (tS E Φ X W (.asgT t e)) := by
  refine ⟨fun pins s σ H D I hq => ?_⟩
  obtain ⟨g, ε, Z, gl, G, h⟩ := hq
  refine (ps_asg (soundE e ok m) (s_tg ok mt) swaps_tup (swapped_nos hn)).run pins s σ H D I ?_
  refine tE_s (A := asgsS (.asgT t e)) (D := D) (f := fun r ε1 => match Eng.frz r ε1 with | some (p, ε2) => (match asgT t p ε2 with | some ε3 => .nx ε3 | none => .stuck) | none => .stuck) G h fun r ε1 Z1 H1 v s1 G1 rv h1 => ?_
  split at h1
  · rename_i p ε2 ef
    obtain ⟨Z2, s2, G2, rp⟩ := G1.frz ef rv
    split at h1
    · rename_i ε3 ea
      exact ⟨g, ε2, Z2, p, ε3, G2, rp, ea, fun σ' G' kp => h1 σ' Z2 H1 s2 G' kp⟩
    · exact h1.elim
  · exact h1.elim
/-- a, b = x, y -/
theorem s_par (ok : Okx E Φ k S W X) {i j : Nat} {ia ib : IE} {a b : Expr} {x y : Str} {px py pt pos pt2 : Pos} {kt k2 : Nat} (hi : S.N[i]? = some x) (hj : S.N[j]? = some y) (hij : i ≠ j) (hx : S.sc.names.lookup x = some .local) (hy : S.sc.names.lookup y = some .local)
    (hl : (py.line == px.line) = true) (ha : noStar a = true) (hb : noStar b = true) (h1 : ([a, b].all (foldedForSure 8)) = false) (h2 : ([a, b].all (constantsAlone 8)) = false) (h3 : (x == y) = false) (ml : mtL E S [ia, ib] [a, b] = true) :
    PS X (.Assign [.Tuple [.Name x px, .Name y py] kt pt] (.Tuple [a, b] k2 pt2) pos) (tS E Φ X W (.asgT (.tp [.nm i, .nm j]) (.tup [ia, ib]))) := by
  have hx' : X.env.scope.names.lookup x = some .local := by rw [ok.sc]; exact hx
  have hy' : X.env.scope.names.lookup y = some .local := by rw [ok.sc]; exact hy
  have bk : X.env.blockKind = .function := by unfold Env.blockKind; rw [ok.kind]; rfl
  refine ⟨fun pins s σ H D I hq => ?_⟩
  obtain ⟨g, ε, Z, gl, G, h⟩ := hq
  refine (ps_par ok.calm (by rw [ok.N]; exact ok.nd) (by rw [ok.N]; exact hi) (by rw [ok.N]; exact hj) hij hx' hy' (soundA [ia, ib] ok ml) (swapped_two bk hx' hy' hl ha hb h1 h2 h3)).run pins s σ H D I ?_
  refine ⟨g, ε, Z, G, ?_⟩
  have h : SPost E X W g σ Z [i, j] D (match (evA E Φ [ia, ib] ε).bind (fun rs ε1 => match Eng.frzL rs ε1 with
      | some (ps, ε2) => if ps.length ≤ sizeLine then Out.ok (Rv.val (.tup ps)) ε2 else .stuck
      | none => .stuck) with
    | .ok r ε1 => (match Eng.frz r ε1 with | some (p, ε2) => (match asgT (.tp [.nm i, .nm j]) p ε2 with | some ε3 => .nx ε3 | none => .stuck) | none => .stuck)
    | .exc c ε1 => .exc c ε1
    | .stuck => .stuck) := h
  cases hev : evA E Φ [ia, ib] ε with
  | stuck => rw [hev] at h; exact h.elim
  | exc c ε1 =>
    rw [hev] at h
    exact fun Z1 H1 C s1 G1 cl => h σ Z1 H1 C s1 G1 (fun _ _ => rfl) cl
  | ok rs ε1 =>
    rw [hev] at h
    intro Z1 H1 s1 G1 vs pr
    have h : SPost E X W g σ Z [i, j] D (match (match Eng.frzL rs ε1 with
      | some (ps, ε2) => if ps.length ≤ sizeLine then Out.ok (Rv.val (.tup ps)) ε2 else .stuck
      | none => .stuck) with
    | .ok r ε1 => (match Eng.frz r ε1 with | some (p, ε2) => (match asgT (.tp [.nm i, .nm j]) p ε2 with | some ε3 => .nx ε3 | none => .stuck) | none => .stuck)
    | .exc c ε1 => .exc c ε1
    | .stuck => .stuck) := h
    cases ef : Eng.frzL rs ε1 with
    | none => rw [ef] at h; exact h.elim
    | some q =>
      obtain ⟨ps, ε2⟩ := q
      rw [ef] at h
      obtain ⟨Z2, s2, G2, r2⟩ := G1.frzL ef pr
      dsimp only at h
      by_cases hz : ps.length ≤ sizeLine
      · rw [if_pos hz] at h
        have h : SPost E X W g σ Z [i, j] D (match asgTs [.nm i, .nm j] ps ε2 with | some ε3 => .nx ε3 | none => .stuck) := h
        cases r2 with
        | nil => exact h.elim
        | @cons p v ps' vs' rp t =>
          have h : SPost E X W g σ Z [i, j] D (match (match asgT (.nm i) p ε2 with | some ε3 => asgTs [.nm j] ps' ε3 | none => none) with | some ε3 => .nx ε3 | none => .stuck) := h
          cases e1 : asgT (.nm i) p ε2 with
          | none => rw [e1] at h; exact h.elim
          | some ε3 =>
            rw [e1] at h
            cases t with
            | nil => exact h.elim
            | @cons q w qs ws rq t =>
              have h : SPost E X W g σ Z [i, j] D (match (match asgT (.nm j) q ε3 with | some ε4 => asgTs [] qs ε4 | none => none) with | some ε3 => .nx ε3 | none => .stuck) := h
              cases e2 : asgT (.nm j) q ε3 with
              | none => rw [e2] at h; exact h.elim
              | some ε4 =>
                rw [e2] at h
                cases t with
                | cons _ _ => exact h.elim
                | nil =>
                  have h : SPost E X W g σ Z [i, j] D (.nx ε4) := h
                  refine ⟨v, w, rfl, h _ Z2 H1 (s1.trans s2) ((G2.setNm e1 rp).setNm e2 rq) fun l hl => ?_⟩
                  rw [List.getElem?_set_ne (fun z => hl (by simp [z])), List.getElem?_set_ne (fun z => hl (by simp [z]))]
      · rw [if_neg hz] at h
        exact h.elim
theorem s_asgT (ok : Okx E Φ k S W X) {t : Tg} {e : IE} {es : List Expr} {n : Nat} {p : Pos} {ex : Expr} {pos : Pos} (mt : mtT S t (.Tuple es n p) = true) (m : mtE E S e ex = true) (hn : noSwp es ex = true ∨ par2 S t e es ex = true) : PS X (.Assign [.Tuple es n p] ex pos) (tS E Φ X W (.asgT t e)) := by
  rcases hn with hn | hn
  · exact s_asgT0 ok mt m hn
  · unfold par2 at hn
    split at hn
    · rename_i a b k2 p2
      split at hn
      · rename_i i j ia ib x px y py
        simp only [Bool.and_eq_true, decide_eq_true_eq, Bool.not_eq_true'] at hn
        obtain ⟨⟨⟨⟨⟨⟨⟨⟨⟨⟨q1, q2⟩, q3⟩, q4⟩, q5⟩, q6⟩, q7⟩, q8⟩, q9⟩, q10⟩, q11⟩ := hn
        exact s_par ok q1 q2 q3 q4 q5 q6 q7 q8 q9 q10 q11 m
      · cases hn
    · cases hn
theorem s_ret {e : IE} {ex : Expr} {pos : Pos} (he : PE X ex (tE E Φ X W e)) : PS X (.Return (some ex) pos) (tS E Φ X W (.ret e)) := by
  refine ⟨fun pins s σ H D I hq => ?_⟩
  obtain ⟨g, ε, Z, gl, G, h⟩ := hq
  refine (ps_ret he).run pins s σ H D I ?_
  refine tE_s (A := asgsS (.ret e)) (D := D) (f := fun r ε1 => match retR r ε1 with | some (r', ε2) => .rt r' ε2 | none => .stuck) G h fun r ε1 Z1 H1 v s1 G1 rv h1 => ?_
  split at h1
  · rename_i r' ε2 er
    obtain ⟨G2, rv2⟩ := G1.ret er rv
    exact h1 σ v Z1 H1 (.refl _) G2 rv2
  · exact h1.elim
theorem s_retN {pos : Pos} : PS X (.Return none pos) (tS E Φ X W .retN) := by
  refine ⟨fun pins s σ H D I hq => ?_⟩
  obtain ⟨g, ε, Z, gl, G, h⟩ := hq
  exact ps_retN.run pins s σ H D I (h σ .non Z H (.refl _) G .non)
theorem s_if {c : IE} {a b : List IS} {ec : Expr} {ea eb : List Stmt} {pos : Pos} (hc : PT X ec (tT E Φ X W c)) (ha : PSs X ea (tL E Φ X W a)) (hb : PSs X eb (tL E Φ X W b)) : PS X (.If ec ea eb pos) (tS E Φ X W (.ifs c a b)) := by
  refine ⟨fun pins s σ H D I hq => ?_⟩
  obtain ⟨g, ε, Z, gl, G, h⟩ := hq
  refine (ps_if hc ha hb).run pins s σ H D I ?_
  refine tT_s (A := asgsS (.ifs c a b)) (D := D) (f := fun t ε1 => if t = true then exL E Φ a ε1 else exL E Φ b ε1) G h fun t ε1 Z1 H1 s1 G1 h1 => ?_
  cases t with
  | true =>
    rw [if_pos rfl] at h1
    rw [if_pos rfl]
    exact ⟨g, ε1, Z1, gl, G1, h1.from (.refl _) (fun _ _ => rfl) fun j hj => List.mem_append_left _ hj⟩
  | false =>
    rw [if_neg Bool.false_ne_true] at h1
    rw [if_neg Bool.false_ne_true]
    exact ⟨g, ε1, Z1, gl, G1, h1.from (.refl _) (fun _ _ => rfl) fun j hj => List.mem_append_right _ hj⟩
theorem s_raiseE (ok : OkS E Φ k S W X) {c : Nat} {e : IE} {ex : Expr} {x : Str} {p p3 pos : Pos} (hx : E.cls[c]? = some x) (hg : glB S.sc x = true) (he : PE X ex (tE E Φ X W e)) (hs : noStar ex = true) :
    PS X (.Raise (some (.Call (.Name x p) [ex] [] p3)) none pos) (tS E Φ X W (.raiseE c e)) := by
  obtain ⟨C, m, F⟩ := ok.ex c x hx
  refine ⟨fun pins s σ H D I hq => ?_⟩
  obtain ⟨g, ε, Z, gl, G, h⟩ := hq
  refine (ps_raise ok.x.calm ok.x.tk (SkE.pmk_own1 PySem.F.excBase_ValueError F.inn m F.kp F.rs (ok.x.gl hg).1 he (starEach_no hs) (okN_1 (ok.x.gl hg).2))).run pins s σ H D I ?_
  refine tE_s (A := asgsS (.raiseE c e)) (D := D) (f := fun r ε1 => SO.exc c ε1) G h fun r ε1 Z1 H1 v s1 G1 rv h1 => ?_
  exact h1 σ Z1 H1 C (.refl _) G1 (fun _ _ => rfl) ⟨x, hx, m⟩
/-! ### x[k] = v, x op= e -/
/-- a dict of one's own, or a list, is stored to -/
def rSetE (X : Cx) : TSet := fun o i v H Q => (∃ p xs kk j, o = .ref p ∧ i = .int kk ∧ H p = some (.lst xs) ∧ ixN xs.length kk = some j ∧ Q (upd H p (.lst (xs.set j v)))) ∨
  ∃ a od kvs kk, o = .ref a ∧ i = kV kk ∧ H a = some (.frz od (.dK kvs)) ∧ (∀ o' u', X.H_0 a ≠ some (.frz o' u')) ∧ kvs.length < sizeLine ∧ ∀ od', Q (upd H a (.frz od' (.dK (putK kvs kk v))))
theorem set_E (hu : X.A.units + 1 < cLine) : PSet X (rSetE X) := by
  intro pins s σ H o i v ov iv u Q I ro ri rv h
  rcases h with ⟨p, xs, kk, j, e1, e2, h1, h2, q⟩ | ⟨a, od, kvs, kk, rfl, rfl, h1, h2, h3, q⟩
  · exact set_list pins s σ H o i v ov iv u Q I ro ri rv ⟨p, xs, kk, j, e1, e2, h1, h2, q⟩
  · cases ro
    have I1 := I.unlock h1 h2
    refine wpAny_mono (d_setItem (Q := fun _ s' => ∃ H', Inv X pins σ H' s' ∧ H' = upd (upd H a (.dK kvs)) a (.dK (putK kvs kk v))) hu I1 (DPut.k upd_same h3) ri rv fun s' I' => ⟨_, I', rfl⟩) (fun _ s' z => ?_) fun _ _ z => z
    obtain ⟨H', I', rfl⟩ := z
    rw [upd_upd] at I'
    obtain ⟨od', I2⟩ := I'.lock upd_same trivial
    rw [upd_upd] at I2
    exact ⟨_, I2, q od'⟩
theorem s_setI (ok : OkS E Φ k S W X) {i : Nat} {ke ve : IE} {x : Str} {ek ev : Expr} {px ps pos : Pos} (hv : (decide (S.N[i]? = some x) && visB S.sc x && okN x) = true) (hk : PE X ek (tE E Φ X W ke)) (hn : noSlc ek = true) (he : PE X ev (tE E Φ X W ve)) (hc : noComp ev = true) :
    PS X (.Assign [.Subscript (.Name x px) ek ps] ev pos) (tS E Φ X W (.setI i ke ve)) := by
  refine ⟨fun pins s σ H D I hq => ?_⟩
  obtain ⟨g, ε, Z, gl, G, h⟩ := hq
  have a0 : ∀ v, assign (.Subscript (.Name x px) ek ps) X.env v = (do
      let ov ← holding [v] (eval (.Name x px) X.env)
      let iv ← holding [v, ov] (eval ek X.env)
      standAt ps
      holding [v, ov, iv] (setItem ov iv v)
      release [v, ov, iv] []) := fun v => by cases ek <;> first | rfl | cases hn
  have a1 : swapsWithSole [.Subscript (.Name x px) ek ps] ev pos.line X.env = pure false := by cases ev <;> first | rfl | cases hc
  refine (ps_asg he (pg_sub (ok.x.vis hv) hk (set_E (by have := ok.x.room.un; omega)) a0) a1 rfl rfl).run pins s σ H D I ?_
  refine tE_s (A := asgsS (.setI i ke ve)) (D := D) (f := fun rv ε1 => match Eng.frz rv ε1 with
      | some (p, ε2) => (match ε2[i]? with
        | some (.own _ _) => (match evE E Φ ke ε2 with
          | .ok rk ε3 => (match rk.opd.peek ε3, ε3[i]? with
            | some q, some (.own kk c) => if setOk kk c = true then (match setC c q p with
              | some c' => .nx (ε3.set i (.own kk c'))
              | none => .stuck)
              else .stuck
            | _, _ => .stuck)
          | .exc c ε1 => .exc c ε1
          | .stuck => .stuck)
        | _ => .stuck)
      | none => .stuck) G h fun rv ε1 Z1 H1 v s1 G1 hrv h1 => ?_
  split at h1
  · rename_i p ε2 ef
    obtain ⟨Z2, s2, G2, rp⟩ := G1.frz ef hrv
    split at h1
    · rename_i k0 c0 e0
      obtain ⟨a, ha, _⟩ := G2.slot _ _ e0
      refine ⟨.ref a, ha, ?_⟩
      refine tE_s (A := asgsS (.setI i ke ve)) (D := D) (f := fun rk ε3 => match rk.opd.peek ε3, ε3[i]? with
            | some q, some (.own kk c) => if setOk kk c = true then (match setC c q p with
              | some c' => .nx (ε3.set i (.own kk c'))
              | none => .stuck)
              else .stuck
            | _, _ => .stuck) G2 (h1.from s2 (fun _ _ => rfl) fun _ z => z) fun rk ε3 Z3 H3 y s3 G3 hrk h3 => ?_
      obtain ⟨Z4, s4, G4, ry⟩ := G3.opd hrk
      split at h3
      · rename_i q kk c eq ei
        split at h3
        · rename_i hok
          split at h3
          · rename_i c' ec
            obtain ⟨a', ha', hz, ho, hk0, _⟩ := G4.slot _ _ ei
            rw [ha] at ha'
            cases ha'
            have vq := G4.peek eq ry.rv
            have rp' : Rp X.K Z4 p v := rp.mono (s3.trans s4)
            cases c <;> first | (cases ec; done) | skip
            · -- a list
              rename_i l
              cases q <;> first | (cases ec; done) | skip
              rename_i j
              cases vq.int
              obtain ⟨xs, hx, rx⟩ := ho
              have ec : (ixN l.length j).map (fun n => PV.lst (l.set n p)) = some c' := ec
              cases ej : ixN l.length j with
              | none => rw [ej] at ec; cases ec
              | some n =>
                rw [ej] at ec
                cases ec
                refine .inl ⟨a, xs, j, n, rfl, rfl, hx, by rw [rx.length]; exact ej, ?_⟩
                exact h3 σ Z4 _ s4 (G4.setOwn ei ha ⟨_, upd_same, rx.set rp' n⟩) fun _ _ => rfl
            · -- a dict
              rename_i l
              have hkk : kk = true := hok
              obtain ⟨od, kvs, hx, rx⟩ := ho
              have ec : (match keyP q with | some k => if l.length < sizeLine then some (PV.dct (dP l k p)) else none | none => none) = some c' := ec
              cases ekq : keyP q with
              | none => rw [ekq] at ec; cases ec
              | some ky =>
                rw [ekq] at ec
                dsimp only at ec
                split at ec
                · rename_i hlt
                  cases ec
                  cases key_view ekq vq
                  refine .inr ⟨a, od, kvs, ky, rfl, rfl, hx, gl a (hk0 hkk), by rw [rx.length]; exact hlt, fun od' => ?_⟩
                  exact h3 σ Z4 _ s4 (G4.setOwn ei ha ⟨od', _, upd_same, rx.put ky rp'⟩) fun _ _ => rfl
                · cases ec
          · exact h3.elim
        · exact h3.elim
      · exact h3.elim
    · exact h1.elim
  · exact h1.elim
/-- x op= e -/
def rAugE (op : Operator) (K : Fg) : R2 := fun x y H Q => ∃ Z p q r, Same Z H ∧ View K Z H p x ∧ View K Z H q y ∧ opAug op p q = some r ∧ ∀ v, Rp K Z r v → Q v H
theorem op_augE (op : Operator) : PIp X op (rAugE op X.K) := by
  intro pins s σ H x y v u Q I rx ry h
  obtain ⟨Z, p, q, r, zh, vp, vq, e, k⟩ := h
  unfold opAug at e
  split at e
  · cases e
    cases vp.int
    cases vq.int
    exact iop_add pins s σ H _ _ v u Q I rx ry ⟨_, _, rfl, rfl, k _ (.int _)⟩
  · cases e
    cases vp.int
    cases vq.int
    exact iop_sub pins s σ H _ _ v u Q I rx ry ⟨_, _, rfl, rfl, k _ (.int _)⟩
  · split at e
    · rename_i hc
      cases e
      cases vp.str
      cases vq.str
      exact iop_add_str pins s σ H _ _ v u Q I rx ry ⟨_, _, rfl, rfl, hc, k _ (.str _)⟩
    · cases e
  · cases e
theorem s_aug (ok : OkS E Φ k S W X) {i : Nat} {op : Operator} {e : IE} {x : Str} {ex : Expr} {px pos : Pos} (hx : S.N[i]? = some x) (hst : stB S.so x = true) (he : PE X ex (tE E Φ X W e)) : PS X (.AugAssign (.Name x px) op ex pos) (tS E Φ X W (.aug i op e)) := by
  obtain ⟨lo, fn⟩ := ok.x.st x (stB_of hst)
  refine ⟨fun pins s σ H D I hq => ?_⟩
  obtain ⟨g, ε, Z, gl, G, h⟩ := hq
  refine (ps_aug (by rw [ok.x.N]; exact ok.x.nd) (by rw [ok.x.N]; exact hx) lo he (op_augE op) fn).run pins s σ H D I ?_
  have h : SPost E X W g σ Z [i] D (match ε[i]? with
    | some (.val a) => (match evE E Φ e ε with
      | .ok r ε1 => (match r.opd.peek ε1, ε1[i]? with
        | some b, some (.val _) => (match opAug op a b with
          | some p => .nx (ε1.set i (.val p))
          | none => .stuck)
        | _, _ => .stuck)
      | .exc c ε1 => .exc c ε1
      | .stuck => .stuck)
    | _ => .stuck) := h
  split at h
  · rename_i a ea
    obtain ⟨va, h1, h2⟩ := G.slot _ _ ea
    refine ⟨va, h1, ?_⟩
    refine tE_s (A := [i]) (D := D) (f := fun r ε1 => match r.opd.peek ε1, ε1[i]? with
        | some b, some (.val _) => (match opAug op a b with
          | some p => .nx (ε1.set i (.val p))
          | none => .stuck)
        | _, _ => .stuck) G h fun r ε1 Z1 H1 y s1 G1 rv h3 => ?_
    obtain ⟨Z2, s2, G2, ry⟩ := G1.opd rv
    split at h3
    · rename_i b p0 eb ei
      split at h3
      · rename_i p eo
        refine ⟨Z2, a, b, p, G2.zh, .inl ((h2.mono s1).mono s2), G2.peek eb ry.rv, eo, fun w rw' => ?_⟩
        refine h3 _ Z2 H1 s2 (G2.setVal (List.getElem?_eq_some_iff.mp ei).1 (fun q z => by rw [ei] at z; cases z) rw') fun j hj => ?_
        rw [List.getElem?_set_ne (fun z => hj (by simp [z]))]
      · exact h3.elim
    · exact h3.elim
  · exact h.elim
theorem s_raise (ok : OkS E Φ k S W X) {c : Nat} {msg x : Str} {j : Nat} {p p2 p3 pos : Pos} (hx : E.cls[c]? = some x) (hg : glB S.sc x = true) : PS X (.Raise (some (.Call (.Name x p) [.Constant (.str msg) j p2] [] p3)) none pos) (tS E Φ X W (.raise c msg)) := by
  obtain ⟨C, m, F⟩ := ok.ex c x hx
  refine ⟨fun pins s σ H D I hq => ?_⟩
  obtain ⟨g, ε, Z, gl, G, h⟩ := hq
  refine (ps_raise ok.x.calm ok.x.tk (pmk_own PySem.F.excBase_ValueError F.inn m F.kp F.rs (ok.x.gl hg).1 (okN_1 (ok.x.gl hg).2))).run pins s σ H D I ?_
  exact h σ Z H C (.refl _) G (fun _ _ => rfl) ⟨x, hx, m⟩

/-! ### try -/
def tSu (E : Eng) (X : Cx) (W : WX) (suite : List IS) : TS := fun D σ H => ∃ g ε Z, Good X.K g σ ε Z H ∧ SPost E X W g σ Z (asgsL suite) D (suI suite ε)
theorem s_suite (ok : Okx E Φ k S W X) {suite : List IS} {b0 : Stmt} {es : List Stmt} (m : mtSs E S suite (b0 :: es) = true) {W' : WX} (a : Addr) (pn : List (Addr × Obj)) : PSs (X.suite a pn) (b0 :: es) (tSu E X W' suite) := by
  have stuck : (∀ ε, suI suite ε = .stuck) → PSs (X.suite a pn) (b0 :: es) (tSu E X W' suite) := fun h => ⟨fun pins s σ H D I ⟨g, ε, Z, G, q⟩ => by rw [h] at q; exact q.elim⟩
  have hst : ∀ x, stB S.so x = true → Loc X.env.scope x ∧ (X.fn x = true ∨ X.env.scope.names.lookup x = some .local) := fun x hx => ok.st x (stB_of hx)
  have cst : ∀ {p : PV} {ex : Expr}, mtE E S (.cst p) ex = true → ∃ v, PE (X.suite a pn) ex (tC v) ∧ (∀ Z, Rp X.K Z p v) ∧ noComp ex = true := fun {p ex} m => by
    cases p <;> cases ex <;> first | (exact absurd m Bool.false_ne_true) | skip
    all_goals
      rename_i c _ _
      cases c <;> first | (exact absurd m Bool.false_ne_true) | skip
    · exact ⟨_, pe_non, fun _ => .non, rfl⟩
    · rename_i b _ _ c
      have e := beq_iff_eq.mp (show (b == c) = true from m)
      subst e
      exact ⟨_, pe_bl, fun _ => .bl _, rfl⟩
    · rename_i b _ _ c
      have e := beq_iff_eq.mp (show (b == c) = true from m)
      subst e
      exact ⟨_, pe_int, fun _ => .int _, rfl⟩
    · rename_i b _ _ c
      have e := beq_iff_eq.mp (show (b == c) = true from m)
      subst e
      exact ⟨_, pe_str, fun _ => .str _, rfl⟩
  rcases suite with _ | ⟨s1, _ | ⟨s2, t⟩⟩
  · exact stuck fun _ => rfl
  · cases hsel : isSel s1 with
    | true => cases s1 <;> first | (exact stuck fun _ => rfl) | cases hsel
    | false =>
    have m : (bif isSel s1 then selM E S s1 [] b0 es else (mtS E S s1 b0 && mtSs E S [] es)) = true := m
    rw [hsel] at m
    have m1 : (mtS E S s1 b0 && mtSs E S [] es) = true := m
    simp only [Bool.and_eq_true] at m1
    clear hsel m
    cases s1 <;> first | (exact stuck fun _ => rfl) | skip
    · cases b0 <;> first | (exact absurd m1.1 Bool.false_ne_true) | skip
      cases es with
      | cons _ _ => exact absurd m1.2 Bool.false_ne_true
      | nil => exact ⟨fun pins s σ H D I ⟨g, ε, Z, G, q⟩ => (pss_one ps_pass).run pins s σ H D I (q σ Z H (.refl _) G fun _ _ => rfl)⟩
    · rename_i i e
      cases e <;> first | (exact stuck fun _ => rfl) | skip
      rename_i p
      obtain ⟨y, py, ex, pos, rfl, h1, h2, h3⟩ := mt_asg m1.1
      obtain ⟨v, pe, rp, hnc⟩ := cst h3
      obtain ⟨lo, fn⟩ := hst y h2
      cases es with
      | cons _ _ => exact absurd m1.2 Bool.false_ne_true
      | nil =>
        refine ⟨fun pins s σ H D I ⟨g, ε, Z, G, q⟩ => ?_⟩
        have hnd : X.N.Nodup := by rw [ok.N]; exact ok.nd
        refine (pss_one (ps_set (X := X.suite a pn) hnd (by rw [← ok.N] at h1; exact h1) lo pe (swaps_no hnc) fn)).run pins s σ H D I ?_
        have q : SPost E X W' g σ Z (asgsL [.asg i (.cst p)]) D (match putR i (.val p) ε with | some ε1 => .nx ε1 | none => .stuck) := q
        split at q
        · rename_i ε1 ep
          obtain ⟨Z2, s2, G2⟩ := G.put ep (v := v) (rp Z)
          refine q _ Z2 H s2 G2 fun j hj => ?_
          have hj : j ∉ [i] ++ [] := hj
          rw [List.getElem?_set_ne]
          intro z
          exact hj (by simp [z])
        · exact q.elim
    · rename_i e
      cases e <;> first | (exact stuck fun _ => rfl) | skip
      rename_i p
      cases b0 <;> first | (exact absurd m1.1 Bool.false_ne_true) | skip
      rename_i o pos
      cases o with
      | none => exact absurd m1.1 Bool.false_ne_true
      | some ex =>
        obtain ⟨v, pe, rp, _⟩ := cst (show mtE E S (.cst p) ex = true from m1.1)
        cases es with
        | cons _ _ => exact absurd m1.2 Bool.false_ne_true
        | nil => exact ⟨fun pins s σ H D I ⟨g, ε, Z, G, q⟩ => (pss_one (ps_ret pe)).run pins s σ H D I (q σ v Z H (.refl _) G (rp Z))⟩
  · exact stuck fun ε => by
      cases s1 <;> first | rfl | (rename_i e; cases e <;> rfl)
theorem s_try (ok : OkS E Φ k S W X) {body suite : List IS} {c : Nat} {ebody esuite : List Stmt} {x : Str} {b0 : Stmt} {np pos pos' : Pos} (hx : E.cls[c]? = some x) (hg : glB S.sc x = true)
    (hb : ∀ (W' : WX) (pn : List (Addr × Obj)) (xe : Value → Shared → Prop), OkS E Φ k S W' (X.tr pn xe) → PSs (X.tr pn xe) ebody (tL E Φ X W' body)) (ms : mtSs E S suite (b0 :: esuite) = true) :
    PS X (.Try ebody [.ExceptHandler (some (.Name x np)) none (b0 :: esuite) pos'] [] [] pos) (tS E Φ X W (.tryx body c suite)) := by
  obtain ⟨C, m, F⟩ := ok.ex c x hx
  have nm : Names X x (.ref C) := ⟨(ok.x.gl hg).1, okN_1 (ok.x.gl hg).2, .inl m⟩
  refine ⟨fun pins s σ H D I hq => ?_⟩
  obtain ⟨g, ε, Z, gl, G, h⟩ := hq
  refine (ps_try_only (tb := fun W' => tL E Φ X W' body) (ts := fun _ _ _ => tSu E X W suite) ok.hs ok.hf nm ok.x.tk (fun W' pn xe tk po => hb W' pn xe ?_) (fun a oe cls d pn _ _ => s_suite ok.x ms a _)).run pins s σ H D I ?_
  · exact ⟨⟨ok.x.calm, ok.x.N, ok.x.sc, ok.x.nd, ok.x.kind, ok.x.st, ok.x.room, tk, ok.x.fn, ok.x.bl, ok.x.ty, ok.x.gb, ok.x.fr, ok.x.gd⟩, ok.hs, ok.hf, po, fun c nm h => (by
      obtain ⟨C, m, F⟩ := ok.ex c nm h
      exact ⟨C, m, F.inn, F.kp, F.rs⟩), ok.sb⟩
  · refine ⟨g, ε, Z, gl, G, ?_⟩
    have h : SPost E X W g σ Z (asgsL body ++ asgsL suite) D (match exL E Φ body ε with | .exc c' ε1 => if E.sub c' c then suI suite ε1 else .exc c' ε1 | o => o) := h
    have mono : ∀ {σ' : St}, (∀ j, j ∉ asgsL body → σ'[j]? = σ[j]?) → ∀ j, j ∉ asgsL body ++ asgsL suite → σ'[j]? = σ[j]? := fun q j hj => q j fun z => hj (List.mem_append_left _ z)
    cases he : exL E Φ body ε with
    | stuck => rw [he] at h; exact h.elim
    | nx ε1 => rw [he] at h; exact fun σ' Z' H' s' G' q => h σ' Z' H' s' G' (mono q)
    | bk ε1 => rw [he] at h; exact fun σ' Z' H' s' G' q => h σ' Z' H' s' G' (mono q)
    | ct ε1 => rw [he] at h; exact fun σ' Z' H' s' G' q => h σ' Z' H' s' G' (mono q)
    | rt r ε1 => rw [he] at h; exact fun σ' v Z' H' s' G' q => h σ' v Z' H' s' G' q
    | exc c' ε1 =>
      rw [he] at h
      dsimp only at h
      intro σ' Z' H' C' s' G' q ⟨nm', hc', m'⟩
      refine ⟨E.sub c' c, ok.sb c' c nm' x C' C hc' hx m' m, fun hy a _ => ?_, fun hn => ?_⟩
      · rw [if_pos hy] at h
        exact ⟨g, ε1, Z', G', h.from s' (mono q) fun j hj => List.mem_append_right _ hj⟩
      · rw [hn, if_neg Bool.false_ne_true] at h
        exact h σ' Z' H' C' s' G' (mono q) ⟨nm', hc', m'⟩
/-! ### several clauses -/
/-- the clauses' wishes -/
theorem hds_ok (ok : OkS E Φ k S W X) : ∀ {hs : List (Nat × PV)} {hds : List ExceptHandler}, mtHs E S hs hds = true → ∃ l : List (Value × (Addr → Value → Option Addr → TS)), HdsOk X hds l ∧
    ∀ {g : Ent} {σ σ' : St} {Z Z' H' : Hp} {A : List Nat} {D : Ends} {c' : Nat} {ε1 : Sg} {C' : Addr} {nm' : Str}, Same Z Z' → Good X.K g σ' ε1 Z' H' → (∀ j, j ∉ A → σ'[j]? = σ[j]?) → E.cls[c']? = some nm' → X.mg nm' = some (.ref C') →
      SPost E X W g σ Z A D (hsI E.sub c' ε1 hs) → wMany X.K W D l (.ref C') none σ' H'
  | [], [], _ => ⟨[], .nil, fun {g σ σ' Z Z' H' A D c' ε1 C' nm'} s' G' q hc' m' h => h σ' Z' H' C' s' G' q ⟨nm', hc', m'⟩⟩
  | [], _ :: _, m => absurd m Bool.false_ne_true
  | (c, p) :: hs, [], m => absurd m Bool.false_ne_true
  | (c, p) :: hs, ⟨ty, nm, su, hp⟩ :: hds, m => by
    cases ty with
    | none => exact absurd m Bool.false_ne_true
    | some t =>
      cases t <;> first | (exact absurd m Bool.false_ne_true) | skip
      rename_i x np
      cases nm with
      | some _ => exact absurd m Bool.false_ne_true
      | none =>
        match su, m with
        | [], m => exact absurd m Bool.false_ne_true
        | s1 :: s2 :: su, m => cases s1 <;> first | (exact absurd m Bool.false_ne_true) | (rename_i o _; cases o <;> exact absurd m Bool.false_ne_true)
        | [s1], m =>
          cases s1 <;> first | (exact absurd m Bool.false_ne_true) | skip
          rename_i o rp
          cases o with
          | none => exact absurd m Bool.false_ne_true
          | some ex =>
            have m1 : (decide (E.cls[c]? = some x) && glB S.sc x && mtE E S (.cst p) ex && mtHs E S hs hds) = true := m
            simp only [Bool.and_eq_true, decide_eq_true_eq] at m1
            obtain ⟨⟨⟨hx, hg⟩, m2⟩, m3⟩ := m1
            obtain ⟨l, hl, wish⟩ := hds_ok ok m3
            obtain ⟨C, mm, F⟩ := ok.ex c x hx
            have nm : Names X x (.ref C) := ⟨(ok.x.gl hg).1, okN_1 (ok.x.gl hg).2, .inl mm⟩
            have ms : mtSs E S [.ret (.cst p)] [.Return (some ex) rp] = true := by
              show (mtE E S (.cst p) ex && true) = true
              rw [m2]; rfl
            refine ⟨(.ref C, fun _ _ _ => tSu E X W [.ret (.cst p)]) :: l, .cons nm (fun a oe cls d pn _ _ => s_suite ok.x ms a _) hl, fun {g σ σ' Z Z' H' A D c' ε1 C' nm'} s' G' q hc' m' h => ?_⟩
            refine ⟨E.sub c' c, ok.sb c' c nm' x C' C hc' hx m' mm, fun hy a _ => ?_, fun hn => ?_⟩
            · have h : SPost E X W g σ Z A D (if E.sub c' c = true then .rt (.val p) ε1 else hsI E.sub c' ε1 hs) := h
              rw [if_pos hy] at h
              exact ⟨g, ε1, Z', G', fun τ v Z2 H2 s2 G2 rv => h τ v Z2 H2 (s'.trans s2) G2 rv⟩
            · have h : SPost E X W g σ Z A D (if E.sub c' c = true then .rt (.val p) ε1 else hsI E.sub c' ε1 hs) := h
              rw [hn, if_neg Bool.false_ne_true] at h
              exact wish s' G' q hc' m' h
theorem s_tryn (ok : OkS E Φ k S W X) {body : List IS} {hs : List (Nat × PV)} {ebody : List Stmt} {h0 : ExceptHandler} {hds : List ExceptHandler} {pos : Pos}
    (hb : ∀ (W' : WX) (pn : List (Addr × Obj)) (xe : Value → Shared → Prop), OkS E Φ k S W' (X.tr pn xe) → PSs (X.tr pn xe) ebody (tL E Φ X W' body)) (mh : mtHs E S hs (h0 :: hds) = true) :
    PS X (.Try ebody (h0 :: hds) [] [] pos) (tS E Φ X W (.tryn body hs)) := by
  obtain ⟨l, hl, wish⟩ := hds_ok ok mh
  refine ⟨fun pins s σ H D I hq => ?_⟩
  obtain ⟨g, ε, Z, gl, G, h⟩ := hq
  refine (ps_try_many (tb := fun W' => tL E Φ X W' body) ok.hs ok.hf ok.x.tk (fun W' pn xe tk po => hb W' pn xe ?_) hl).run pins s σ H D I ?_
  · exact ⟨⟨ok.x.calm, ok.x.N, ok.x.sc, ok.x.nd, ok.x.kind, ok.x.st, ok.x.room, tk, ok.x.fn, ok.x.bl, ok.x.ty, ok.x.gb, ok.x.fr, ok.x.gd⟩, ok.hs, ok.hf, po, fun c nm h => (by
      obtain ⟨C, m, F⟩ := ok.ex c nm h
      exact ⟨C, m, F.inn, F.kp, F.rs⟩), ok.sb⟩
  · refine ⟨g, ε, Z, gl, G, ?_⟩
    have h : SPost E X W g σ Z (asgsL body) D (match exL E Φ body ε with | .exc c' ε1 => hsI E.sub c' ε1 hs | o => o) := h
    cases he : exL E Φ body ε with
    | stuck => rw [he] at h; exact h.elim
    | nx ε1 => rw [he] at h; exact h
    | bk ε1 => rw [he] at h; exact h
    | ct ε1 => rw [he] at h; exact h
    | rt r ε1 => rw [he] at h; exact h
    | exc c' ε1 =>
      rw [he] at h
      dsimp only at h
      intro σ' Z' H' C' s' G' q ⟨nm', hc', m'⟩
      exact wish s' G' q hc' m' h
/-! ### x = f if c else g; return x(args) -/
theorem Good.setNone {g : Ent} {σ : St} {ε : Sg} {Z H : Hp} {i : Nat} {v : V} (G : Good X.K g σ ε Z H) (e : ε[i]? = some .none) : Good X.K g (σ.set i (some v)) ε Z H := by
  have ne : ∀ {j}, IsOwn ε j → i ≠ j := fun {j} ⟨kk, p, q⟩ z => by subst z; rw [e] at q; cases q
  refine ⟨by rw [List.length_set]; exact G.len, fun j s hs => ?_, fun j l b oj ol ej el => ?_, G.zh, G.hh, G.al, G.zf, G.zz, fun j b hj => ?_, fun q hq => ?_⟩
  · by_cases hj : i = j
    · subst hj
      rw [e] at hs
      cases hs
      trivial
    · have q := G.slot j s hs
      cases s with
      | none => trivial
      | val p => obtain ⟨u, q1, q2⟩ := q; exact ⟨u, by rw [List.getElem?_set_ne hj]; exact q1, q2⟩
      | own k p => obtain ⟨b, q1, q2⟩ := q; exact ⟨b, by rw [List.getElem?_set_ne hj]; exact q1, q2⟩
  · rw [List.getElem?_set_ne (ne oj)] at ej
    rw [List.getElem?_set_ne (ne ol)] at el
    exact G.dis j l b oj ol ej el
  · obtain ⟨h1, p', h2⟩ := G.io j b hj
    exact ⟨by rw [List.getElem?_set_ne (ne ⟨_, _, h2⟩)]; exact h1, p', h2⟩
  · obtain ⟨q1, q2, q3⟩ := G.pr q hq
    exact ⟨q1, q2, fun j oj => by rw [List.getElem?_set_ne (ne oj)]; exact q3 j oj⟩
theorem name_pe (ok : Okx E Φ k S W X) {f : Nat} {x : Str} {p : Pos} (m : mtN E S [f] [.Name x p] = true) : ∃ v fi, PE X (.Name x p) (tC v) ∧ isDef E Φ k X v f fi := by
  have m : ((match E.fns[f]? with | some fi => decide (fi.name = x) | none => false) && glB S.sc x && true) = true := m
  rw [Bool.and_true, Bool.and_eq_true] at m
  cases ef : E.fns[f]? with
  | none => rw [ef] at m; cases m.1
  | some fi =>
    rw [ef] at m
    have m1 := of_decide_eq_true m.1
    subst m1
    obtain ⟨fa, fd, ps, F⟩ := ok.fn f fi ef
    obtain ⟨gl, on⟩ := ok.gl m.2
    exact ⟨.ref fa, fi, pe_glob (v := .ref fa) gl F.gm rfl (okN_1 on), fa, fd, ps, rfl, ef, F⟩
theorem s_selr (ok : OkS E Φ k S W X) {i : Nat} {c : IE} {f g : Nat} {as : List IE} {y : Str} {ec e : Expr} {es : List Expr} {xf xg : Str} {py pf pg pi pos p2 cpos rpos : Pos} (hy : S.N[i]? = some y) (hst : stB S.so y = true) (hv : visB S.sc y = true) (hn : okN y = true)
    (hc : PT X ec (tT E Φ X W c)) (mf : mtN E S [f] [.Name xf pf] = true) (mg : mtN E S [g] [.Name xg pg] = true) (hs : ∀ z ∈ e :: es, noStar z = true) (ha : PA X (e :: es) (tA E Φ X W as)) :
    PSs X [.Assign [.Name y py] (.IfExp ec (.Name xf pf) (.Name xg pg) pi) pos, .Return (some (.Call (.Name y p2) (e :: es) [] cpos)) rpos] (tL E Φ X W [.selr i c f g as]) := by
  obtain ⟨vf, fif, pef, df⟩ := name_pe (p := pf) ok.x mf
  obtain ⟨vg, fig, peg, dg⟩ := name_pe (p := pg) ok.x mg
  obtain ⟨lo, fn⟩ := ok.x.st y (stB_of hst)
  have hy' : X.N[i]? = some y := by rw [ok.x.N]; exact hy
  have hnd : X.N.Nodup := by rw [ok.x.N]; exact ok.x.nd
  have pev : PE X (.Name y p2) (tVar i) := ok.x.vis (by simp only [Bool.and_eq_true, decide_eq_true_eq]; exact ⟨⟨hy, hv⟩, hn⟩)
  refine ⟨fun pins s σ H D I hq => ?_⟩
  obtain ⟨g0, ε, Z, gl, G, h⟩ := hq
  have h : SPost E X W g0 σ Z [i] D (exS E Φ (.selr i c f g as) ε) := by
    have e : exL E Φ [.selr i c f g as] ε = exS E Φ (.selr i c f g as) ε := by
      show SO.seq (exS E Φ (.selr i c f g as) ε) (fun ε1 => .nx ε1) = _
      cases exS E Φ (.selr i c f g as) ε <;> rfl
    rw [e] at h
    exact h
  refine (pss_cons (ps_set hnd hy' lo (pe_ifExp hc pef peg) rfl fn) (pss_cons (ps_ret (pe_callV ok.x pev rfl ha hs)) pss_nil)).run pins s σ H D I ?_
  refine tT_s (A := [i]) (D := D) (f := fun t ε1 => (match ε1[i]? with
      | some .none => (match evA E Φ as ε1 with
        | .ok rs ε2 => (match E.fns[if t then f else g]? with
          | some fi => (match doCall Φ fi.mask fi.dfl fi.np (if t then f else g) rs ε2 with
            | .ok r ε3 => (match retR r ε3 with
              | some (r', ε4) => .rt r' ε4
              | none => .stuck)
            | .exc c ε1 => .exc c ε1
            | .stuck => .stuck)
          | none => .stuck)
        | .exc c ε1 => .exc c ε1
        | .stuck => .stuck)
      | _ => .stuck)) G h fun t ε1 Z1 H1 s1 G1 h1 => ?_
  have go : ∀ {v : V} {fi : FnI}, isDef E Φ k X v (if t then f else g) fi → tRet (tCallV E Φ k X W (tVar i) (tA E Φ X W as)) { D with nx := tNext D } (σ.set i (some v)) H1 := fun {v fi} dv => by
    split at h1
    · rename_i en
      have lt : i < σ.length := by rw [G1.len]; exact (List.getElem?_eq_some_iff.mp en).1
      have kp : ∀ {j : Nat}, j ∉ [i] → (σ.set i (some v))[j]? = σ[j]? := fun {j} hj => List.getElem?_set_ne fun z => hj (by simp [z])
      have G2 : Good X.K g0 (σ.set i (some v)) ε1 Z1 H1 := G1.setNone en
      refine ⟨v, List.getElem?_set_self lt, if t then f else g, fi, dv, g0, ε1, Z1, G2, ?_⟩
      cases ea : evA E Φ as ε1 with
      | stuck => rw [ea] at h1; exact h1.elim
      | exc c' ε2 =>
        rw [ea] at h1
        exact fun Z2 H2 C s2 G3 cl => h1 _ Z2 H2 C s2 G3 (fun j hj => kp hj) cl
      | ok rs ε2 =>
        rw [ea] at h1
        intro Z2 H2 s2 G3 vs rl dvs hd
        obtain ⟨_, _, _, _, ef, _⟩ := dv
        rw [ef] at h1
        dsimp only at h1
        refine call_ok G3 rl hd ?_
        cases ed : doCall Φ fi.mask fi.dfl fi.np (if t then f else g) rs ε2 with
        | stuck => rw [ed] at h1; exact h1.elim
        | exc c' ε3 =>
          rw [ed] at h1
          exact fun Z3 H3 C s3 G4 cl => h1 _ Z3 H3 C (s2.trans s3) G4 (fun j hj => kp hj) cl
        | ok r ε3 =>
          rw [ed] at h1
          dsimp only at h1
          intro Z3 H3 s3 G4 u rv
          split at h1
          · rename_i r' ε4 er
            obtain ⟨G5, rv2⟩ := G4.ret er rv
            exact h1 _ u Z3 H3 (s2.trans s3) G5 rv2
          · exact h1.elim
    · exact h1.elim
  cases t with
  | true => exact go df
  | false => exact go dg
end
end Eng

set_option maxHeartbeats 4000000
namespace Eng
open PySem PySem.Spec L2
open PyProof.Rows hiding St

section
variable {E : Eng} {Φ : Nat → List PV → CO} {k : Nat} {S : Stc} {X : Cx} {W : WX}

theorem for_ok {g : Ent} {σ : St} {ε1 : Sg} {Z1 H1 : Hp} {D : Ends} {tg : Tg} {A : List Nat} {body : List IS} {r : Rv} {items : List PV} {v0 : V} (hA1 : ∀ j ∈ tgS tg, j ∈ A) (hA2 : ∀ j ∈ asgsL body, j ∈ A)
    (G1 : Good X.K g σ ε1 Z1 H1) (hr : OpdR X.K σ Z1 r v0) (hw : walkOk r A = true)
    (h : SPost E X W g σ Z1 A D (forI r (fun p ε => asgT tg p ε) (fun ε => exL E Φ body ε) items ε1))
    (J : It) (gl : GL X g) (SJ : SrcJ X.K r v0 (r.peek ε1) items J Z1) :
    ∃ W' : Nat → Nat → St → Hp → Prop, (∃ m, W' 0 m σ H1) ∧ ∀ i m σ H, W' i m σ H →
      (J.stop i H ∧ D.nx σ H) ∨ (J.go i H ∧ ∃ N : St → Hp → Prop, (∀ σ' H', N σ' H' → ∃ m', m' < m ∧ W' (i + 1) m' σ' H') ∧ ∀ x H', J.yld i H x H' → gT X tg x σ H' fun σ2 H2 => tL E Φ X W body { D with nx := N, ct := N, bk := D.nx } σ2 H2) := by
  let Wx : Nat → Nat → St → Hp → Prop := fun i m τ Hc => ∃ ε Z, m = items.length - i ∧ i ≤ items.length ∧ Same Z1 Z ∧ Good X.K g τ ε Z Hc ∧ (∀ j, j ∉ A → τ[j]? = σ[j]?) ∧ r.peek ε = r.peek ε1 ∧ OpdR X.K τ Z r v0 ∧
    SPost E X W g σ Z1 A D (forI r (fun p ε => asgT tg p ε) (fun ε => exL E Φ body ε) (items.drop i) ε)
  have hro : ∀ {τ : St} {Z Z' : Hp} {τ' : St}, OpdR X.K τ Z r v0 → Same Z Z' → (∀ j, j ∉ A → τ[j]? = σ[j]?) → (∀ j, j ∉ A → τ'[j]? = σ[j]?) → OpdR X.K τ' Z' r v0 := fun {τ Z Z' τ'} ro s k1 k2 => by
    cases r with
    | val q => exact Rp.mono s ro
    | fresh q => exact ro
    | own i =>
      have hni : i ∉ A := of_decide_eq_true (p := i ∉ A) hw
      have ro : τ[i]? = some (some v0) := ro
      show τ'[i]? = _
      rw [k2 i hni, ← k1 i hni]; exact ro
  refine ⟨Wx, ⟨items.length, ε1, Z1, rfl, Nat.zero_le _, .refl _, G1, fun _ _ => rfl, rfl, hr, h⟩, ?_⟩
  rintro i m τ Hc ⟨ε, Z, rfl, hi, s1, G, kp, pk, ro, rest⟩
  by_cases hlt : i < items.length
  · right
    have hdrop : items.drop i = items[i] :: items.drop (i + 1) := List.drop_eq_getElem_cons hlt
    refine ⟨SJ.go s1 G pk ro hlt, Wx (i + 1) (items.length - (i + 1)), fun τ' H' w => ⟨_, by omega, w⟩, fun x H' y => ?_⟩
    obtain ⟨Zy, sy, Gy, rp0, ky⟩ := SJ.yld s1 G pk ro y (List.getElem?_eq_getElem hlt)
    have s1 := s1.trans sy
    have ro := hro ro sy kp kp
    rw [hdrop] at rest
    unfold forI at rest
    cases ea : asgT tg items[i] ε with
    | none => rw [ea] at rest; exact rest.elim
    | some ε2 =>
      rw [ea] at rest
      dsimp only at rest
      refine ⟨g, ε, Zy, items[i], ε2, Gy, rp0, ea, fun τ2 G2 k2 => ?_⟩
      have kp2 : ∀ j, j ∉ A → τ2[j]? = σ[j]? := fun j hj => (k2 j fun z => hj (hA1 j z)).trans (kp j hj)
      refine ⟨g, ε2, Zy, gl, G2, ?_⟩
      have mono : ∀ {τ3 : St}, (∀ j, j ∉ asgsL body → τ3[j]? = τ2[j]?) → ∀ j, j ∉ A → τ3[j]? = σ[j]? := fun {τ3} q j hj => (q j fun z => hj (hA2 j z)).trans (kp2 j hj)
      have next : ∀ {ε3 : Sg} {τ3 : St} {Z3 H3 : Hp}, SPost E X W g σ Z1 A D (if stays r ε ε3 = true then forI r (fun p ε => asgT tg p ε) (fun ε => exL E Φ body ε) (items.drop (i + 1)) ε3 else .stuck) → Same Zy Z3 → Good X.K g τ3 ε3 Z3 H3 → (∀ j, j ∉ asgsL body → τ3[j]? = τ2[j]?) → Wx (i + 1) (items.length - (i + 1)) τ3 H3 := fun {ε3 τ3 Z3 H3} hh s3 G3 q => by
        by_cases hst : stays r ε ε3 = true
        · rw [if_pos hst] at hh
          exact ⟨ε3, Z3, rfl, hlt, s1.trans s3, G3, mono q, (stays_eq hst).trans pk, hro ro s3 kp (mono q), hh⟩
        · rw [if_neg hst] at hh
          exact hh.elim
      cases he : exL E Φ body ε2 with
      | stuck => rw [he] at rest; exact rest.elim
      | nx ε3 => rw [he] at rest; exact fun τ3 Z3 H3 s3 G3 q => next rest s3 G3 q
      | ct ε3 => rw [he] at rest; exact fun τ3 Z3 H3 s3 G3 q => next rest s3 G3 q
      | bk ε3 => rw [he] at rest; exact fun τ3 Z3 H3 s3 G3 q => rest τ3 Z3 H3 (s1.trans s3) G3 (mono q)
      | rt r3 ε3 => rw [he] at rest; exact fun τ3 v Z3 H3 s3 G3 q => rest τ3 v Z3 H3 (s1.trans s3) G3 q
      | exc c ε3 => rw [he] at rest; exact fun τ3 Z3 H3 C s3 G3 q cl => rest τ3 Z3 H3 C (s1.trans s3) G3 (mono q) cl
  · left
    have e : i = items.length := by omega
    subst e
    rw [List.drop_length] at rest
    have rest : SPost E X W g σ Z1 A D (.nx ε) := rest
    exact ⟨SJ.stop s1 G pk ro (Nat.le_refl _), rest τ Z Hc s1 G kp⟩
theorem s_for (ok : OkS E Φ k S W X) {tg : Tg} {sk : Src} {its : List IE} {body : List IS} {etg eit : Expr} {ebody : List Stmt} {pos : Pos} (ht : tgOk sk tg = true) (mt : mtT S tg etg = true) (mi : srcHd E S sk eit = true ∧ mtL E S its (srcAs sk eit) = true) (hb : PSs X ebody (tL E Φ X W body)) (hn : noSet eit = true) :
    PS X (.For etg eit ebody [] pos) (tS E Φ X W (.for_ tg sk its body)) := by
  refine ⟨fun pins s σ H D I hq => ?_⟩
  obtain ⟨g, ε, Z, gl, G, h⟩ := hq
  have h : SPost E X W g σ Z (asgsS (.for_ tg sk its body)) D (match evA E Φ its ε with
    | .ok rs ε1 => match srcI sk rs ε1 with
      | some (r, ps) => if walkOk r (asgsS (.for_ tg sk its body)) = true then forI r (fun p ε => asgT tg p ε) (fun ε => exL E Φ body ε) ps ε1 else .stuck
      | none => .stuck
    | .exc c ε1 => .exc c ε1
    | .stuck => .stuck) := h
  have hA1 : ∀ j ∈ tgS tg, j ∈ asgsS (.for_ tg sk its body) := fun j hj => List.mem_append_left _ hj
  have hA2 : ∀ j ∈ asgsL body, j ∈ asgsS (.for_ tg sk its body) := fun j hj => List.mem_append_right _ hj
  refine (ps_for ok.po ok.x.calm (soundI sk its (tgOk_tup ht mt) ok.x mi.1 mi.2) (s_tg ok.x mt) hb (noSet_fold hn)).run pins s σ H D I ⟨g, ε, Z, G, ?_⟩
  unfold evI
  cases hev : evA E Φ its ε with
  | stuck => rw [hev] at h; exact h.elim
  | exc c ε1 =>
    rw [hev] at h
    exact fun Z1 H1 C s1 G1 cl => h σ Z1 H1 C s1 G1 (fun _ _ => rfl) cl
  | ok rs ε1 =>
    rw [hev] at h
    dsimp only at h
    show Post E X W g σ Z (PI2 X g σ _) (match srcI sk rs ε1 with | some q => .ok q ε1 | none => .stuck)
    cases es : srcI sk rs ε1 with
    | none => rw [es] at h; exact h.elim
    | some q =>
      obtain ⟨r, items⟩ := q
      rw [es] at h
      dsimp only at h
      by_cases hw : walkOk r (asgsS (.for_ tg sk its body)) = true
      · rw [if_pos hw] at h
        intro Z1 H1 s1 G1 v J ro SJ
        exact for_ok hA1 hA2 G1 ro hw (h.from s1 (fun _ _ => rfl) fun _ z => z) J gl SJ
      · rw [if_neg hw] at h
        exact h.elim
theorem s_whl (ok : OkS E Φ k S W X) {c : IE} {body : List IS} {ec : Expr} {ebody : List Stmt} {pos : Pos} (mc : mtE E S c ec = true) (hb : PSs X ebody (tL E Φ X W body)) : PS X (.While ec ebody [] pos) (tS E Φ X W (.whl c body)) := by
  refine ⟨fun pins s σ H D I hq => ?_⟩
  obtain ⟨g, ε, Z, gl, G, h⟩ := hq
  have h : SPost E X W g σ Z (asgsL body) D (whlI (fun ε => evT E Φ c ε) (fun ε => exL E Φ body ε) whlN ε) := h
  refine (ps_while ok.po (soundT c ok.x mc) hb).run pins s σ H D I ⟨fun n τ Hc => ∃ ε Zc, Same Z Zc ∧ Good X.K g τ ε Zc Hc ∧ (∀ j, j ∉ asgsL body → τ[j]? = σ[j]?) ∧ SPost E X W g σ Z (asgsL body) D (whlI (fun ε => evT E Φ c ε) (fun ε => exL E Φ body ε) n ε), ⟨whlN, ε, Z, .refl _, G, fun _ _ => rfl, h⟩, ?_⟩
  rintro n τ Hc ⟨ε, Zc, s1, G, kp, rest⟩
  cases n with
  | zero => exact rest.elim
  | succ n =>
    unfold whlI at rest
    refine ⟨g, ε, Zc, G, ?_⟩
    have mono : ∀ {τ3 : St}, (∀ j, j ∉ asgsL body → τ3[j]? = τ[j]?) → ∀ j, j ∉ asgsL body → τ3[j]? = σ[j]? := fun {τ3} q j hj => (q j hj).trans (kp j hj)
    cases hc : evT E Φ c ε with
    | stuck => rw [hc] at rest; exact rest.elim
    | exc c' ε1 =>
      rw [hc] at rest
      exact fun Z1 H1 C s2 G1 cl => rest τ Z1 H1 C (s1.trans s2) G1 kp cl
    | ok t ε1 =>
      rw [hc] at rest
      intro Z1 H1 s2 G1
      cases t with
      | false =>
        show D.nx τ H1
        exact rest τ Z1 H1 (s1.trans s2) G1 kp
      | true =>
        show ∃ N : St → Hp → Prop, _ ∧ tL E Φ X W body _ τ H1
        dsimp only at rest
        refine ⟨fun τ' H' => ∃ ε Zc, Same Z Zc ∧ Good X.K g τ' ε Zc H' ∧ (∀ j, j ∉ asgsL body → τ'[j]? = σ[j]?) ∧ SPost E X W g σ Z (asgsL body) D (whlI (fun ε => evT E Φ c ε) (fun ε => exL E Φ body ε) n ε), fun τ' H' w => ⟨n, Nat.lt_succ_self n, w⟩, g, ε1, Z1, gl, G1, ?_⟩
        cases he : exL E Φ body ε1 with
        | stuck => rw [he] at rest; exact rest.elim
        | nx ε3 => rw [he] at rest; exact fun τ3 Z3 H3 s3 G3 q => ⟨ε3, Z3, (s1.trans s2).trans s3, G3, mono q, rest⟩
        | ct ε3 => rw [he] at rest; exact fun τ3 Z3 H3 s3 G3 q => ⟨ε3, Z3, (s1.trans s2).trans s3, G3, mono q, rest⟩
        | bk ε3 => rw [he] at rest; exact fun τ3 Z3 H3 s3 G3 q => rest τ3 Z3 H3 ((s1.trans s2).trans s3) G3 (mono q)
        | rt r3 ε3 => rw [he] at rest; exact fun τ3 v Z3 H3 s3 G3 q => rest τ3 v Z3 H3 ((s1.trans s2).trans s3) G3 q
        | exc c ε3 => rw [he] at rest; exact fun τ3 Z3 H3 C s3 G3 q cl => rest τ3 Z3 H3 C ((s1.trans s2).trans s3) G3 (mono q) cl

theorem s_nilS : PSs X [] (tL E Φ X W []) := by
  refine ⟨fun pins s σ H D I hq => ?_⟩
  obtain ⟨g, ε, Z, gl, G, h⟩ := hq
  exact pss_nil.run pins s σ H D I (h σ Z H (.refl _) G fun _ _ => rfl)
theorem s_consS {s0 : IS} {l : List IS} {st : Stmt} {sts : List Stmt} (h1 : PS X st (tS E Φ X W s0)) (h2 : PSs X sts (tL E Φ X W l)) : PSs X (st :: sts) (tL E Φ X W (s0 :: l)) := by
  refine ⟨fun pins s σ H D I hq => ?_⟩
  obtain ⟨g, ε, Z, gl, G, h⟩ := hq
  refine (pss_cons h1 h2).run pins s σ H D I ⟨g, ε, Z, gl, G, ?_⟩
  have h : SPost E X W g σ Z (asgsS s0 ++ asgsL l) D ((exS E Φ s0 ε).seq fun ε1 => exL E Φ l ε1) := h
  have mono : ∀ {τ3 : St}, (∀ j, j ∉ asgsS s0 → τ3[j]? = σ[j]?) → ∀ j, j ∉ asgsS s0 ++ asgsL l → τ3[j]? = σ[j]? := fun {τ3} q j hj => q j fun z => hj (List.mem_append_left _ z)
  cases he : exS E Φ s0 ε with
  | stuck => rw [he] at h; exact h.elim
  | nx ε1 =>
    rw [he] at h
    have h : SPost E X W g σ Z (asgsS s0 ++ asgsL l) D (exL E Φ l ε1) := h
    exact fun τ Z1 H1 s1 G1 q => ⟨g, ε1, Z1, gl, G1, h.from s1 (mono q) fun j hj => List.mem_append_right _ hj⟩
  | ct ε3 => rw [he] at h; exact fun τ3 Z3 H3 s3 G3 q => h τ3 Z3 H3 s3 G3 (mono q)
  | bk ε3 => rw [he] at h; exact fun τ3 Z3 H3 s3 G3 q => h τ3 Z3 H3 s3 G3 (mono q)
  | rt r3 ε3 => rw [he] at h; exact fun τ3 v Z3 H3 s3 G3 q => h τ3 v Z3 H3 s3 G3 q
  | exc c ε3 => rw [he] at h; exact fun τ3 Z3 H3 C s3 G3 q cl => h τ3 Z3 H3 C s3 G3 (mono q) cl
end
section
variable {E : Eng} {S : Stc} {st : Stmt}
theorem mt_raise {c : Nat} {msg : Str} (m : mtS E S (.raise c msg) st = true) : ∃ x j p p2 p3 pos, st = .Raise (some (.Call (.Name x p) [.Constant (.str msg) j p2] [] p3)) none pos ∧ E.cls[c]? = some x ∧ glB S.sc x = true := by
  cases st <;> first | (exact absurd m Bool.false_ne_true) | skip
  rename_i o o2 pos
  cases o with
  | none => exact absurd m Bool.false_ne_true
  | some ex =>
    cases ex <;> first | (exact absurd m Bool.false_ne_true) | skip
    rename_i fn es ks p3
    cases fn <;> first | (exact absurd m Bool.false_ne_true) | skip
    rename_i x p
    match es, m with
    | [], m => exact absurd m Bool.false_ne_true
    | e :: e2 :: es, m =>
      cases e <;> first | (exact absurd m Bool.false_ne_true) | skip
      rename_i cc _ _
      cases cc <;> exact absurd m Bool.false_ne_true
    | [e], m =>
      cases e <;> first | (exact absurd m Bool.false_ne_true) | skip
      rename_i cc j p2
      cases cc <;> first | (exact absurd m Bool.false_ne_true) | skip
      rename_i m0
      cases ks with
      | cons _ _ => exact absurd m Bool.false_ne_true
      | nil =>
        cases o2 with
        | some _ => exact absurd m Bool.false_ne_true
        | none =>
          have m : (decide (E.cls[c]? = some x) && decide (m0 = msg) && glB S.sc x) = true := m
          simp only [Bool.and_eq_true, decide_eq_true_eq] at m
          obtain ⟨⟨h1, h2⟩, h3⟩ := m
          subst h2
          exact ⟨x, j, p, p2, p3, pos, rfl, h1, h3⟩
theorem mt_raiseE {c : Nat} {e : IE} (m : mtS E S (.raiseE c e) st = true) : ∃ x ex p p3 pos, st = .Raise (some (.Call (.Name x p) [ex] [] p3)) none pos ∧ E.cls[c]? = some x ∧ glB S.sc x = true ∧ mtE E S e ex = true ∧ noStar ex = true := by
  cases st <;> first | (exact absurd m Bool.false_ne_true) | skip
  rename_i o o2 pos
  cases o with
  | none => exact absurd m Bool.false_ne_true
  | some ex =>
    cases ex <;> first | (exact absurd m Bool.false_ne_true) | skip
    rename_i fn es ks p3
    cases fn <;> first | (exact absurd m Bool.false_ne_true) | skip
    rename_i x p
    match es, m with
    | [], m => exact absurd m Bool.false_ne_true
    | e :: e2 :: es, m => exact absurd m Bool.false_ne_true
    | [ex], m =>
      cases ks with
      | cons _ _ => exact absurd m Bool.false_ne_true
      | nil =>
        cases o2 with
        | some _ => exact absurd m Bool.false_ne_true
        | none =>
          have m : (decide (E.cls[c]? = some x) && glB S.sc x && mtE E S e ex && noStar ex) = true := m
          simp only [Bool.and_eq_true, decide_eq_true_eq] at m
          exact ⟨x, ex, p, p3, pos, rfl, m.1.1.1, m.1.1.2, m.1.2, m.2⟩
theorem mt_setI {i : Nat} {ke ve : IE} (m : mtS E S (.setI i ke ve) st = true) : ∃ x ek ev px ps pos, st = .Assign [.Subscript (.Name x px) ek ps] ev pos ∧ (decide (S.N[i]? = some x) && visB S.sc x && okN x) = true ∧ mtE E S ke ek = true ∧ noSlc ek = true ∧ mtE E S ve ev = true ∧ noComp ev = true := by
  cases st <;> first | (exact absurd m Bool.false_ne_true) | skip
  rename_i ts ev pos
  match ts, m with
  | [], m => exact absurd m Bool.false_ne_true
  | t :: t2 :: ts, m => cases t <;> first | (exact absurd m Bool.false_ne_true) | (rename_i b _ _; cases b <;> exact absurd m Bool.false_ne_true)
  | [t], m =>
    cases t <;> first | (exact absurd m Bool.false_ne_true) | skip
    rename_i b ek ps
    cases b <;> first | (exact absurd m Bool.false_ne_true) | skip
    rename_i x px
    have m : (decide (S.N[i]? = some x) && visB S.sc x && okN x && mtE E S ke ek && noSlc ek && mtE E S ve ev && noComp ev) = true := m
    simp only [Bool.and_eq_true] at m
    exact ⟨x, ek, ev, px, ps, pos, rfl, by simp only [Bool.and_eq_true]; exact m.1.1.1.1, m.1.1.1.2, m.1.1.2, m.1.2, m.2⟩
theorem mt_aug {i : Nat} {op : Operator} {e : IE} (m : mtS E S (.aug i op e) st = true) : ∃ x px ex pos, st = .AugAssign (.Name x px) op ex pos ∧ S.N[i]? = some x ∧ stB S.so x = true ∧ mtE E S e ex = true := by
  cases st <;> first | (exact absurd m Bool.false_ne_true) | skip
  rename_i t op' ex pos
  cases t <;> first | (exact absurd m Bool.false_ne_true) | skip
  rename_i x px
  have m : (decide (S.N[i]? = some x) && stB S.so x && decide (op = op') && mtE E S e ex) = true := m
  simp only [Bool.and_eq_true, decide_eq_true_eq] at m
  obtain ⟨⟨⟨h1, h2⟩, rfl⟩, h4⟩ := m
  exact ⟨x, px, ex, pos, rfl, h1, h2, h4⟩
theorem mt_try {body suite : List IS} {c : Nat} (m : mtS E S (.tryx body c suite) st = true) : ∃ ebody x np b0 esuite pos' pos, st = .Try ebody [.ExceptHandler (some (.Name x np)) none (b0 :: esuite) pos'] [] [] pos ∧ mtSs E S body ebody = true ∧ E.cls[c]? = some x ∧ glB S.sc x = true ∧ mtSs E S suite (b0 :: esuite) = true := by
  cases st <;> first | (exact absurd m Bool.false_ne_true) | skip
  rename_i ebody hs oe fb pos
  match hs, m with
  | [], m => exact absurd m Bool.false_ne_true
  | ⟨ty, nm, es, p⟩ :: h2 :: hs, m =>
    cases ty with
    | none => exact absurd m Bool.false_ne_true
    | some t =>
      cases t <;> first | (exact absurd m Bool.false_ne_true) | skip
      cases nm <;> exact absurd m Bool.false_ne_true
  | [⟨ty, nm, es, p⟩], m =>
    cases ty with
    | none => exact absurd m Bool.false_ne_true
    | some t =>
      cases t <;> first | (exact absurd m Bool.false_ne_true) | skip
      rename_i x np
      cases nm with
      | some _ => exact absurd m Bool.false_ne_true
      | none =>
        cases oe with
        | cons _ _ => exact absurd m Bool.false_ne_true
        | nil =>
          cases fb with
          | cons _ _ => exact absurd m Bool.false_ne_true
          | nil =>
            have m : (mtSs E S body ebody && decide (E.cls[c]? = some x) && glB S.sc x && mtSs E S suite es && !es.isEmpty) = true := m
            simp only [Bool.and_eq_true, decide_eq_true_eq] at m
            obtain ⟨⟨⟨⟨h1, h2⟩, h3⟩, h4⟩, h5⟩ := m
            cases es with
            | nil => exact absurd h5 (by decide)
            | cons b0 es => exact ⟨_, _, _, _, _, _, _, rfl, h1, h2, h3, h4⟩
theorem mt_tryn {body : List IS} {hs : List (Nat × PV)} (m : mtS E S (.tryn body hs) st = true) : ∃ ebody h0 hds pos, st = .Try ebody (h0 :: hds) [] [] pos ∧ mtSs E S body ebody = true ∧ mtHs E S hs (h0 :: hds) = true := by
  cases st <;> first | (exact absurd m Bool.false_ne_true) | skip
  rename_i ebody hds oe fb pos
  cases oe with
  | cons _ _ => exact absurd m Bool.false_ne_true
  | nil =>
    cases fb with
    | cons _ _ => exact absurd m Bool.false_ne_true
    | nil =>
      have m : (mtSs E S body ebody && mtHs E S hs hds && !hds.isEmpty) = true := m
      simp only [Bool.and_eq_true] at m
      cases hds with
      | nil => exact absurd m.2 (by decide)
      | cons h0 hds => exact ⟨_, _, _, _, rfl, m.1.1, m.1.2⟩
theorem mt_for {tg : Tg} {sk : Src} {its : List IE} {body : List IS} (m : mtS E S (.for_ tg sk its body) st = true) : ∃ etg eit ebody pos, st = .For etg eit ebody [] pos ∧ tgOk sk tg = true ∧ mtT S tg etg = true ∧ (srcHd E S sk eit = true ∧ mtL E S its (srcAs sk eit) = true) ∧ mtSs E S body ebody = true ∧ noSet eit = true := by
  cases st <;> first | (exact absurd m Bool.false_ne_true) | skip
  rename_i etg eit ebody oe pos
  cases oe with
  | cons _ _ => exact absurd m Bool.false_ne_true
  | nil =>
    have m : (mtT S tg etg && srcHd E S sk eit && mtL E S its (srcAs sk eit) && mtSs E S body ebody && noSet eit && tgOk sk tg) = true := m
    simp only [Bool.and_eq_true] at m
    exact ⟨_, _, _, _, rfl, m.2, m.1.1.1.1.1, ⟨m.1.1.1.1.2, m.1.1.1.2⟩, m.1.1.2, m.1.2⟩
theorem mt_whl {c : IE} {body : List IS} (m : mtS E S (.whl c body) st = true) : ∃ ec ebody pos, st = .While ec ebody [] pos ∧ mtE E S c ec = true ∧ mtSs E S body ebody = true := by
  cases st <;> first | (exact absurd m Bool.false_ne_true) | skip
  rename_i ec ebody oe pos
  cases oe with
  | cons _ _ => exact absurd m Bool.false_ne_true
  | nil =>
    have m : (mtE E S c ec && mtSs E S body ebody) = true := m
    simp only [Bool.and_eq_true] at m
    exact ⟨_, _, _, rfl, m.1, m.2⟩
end
theorem s_selM {E : Eng} {Φ : Nat → List PV → CO} {k : Nat} {S : Stc} {X : Cx} {W : WX} (ok : OkS E Φ k S W X) {s : IS} {l : List IS} {st : Stmt} {sts : List Stmt} (m : selM E S s l st sts = true) : PSs X (st :: sts) (tL E Φ X W (s :: l)) := by
  unfold selM at m
  split at m
  · rename_i i c f g as y py ec xf pf xg pg pi pos y2 p2 es cpos rpos
    simp only [Bool.and_eq_true, decide_eq_true_eq] at m
    obtain ⟨⟨⟨⟨⟨h1, h2⟩, h3⟩, h4⟩, h5⟩, ⟨⟨⟨g1, g2⟩, g3⟩, g4⟩, g5⟩ := m
    subst h5
    cases es with
    | nil => exact absurd g5 (by decide)
    | cons e es => exact s_selr ok h1 h2 h3 h4 (soundT c ok.x g1) g2 g3 (fun z hz => mtL_star g4 z hz) (soundA as ok.x g4)
  · cases m
section
variable {E : Eng} {Φ : Nat → List PV → CO} {k : Nat}
mutual
theorem soundS : (s : IS) → ∀ {S : Stc} {X : Cx} {W : WX} {st : Stmt}, OkS E Φ k S W X → mtS E S s st = true → PS X st (tS E Φ X W s)
  | .pass, S, X, W, st, ok, m => by
    cases st <;> first | (exact absurd m Bool.false_ne_true) | skip
    exact ⟨fun pins s σ H D I ⟨g, ε, Z, gl, G, h⟩ => ps_pass.run pins s σ H D I (h σ Z H (.refl _) G fun _ _ => rfl)⟩
  | .brk, S, X, W, st, ok, m => by
    cases st <;> first | (exact absurd m Bool.false_ne_true) | skip
    exact ⟨fun pins s σ H D I ⟨g, ε, Z, gl, G, h⟩ => ps_break.run pins s σ H D I (h σ Z H (.refl _) G fun _ _ => rfl)⟩
  | .cont, S, X, W, st, ok, m => by
    cases st <;> first | (exact absurd m Bool.false_ne_true) | skip
    exact ⟨fun pins s σ H D I ⟨g, ε, Z, gl, G, h⟩ => ps_continue.run pins s σ H D I (h σ Z H (.refl _) G fun _ _ => rfl)⟩
  | .expr e, S, X, W, st, ok, m => by
    cases st <;> first | (exact absurd m Bool.false_ne_true) | skip
    rename_i ex pos
    have m : (mtE E S e ex && noComp ex) = true := m
    simp only [Bool.and_eq_true] at m
    exact s_expr (soundE e ok.x m.1) m.2
  | .asg i e, S, X, W, st, ok, m => by
    obtain ⟨y, py, ex, pos, rfl, h1, h2, h3⟩ := mt_asg m
    exact s_asg ok.x h1 h2 h3
  | .asgT t e, S, X, W, st, ok, m => by
    obtain ⟨es, n, p, ex, pos, rfl, h1, h2, h3⟩ := mt_asgT m
    exact s_asgT ok.x h1 h2 h3
  | .ret e, S, X, W, st, ok, m => by
    cases st <;> first | (exact absurd m Bool.false_ne_true) | skip
    rename_i o pos
    cases o with
    | none => exact absurd m Bool.false_ne_true
    | some ex => exact s_ret (soundE e ok.x m)
  | .retN, S, X, W, st, ok, m => by
    cases st <;> first | (exact absurd m Bool.false_ne_true) | skip
    rename_i o pos
    cases o with
    | none => exact s_retN
    | some ex => exact absurd m Bool.false_ne_true
  | .ifs c a b, S, X, W, st, ok, m => by
    cases st <;> first | (exact absurd m Bool.false_ne_true) | skip
    rename_i ec ea eb pos
    have m : (mtE E S c ec && mtSs E S a ea && mtSs E S b eb) = true := m
    simp only [Bool.and_eq_true] at m
    exact s_if (soundT c ok.x m.1.1) (soundL a ok m.1.2) (soundL b ok m.2)
  | .raise c msg, S, X, W, st, ok, m => by
    obtain ⟨x, j, p, p2, p3, pos, rfl, h1, h2⟩ := mt_raise m
    exact s_raise ok h1 h2
  | .raiseE c e, S, X, W, st, ok, m => by
    obtain ⟨x, ex, p, p3, pos, rfl, h1, h2, h3, h4⟩ := mt_raiseE m
    exact s_raiseE ok h1 h2 (soundE e ok.x h3) h4
  | .setI i ke ve, S, X, W, st, ok, m => by
    obtain ⟨x, ek, ev, px, ps, pos, rfl, h1, h2, h3, h4, h5⟩ := mt_setI m
    exact s_setI ok h1 (soundE ke ok.x h2) h3 (soundE ve ok.x h4) h5
  | .selr _ _ _ _ _, S, X, W, st, ok, m => absurd m Bool.false_ne_true
  | .aug i op e, S, X, W, st, ok, m => by
    obtain ⟨x, px, ex, pos, rfl, h1, h1', h2⟩ := mt_aug m
    exact s_aug ok h1 h1' (soundE e ok.x h2)
  | .tryx body c suite, S, X, W, st, ok, m => by
    obtain ⟨ebody, x, np, b0, esuite, pos', pos, rfl, h1, h2, h3, h4⟩ := mt_try m
    exact s_try ok h2 h3 (fun W' pn xe ok' => soundL body ok' h1) h4
  | .tryn body hs, S, X, W, st, ok, m => by
    obtain ⟨ebody, h0, hds, pos, rfl, h1, h2⟩ := mt_tryn m
    exact s_tryn ok (fun W' pn xe ok' => soundL body ok' h1) h2
  | .for_ tg sk its body, S, X, W, st, ok, m => by
    obtain ⟨etg, eit, ebody, pos, rfl, h0, h1, h2, h3, h4⟩ := mt_for m
    exact s_for ok h0 h1 h2 (soundL body ok h3) h4
  | .whl c body, S, X, W, st, ok, m => by
    obtain ⟨ec, ebody, pos, rfl, h1, h2⟩ := mt_whl m
    exact s_whl ok h1 (soundL body ok h2)
theorem soundL : (l : List IS) → ∀ {S : Stc} {X : Cx} {W : WX} {sts : List Stmt}, OkS E Φ k S W X → mtSs E S l sts = true → PSs X sts (tL E Φ X W l)
  | [], S, X, W, sts, ok, m => by
    cases sts with
    | nil => exact s_nilS
    | cons _ _ => exact absurd m Bool.false_ne_true
  | s :: l, S, X, W, sts, ok, m => by
    cases sts with
    | nil => exact absurd m Bool.false_ne_true
    | cons st sts =>
      have m0 : (bif isSel s then selM E S s l st sts else (mtS E S s st && mtSs E S l sts)) = true := m
      cases hsel : isSel s with
      | false =>
        rw [hsel] at m0
        have m0 : (mtS E S s st && mtSs E S l sts) = true := m0
        simp only [Bool.and_eq_true] at m0
        exact s_consS (soundS s ok m0.1) (soundL l ok m0.2)
      | true =>
        rw [hsel] at m0
        have m0 : selM E S s l st sts = true := m0
        exact s_selM ok m0
end
end
end Eng

set_option maxHeartbeats 4000000
namespace Eng
open PySem PySem.Spec L2
open PyProof.Rows hiding St

/-! ### a def's body -/
def ioL : List Bool → List Addr → Nat → List (Nat × Addr)
  | true :: ms, a :: as, i => (i, a) :: ioL ms as (i + 1)
  | false :: ms, as, i => ioL ms as (i + 1)
  | _, _, _ => []
section
variable {K : Fg} {Z H : Hp}
theorem ioL_snd : ∀ {ms : List Bool} {ps : List PV} {vs : List V} {as : List Addr} {i : Nat}, ArgR K Z H ms ps vs as → (ioL ms as i).map (·.2) = as
  | [], [], [], [], _, _ => rfl
  | [], [], [], _ :: _, _, h => h.elim
  | [], [], _ :: _, _, _, h => h.elim
  | [], _ :: _, _, _, _, h => h.elim
  | true :: _, [], _, _, _, h => h.elim
  | true :: _, _ :: _, [], _, _, h => h.elim
  | true :: _, _ :: _, _ :: _, [], _, h => h.elim
  | true :: ms, p :: ps, v :: vs, a :: as, i, h => by
    show a :: (ioL ms as (i + 1)).map (·.2) = _
    rw [ioL_snd h.2.2.2]
  | false :: _, [], _, _, _, h => h.elim
  | false :: _, _ :: _, [], _, _, h => h.elim
  | false :: ms, p :: ps, v :: vs, as, i, h => ioL_snd (ms := ms) (i := i + 1) h.2
theorem startS_len : ∀ {ms : List Bool} {ps : List PV}, ms.length = ps.length → (startS ms ps).length = ps.length
  | [], [], _ => rfl
  | [], _ :: _, h => by simp at h
  | _ :: _, [], h => by simp at h
  | true :: ms, p :: ps, h => by simp [startS, startS_len (ms := ms) (ps := ps) (by simpa using h)]
  | false :: ms, p :: ps, h => by simp [startS, startS_len (ms := ms) (ps := ps) (by simpa using h)]
/-- the slots of the parameters -/
theorem startS_get : ∀ {ms : List Bool} {ps : List PV} {vs : List V} {as : List Addr} {n i : Nat} {s : Slot}, ArgR K Z H ms ps vs as → (startS ms ps)[i]? = some s →
    ∃ v, vs[i]? = some v ∧ ((∃ p, s = .val p ∧ Rp K Z p v) ∨ ∃ p a, s = .own false p ∧ v = .ref a ∧ Z a = none ∧ OwnR K Z H a p ∧ (n + i, a) ∈ ioL ms as n)
  | [], [], [], [], _, _, _, _, e => by simp [startS] at e
  | [], [], [], _ :: _, _, _, _, h, _ => h.elim
  | [], [], _ :: _, _, _, _, _, h, _ => h.elim
  | [], _ :: _, _, _, _, _, _, h, _ => h.elim
  | true :: _, [], _, _, _, _, _, h, _ => h.elim
  | true :: _, _ :: _, [], _, _, _, _, h, _ => h.elim
  | true :: _, _ :: _, _ :: _, [], _, _, _, h, _ => h.elim
  | true :: ms, p :: ps, v :: vs, a :: as, n, 0, s, h, e => by
    have e : s = .own false p := by
      have : some (Slot.own false p) = some s := e
      exact (Option.some.inj this).symm
    subst e
    exact ⟨v, rfl, .inr ⟨p, a, rfl, h.1, h.2.1, h.2.2.1, List.mem_cons_self⟩⟩
  | true :: ms, p :: ps, v :: vs, a :: as, n, i + 1, s, h, e => by
    have e : (startS ms ps)[i]? = some s := by simpa [startS] using e
    obtain ⟨w, h1, h2⟩ := startS_get (n := n + 1) h.2.2.2 e
    refine ⟨w, by simpa using h1, ?_⟩
    rcases h2 with h2 | ⟨q, b, q1, q2, q3, q4, q5⟩
    · exact .inl h2
    · refine .inr ⟨q, b, q1, q2, q3, q4, List.mem_cons_of_mem _ ?_⟩
      have : n + (i + 1) = n + 1 + i := by omega
      rw [this]; exact q5
  | false :: _, [], _, _, _, _, _, h, _ => h.elim
  | false :: _, _ :: _, [], _, _, _, _, h, _ => h.elim
  | false :: ms, p :: ps, v :: vs, as, n, 0, s, h, e => by
    have e : s = .val p := by
      have : some (Slot.val p) = some s := e
      exact (Option.some.inj this).symm
    subst e
    exact ⟨v, rfl, .inl ⟨p, rfl, h.1⟩⟩
  | false :: ms, p :: ps, v :: vs, as, n, i + 1, s, h, e => by
    have e : (startS ms ps)[i]? = some s := by simpa [startS] using e
    obtain ⟨w, h1, h2⟩ := startS_get (n := n + 1) (as := as) h.2 e
    refine ⟨w, by simpa using h1, ?_⟩
    rcases h2 with h2 | ⟨q, b, q1, q2, q3, q4, q5⟩
    · exact .inl h2
    · refine .inr ⟨q, b, q1, q2, q3, q4, ?_⟩
      have : n + (i + 1) = n + 1 + i := by omega
      rw [this]; exact q5
theorem ioL_get : ∀ {ms : List Bool} {ps : List PV} {vs : List V} {as : List Addr} {n j : Nat} {a : Addr}, ArgR K Z H ms ps vs as → (j, a) ∈ ioL ms as n → ∃ i p, j = n + i ∧ vs[i]? = some (.ref a) ∧ (startS ms ps)[i]? = some (.own false p)
  | [], [], [], [], _, _, _, _, m => by simp [ioL] at m
  | [], [], [], _ :: _, _, _, _, h, _ => h.elim
  | [], [], _ :: _, _, _, _, _, h, _ => h.elim
  | [], _ :: _, _, _, _, _, _, h, _ => h.elim
  | true :: _, [], _, _, _, _, _, h, _ => h.elim
  | true :: _, _ :: _, [], _, _, _, _, h, _ => h.elim
  | true :: _, _ :: _, _ :: _, [], _, _, _, h, _ => h.elim
  | true :: ms, p :: ps, v :: vs, a :: as, n, j, b, h, m => by
    rcases List.mem_cons.mp (show (j, b) ∈ (n, a) :: ioL ms as (n + 1) from m) with e | m
    · cases e
      exact ⟨0, p, rfl, by rw [h.1]; rfl, rfl⟩
    · obtain ⟨i, q, e, h1, h2⟩ := ioL_get h.2.2.2 m
      exact ⟨i + 1, q, by omega, by simpa using h1, by simpa [startS] using h2⟩
  | false :: _, [], _, _, _, _, _, h, _ => h.elim
  | false :: _, _ :: _, [], _, _, _, _, h, _ => h.elim
  | false :: ms, p :: ps, v :: vs, as, n, j, b, h, m => by
    obtain ⟨i, q, e, h1, h2⟩ := ioL_get (ms := ms) (as := as) (n := n + 1) h.2 m
    exact ⟨i + 1, q, by omega, by simpa using h1, by simpa [startS] using h2⟩
/-- what lies at the parameters that are changed, at the end -/
theorem outs_ok {g : Ent} {σ : St} {ε : Sg} {Z' H' : Hp} : ∀ {ms : List Bool} {as : List Addr} {n : Nat} {os : List PV}, Good K g σ ε Z' H' → (∀ q ∈ ioL ms as n, q ∈ g.io) → ms.countP id = as.length → outsS ms n ε = some os → Paired (fun a p => OwnR K Z' H' a p) as os
  | [], [], _, os, _, _, _, e => by cases e; exact .nil
  | [], _ :: _, _, _, _, _, c, _ => by simp at c
  | true :: ms, [], _, _, _, _, c, _ => by simp at c
  | true :: ms, a :: as, n, os, G, hm, c, e => by
    unfold outsS at e
    split at e
    · rename_i kk p ps e1 e2
      cases e
      obtain ⟨h1, p', h2⟩ := G.io n a (hm _ List.mem_cons_self)
      rw [e1] at h2
      cases h2
      obtain ⟨b, h3, _, h4, _⟩ := G.slot _ _ e1
      rw [h1] at h3
      cases h3
      exact .cons h4 (outs_ok G (fun q hq => hm q (List.mem_cons_of_mem _ hq)) (by simpa using c) e2)
    · cases e
  | false :: ms, as, n, os, G, hm, c, e => outs_ok (ms := ms) (n := n + 1) G hm (by simpa using c) e
theorem argR_count : ∀ {ms : List Bool} {ps : List PV} {vs : List V} {as : List Addr}, ArgR K Z H ms ps vs as → ms.countP id = as.length
  | [], [], [], [], _ => rfl
  | [], [], [], _ :: _, h => h.elim
  | [], [], _ :: _, _, h => h.elim
  | [], _ :: _, _, _, h => h.elim
  | true :: _, [], _, _, h => h.elim
  | true :: _, _ :: _, [], _, h => h.elim
  | true :: _, _ :: _, _ :: _, [], h => h.elim
  | true :: ms, p :: ps, v :: vs, a :: as, h => by
    have := argR_count h.2.2.2
    simp [this]
  | false :: _, [], _, _, h => h.elim
  | false :: _, _ :: _, [], _, h => h.elim
  | false :: ms, p :: ps, v :: vs, as, h => by
    have := argR_count (ms := ms) h.2
    simp [this]
end

/-- a def of the text, with what is known of it -/
structure FnF (E : Eng) (K : Fg) (mg : Str → Option Value) (fi : FnI) : Prop where
  ex : ∃ (qual : Str) (params : Arguments) (body : List Stmt) (scope : Scope) (N ps : List Str) (fa : Addr) (fd : FuncData) (dvs : List V) (dv : List Value),
    FunD K fi.name qual params body scope dvs [] fa fd ∧ mg fi.name = some (.ref fa) ∧ FnScope N ps scope ∧ N.length = fi.nsl ∧ ps.length = fi.np ∧ mtSs E ⟨N, scope, scope⟩ fi.body body = true ∧
      Binds K fd ps [] ∧ Binds K fd ps dv ∧ Vals dvs dv ∧ ∀ Z, RpL K Z fi.dfl dvs
/-- the program behind its top -/
structure PF (E : Eng) (K : Fg) (mg : Str → Option Value) : Prop where
  fr : ∀ x ∈ E.fre, mg x = none
  fn : ∀ (f : Nat) (fi : FnI), E.fns[f]? = some fi → FnF E K mg fi
  bl : ∀ b ∈ E.blts, if bltG b = true then mg (bltN b) = some (bltV b) else mg (bltN b) = none
  ty : ∀ t ∈ E.tys, mg (Str.ofString t) = none ∧ bootBuiltins (Str.ofString t) = some (.type t) ∧ mg "isinstance" = none
  gb : ∀ x p, E.glb.lookup x = some p → ∃ u v, mg x = some u ∧ RelV v u ∧ ∀ Z, Rp K Z p v
  ex : ∀ (c : Nat) (nm : Str), E.cls[c]? = some nm → ∃ C, mg nm = some (.ref C) ∧ PySem.W.excIn K C HandSPX.veTail "ValueError.__new__" = true ∧ PySem.W.keepIn K (.ref C) = true ∧ PySem.W.subIn K (.ref C) (.type "BaseException") = some true ∧ PySem.W.typeIn K (.ref C) = some (.type "type")
  sb : ∀ (c d : Nat) (nc nd : Str) (C D : Addr), E.cls[c]? = some nc → E.cls[d]? = some nd → mg nc = some (.ref C) → mg nd = some (.ref D) → PySem.W.exmOne K (.ref C) (.ref D) = some (E.sub c d)

section
variable {E : Eng} {P : Program} {w : World} {K : Fg} {mg : Str → Option Value} {base : Heap}
theorem fn_zero {f : Nat} {fi : FnI} {fa : Addr} {fd : FuncData} {ps : List Str} : FnG P w K mg base (L2.CX P w) 0 fa fd ps (spF E (callF E 0) mg K fi f) :=
  ⟨fun vs H Q E' ⟨_, _, _, _, _, _, _, h⟩ => h.elim, fun _ _ _ _ _ ⟨_, _, _, _, _, _, _, h⟩ => h.elim⟩
/-- a def by its body, entered where no text of an object is being made -/
theorem fnG_of {x qual : Str} {params : Arguments} {body : List Stmt} {scope : Scope} {N ps : List Str} {fa : Addr} {fd : FuncData} {dvs : List V} {k : Nat} {sp : Sp} {CXx : CXT} (D : FunD K x qual params body scope dvs [] fa fd) (S : FnScope N ps scope) (ar : ∀ vs H Q E, sp vs H Q E → vs.length = ps.length)
    (hb : ∀ (cdv : Value) (A : Around) (outer : List Env) (s : Shared) (H : Hp) (vs : List V) (Q : VK) (E : XK), A.guards = some [] → Room k (A.deeper (envOfC qual scope s.heap.objs.size fa cdv)) → sp vs H Q E →
      ∃ t, PSs (cxOf CXx P w K mg base N qual scope fa cdv A outer s H E) body t ∧ t { rt := Q, nx := fun _ H' => Q .non H' } (start N vs) H) : FnG P w K mg base CXx (k + 1) fa fd ps sp := by
  obtain ⟨oc, od, dV, kV, doc, pm, an, cdv, ct, osl, e, lk, cd, -, -⟩ := D.ex
  subst e
  constructor
  · exact ar
  intro A outer s H args us vs Q E gd room en binds rel prom
  have keep : ∀ b o, base.get? b = some o → s.heap.get? b = some o := fun b o z => (en.bs b o z).1
  have kin := en.mod.kin.keeps keep
  have kinds : ∀ y ∈ ps.zip us, scope.names.lookup y.1 = some .local ∨ (scope.names.lookup y.1 = some .cell ∧ ((cellsFrom (s.heap.objs.size + 1) scope.names []).lookup y.1).isSome = true) := by
    intro y hy
    cases S.par y.1 (List.of_mem_zip hy).1 with
    | inl q => left; exact q
    | inr q => right; exact ⟨q, PySem.W.cellsFrom_some _ _ _ (Or.inl q)⟩
  apply codeAny_call_function room.depth (kin _ _ lk) rfl S.co S.gen rfl (PySem.W.codeRec_of kin cd)
  apply binds
  apply wpAny_newFunctionEnv_cells S.kind kinds
  intro env ee s1 entered
  subst ee
  constructor
  · exact (en.mod.nolimit.keeps keep).keeps entered.toInCall.keep
  obtain ⟨t, judged, reads⟩ := hb cdv A outer s H vs Q E gd (room.deeper _) prom
  have first := inv_start (CX := CXx) (cd := cdv) (E := E) S room.hd en (ar _ _ _ _ prom) rel entered
  apply codeAny_func
  refine wpAny_mono (judged.run [] s1 (start N vs) H _ first reads) ?_ fun _ _ z => z
  intro fl s2 ended
  have leave : ∀ {τ : St} {H2 : Hp} {v : V} {u : Value}, Inv (cxOf CXx P w K mg base N qual scope fa cdv A outer s H E) [] τ H2 s2 → RelV v u → Q v H2 → CE outer P w H s Q u s2 := by
    intro τ H2 v u J rv q
    exact ⟨v, H2, J.os, J.bare, J.base, J.hok, rv, q⟩
  match fl, ended with
  | .next, ⟨_, _, J, q⟩ => exact leave (v := V.non) (u := Value.none) J rfl q
  | .ret _, ⟨_, _, _, J, rv, q⟩ => exact leave J rv q
  | .brk, ⟨_, _, _, q⟩ => exact q.elim
  | .cont, ⟨_, _, _, q⟩ => exact q.elim
theorem fn_core (F : PF E K mg) {k f : Nat} {fi : FnI} (hf : E.fns[f]? = some fi) (ih : ∀ (f : Nat) (fi : FnI), E.fns[f]? = some fi → ∃ fa fd ps, FnX E (callF E k) k P w K mg base f fi fa fd ps)
    {qual : Str} {params : Arguments} {body : List Stmt} {scope : Scope} {N ps : List Str} {fa : Addr} {fd : FuncData} {dvs : List V} (D : FunD K fi.name qual params body scope dvs [] fa fd) (S : FnScope N ps scope) (hN : N.length = fi.nsl) (hp : ps.length = fi.np) (mt : mtSs E ⟨N, scope, scope⟩ fi.body body = true) :
    FnG P w K mg base (L2.CX P w) (k + 1) fa fd ps (spF E (callF E (k + 1)) mg K fi f) := by
  have hcall : ∀ qs, callF E (k + 1) f qs = callB E (callF E k) fi qs := fun qs => by
    show (match E.fns[f]? with | some fi => callB E (callF E k) fi qs | none => .stuck) = _
    rw [hf]
  refine fnG_of D S (fun vs H Q E' hsp => ?_) (fun cdv A outer s H vs Q E' hgd hr hsp => ?_)
  · obtain ⟨Z, qs, as, zh, hl, ar, nd, post⟩ := hsp
    rw [hcall] at post
    have hal := argR_len ar
    omega
  · obtain ⟨Z, qs, as, zh, hl, ar, nd, post⟩ := hsp
    rw [hcall] at post
    have hal := argR_len ar
    let X : Cx := cxOf (L2.CX P w) P w K mg base N qual scope fa cdv A outer s H E'
    have okx : OkS E (callF E k) k ⟨N, scope, scope⟩ (fun cls d _ H' => E' cls d H') X := by
      refine ⟨⟨rfl, rfl, rfl, S.nd, S.kind, fun x hx => ⟨hx, .inl rfl⟩, hr, takes_of rfl rfl rfl rfl, ih, F.bl, F.ty, F.gb, F.fr, hgd⟩, rfl, rfl, passes_of rfl, fun c nm h => ?_, F.sb⟩
      obtain ⟨C, m, e1, e2, e3, e4⟩ := F.ex c nm h
      exact ⟨C, m, e1, e2, raises_own e3 e4⟩
    refine ⟨_, soundL fi.body okx mt, ?_⟩
    unfold callB at post
    by_cases hc : qs.length = fi.np ∧ fi.mask.length = fi.np ∧ fi.np ≤ fi.nsl
    · rw [if_pos hc] at post
      let g : Ent := ⟨H, Z, ioL fi.mask as 0, []⟩
      have hsl : (startS fi.mask qs).length = qs.length := startS_len (by omega)
      have hvl : vs.length = fi.np := by omega
      have hio : (ioL fi.mask as 0).map (·.2) = as := ioL_snd ar
      have get0 : ∀ (i : Nat) (sl : Slot), (startS fi.mask qs ++ List.replicate (fi.nsl - fi.np) Slot.none)[i]? = some sl → ((startS fi.mask qs)[i]? = some sl) ∨ sl = .none := fun i sl h => by
        by_cases hi : i < (startS fi.mask qs).length
        · rw [List.getElem?_append_left hi] at h; exact .inl h
        · rw [List.getElem?_append_right (by omega), List.getElem?_replicate] at h
          split at h <;> cases h
          exact .inr rfl
      have st : ∀ (i : Nat) (v : V), vs[i]? = some v → (start N vs)[i]? = some (some v) := fun i v h => by
        have hi := (List.getElem?_eq_some_iff.mp h).1
        unfold L2.start
        rw [List.getElem?_append_left (by simpa using hi), List.getElem?_map, h]
        rfl
      have G : Good K g (start N vs) (startS fi.mask qs ++ List.replicate (fi.nsl - fi.np) Slot.none) Z H := by
        refine ⟨?_, fun i sl h => ?_, fun i j a oi oj ei ej => ?_, zh, fun b o h _ => h, fun _ h => h, fun b z => .inl z, .refl _, fun i a h => ?_, fun q hq => absurd hq (by simp [g])⟩
        · unfold L2.start
          simp only [List.length_append, List.length_map, List.length_replicate]
          omega
        · rcases get0 i sl h with h | rfl
          · obtain ⟨v, h1, h2⟩ := startS_get (n := 0) ar h
            rcases h2 with ⟨p, rfl, h2⟩ | ⟨p, a, rfl, rfl, h3, h4, h5⟩
            · exact ⟨v, st i v h1, h2⟩
            · exact ⟨a, st i _ h1, h3, h4, fun z => (nomatch z), fun _ => by rw [Nat.zero_add] at h5; exact h5⟩
          · trivial
        · have loc : ∀ {i}, IsOwn (startS fi.mask qs ++ List.replicate (fi.nsl - fi.np) Slot.none) i → (start N vs)[i]? = some (some (V.ref a)) → (i, a) ∈ ioL fi.mask as 0 := fun {i} ⟨kk, p, h⟩ e => by
            rcases get0 i _ h with h | h
            · obtain ⟨v, h1, h2⟩ := startS_get (n := 0) ar h
              rw [st i v h1] at e
              cases e
              rcases h2 with ⟨p, z, _⟩ | ⟨p, b, _, e2, _, _, h5⟩
              · cases z
              · cases e2
                rw [Nat.zero_add] at h5
                exact h5
            · cases h
          have m1 := loc oi ei
          have m2 := loc oj ej
          -- one address stands once
          have nd' : ((ioL fi.mask as 0).map (·.2)).Nodup := by rw [hio]; exact nd
          have uniq : ∀ {l : List (Nat × Addr)} {x y : Nat} {b : Addr}, (l.map (·.2)).Nodup → (x, b) ∈ l → (y, b) ∈ l → x = y := by
            intro l
            induction l with
            | nil => intro x y b _ h _; simp at h
            | cons q l ih =>
              intro x y b hn h1 h2
              rw [List.map_cons, List.nodup_cons] at hn
              rcases List.mem_cons.mp h1 with e1 | h1 <;> rcases List.mem_cons.mp h2 with e2 | h2
              · rw [← e1] at e2; cases e2; rfl
              · exact absurd (List.mem_map.mpr ⟨_, h2, by rw [← e1]⟩) hn.1
              · exact absurd (List.mem_map.mpr ⟨_, h1, by rw [← e2]⟩) hn.1
              · exact ih hn.2 h1 h2
          exact uniq nd' m1 m2
        · obtain ⟨j, p, e, h1, h2⟩ := ioL_get ar h
          rw [Nat.zero_add] at e
          subst e
          refine ⟨st i _ h1, p, ?_⟩
          rw [List.getElem?_append_left (by rw [hsl]; have := (List.getElem?_eq_some_iff.mp h2).1; omega)]
          exact h2
      have gl : GL X g := fun b hb o u hu => by
        have hb : H b = none := hb
        have hu : H b = some (.frz o u) := hu
        rw [hb] at hu; cases hu
      refine ⟨g, _, Z, gl, G, ?_⟩
      have aft : ∀ {σ' : St} {ε' : Sg} {Z' H' : Hp} {os : List PV}, Good K g σ' ε' Z' H' → outsS fi.mask 0 ε' = some os → Aft K Z H Z' H' as os := fun {σ' ε' Z' H' os} G' eo =>
        ⟨G'.zz, G'.zh, fun b o h nb => G'.hh b o h (by rw [show g.io = ioL fi.mask as 0 from rfl, hio]; exact nb), G'.al, G'.zf, outs_ok G' (fun q hq => hq) (argR_count ar) eo⟩
      cases he : exL E (callF E k) fi.body (startS fi.mask qs ++ List.replicate (fi.nsl - fi.np) Slot.none) with
      | stuck => rw [he] at post; exact post.elim
      | bk ε1 => rw [he] at post; exact post.elim
      | ct ε1 => rw [he] at post; exact post.elim
      | nx ε1 =>
        rw [he] at post
        intro σ' Z' H' s' G' _
        dsimp only at post
        cases eo : outsS fi.mask 0 ε1 with
        | none => rw [eo] at post; exact post.elim
        | some os =>
          rw [eo] at post
          exact post .non Z' H' (aft G' eo) .non
      | rt r ε1 =>
        rw [he] at post
        intro σ' v Z' H' s' G' rv
        cases r with
        | own _ => exact post.elim
        | val p =>
          dsimp only at post
          cases eo : outsS fi.mask 0 ε1 with
          | none => rw [eo] at post; exact post.elim
          | some os => rw [eo] at post; exact post v Z' H' (aft G' eo) rv
        | fresh p =>
          dsimp only at post
          cases eo : outsS fi.mask 0 ε1 with
          | none => rw [eo] at post; exact post.elim
          | some os =>
            rw [eo] at post
            obtain ⟨a, e1, e2, e3, e4, _⟩ := rv
            exact post v Z' H' (aft G' eo) ⟨a, e1, e2, e3, e4⟩
      | exc c ε1 =>
        rw [he] at post
        intro σ' Z' H' C s' G' _ cl
        dsimp only at post
        cases eo : outsS fi.mask 0 ε1 with
        | none => rw [eo] at post; exact post.elim
        | some os => rw [eo] at post; exact post C Z' H' (aft G' eo) cl
    · rw [if_neg hc] at post
      exact post.elim
theorem fn_succ (F : PF E K mg) {k f : Nat} {fi : FnI} (hf : E.fns[f]? = some fi) (ih : ∀ (f : Nat) (fi : FnI), E.fns[f]? = some fi → ∃ fa fd ps, FnX E (callF E k) k P w K mg base f fi fa fd ps) :
    ∃ fa fd ps, FnX E (callF E (k + 1)) (k + 1) P w K mg base f fi fa fd ps := by
  obtain ⟨qual, params, body, scope, N, ps, fa, fd, dvs, dv, D, m, S, hN, hp, mt, b0, b1, hv, hd⟩ := (F.fn f fi hf).ex
  exact ⟨fa, fd, ps, m, D.kp, fn_core F hf ih D S hN hp mt, b0, dvs, dv, b1, hv, hd⟩
/-- every def of the text, calls nested at most k deep -/
theorem fn_all (F : PF E K mg) : ∀ (k f : Nat) (fi : FnI), E.fns[f]? = some fi → ∃ fa fd ps, FnX E (callF E k) k P w K mg base f fi fa fd ps
  | 0, f, fi, hf => by
    obtain ⟨qual, params, body, scope, N, ps, fa, fd, dvs, dv, D, m, S, hN, hp, mt, b0, b1, hv, hd⟩ := (F.fn f fi hf).ex
    exact ⟨fa, fd, ps, m, D.kp, fn_zero, b0, dvs, dv, b1, hv, hd⟩
  | k + 1, f, fi, hf => fn_succ F hf (fn_all F k)
end
end Eng

namespace Eng
open PySem PySem.Spec L2
open PyProof.Rows hiding St

theorem exm_pair {K : PySem.W.Frag} {S D : Addr} {b : Bool} (h1 : PySem.W.subIn K (.ref D) (.type "BaseException") = some true) (h2 : PySem.W.isClsIn K D = true) (h3 : PySem.W.typeIn K (.ref D) = some (.type "type")) (h4 : PySem.W.subIn K (.ref S) (.ref D) = some b) :
    PySem.W.exmOne K (.ref S) (.ref D) = some b := by
  have e1 : (PySem.W.subIn K (.ref D) (.type "BaseException") == some true) = true := by rw [h1] <;> rfl
  have e2 : ((PySem.W.clsIn K D).isSome && PySem.W.typeIn K (.ref D) == some (.type "type")) = true := by
    have h2' : (PySem.W.clsIn K D).isSome = true := h2
    rw [h2', h3] <;> rfl
  show (if (PySem.W.subIn K (.ref D) (.type "BaseException") == some true) = true then (if ((PySem.W.clsIn K D).isSome && PySem.W.typeIn K (.ref D) == some (.type "type")) = true then PySem.W.subIn K (.ref S) (.ref D) else none) else none) = some b
  rw [if_pos e1, if_pos e2]
  exact h4

section
variable {E : Eng} {K : Fg} {mg : Str → Option Value} {fi : FnI} {qual : Str} {params : Arguments} {body : List Stmt} {scope : Scope} {N ps : List Str} {fa : Addr} {fd : FuncData} {dvs : List V}
theorem fnF_mk (D : FunD K fi.name qual params body scope [] [] fa fd) (m : mg fi.name = some (.ref fa)) (S : FnScope N ps scope) (hN : N.length = fi.nsl) (hp : ps.length = fi.np) (mt : mtSs E ⟨N, scope, scope⟩ fi.body body = true) (hd : fi.dfl = [])
    (b : ∀ (kV doc pm : Value) (an : Option Addr) (cdv ct : Value) (us : List Value), us.length = ps.length → bindArgs (PySem.W.fnOf fi.name qual params body scope .none kV doc pm an cdv ct) ⟨us, []⟩ = pure (ps.zip us)) : FnF E K mg fi :=
  ⟨qual, params, body, scope, N, ps, fa, fd, [], [], D, m, S, hN, hp, mt, D.bindsN b, D.bindsN b, .nil, fun Z => hd ▸ .nil⟩
/-- defaults: n parameters ahead of them -/
theorem fnF_mkD (n : Nat) (D : FunD K fi.name qual params body scope dvs [] fa fd) (m : mg fi.name = some (.ref fa)) (S : FnScope N ps scope) (hN : N.length = fi.nsl) (hp : ps.length = fi.np) (mt : mtSs E ⟨N, scope, scope⟩ fi.body body = true)
    (hd : ∀ Z, RpL K Z fi.dfl dvs) (h0 : dvs ≠ []) (hn : n + dvs.length = ps.length)
    (b0 : ∀ (T : Addr) (kV doc pm : Value) (an : Option Addr) (cdv ct : Value) (us its : List Value), us.length = ps.length → its.length = dvs.length →
      ∃ k, bindArgs (PySem.W.fnOf fi.name qual params body scope (.ref T) kV doc pm an cdv ct) ⟨us, []⟩ = seqItems? (.ref T) >>= k ∧ k (some its.toArray) = pure (ps.zip us))
    (b1 : ∀ (T : Addr) (kV doc pm : Value) (an : Option Addr) (cdv ct : Value) (us its : List Value), us.length = n → its.length = dvs.length →
      ∃ k, bindArgs (PySem.W.fnOf fi.name qual params body scope (.ref T) kV doc pm an cdv ct) ⟨us, []⟩ = seqItems? (.ref T) >>= k ∧ k (some its.toArray) = pure (ps.zip (us ++ its))) : FnF E K mg fi := by
  obtain ⟨d0, v0, e0⟩ := D.binds1 (ps := ps) ps.length dvs.length h0 (by simp) fun T kV doc pm an cdv ct us its hu hi => by
    obtain ⟨k, e1, e2⟩ := b0 T kV doc pm an cdv ct us its hu hi
    refine ⟨k, e1, ?_⟩
    rw [e2, ← hi, List.drop_length, List.append_nil]
  obtain ⟨d1, v1, e1⟩ := D.binds1 (ps := ps) n 0 h0 (by simpa using hn) fun T kV doc pm an cdv ct us its hu hi => by
    obtain ⟨k, e1, e2⟩ := b1 T kV doc pm an cdv ct us its hu hi
    exact ⟨k, e1, by rw [e2, List.drop_zero]⟩
  rw [List.drop_length] at v0
  cases v0
  rw [List.drop_zero] at v1
  exact ⟨qual, params, body, scope, N, ps, fa, fd, dvs, d1, D, m, S, hN, hp, mt, e0, e1, v1, hd⟩
end
theorem funD_mk {K : Fg} {x qual : Str} {st : Stmt} {fa : Addr} {oc : Value} {od an : Option Addr} {sl : Array (Option Value)} {kV dc pm cd ct : Value}
    (l : K.lookup fa = some ⟨oc, od, .func (PySem.W.fnOf x qual (defArgs st) (defBody st) (defScope st) .none kV dc pm an cd ct), sl⟩) (c : PySem.W.codeIn K cd qual = true) (k : PySem.W.keepIn K (.ref fa) = true) :
    FunD K x qual (defArgs st) (defBody st) (defScope st) [] [] fa (PySem.W.fnOf x qual (defArgs st) (defBody st) (defScope st) .none kV dc pm an cd ct) :=
  ⟨⟨oc, od, .none, kV, dc, pm, an, cd, ct, sl, rfl, l, c, .inl ⟨rfl, rfl⟩, .inl rfl⟩, k⟩
theorem funD_mkD {K : Fg} {x qual : Str} {st : Stmt} {fa T : Addr} {oc : Value} {od an : Option Addr} {sl : Array (Option Value)} {kV dc pm cd ct : Value} {o : Obj} {its : List Value} {n : Nat} {dvs : List V}
    (l : K.lookup fa = some ⟨oc, od, .func (PySem.W.fnOf x qual (defArgs st) (defBody st) (defScope st) (.ref T) kV dc pm an cd ct), sl⟩) (c : PySem.W.codeIn K cd qual = true) (k : PySem.W.keepIn K (.ref fa) = true)
    (lT : K.lookup T = some o) (hT : o.data = .seq its.toArray n) (h0 : dvs ≠ []) (hv : Vals dvs its) :
    FunD K x qual (defArgs st) (defBody st) (defScope st) dvs [] fa (PySem.W.fnOf x qual (defArgs st) (defBody st) (defScope st) (.ref T) kV dc pm an cd ct) :=
  ⟨⟨oc, od, .ref T, kV, dc, pm, an, cd, ct, sl, rfl, l, c, .inr ⟨h0, T, o, its, n, rfl, lT, hT, hv⟩, .inl rfl⟩, k⟩

/-- the law's own def -/
structure LawX (E : Eng) (K : Fg) (mg : Str → Option Value) (fi : FnI) (x : Str) (fa : Addr) : Prop where
  ex : ∃ (qual : Str) (params : Arguments) (body : List Stmt) (scope : Scope) (N : List Str) (fd : FuncData),
    FunD K fi.name qual params body scope [] [] fa fd ∧ FnScope N [x] scope ∧ N.length = fi.nsl ∧ mtSs E ⟨N, scope, scope⟩ fi.body body = true ∧ ∀ (s : Shared) (u : Value), BindsTo s fd ⟨[u], []⟩ [(x, u)]
theorem lawX_mk {E : Eng} {K : Fg} {mg : Str → Option Value} {fi : FnI} {x : Str} {fa : Addr} {st : Stmt} {N : List Str} {oc : Value} {od an : Option Addr} {sl : Array (Option Value)} {kV dc pm cd ct : Value}
    (l : K.lookup fa = some ⟨oc, od, .func (PySem.W.fnOf fi.name fi.name (defArgs st) (defBody st) (defScope st) .none kV dc pm an cd ct), sl⟩) (c : PySem.W.codeIn K cd fi.name = true) (k : PySem.W.keepIn K (.ref fa) = true)
    (S : FnScope N [x] (defScope st)) (hN : N.length = fi.nsl) (mt : mtSs E ⟨N, defScope st, defScope st⟩ fi.body (defBody st) = true)
    (b : ∀ (kV doc pm : Value) (an : Option Addr) (cdv ct : Value) (us : List Value), us.length = [x].length → bindArgs (PySem.W.fnOf fi.name fi.name (defArgs st) (defBody st) (defScope st) .none kV doc pm an cdv ct) ⟨us, []⟩ = pure ([x].zip us)) : LawX E K mg fi x fa :=
  ⟨_, _, _, _, N, _, funD_mk l c k, S, hN, mt, fun s u => (funD_mk l c k).bindsA b s [u] rfl⟩

theorem rpL_ints {K : Fg} {Z : Hp} : ∀ ns : List Int, RpL K Z (ns.map PV.int) (ns.map V.int)
  | [] => .nil
  | n :: ns => .cons (.int n) (rpL_ints ns)
open Classical in
/-- the heap that is known at the entry: the script alone -/
noncomputable def scrH (K : Fg) (a : Addr) (o : Obj) (l : List V) : Hp := fun b => if b = a ∧ K.lookup a = none then some (.frz o (.lst l)) else none
theorem scrH_some {K : Fg} {a b : Addr} {o : Obj} {l : List V} {u : HO} (h : scrH K a o l b = some u) : b = a ∧ K.lookup a = none ∧ u = .frz o (.lst l) := by
  unfold scrH at h
  split at h
  · rename_i q
    cases h
    exact ⟨q.1, q.2, rfl⟩
  · cases h
theorem law_enter {P : Program} {w : World} {K : Fg} {mg mb : Str → Option Value} {CXx : CXT} {k : Nat} {fa a : Addr} {fd : FuncData} {x : Str} {sp : Sp} {sh : Shared} {vs : List Value} {ns : List Int}
    (kin : K.In sh.heap) (glo : sh.heap.Ns mainGlobals mg) (blt : sh.heap.Ns builtinsNs mb) (boot : ∀ y : Str, y ≠ "__name__" → mb y = bootBuiltins y) (nol : sh.heap.NoLimit) (gens : sh.gens = #[])
    (obj : sh.heap.get? a = some { cls := .type "list", data := .seq vs.toArray }) (arei : IntsAre vs ns) (len : ns.length ≤ sizeLine) (room : Room k callerA)
    (promise : ∀ base : Heap, K.In base → base.Ns mainGlobals mg → FnG P w K mg base CXx k fa fd [x] sp) (binds : ∀ (s : Shared) (u : Value), BindsTo s fd ⟨[u], []⟩ [(x, u)])
    (given : ∀ H : Hp, Only H → SqL K H a (ns.map V.int) → sp [.ref a] H (fun v _ => v = .bl true) fun _ _ _ => False)
    (noExc : ∀ H e s', CXx [] H sh (fun _ _ _ => False) e s' → False) :
    codeAny (model P w) callerA (.call (.ref fa) ⟨[.ref a], []⟩) (fun r s' => r = .ok (.ret (.bool true)) ∧ OldK sh.heap s'.heap ∧ s'.os = sh.os ∧ AllBare s'.gens) sh := by
  obtain ⟨ob, hob⟩ : ∃ ob : Obj, ob = { cls := .type "list", data := .seq vs.toArray } := ⟨_, rfl⟩
  rw [← hob] at obj
  let H := scrH K a ob (ns.map V.int)
  have onlyH : Only H := fun b => by
    cases e : H b with
    | none => exact .inl rfl
    | some u =>
      obtain ⟨_, _, rfl⟩ := scrH_some e
      exact .inr ⟨_, _, rfl⟩
  have rel : Vals (ns.map V.int) vs := vals_ints arei
  have lens : vs.length = ns.length := by rw [← rel.length, List.length_map]
  have seqH : SqL K H a (ns.map V.int) := by
    cases lk : K.lookup a with
    | none => exact .inl (.inr ⟨ob, if_pos ⟨rfl, lk⟩⟩)
    | some o =>
      have same := kin a o lk
      rw [obj] at same
      cases same
      subst hob
      exact .inr ⟨_, vs.toArray, _, lk, rfl, rfl, rfl, by rw [List.size_toArray, lens]; exact len, by simpa using rel⟩
  have okH : HOk P w H sh.heap := fun b u e => by
    obtain ⟨rfl, _, rfl⟩ := scrH_some e
    subst hob
    exact ⟨obj, by rw [List.length_map]; exact len, vs, _, rel, obj⟩
  have outH : ∀ {b : Addr} {o : Obj}, K.lookup b = some o → H b = none := fun {b o} e => by
    cases q : H b with
    | none => rfl
    | some u =>
      obtain ⟨rfl, z, _⟩ := scrH_some q
      rw [z] at e; cases e
  have nsH : ∀ {b : Addr} {m : Str → Option Value}, sh.heap.Ns b m → (hidT sh.heap H).Ns b m := fun {b m} ⟨o, es, ep, e, d, r⟩ => by
    refine ⟨o, es, ep, hidT_get e ?_, d, r⟩
    cases q : H b with
    | none => rfl
    | some u =>
      obtain ⟨rfl, _, _⟩ := scrH_some q
      rw [obj] at e
      cases e
      subst hob
      have d' : Data.seq vs.toArray _ = Data.dict es ep := d
      cases d'
  have kinB : K.In (hidT sh.heap H) := fun b o e => hidT_get (kin b o e) (outH e)
  obtain ⟨mc, l1, l2⟩ := nol
  have env : Env0 P w K mg (hidT sh.heap H) callerA [] sh H :=
    { frames := rfl, mod := ⟨kinB, nsH glo, ⟨mb, nsH blt, boot⟩, ⟨mc, nsH l1, l2⟩⟩, bs := fun b o e => of_hidT e, bsz := Nat.le_of_eq (hidT_size _ _), funs := trivial, frf := fun b z => absurd (show b ∈ ([] : List Addr) from z) (by simp), hok := okH, bare := .of_eq gens }
  refine codeAny_mono ((promise _ kinB (nsH glo)).go (us := [.ref a]) rfl room env (binds sh (.ref a)) (show Vals [V.ref a] [Value.ref a] from .cons rfl .nil) (show sp [.ref a] H _ _ from given H onlyH seqH)) ?_
  rintro (e | fl) s2 done
  · exact (noExc H e s2 done).elim
  match fl, done with
  | .ret u, ⟨v, H2, os, bare, un, ok2, rv, q⟩ =>
    obtain rfl : v = .bl true := q
    obtain rfl : u = Value.bool true := rv
    refine ⟨rfl, OldK.of_keep fun b o e => ?_, os, bare⟩
    cases q : H b with
    | none => exact un.keep b o e q (fun z => absurd (show b ∈ ([] : List Addr) from z) (by simp)) (by simp)
    | some u =>
      obtain ⟨rfl, _, rfl⟩ := scrH_some q
      obtain ⟨e2, _⟩ := ok2 b _ (un.frzs b ob _ q)
      rw [obj] at e
      cases e
      exact e2
theorem walk {l : PySem.W.OpenLaw} {q : Program} {loose : List Str} {XP : (Str → Option Value) → Heap → Prop} {YP : World → Heap → Prop} {d : DefRec} {K : Params → Fg} {E : Eng} {fi : FnI} {x : Str} {k iLaw : Nat}
    (hn : l.most = some 63) (hdf : d.params.defaults = [])
    (hr : Room (k + 1) callerA) (hfi : E.fns[iLaw]? = some fi) (hnp : fi.np = 1) (hm : fi.mask = [false])
    (hlaw : ∀ ns : List Int, ns.length ≤ 63 → (∀ z ∈ ns, Builtin.Int.intBits z ≤ 1048576) → callF E (k + 1) iLaw [.scr (ns.map PV.int)] = .ok (.bl true) false [])
    (hY : ∀ (w : World) (h : Heap), YP w h → (K w.params).In h)
    (F : ∀ (w : World) (mg : Str → Option Value) (fa : Addr) (h : Heap), (K w.params).In h → h.Ns mainGlobals mg → mg d.name = some (.ref fa) → PF E (K w.params) mg ∧ LawX E (K w.params) mg fi x fa) :
    PySem.W.WalkO q loose XP YP l.row.toRowW d [] (fun f vs => PySem.call f vs) := by
  refine Att.attach_callB hn hdf fun w s₀ s₁ mg mb fa o pm cd doc a vs ns G Y ho hd hcd hmg hobj hints hlen hbits hg => ?_
  have kin := hY w _ Y
  obtain ⟨top, L⟩ := F w mg fa _ kin G.T.g hmg
  obtain ⟨qual, params, body, scope, N, fd, D, S, hN, mt, hb⟩ := L.ex
  refine law_enter (CXx := L2.CX l.prog w) kin G.T.g G.T.b G.T.builtins G.T.nolimit hg hobj hints (Nat.le_trans hlen (by decide)) hr (sp := spF E (callF E (k + 1)) mg (K w.params) fi iLaw) (fun base X1 G1 => fn_core top hfi (fn_all top k) D S hN (by rw [hnp]; rfl) mt) hb (fun H hO hS => ?_) fun H e s' h => ?_
  · refine ⟨H, [.scr (ns.map PV.int)], [], fun _ _ h => h, by rw [hnp]; rfl, ?_, .nil, ?_⟩
    · rw [hm]
      exact ⟨.scr hS (rpL_ints ns), trivial⟩
    · rw [hlaw ns hlen hbits]
      intro v Z' H' _ r
      have r' : Rp (K w.params) Z' (.bl true) v := r
      cases r'
      rfl
  · obtain ⟨a, B, H', cls, dd, _, _, _, _, _, _, _, h⟩ := h
    exact h
end Eng

namespace Eng
open PySem PySem.Spec L2
open PyProof.Rows hiding St
def AllF {α : Type} (P : α → Prop) : List α → Prop
  | [] => True
  | a :: l => P a ∧ AllF P l
theorem all_ix {α : Type} {P : α → Prop} : ∀ {l : List α}, AllF P l → ∀ (i : Nat) (a : α), l[i]? = some a → P a
  | [], _, i, a, e => by simp at e
  | b :: l, h, 0, a, e => by cases e; exact h.1
  | b :: l, h, i + 1, a, e => all_ix h.2 i a (by simpa using e)
theorem all_mem {α : Type} {P : α → Prop} : ∀ {l : List α}, AllF P l → ∀ a ∈ l, P a
  | [], _, a, e => by cases e
  | b :: l, h, a, e => by
    rcases List.mem_cons.mp e with rfl | e
    · exact h.1
    · exact all_mem h.2 a e
theorem all_look {P : Str → PV → Prop} : ∀ {l : List (Str × PV)}, AllF (fun q => P q.1 q.2) l → ∀ x p, l.lookup x = some p → P x p
  | [], _, _, _, e => by cases e
  | (y, b) :: l, h, x, p, e => by
    rw [List.lookup_cons] at e
    cases c : (x == y) with
    | true =>
      rw [c] at e
      cases e
      rw [eq_of_beq c]
      exact h.1
    | false =>
      rw [c] at e
      exact all_look h.2 x p e
def AllI {α : Type} (P : Nat → α → Prop) : Nat → List α → Prop
  | _, [] => True
  | n, a :: l => P n a ∧ AllI P (n + 1) l
theorem allI_get {α : Type} {P : Nat → α → Prop} : ∀ {l : List α} {n : Nat}, AllI P n l → ∀ (i : Nat) (a : α), l[i]? = some a → P (n + i) a
  | [], _, _, i, a, e => by simp at e
  | b :: l, n, h, 0, a, e => by cases e; exact h.1
  | b :: l, n, h, i + 1, a, e => by
    have := allI_get h.2 i a (by simpa using e)
    rwa [show n + 1 + i = n + (i + 1) by omega] at this
/-- the classes' addresses -/
def Adr (mg : Str → Option Value) : List Str → List Addr → Prop
  | [], [] => True
  | c :: l, a :: as => mg c = some (.ref a) ∧ Adr mg l as
  | _, _ => False
theorem adr_get {mg : Str → Option Value} : ∀ {l : List Str} {as : List Addr}, Adr mg l as → ∀ (i : Nat) (c : Str), l[i]? = some c → ∃ a, as[i]? = some a ∧ mg c = some (.ref a)
  | [], [], _, i, c, e => by simp at e
  | [], _ :: _, h, _, _, _ => h.elim
  | _ :: _, [], h, _, _, _ => h.elim
  | b :: l, a :: as, h, 0, c, e => by cases e; exact ⟨a, rfl, h.1⟩
  | b :: l, a :: as, h, i + 1, c, e => by
    obtain ⟨x, h1, h2⟩ := adr_get h.2 i c (by simpa using e)
    exact ⟨x, by simpa using h1, h2⟩
theorem sb_mk {mg : Str → Option Value} {K : Fg} {sub : Nat → Nat → Bool} {l : List Str} {As : List Addr} (ha : Adr mg l As) (h : AllI (fun j D => AllI (fun i C => PySem.W.exmOne K (.ref C) (.ref D) = some (sub i j)) 0 As) 0 As) :
    ∀ (c d : Nat) (nc nd : Str) (C D : Addr), l[c]? = some nc → l[d]? = some nd → mg nc = some (.ref C) → mg nd = some (.ref D) → PySem.W.exmOne K (.ref C) (.ref D) = some (sub c d) := by
  intro c d nc nd C D ec ed mc md
  obtain ⟨C', e1, m1⟩ := adr_get ha c nc ec
  obtain ⟨D', e2, m2⟩ := adr_get ha d nd ed
  rw [mc] at m1; cases m1
  rw [md] at m2; cases m2
  have := allI_get (allI_get h d D e2) c C e1
  rwa [Nat.zero_add, Nat.zero_add] at this
/-- a global that is a tuple -/
theorem gb_tup {K : Fg} {Z : Hp} {a : Addr} {o : Obj} {its : Array Value} {n : Nat} {ps : List PV} {vs : List V} (h : K.lookup a = some o) (hc : o.cls = .type "tuple") (ht : o.data = .seq its n) (hz : its.size ≤ sizeLine) (hv : Vals vs its.toList) (r : RpL K Z ps vs) : Rp K Z (.tup ps) (.ref a) :=
  .tup (.inr ⟨o, its, n, h, hc, ht, hz, hv⟩) r
end Eng

set_option maxHeartbeats 4000000
namespace Eng
open PySem PySem.Spec L2
open PyProof.Rows hiding St

/-! ### the head: all facts by one run -/
/-- one def of the text: its data, its statement, its names, its parameters -/
structure DX where
  fi : FnI
  st : Stmt
  N : List Str
  ps : List Str
def dvP : PV → He.Dv
  | .bl b => .bl b
  | .int i => .int i
  | .str s => .str s
  | _ => .non
def DX.d (x : DX) : He.DefD := ⟨(x.fi.name, none), x.fi.name, x.fi.name, defArgs x.st, defBody x.st, defScope x.st, x.fi.dfl.map dvP, []⟩
theorem dvP_ok {K : Fg} {Z : Hp} : ∀ {p : PV}, flatP p = true → Rp K Z p ((dvP p).v K)
  | .non, _ => .non
  | .bl b, _ => .bl b
  | .int i, _ => .int i
  | .str s, _ => .str s
  | .tup _, h => by cases h
  | .lst _, h => by cases h
  | .dct _, h => by cases h
  | .set _, h => by cases h
  | .scr _, h => by cases h
theorem dvPs_ok {K : Fg} {Z : Hp} : ∀ {l : List PV}, l.all flatP = true → RpL K Z l ((l.map dvP).map (He.Dv.v K))
  | [], _ => .nil
  | p :: l, h => by
    obtain ⟨h1, h2⟩ := He.ba (show (flatP p && l.all flatP) = true from by simpa using h)
    exact .cons (dvP_ok h1) (dvPs_ok h2)
mutual
/-- a written value -/
def gvB (K : Fg) : PV → Value → Bool
  | .non, .none => true
  | .bl b, .bool c => b == c
  | .int i, .int j _ => decide (i = j)
  | .str s, .str t _ => decide (s = t)
  | .tup l, .ref a => (match K.lookup a with
    | some ⟨.type c, _, .seq its _, _⟩ => decide (c = "tuple") && (decide (its.size ≤ sizeLine) && gvL K l its.toList)
    | _ => false)
  | _, _ => false
def gvL (K : Fg) : List PV → List Value → Bool
  | [], [] => true
  | p :: ps, u :: us => gvB K p u && gvL K ps us
  | _, _ => false
end
mutual
theorem gv_ok {K : Fg} : ∀ {p : PV} {u : Value}, gvB K p u = true → ∃ v, RelV v u ∧ ∀ Z, Rp K Z p v
  | .non, u, h => by
    cases u <;> first | exact ⟨.non, rfl, fun _ => .non⟩ | (unfold gvB at h; cases h)
  | .bl b, u, h => by
    cases u <;> first | (unfold gvB at h; cases h; done) | skip
    have e := eq_of_beq h
    exact ⟨.bl b, by rw [e]; rfl, fun _ => .bl b⟩
  | .int i, u, h => by
    cases u <;> first | (unfold gvB at h; cases h; done) | skip
    have e := of_decide_eq_true h
    exact ⟨.int i, ⟨_, by rw [e]⟩, fun _ => .int i⟩
  | .str i, u, h => by
    cases u <;> first | (unfold gvB at h; cases h; done) | skip
    have e := of_decide_eq_true h
    exact ⟨.str i, ⟨_, by rw [e]⟩, fun _ => .str i⟩
  | .tup l, u, h => by
    cases u <;> first | (unfold gvB at h; cases h; done) | skip
    rename_i a
    unfold gvB at h
    split at h
    · rename_i c oc its n os hk
      obtain ⟨h1, h2⟩ := He.ba h
      obtain ⟨h3, h4⟩ := He.ba h2
      obtain ⟨vs, h5, h6⟩ := gvL_ok h4
      exact ⟨.ref a, rfl, fun Z => .tup (.inr ⟨_, its, _, hk, congrArg Value.type (of_decide_eq_true h1), rfl, of_decide_eq_true h3, h5⟩) (h6 Z)⟩
    · cases h
  | .lst _, u, h => by unfold gvB at h; cases h
  | .dct _, u, h => by unfold gvB at h; cases h
  | .set _, u, h => by unfold gvB at h; cases h
  | .scr _, u, h => by unfold gvB at h; cases h
theorem gvL_ok {K : Fg} : ∀ {ps : List PV} {us : List Value}, gvL K ps us = true → ∃ vs, Vals vs us ∧ ∀ Z, RpL K Z ps vs
  | [], [], _ => ⟨[], .nil, fun _ => .nil⟩
  | [], _ :: _, h => by unfold gvL at h; cases h
  | _ :: _, [], h => by unfold gvL at h; cases h
  | p :: ps, u :: us, h => by
    unfold gvL at h
    obtain ⟨h1, h2⟩ := He.ba h
    obtain ⟨v, h3, h4⟩ := gv_ok h1
    obtain ⟨vs, h5, h6⟩ := gvL_ok h2
    exact ⟨v :: vs, .cons h3 h5, fun Z => .cons (h4 Z) (h6 Z)⟩
end
/-- what a name stands for -/
def nmB (K : Fg) (x : Str) (o : Option Value) : Bool := decide (PySem.W.nsIn K mainGlobals x = some o)
theorem nmB_ok {K : Fg} {x : Str} {o : Option Value} (h : nmB K x o = true) : PySem.W.nsIn K mainGlobals x = some o := of_decide_eq_true h
def blB (K : Fg) (b : Blt) : Bool := nmB K (bltN b) (if bltG b = true then some (bltV b) else none)
def tyB (K : Fg) (t : String) : Bool := nmB K (Str.ofString t) none && (decide (bootBuiltins (Str.ofString t) = some (.type t)) && nmB K "isinstance" none)
def glbB (K : Fg) (q : Str × PV) : Bool := match PySem.W.nsIn K mainGlobals q.1 with
  | some (some u) => gvB K q.2 u
  | _ => false
def clB (K : Fg) (c : Str) : Bool := nmB K c (some (.ref (He.ga K c))) && (PySem.W.excIn K (He.ga K c) HandSPX.veTail "ValueError.__new__" && (PySem.W.keepIn K (.ref (He.ga K c)) && (decide (PySem.W.subIn K (.ref (He.ga K c)) (.type "BaseException") = some true) && decide (PySem.W.typeIn K (.ref (He.ga K c)) = some (.type "type")))))
def sbB (K : Fg) (sub : Nat → Nat → Bool) (cl : List Str) : Bool := (List.range cl.length).all fun i => (List.range cl.length).all fun j => decide (PySem.W.exmOne K (.ref (He.ga K (cl.getD i ""))) (.ref (He.ga K (cl.getD j ""))) = some (sub i j))
def allX (E : Eng) (K : Fg) : Bool := (E.fre.all fun x => nmB K x none) && ((E.fns.all fun f => nmB K f.name (some (.ref (He.ga K f.name)))) && ((E.blts.all fun b => blB K b) && ((E.tys.all fun t => tyB K t) && ((E.glb.all fun q => glbB K q) && ((E.cls.all fun c => clB K c) && sbB K E.sub E.cls)))))
def obsX (E : Eng) (fn : List He.DefD) (K : Fg) : He.AlD := (allX E K && fn.all fun d => d.ok K, fn.map fun d => He.fnW K d.at_)
def SaysX (E : Eng) (fn : List He.DefD) (K : Fg) : Prop := obsX E fn K = He.valD fn
def obsXG (n : Nat) (E : Eng) (fn : List He.DefD) (g : Addr → Option Obj) : He.AlD := obsX E fn (He.frG g (He.asD g n))
def hookX (n : Nat) (E : Eng) (fn : List He.DefD) : PySem.W.Hook where
  α := He.AlD
  obs := fun s => obsXG n E fn s.heap.get?
  val := fun _ => He.valD fn
  says := fun _ h => ∃ K : Fg, K.In h ∧ SaysX E fn K
  of := fun _ _ e => ⟨_, He.frG_in, e⟩
  keeps := fun _ _ _ ⟨K, hK, c⟩ k => ⟨K, PySem.W.Frag.In.keeps hK k, c⟩
def obX (n : Nat) (E : Eng) (fn : List He.DefD) (s : PySem.W.SharedT) : He.AlD := obsXG n E fn (HandSHeadRun.getT s)
theorem obX_eq (n : Nat) (E : Eng) (fn : List He.DefD) (s : PySem.W.SharedT) : obX n E fn s = (hookX n E fn).obs s.abs := by
  have e : HandSHeadRun.getT s = s.abs.heap.get? := funext (HandSHeadRun.getT_eq s)
  unfold obX
  rw [e] <;> rfl
section
variable {E : Eng} {fn : List He.DefD} {K : Fg}
theorem SaysX.all (c : SaysX E fn K) : allX E K = true := (He.ba (show (allX E K && fn.all fun d => d.ok K) = true from congrArg (fun z : He.AlD => z.1) c)).1
theorem SaysX.def_ (c : SaysX E fn K) {i : Nat} {d : He.DefD} (h : fn[i]? = some d) : ∃ fd, FunD K d.name d.qual d.params d.body d.scope (d.dvs K) (d.kws K) (He.fAd K d.at_) fd := by
  have c2 := (He.ba (show (allX E K && fn.all fun d => d.ok K) = true from congrArg (fun z : He.AlD => z.1) c)).2
  have e : fn.map (fun d => He.fnW K d.at_) = fn.map He.DefD.val := congrArg (fun z : He.AlD => z.2) c
  have e2 : (fn.map fun d => He.fnW K d.at_)[i]? = (fn.map He.DefD.val)[i]? := by rw [e]
  rw [List.getElem?_map, List.getElem?_map, h] at e2
  exact He.DefD.funD (Option.some.inj e2) (List.all_eq_true.mp c2 d (List.mem_of_getElem? h))
end
/-- how the parameters are bound -/
def DX.B0 (x : DX) : Prop := ∀ (kV doc pm : Value) (an : Option Addr) (cdv ct : Value) (us : List Value), us.length = x.ps.length → bindArgs (PySem.W.fnOf x.fi.name x.fi.name (defArgs x.st) (defBody x.st) (defScope x.st) .none kV doc pm an cdv ct) ⟨us, []⟩ = pure (x.ps.zip us)
def DX.B1 (x : DX) : Prop := ∀ (T : Addr) (kV doc pm : Value) (an : Option Addr) (cdv ct : Value) (us its : List Value), us.length = x.ps.length → its.length = x.fi.dfl.length →
      ∃ k, bindArgs (PySem.W.fnOf x.fi.name x.fi.name (defArgs x.st) (defBody x.st) (defScope x.st) (.ref T) kV doc pm an cdv ct) ⟨us, []⟩ = seqItems? (.ref T) >>= k ∧ k (some its.toArray) = pure (x.ps.zip us)
def DX.B2 (x : DX) (n : Nat) : Prop := n + x.fi.dfl.length = x.ps.length ∧ ∀ (T : Addr) (kV doc pm : Value) (an : Option Addr) (cdv ct : Value) (us its : List Value), us.length = n → its.length = x.fi.dfl.length →
      ∃ k, bindArgs (PySem.W.fnOf x.fi.name x.fi.name (defArgs x.st) (defBody x.st) (defScope x.st) (.ref T) kV doc pm an cdv ct) ⟨us, []⟩ = seqItems? (.ref T) >>= k ∧ k (some its.toArray) = pure (x.ps.zip (us ++ its))
/-- one def fits its text -/
structure DX.Ok (E : Eng) (x : DX) : Prop where
  sc : FnScope x.N x.ps (defScope x.st)
  hN : x.N.length = x.fi.nsl
  hp : x.ps.length = x.fi.np
  mt : mtSs E ⟨x.N, defScope x.st, defScope x.st⟩ x.fi.body (defBody x.st) = true
  fl : x.fi.dfl.all flatP = true
  b : (x.fi.dfl = [] ∧ x.B0) ∨ (x.fi.dfl ≠ [] ∧ x.B1 ∧ ∃ n, x.B2 n)
theorem fa_at {K : Fg} {x : Str} : He.fAd K (x, none) = He.ga K x := rfl
theorem DX.fnF {E : Eng} {K : Fg} {mg : Str → Option Value} {x : DX} {fd : FuncData} (O : x.Ok E) (D : FunD K x.d.name x.d.qual x.d.params x.d.body x.d.scope (x.d.dvs K) (x.d.kws K) (He.fAd K x.d.at_) fd) (m : mg x.fi.name = some (.ref (He.ga K x.fi.name))) : FnF E K mg x.fi := by
  have hl : (x.d.dvs K).length = x.fi.dfl.length := by
    show ((x.fi.dfl.map dvP).map (He.Dv.v K)).length = _
    rw [List.length_map, List.length_map]
  rcases O.b with ⟨h0, hb⟩ | ⟨h0, hb1, n, hn, hb2⟩
  · have e : x.d.dvs K = [] := List.length_eq_zero_iff.mp (by rw [hl, h0] <;> rfl)
    rw [e] at D
    exact fnF_mk D m O.sc O.hN O.hp O.mt h0 hb
  · refine fnF_mkD (dvs := x.d.dvs K) n D m O.sc O.hN O.hp O.mt (fun Z => dvPs_ok O.fl) (fun z => h0 (List.length_eq_zero_iff.mp (by rw [← hl, z] <;> rfl))) (by rw [hl]; exact hn) (fun T kV doc pm an cdv ct us its h1 h2 => hb1 T kV doc pm an cdv ct us its h1 (by rw [h2, hl])) (fun T kV doc pm an cdv ct us its h1 h2 => hb2 T kV doc pm an cdv ct us its h1 (by rw [h2, hl]))
theorem glb_all {K : Fg} : ∀ {l : List (Str × PV)}, (l.all fun q => glbB K q) = true → ∀ x p, l.lookup x = some p → glbB K (x, p) = true
  | [], _, _, _, e => by cases e
  | (y, b) :: l, h, x, p, e => by
    obtain ⟨h1, h2⟩ := He.ba (show (glbB K (y, b) && l.all fun q => glbB K q) = true from by simpa using h)
    rw [List.lookup_cons] at e
    cases c : (x == y) with
    | true =>
      rw [c] at e
      cases e
      rw [eq_of_beq c]
      exact h1
    | false =>
      rw [c] at e
      exact glb_all h2 x p e
theorem pf_mk {E : Eng} {dx : List DX} {K : Fg} {h : Heap} {mg : Str → Option Value} (X : K.In h) (G : h.Ns mainGlobals mg) (c : SaysX E (dx.map DX.d) K) (hf : E.fns = dx.map DX.fi) (O : AllF (DX.Ok E) dx) : PF E K mg := by
  have A := c.all
  obtain ⟨a1, A⟩ := He.ba A
  obtain ⟨a2, A⟩ := He.ba A
  obtain ⟨a3, A⟩ := He.ba A
  obtain ⟨a4, A⟩ := He.ba A
  obtain ⟨a5, A⟩ := He.ba A
  obtain ⟨a6, a7⟩ := He.ba A
  have cls : ∀ (i : Nat) (nm : Str), E.cls[i]? = some nm → clB K nm = true := fun i nm e => List.all_eq_true.mp a6 nm (List.mem_of_getElem? e)
  have cg : ∀ (i : Nat) (nm : Str), E.cls[i]? = some nm → mg nm = some (.ref (He.ga K nm)) := fun i nm e => PySem.W.mg_of X G (nmB_ok (He.ba (cls i nm e)).1)
  refine ⟨fun x hx => PySem.W.mg_none_of X G (nmB_ok (List.all_eq_true.mp a1 x hx)), fun f fi e => ?_, fun b hb => ?_, fun t ht => ?_, fun x p e => ?_, fun i nm e => ?_, fun i j nc nd C D ec ed mc md => ?_⟩
  · have m : mg fi.name = some (.ref (He.ga K fi.name)) := PySem.W.mg_of X G (nmB_ok (List.all_eq_true.mp a2 fi (List.mem_of_getElem? e)))
    rw [hf, List.getElem?_map] at e
    cases q : dx[f]? with
    | none => rw [q] at e; cases e
    | some x =>
      rw [q] at e
      cases e
      obtain ⟨fd, D⟩ := c.def_ (i := f) (d := x.d) (by rw [List.getElem?_map, q] <;> rfl)
      exact DX.fnF (all_ix O f x q) D m
  · have e := nmB_ok (List.all_eq_true.mp a3 b hb)
    split
    · rename_i z
      rw [if_pos z] at e
      exact PySem.W.mg_of X G e
    · rename_i z
      rw [if_neg z] at e
      exact PySem.W.mg_none_of X G e
  · obtain ⟨t1, t2⟩ := He.ba (List.all_eq_true.mp a4 t ht)
    obtain ⟨t2, t3⟩ := He.ba t2
    exact ⟨PySem.W.mg_none_of X G (nmB_ok t1), of_decide_eq_true t2, PySem.W.mg_none_of X G (nmB_ok t3)⟩
  · have g := glb_all a5 x p e
    unfold glbB at g
    split at g
    · rename_i u hu
      obtain ⟨v, h1, h2⟩ := gv_ok g
      exact ⟨u, v, PySem.W.mg_of X G hu, h1, h2⟩
    · cases g
  · obtain ⟨c1, z⟩ := He.ba (cls i nm e)
    obtain ⟨c2, z⟩ := He.ba z
    obtain ⟨c3, z⟩ := He.ba z
    obtain ⟨c4, c5⟩ := He.ba z
    exact ⟨_, PySem.W.mg_of X G (nmB_ok c1), c2, c3, of_decide_eq_true c4, of_decide_eq_true c5⟩
  · rw [cg i nc ec] at mc
    rw [cg j nd ed] at md
    cases mc
    cases md
    have li : i < E.cls.length := (List.getElem?_eq_some_iff.mp ec).1
    have lj : j < E.cls.length := (List.getElem?_eq_some_iff.mp ed).1
    have z := List.all_eq_true.mp (List.all_eq_true.mp a7 i (List.mem_range.mpr li)) j (List.mem_range.mpr lj)
    have z := of_decide_eq_true z
    rw [List.getD_eq_getElem?_getD, List.getD_eq_getElem?_getD, ec, ed] at z
    exact z
theorem lawX_of {E : Eng} {dx : List DX} {K : Fg} {h : Heap} {mg : Str → Option Value} {il : Nat} {x : DX} {s : Str} (c : SaysX E (dx.map DX.d) K) (hx : dx[il]? = some x) (O : AllF (DX.Ok E) dx) (hp : x.ps = [s]) (hd : x.fi.dfl = []) : LawX E K mg x.fi s (He.ga K x.fi.name) := by
  obtain ⟨fd, D⟩ := c.def_ (i := il) (d := x.d) (by rw [List.getElem?_map, hx] <;> rfl)
  have O := all_ix O il x hx
  have hl : (x.d.dvs K).length = x.fi.dfl.length := by
    show ((x.fi.dfl.map dvP).map (He.Dv.v K)).length = _
    rw [List.length_map, List.length_map]
  have e : x.d.dvs K = [] := List.length_eq_zero_iff.mp (by rw [hl, hd] <;> rfl)
  rw [e] at D
  rcases O.b with ⟨_, hb⟩ | ⟨h0, _⟩
  · have S := O.sc
    rw [hp] at S
    have hb' := hb
    unfold DX.B0 at hb'
    rw [hp] at hb'
    exact ⟨_, _, _, _, _, fd, D, S, O.hN, O.mt, fun s' u => D.bindsA (ps := [s]) hb' s' [u] rfl⟩
  · exact absurd hd h0
theorem walkX {l : PySem.W.OpenLaw} {q : Program} {loose : List Str} {XP : (Str → Option Value) → Heap → Prop} {n : Nat} {d : DefRec} {E : Eng} {dx : List DX} {x : DX} {s : Str} {k iLaw : Nat}
    (hn : l.most = some 63) (hdf : d.params.defaults = []) (hd : d.name = x.fi.name)
    (hr : Room (k + 1) callerA) (hx : dx[iLaw]? = some x) (hf : E.fns = dx.map DX.fi) (hnp : x.fi.np = 1) (hm : x.fi.mask = [false]) (hps : x.ps = [s]) (hdl : x.fi.dfl = [])
    (hlaw : ∀ ns : List Int, ns.length ≤ 63 → (∀ z ∈ ns, Builtin.Int.intBits z ≤ 1048576) → callF E (k + 1) iLaw [.scr (ns.map PV.int)] = .ok (.bl true) false [])
    (O : AllF (DX.Ok E) dx) :
    PySem.W.WalkO q loose XP (hookX n E (dx.map DX.d)).says l.row.toRowW d [] (fun f vs => PySem.call f vs) := by
  refine Att.attach_callB hn hdf fun w s₀ s₁ mg mb fa o pm cd doc a vs ns G Y ho hd' hcd hmg hobj hints hlen hbits hg => ?_
  obtain ⟨K, kin, c⟩ := Y
  have top := pf_mk kin G.T.g c hf O
  have L := lawX_of (h := s₁.heap) (mg := mg) c hx O hps hdl
  have hfi : E.fns[iLaw]? = some x.fi := by rw [hf, List.getElem?_map, hx] <;> rfl
  have mfa : mg x.fi.name = some (.ref (He.ga K x.fi.name)) := by
    have A := c.all
    obtain ⟨a1, A⟩ := He.ba A
    obtain ⟨a2, A⟩ := He.ba A
    exact PySem.W.mg_of kin G.T.g (nmB_ok (List.all_eq_true.mp a2 x.fi (List.mem_of_getElem? hfi)))
  have efa : fa = He.ga K x.fi.name := by
    rw [hd, mfa] at hmg
    cases hmg
    rfl
  subst efa
  obtain ⟨qual, params, body, scope, N, fd, D, S, hN, mt, hb⟩ := L.ex
  refine law_enter (CXx := L2.CX l.prog w) kin G.T.g G.T.b G.T.builtins G.T.nolimit hg hobj hints (Nat.le_trans hlen (by decide)) hr (sp := spF E (callF E (k + 1)) mg K x.fi iLaw) (fun base X1 G1 => fn_core top hfi (fn_all top k) D S hN (by rw [hnp]; rfl) mt) hb (fun H hO hS => ?_) fun H e s' h => ?_
  · refine ⟨H, [.scr (ns.map PV.int)], [], fun _ _ h => h, by rw [hnp]; rfl, ?_, .nil, ?_⟩
    · rw [hm]
      exact ⟨.scr hS (rpL_ints ns), trivial⟩
    · rw [hlaw ns hlen hbits]
      intro v Z' H' _ r
      have r' : Rp K Z' (.bl true) v := r
      cases r'
      rfl
  · obtain ⟨a, B, H', cls, dd, _, _, _, _, _, _, _, h⟩ := h
    exact h
end Eng

namespace Rt
/-- the number that is divided by -/
def cm (a b : Int) : Int := if b < 0 then -(Int.gcd a b : Int) else (Int.gcd a b : Int)
def rN (a b : Int) : Int := a.fdiv (cm a b)
def rD (a b : Int) : Int := b.fdiv (cm a b)
structure IsR (p q : Int) : Prop where
  pos : 1 ≤ q
  co : Int.gcd p q = 1
theorem cm_ne {a b : Int} (h : b ≠ 0) : cm a b ≠ 0 := by
  have : (Int.gcd a b : Int) ≠ 0 := by
    have := Int.gcd_pos_of_ne_zero_right a h
    omega
  unfold cm
  split <;> omega
theorem cm_dvdN (a b : Int) : cm a b ∣ a := by
  unfold cm
  split
  · exact Int.neg_dvd.mpr (Int.gcd_dvd_left ..)
  · exact Int.gcd_dvd_left ..
theorem cm_dvdD (a b : Int) : cm a b ∣ b := by
  unfold cm
  split
  · exact Int.neg_dvd.mpr (Int.gcd_dvd_right ..)
  · exact Int.gcd_dvd_right ..
theorem mul_fdiv {a c : Int} (h : c ∣ a) (hc : c ≠ 0) : c * a.fdiv c = a := by
  obtain ⟨k, rfl⟩ := h
  rw [Int.mul_fdiv_cancel_left _ hc]
theorem rN_mul {a b : Int} (h : b ≠ 0) : cm a b * rN a b = a := mul_fdiv (cm_dvdN a b) (cm_ne h)
theorem rD_mul {a b : Int} (h : b ≠ 0) : cm a b * rD a b = b := mul_fdiv (cm_dvdD a b) (cm_ne h)
theorem r_eq {a b : Int} (h : b ≠ 0) : rN a b * b = a * rD a b := by
  have h1 := rN_mul (a := a) h
  have h2 := rD_mul (a := a) h
  generalize rN a b = p at *
  generalize rD a b = q at *
  generalize cm a b = c at *
  subst h2
  rw [← h1]
  grind
theorem r_is {a b : Int} (h : b ≠ 0) : IsR (rN a b) (rD a b) := by
  have h1 := rN_mul (a := a) h
  have h2 := rD_mul (a := a) h
  have hg : (cm a b).natAbs = Int.gcd a b := by unfold cm; split <;> simp
  have hg0 : 0 < Int.gcd a b := Int.gcd_pos_of_ne_zero_right a h
  have hs : (cm a b < 0) ↔ b < 0 := by unfold cm; split <;> omega
  have hc := cm_ne (a := a) h
  generalize rN a b = p at *
  generalize rD a b = q at *
  generalize hcm : cm a b = c at *
  constructor
  · rcases Int.lt_or_lt_of_ne hc with hn | hp
    · have hb : b < 0 := hs.mp hn
      rcases Int.lt_or_le q 1 with z | z
      · have : 0 ≤ c * q := Int.mul_nonneg_of_nonpos_of_nonpos (by omega) (by omega)
        omega
      · exact z
    · have hb : ¬ b < 0 := fun z => by have := hs.mpr z; omega
      rcases Int.lt_or_le q 1 with z | z
      · have : c * q ≤ 0 := Int.mul_nonpos_of_nonneg_of_nonpos (by omega) (by omega)
        have : c * q ≠ 0 := by rw [h2]; exact h
        omega
      · exact z
  · have e : Int.gcd (c * p) (c * q) = c.natAbs * Int.gcd p q := Int.gcd_mul_left c p q
    rw [h1, h2, hg] at e
    have : Int.gcd a b * 1 = Int.gcd a b * Int.gcd p q := by omega
    exact (Nat.eq_of_mul_eq_mul_left hg0 this).symm
theorem dvd_co {k m n : Int} (h : k ∣ m * n) (c : Int.gcd m k = 1) : k ∣ n := by
  have h' := Int.natAbs_dvd_natAbs.mpr h
  rw [Int.natAbs_mul] at h'
  have c' : Nat.Coprime k.natAbs m.natAbs := by
    show Nat.gcd k.natAbs m.natAbs = 1
    rw [Nat.gcd_comm]
    exact c
  exact Int.natAbs_dvd_natAbs.mp (c'.dvd_of_dvd_mul_left h')
theorem uniq {p q p' q' : Int} (h : IsR p q) (h' : IsR p' q') (e : p * q' = p' * q) : p = p' ∧ q = q' := by
  have d1 : q ∣ q' := by
    have : q ∣ p * q' := ⟨p', by rw [e]; exact Int.mul_comm ..⟩
    exact dvd_co this h.co
  have d2 : q' ∣ q := by
    have : q' ∣ p' * q := ⟨p, by rw [← e]; exact Int.mul_comm ..⟩
    exact dvd_co this h'.co
  have e2 : q = q' := Int.dvd_antisymm (by have := h.pos; omega) (by have := h'.pos; omega) d1 d2
  subst e2
  exact ⟨Int.eq_of_mul_eq_mul_right (by have := h.pos; omega) e, rfl⟩
theorem dv_le {a c : Int} (h : c ∣ a) (hc : c ≠ 0) : (a.fdiv c).natAbs ≤ a.natAbs := by
  have e := mul_fdiv h hc
  have : a.natAbs = c.natAbs * (a.fdiv c).natAbs := by rw [← Int.natAbs_mul, e]
  rw [this]
  exact Nat.le_mul_of_pos_left _ (by omega)
theorem rN_le {a b : Int} (h : b ≠ 0) : (rN a b).natAbs ≤ a.natAbs := dv_le (cm_dvdN a b) (cm_ne h)
theorem rD_le {a b : Int} (h : b ≠ 0) : (rD a b).natAbs ≤ b.natAbs := dv_le (cm_dvdD a b) (cm_ne h)
theorem r_self {p q : Int} (h : IsR p q) : rN p q = p ∧ rD p q = q := by
  have h0 : q ≠ 0 := by have := h.pos; omega
  exact uniq (r_is h0) h (r_eq h0)
theorem r_id {a b p q : Int} (hb : b ≠ 0) (h : IsR p q) (e : a * q = p * b) : rN a b = p ∧ rD a b = q := by
  refine uniq (r_is hb) h ?_
  have := r_eq (a := a) hb
  refine Int.eq_of_mul_eq_mul_right hb ?_
  grind
/-- a small number -/
def Sm (n : Nat) (i : Int) : Prop := i.natAbs < 2 ^ n
theorem Sm.mul {n m : Nat} {i j : Int} (h : Sm n i) (h' : Sm m j) : Sm (n + m) (i * j) := by
  unfold Sm at *
  rw [Int.natAbs_mul, Nat.pow_add]
  exact Nat.mul_lt_mul'' h h'
theorem Sm.le {n m : Nat} {i : Int} (h : Sm n i) (e : n ≤ m) : Sm m i := Nat.lt_of_lt_of_le h (Nat.pow_le_pow_right (by omega) e)
theorem Sm.add {n : Nat} {i j : Int} (h : Sm n i) (h' : Sm n j) : Sm (n + 1) (i + j) := by
  unfold Sm at *
  rw [Nat.pow_succ]
  omega
theorem Sm.sub {n : Nat} {i j : Int} (h : Sm n i) (h' : Sm n j) : Sm (n + 1) (i - j) := by
  unfold Sm at *
  rw [Nat.pow_succ]
  omega
theorem Sm.neg {n : Nat} {i : Int} (h : Sm n i) : Sm n (-i) := by
  unfold Sm at *
  omega
theorem Sm.log {n : Nat} {i : Int} (h : Sm n i) : i.natAbs.log2 ≤ n := by
  unfold Sm at h
  by_cases z : i.natAbs = 0
  · rw [z]; exact Nat.zero_le _
  · have := (Nat.log2_lt z).mpr h
    omega
theorem mul_ok {n m : Nat} {i j : Int} (h : Sm n i) (h' : Sm m j) (e : n + m < 134217000) : Eng.mulOk i j = true := by
  have := h.log
  have := h'.log
  unfold Eng.mulOk
  rw [decide_eq_true_iff]
  omega
theorem div_ok {i j : Int} (h : Sm 8000 j) : PySem.Builtin.divisionGoesByPylong i j = false := by
  have := h.log
  unfold PySem.Builtin.divisionGoesByPylong
  have : ¬ (if (j == 0) = true then 0 else j.natAbs.log2 / 30 + 1) > 300 := by
    split <;> omega
  simp only [this, decide_false, Bool.false_and]
theorem rN_sm {n : Nat} {a b : Int} (h : b ≠ 0) (s : Sm n a) : Sm n (rN a b) := Nat.lt_of_le_of_lt (rN_le h) s
theorem rD_sm {n : Nat} {a b : Int} (h : b ≠ 0) (s : Sm n b) : Sm n (rD a b) := Nat.lt_of_le_of_lt (rD_le h) s
theorem cm_sm {n : Nat} {a b : Int} (h : b ≠ 0) (s : Sm n b) : Sm n (cm a b) := by
  have : (cm a b).natAbs ≤ b.natAbs := Nat.le_of_dvd (by omega) (Int.natAbs_dvd_natAbs.mpr (cm_dvdD a b))
  exact Nat.lt_of_le_of_lt this s
end Rt

namespace Eng
open PySem PySem.Spec L2 Rt
open PyProof.Rows hiding St
@[simp] theorem size_line : sizeLine = 16777216 := rfl
@[simp] theorem eqp_int (a b : Int) : eqPV (.int a) (.int b) = some (decide (a = b)) := by
  have h : ∀ i : Int, SeqAt.shaped (.int i) = true := fun i => by
    unfold SeqAt.shaped
    simp [PyData.canLay0, PyData.depth]
  show (if SeqAt.shaped (.int a) = true ∧ SeqAt.shaped (.int b) = true then some (PyData.eqv (.int a) (.int b)) else none) = _
  rw [if_pos ⟨h a, h b⟩, PyData.eqv]
  rfl
@[simp] theorem eqp_bl (a b : Bool) : eqPV (.bl a) (.bl b) = some (a == b) := by
  have h : ∀ i : Bool, SeqAt.shaped (.bool i) = true := fun i => by
    unfold SeqAt.shaped
    simp [PyData.canLay0, PyData.depth]
  show (if SeqAt.shaped (.bool a) = true ∧ SeqAt.shaped (.bool b) = true then some (PyData.eqv (.bool a) (.bool b)) else none) = _
  rw [if_pos ⟨h a, h b⟩, PyData.eqv]
@[simp] theorem eqp_int2 (a b c d : Int) : eqPV (.tup [.int a, .int b]) (.tup [.int c, .int d]) = some (decide (a = c) && decide (b = d)) := by
  have h : ∀ i j : Int, SeqAt.shaped (.tuple [.int i, .int j]) = true := fun i j => by
    unfold SeqAt.shaped
    simp [PyData.canLay0, PyData.canLayAll0, PyData.depth, PyData.depthAll]
  show (if SeqAt.shaped (.tuple [.int a, .int b]) = true ∧ SeqAt.shaped (.tuple [.int c, .int d]) = true then some (PyData.eqv (.tuple [.int a, .int b]) (.tuple [.int c, .int d])) else none) = _
  rw [if_pos ⟨h a b, h c d⟩]
  simp only [PyData.eqv, PyData.eqvAll, Bool.and_true]
  rfl
theorem gcd_cm (a b : Int) : ((a.natAbs.gcd b.natAbs : Nat) : Int) = (Int.gcd a b : Int) := rfl

@[simp] theorem isi_non_int : opIsi (.non) "int" = some false := by decide +kernel
@[simp] theorem isi_non_bool : opIsi (.non) "bool" = some false := by decide +kernel
@[simp] theorem isi_non_tuple : opIsi (.non) "tuple" = some false := by decide +kernel
@[simp] theorem isi_non_str : opIsi (.non) "str" = some false := by decide +kernel
@[simp] theorem isi_non_list : opIsi (.non) "list" = some false := by decide +kernel
@[simp] theorem isi_non_dict : opIsi (.non) "dict" = some false := by decide +kernel
@[simp] theorem isi_bl_int (b : Bool) : opIsi (.bl b) "int" = some true := by
  show kitB "bool" "int" = _
  decide +kernel
@[simp] theorem isi_bl_bool (b : Bool) : opIsi (.bl b) "bool" = some true := by
  show kitB "bool" "bool" = _
  decide +kernel
@[simp] theorem isi_bl_tuple (b : Bool) : opIsi (.bl b) "tuple" = some false := by
  show kitB "bool" "tuple" = _
  decide +kernel
@[simp] theorem isi_bl_str (b : Bool) : opIsi (.bl b) "str" = some false := by
  show kitB "bool" "str" = _
  decide +kernel
@[simp] theorem isi_bl_list (b : Bool) : opIsi (.bl b) "list" = some false := by
  show kitB "bool" "list" = _
  decide +kernel
@[simp] theorem isi_bl_dict (b : Bool) : opIsi (.bl b) "dict" = some false := by
  show kitB "bool" "dict" = _
  decide +kernel
@[simp] theorem isi_int_int (b : Int) : opIsi (.int b) "int" = some true := by
  show kitB "int" "int" = _
  decide +kernel
@[simp] theorem isi_int_bool (b : Int) : opIsi (.int b) "bool" = some false := by
  show kitB "int" "bool" = _
  decide +kernel
@[simp] theorem isi_int_tuple (b : Int) : opIsi (.int b) "tuple" = some false := by
  show kitB "int" "tuple" = _
  decide +kernel
@[simp] theorem isi_int_str (b : Int) : opIsi (.int b) "str" = some false := by
  show kitB "int" "str" = _
  decide +kernel
@[simp] theorem isi_int_list (b : Int) : opIsi (.int b) "list" = some false := by
  show kitB "int" "list" = _
  decide +kernel
@[simp] theorem isi_int_dict (b : Int) : opIsi (.int b) "dict" = some false := by
  show kitB "int" "dict" = _
  decide +kernel
@[simp] theorem isi_str_int (b : Str) : opIsi (.str b) "int" = some false := by
  show kitB "str" "int" = _
  decide +kernel
@[simp] theorem isi_str_bool (b : Str) : opIsi (.str b) "bool" = some false := by
  show kitB "str" "bool" = _
  decide +kernel
@[simp] theorem isi_str_tuple (b : Str) : opIsi (.str b) "tuple" = some false := by
  show kitB "str" "tuple" = _
  decide +kernel
@[simp] theorem isi_str_str (b : Str) : opIsi (.str b) "str" = some true := by
  show kitB "str" "str" = _
  decide +kernel
@[simp] theorem isi_str_list (b : Str) : opIsi (.str b) "list" = some false := by
  show kitB "str" "list" = _
  decide +kernel
@[simp] theorem isi_str_dict (b : Str) : opIsi (.str b) "dict" = some false := by
  show kitB "str" "dict" = _
  decide +kernel
@[simp] theorem isi_tup_int (b : List PV) : opIsi (.tup b) "int" = some false := by
  show kitB "tuple" "int" = _
  decide +kernel
@[simp] theorem isi_tup_bool (b : List PV) : opIsi (.tup b) "bool" = some false := by
  show kitB "tuple" "bool" = _
  decide +kernel
@[simp] theorem isi_tup_tuple (b : List PV) : opIsi (.tup b) "tuple" = some true := by
  show kitB "tuple" "tuple" = _
  decide +kernel
@[simp] theorem isi_tup_str (b : List PV) : opIsi (.tup b) "str" = some false := by
  show kitB "tuple" "str" = _
  decide +kernel
@[simp] theorem isi_tup_list (b : List PV) : opIsi (.tup b) "list" = some false := by
  show kitB "tuple" "list" = _
  decide +kernel
@[simp] theorem isi_tup_dict (b : List PV) : opIsi (.tup b) "dict" = some false := by
  show kitB "tuple" "dict" = _
  decide +kernel
@[simp] theorem isi_lst_int (b : List PV) : opIsi (.lst b) "int" = some false := by
  show kitB "list" "int" = _
  decide +kernel
@[simp] theorem isi_lst_bool (b : List PV) : opIsi (.lst b) "bool" = some false := by
  show kitB "list" "bool" = _
  decide +kernel
@[simp] theorem isi_lst_tuple (b : List PV) : opIsi (.lst b) "tuple" = some false := by
  show kitB "list" "tuple" = _
  decide +kernel
@[simp] theorem isi_lst_str (b : List PV) : opIsi (.lst b) "str" = some false := by
  show kitB "list" "str" = _
  decide +kernel
@[simp] theorem isi_lst_list (b : List PV) : opIsi (.lst b) "list" = some true := by
  show kitB "list" "list" = _
  decide +kernel
@[simp] theorem isi_lst_dict (b : List PV) : opIsi (.lst b) "dict" = some false := by
  show kitB "list" "dict" = _
  decide +kernel
@[simp] theorem isi_scr_int (b : List PV) : opIsi (.scr b) "int" = some false := by
  show kitB "list" "int" = _
  decide +kernel
@[simp] theorem isi_scr_bool (b : List PV) : opIsi (.scr b) "bool" = some false := by
  show kitB "list" "bool" = _
  decide +kernel
@[simp] theorem isi_scr_tuple (b : List PV) : opIsi (.scr b) "tuple" = some false := by
  show kitB "list" "tuple" = _
  decide +kernel
@[simp] theorem isi_scr_str (b : List PV) : opIsi (.scr b) "str" = some false := by
  show kitB "list" "str" = _
  decide +kernel
@[simp] theorem isi_scr_list (b : List PV) : opIsi (.scr b) "list" = some true := by
  show kitB "list" "list" = _
  decide +kernel
@[simp] theorem isi_scr_dict (b : List PV) : opIsi (.scr b) "dict" = some false := by
  show kitB "list" "dict" = _
  decide +kernel
theorem call_top {E : Eng} {k f : Nat} {fi : FnI} {ps : List PV} (h : E.fns[f]? = some fi) : callF E (k + 1) f ps = callB E (callF E k) fi ps := by
  show (match E.fns[f]? with | some fi => callB E (callF E k) fi ps | none => .stuck) = _
  rw [h]
theorem atI_n {α : Type} (xs : List α) (j : Nat) : L2.atI xs (j : Int) = xs[j]? := by
  unfold L2.atI L2.ixN
  rw [if_pos (by omega)]
  by_cases h : (j : Int) < (xs.length : Int)
  · rw [if_pos h]; rfl
  · rw [if_neg h]
    show none = xs[j]?
    rw [List.getElem?_eq_none (by omega)]
@[simp] theorem atI_m1 {α : Type} (a : α) (xs : List α) : L2.atI (a :: xs) (-1) = (a :: xs)[xs.length]? := by
  unfold L2.atI L2.ixN
  rw [if_neg (by omega), if_pos (by simp only [List.length_cons]; omega)]
  have : (-1 + ((a :: xs).length : Int)).toNat = xs.length := by simp only [List.length_cons]; omega
  rw [this]; rfl
@[simp] theorem atI_0l {α : Type} (xs : List α) : L2.atI xs 0 = xs[0]? := atI_n xs 0
@[simp] theorem atI_1l {α : Type} (xs : List α) : L2.atI xs 1 = xs[1]? := atI_n xs 1
@[simp] theorem atI_2l {α : Type} (xs : List α) : L2.atI xs 2 = xs[2]? := atI_n xs 2
@[simp] theorem atI_3l {α : Type} (xs : List α) : L2.atI xs 3 = xs[3]? := atI_n xs 3
@[simp] theorem atI_4l {α : Type} (xs : List α) : L2.atI xs 4 = xs[4]? := atI_n xs 4
@[simp] theorem atI_5l {α : Type} (xs : List α) : L2.atI xs 5 = xs[5]? := atI_n xs 5
@[simp] theorem atI_6l {α : Type} (xs : List α) : L2.atI xs 6 = xs[6]? := atI_n xs 6
@[simp] theorem atI_7l {α : Type} (xs : List α) : L2.atI xs 7 = xs[7]? := atI_n xs 7
@[simp] theorem atI_8l {α : Type} (xs : List α) : L2.atI xs 8 = xs[8]? := atI_n xs 8
@[simp] theorem atI_9l {α : Type} (xs : List α) : L2.atI xs 9 = xs[9]? := atI_n xs 9
@[simp] theorem atI_10l {α : Type} (xs : List α) : L2.atI xs 10 = xs[10]? := atI_n xs 10
@[simp] theorem atI_11l {α : Type} (xs : List α) : L2.atI xs 11 = xs[11]? := atI_n xs 11
theorem exL_step {E : Eng} {Φ : Nat → List PV → CO} {s : IS} {l : List IS} {ε ε1 : Sg} (h : exS E Φ s ε = .nx ε1) : exL E Φ (s :: l) ε = exL E Φ l ε1 := by
  rw [exL, h]; rfl
theorem exL_ret {E : Eng} {Φ : Nat → List PV → CO} {s : IS} {l : List IS} {ε ε1 : Sg} {r : Rv} (h : exS E Φ s ε = .rt r ε1) : exL E Φ (s :: l) ε = .rt r ε1 := by
  rw [exL, h]; rfl
theorem stays_refl (r : Rv) (ε : Sg) : stays r ε ε = true := by
  cases r <;> simp [stays]
theorem cmp_map {own : List Nat} {r : Rv} {turn : PV → Sg → Out (Option PV)} {f : PV → PV} {ε : Sg} : ∀ {ps acc : List PV}, (∀ p ∈ ps, ∃ ε1, turn p ε = .ok (some (f p)) ε1 ∧ wipeS ε1 own = some ε) → acc.length + ps.length ≤ sizeLine →
    cmpI own r turn ps acc ε = .ok (acc ++ ps.map f) ε
  | [], acc, _, _ => by simp [cmpI]
  | p :: ps, acc, h, hl => by
    obtain ⟨ε1, h1, h2⟩ := h p List.mem_cons_self
    rw [List.length_cons] at hl
    rw [cmpI, h1]
    simp only [h2, stays_refl, if_true]
    rw [if_pos (by omega), cmp_map (fun q hq => h q (List.mem_cons_of_mem _ hq)) (by rw [List.length_append, List.length_singleton]; omega)]
    simp
theorem cut_mem {l : List PV} {lo hi : Option Int} {p : PV} (h : p ∈ cutP l lo hi) : p ∈ l := List.mem_of_mem_drop (List.mem_of_mem_take h)
theorem cut_len (l : List PV) (lo hi : Option Int) : (cutP l lo hi).length ≤ l.length := by
  unfold cutP
  rw [List.length_take, List.length_drop]
  omega
theorem sm_iff {n : Nat} {i : Int} (h1 : -(2 ^ n : Nat) < i) (h2 : i < (2 ^ n : Nat)) : Sm n i := by
  unfold Sm; omega
/-- the statements end by handing v back -/
def Ret (E : Eng) (Φ : Nat → List PV → CO) (l : List IS) (ε : Sg) (v : Rv) : Prop := ∃ ε', exL E Φ l ε = .rt v ε'
theorem Ret.step {E : Eng} {Φ : Nat → List PV → CO} {s : IS} {l : List IS} {ε : Sg} {v : Rv} (ε1 : Sg) (h : exS E Φ s ε = .nx ε1) (k : Ret E Φ l ε1 v) : Ret E Φ (s :: l) ε v := by
  obtain ⟨ε', k⟩ := k
  exact ⟨ε', (exL_step h).trans k⟩
theorem Ret.now {E : Eng} {Φ : Nat → List PV → CO} {s : IS} {l : List IS} {ε : Sg} {v : Rv} (ε1 : Sg) (h : exS E Φ s ε = .rt v ε1) : Ret E Φ (s :: l) ε v := ⟨ε1, exL_ret h⟩
/-- one turn of a comprehension -/
@[simp] noncomputable def turnC (E : Eng) (Φ : Nat → List PV → CO) (elt : IE) (tg : Tg) (cond : List IE) (p : PV) (ε : Sg) : Out (Option PV) := match asgT tg p ε with
  | some ε3 => (evC E Φ cond ε3).bind fun t ε4 => if t then (evE E Φ elt ε4).bind fun r ε5 => match frz r ε5 with
      | some (q, ε6) => .ok (some q) ε6
      | none => .stuck
    else .ok none ε4
  | none => .stuck
theorem ev_map {E : Eng} {Φ : Nat → List PV → CO} {elt : IE} {tg : Tg} {sk : Src} {its : List IE} {cond : List IE} {own : List Nat} {ε ε1 ε2 : Sg} {rs : List Rv} {r : Rv} {ps : List PV} (f : PV → PV) (h1 : evA E Φ its ε = .ok rs ε1) (h2 : srcI sk rs ε1 = some (r, ps)) (h3 : wipeS ε1 own = some ε2) (h4 : walkOk r own = true)
    (h5 : ∀ p ∈ ps, ∃ ε3, turnC E Φ elt tg cond p ε2 = .ok (some (f p)) ε3 ∧ wipeS ε3 own = some ε2) (h6 : ps.length ≤ sizeLine) : evE E Φ (.cmpr elt tg sk its cond own) ε = .ok (.fresh (.lst (ps.map f))) (backS ε1 ε2 own) := by
  have h : cmpI own r (turnC E Φ elt tg cond) ps [] ε2 = .ok ([] ++ ps.map f) ε2 := cmp_map h5 (by simpa using h6)
  rw [List.nil_append] at h
  rw [evE, h1]
  simp only [Out.bind, h2, h3, h4, if_true]
  show (match cmpI own r (turnC E Φ elt tg cond) ps [] ε2 with | .ok acc ε7 => Out.ok (Rv.fresh (.lst acc)) (backS ε1 ε7 own) | _ => .stuck) = _
  rw [h]
end Eng

namespace Eng
open PySem PySem.Spec L2 Rt
open PyProof.Rows hiding St
/-! ### loops by an invariant -/
theorem forI_wp {r : Rv} {set : PV → Sg → Option Sg} {body : Sg → SO} {Q : SO → Prop} : ∀ {ps : List PV} (I : List PV → Sg → Prop) {ε : Sg}, I ps ε →
    (∀ p ps ε, I (p :: ps) ε → ∃ ε1, set p ε = some ε1 ∧ (match body ε1 with | .nx ε2 => stays r ε ε2 = true ∧ I ps ε2 | .ct ε2 => stays r ε ε2 = true ∧ I ps ε2 | .bk ε2 => Q (.nx ε2) | o => Q o)) → (∀ ε, I [] ε → Q (.nx ε)) → Q (forI r set body ps ε)
  | [], I, ε, h0, _, hd => hd ε h0
  | p :: ps, I, ε, h0, hs, hd => by
    obtain ⟨ε1, h1, h2⟩ := hs p ps ε h0
    unfold forI
    rw [h1]
    dsimp only
    cases hb : body ε1 with
    | nx ε2 => rw [hb] at h2; dsimp only at h2 ⊢; rw [if_pos h2.1]; exact forI_wp I h2.2 hs hd
    | ct ε2 => rw [hb] at h2; dsimp only at h2 ⊢; rw [if_pos h2.1]; exact forI_wp I h2.2 hs hd
    | bk ε2 => rw [hb] at h2; exact h2
    | rt a b => rw [hb] at h2; exact h2
    | exc a b => rw [hb] at h2; exact h2
    | stuck => rw [hb] at h2; exact h2
/-! ### the law's draws -/
def fDraws : FnI := ⟨"_law_draws", 1, [false], 7, [], [
    .asg 1 (.lst []),
    .for_ (.nm 2) .val [.var 0] [.asg 5 (.blt .abs [.var 2]),
    .ifs (.cmp .Lt (.var 5) (.bin .Pow (.cst (.int 10)) (.cst (.int 18)))) [.asg 6 (.bin .Mod (.blt .int [.bin .Add (.bin .Mult (.var 5) (.cst (.int 48271))) (.cst (.int 11))]) (.cst (.int 2147483647))),
    .expr (.mut .append 1 [.bin .Mod (.blt .int [.bin .Add (.bin .Mult (.var 6) (.cst (.int 69621))) (.var 5)]) (.cst (.int 2147483629))]),
    .expr (.mut .append 1 [.bin .Mod (.blt .int [.bin .Add (.var 6) (.bin .FloorDiv (.var 5) (.cst (.int 7)))]) (.cst (.int 1000003))]),
    .asg 5 (.cst (.int 0))] [],
    .for_ (.nm 4) .rng [.cst (.int 60)] [.ifs (.cmp .Gt (.var 5) (.cst (.int 0))) [.expr (.mut .append 1 [.bin .Mod (.blt .int [.var 5]) (.cst (.int 997))]),
    .asg 5 (.bin .FloorDiv (.var 5) (.cst (.int 997)))] []]],
    .asg 3 (.cst (.int 1)),
    .ifs (.cmp .Gt (.blt .len [.var 0]) (.cst (.int 0))) [.asg 3 (.bin .Add (.cst (.int 1)) (.blt .abs [.sub (.var 0) (.cst (.int 0))]))] [],
    .for_ (.nm 4) .rng [.cst (.int 900)] [.asg 3 (.bin .Mod (.blt .int [.bin .Add (.bin .Mult (.var 3) (.cst (.int 48271))) (.cst (.int 69621))]) (.cst (.int 2147483647))),
    .expr (.mut .append 1 [.bin .FloorDiv (.var 3) (.cst (.int 5))])],
    .ret (.lrev (.var 1))]⟩

def fTake : FnI := ⟨"_law_take", 2, [true, false], 2, [], [
    .ifs (.cmp .Eq (.blt .len [.var 0]) (.cst (.int 0))) [.ret (.cst (.int 0))] [],
    .ret (.bin .Mod (.blt .int [.mut .pop 0 []]) (.var 1))]⟩


theorem call_take {E : Eng} {k i : Nat} (h : E.fns[i]? = some fTake) (ds : List Int) {b : Int} (hb : 0 < b) : ∃ (v : Int) (ds' : List Int), 0 ≤ v ∧ v < b ∧ ds'.length ≤ ds.length ∧ callF E (k + 1) i [.lst (ds.map .int), .int b] = .ok (.int v) false [.lst (ds'.map .int)] := by
  rw [call_top h]
  rcases List.eq_nil_or_concat ds with rfl | ⟨l, z, rfl⟩
  · refine ⟨0, [], by omega, hb, Nat.le_refl _, ?_⟩
    simp [fTake]
  · refine ⟨z.fmod b, l, Int.fmod_nonneg_of_pos _ hb, Int.fmod_lt_of_pos _ hb, by simp, ?_⟩
    have hne : ((l.length : Int) + 1 = 0) = False := by simp; omega
    have hb0 : b ≠ 0 := by omega
    simp [fTake, muA, opMut, hne, hb0]
end Eng

namespace Eng
open PySem PySem.Spec L2 Rt
open PyProof.Rows hiding St
/-- a slot with a value, or none -/
def Fs (s : Slot) : Prop := s = .none ∨ ∃ p, s = .val p
theorem fs_none : Fs .none := .inl rfl
theorem fs_val (p : PV) : Fs (.val p) := .inr ⟨p, rfl⟩
/-- for k in range(60): .. -/
theorem draws_in {E : Eng} {Φ : Nat → List PV → CO} (x0 s2 s3 s4 s6 : Slot) (h4 : Fs s4) (n : Int) (ds : List Int) (hl : ds.length ≤ 10000) {body : List IS}
    (hb : body = [.ifs (.cmp .Gt (.var 5) (.cst (.int 0))) [.expr (.mut .append 1 [.bin .Mod (.blt .int [.var 5]) (.cst (.int 997))]), .asg 5 (.bin .FloorDiv (.var 5) (.cst (.int 997)))] []]) :
    ∃ (s4' : Slot) (n' : Int) (ds' : List Int), Fs s4' ∧ ds'.length ≤ ds.length + 60 ∧ exS E Φ (.for_ (.nm 4) .rng [.cst (.int 60)] body) [x0, .own true (.lst (ds.map .int)), s2, s3, s4, .val (.int n), s6] = .nx [x0, .own true (.lst (ds'.map .int)), s2, s3, s4', .val (.int n'), s6] := by
  subst hb
  have r60 : rgB 60 = true := by decide
  rw [exS]
  simp only [evA, evE, Out.bind, Rv.opd, srcI, peekL, Rv.peek, r60, if_true, walkOk]
  have key : ∃ ε', (∃ (s4' : Slot) (n' : Int) (ds' : List Int), Fs s4' ∧ ds'.length ≤ ds.length + 60 ∧ ε' = [x0, .own true (.lst (ds'.map .int)), s2, s3, s4', .val (.int n'), s6]) ∧ forI (.val .non) (fun p ε => asgT (.nm 4) p ε) (fun ε => exL E Φ [.ifs (.cmp .Gt (.var 5) (.cst (.int 0))) [.expr (.mut .append 1 [.bin .Mod (.blt .int [.var 5]) (.cst (.int 997))]), .asg 5 (.bin .FloorDiv (.var 5) (.cst (.int 997)))] []] ε) (rngL 0 (60 : Int).toNat)
      [x0, .own true (.lst (ds.map .int)), s2, s3, s4, .val (.int n), s6] = .nx ε' := by
    refine forI_wp (Q := fun o => ∃ ε', (∃ (s4' : Slot) (n' : Int) (ds' : List Int), Fs s4' ∧ ds'.length ≤ ds.length + 60 ∧ ε' = [x0, .own true (.lst (ds'.map .int)), s2, s3, s4', .val (.int n'), s6]) ∧ o = .nx ε')
      (fun ps ε => ∃ (s4' : Slot) (n' : Int) (ds' : List Int), Fs s4' ∧ ds'.length + ps.length ≤ ds.length + 60 ∧ ε = [x0, .own true (.lst (ds'.map .int)), s2, s3, s4', .val (.int n'), s6]) ⟨s4, n, ds, h4, by simp, rfl⟩ ?_ ?_
    · rintro p ps _ ⟨t4, m, es, f4, hle, rfl⟩
      rw [List.length_cons] at hle
      refine ⟨[x0, .own true (.lst (es.map .int)), s2, s3, .val p, .val (.int m), s6], ?_, ?_⟩
      · rcases f4 with rfl | ⟨q, rfl⟩ <;> rfl
      · by_cases hm : 0 < m
        · have hsz : es.length < 16777216 := by omega
          have hd := div_ok (i := m) (j := 997) ((show Sm 10 997 by unfold Sm; decide).le (by decide))
          have ev : exL E Φ [.ifs (.cmp .Gt (.var 5) (.cst (.int 0))) [.expr (.mut .append 1 [.bin .Mod (.blt .int [.var 5]) (.cst (.int 997))]), .asg 5 (.bin .FloorDiv (.var 5) (.cst (.int 997)))] []] [x0, .own true (.lst (es.map .int)), s2, s3, .val p, .val (.int m), s6] = .nx [x0, .own true (.lst ((es ++ [m.fmod 997]).map .int)), s2, s3, .val p, .val (.int (m.fdiv 997)), s6] := by
            simp [hm, muA, opMut, hsz, hd]
          rw [ev]
          exact ⟨rfl, _, _, _, fs_val p, by rw [List.length_append, List.length_singleton]; omega, rfl⟩
        · have ev : exL E Φ [.ifs (.cmp .Gt (.var 5) (.cst (.int 0))) [.expr (.mut .append 1 [.bin .Mod (.blt .int [.var 5]) (.cst (.int 997))]), .asg 5 (.bin .FloorDiv (.var 5) (.cst (.int 997)))] []] [x0, .own true (.lst (es.map .int)), s2, s3, .val p, .val (.int m), s6] = .nx [x0, .own true (.lst (es.map .int)), s2, s3, .val p, .val (.int m), s6] := by
            simp [hm]
          rw [ev]
          exact ⟨rfl, _, _, _, fs_val p, by omega, rfl⟩
    · rintro _ ⟨t4, m, es, f4, hle, rfl⟩
      exact ⟨_, ⟨t4, m, es, f4, by simpa using hle, rfl⟩, rfl⟩
  obtain ⟨ε', ⟨s4', n', ds', f, hle, rfl⟩, e⟩ := key
  exact ⟨s4', n', ds', f, hle, e⟩

/-- one cell of the script -/
theorem draws_cell {E : Eng} {Φ : Nat → List PV → CO} (x0 s2 s3 s4 s5 s6 : Slot) (h2 : Fs s2) (h4 : Fs s4) (h5 : Fs s5) (h6 : Fs s6) (z : Int) (ds : List Int) (hl : ds.length ≤ 8000) {body : List IS} (hb : ∃ t r, fDraws.body = t :: .for_ (.nm 2) .val [.var 0] body :: r) :
    ∃ (s4' s6' : Slot) (n' : Int) (ds' : List Int), Fs s4' ∧ Fs s6' ∧ ds'.length ≤ ds.length + 62 ∧ exL E Φ body [x0, .own true (.lst (ds.map .int)), .val (.int z), s3, s4, s5, s6] = .nx [x0, .own true (.lst (ds'.map .int)), .val (.int z), s3, s4', .val (.int n'), s6'] := by
  obtain ⟨t, r, hb⟩ := hb
  cases hb
  have e0 : exS E Φ (.asg 5 (.blt .abs [.var 2])) [x0, .own true (.lst (ds.map .int)), .val (.int z), s3, s4, s5, s6] = .nx [x0, .own true (.lst (ds.map .int)), .val (.int z), s3, s4, .val (.int (if z < 0 then -z else z)), s6] := by
    rcases h5 with rfl | ⟨q, rfl⟩ <;> simp
  generalize hn : (if z < 0 then -z else z) = n at e0
  have hn0 : 0 ≤ n := by split at hn <;> omega
  rw [exL_step e0]
  by_cases hs : n < 1000000000000000000
  · have sn : Sm 60 n := by unfold Sm; omega
    have m1 := mul_ok sn (show Sm 16 48271 by unfold Sm; decide) (by decide)
    have f1 := Int.fmod_nonneg_of_pos (a := n * 48271 + 11) (b := 2147483647) (by decide)
    have f2 := Int.fmod_lt_of_pos (n * 48271 + 11) (b := 2147483647) (by decide)
    have sf : Sm 31 ((n * 48271 + 11).fmod 2147483647) := by unfold Sm; omega
    have m2 := mul_ok sf (show Sm 17 69621 by unfold Sm; decide) (by decide)
    have d7 := div_ok (i := n) (j := 7) ((show Sm 3 7 by unfold Sm; decide).le (by decide))
    have z1 : ds.length < 16777216 := by omega
    have z2 : ds.length + 1 < 16777216 := by omega
    have pw : (10 : Int) ^ 18 = 1000000000000000000 := by decide
    generalize hf : (n * 48271 + 11).fmod 2147483647 = f at *
    have e1 : exS E Φ (.ifs (.cmp .Lt (.var 5) (.bin .Pow (.cst (.int 10)) (.cst (.int 18)))) [.asg 6 (.bin .Mod (.blt .int [.bin .Add (.bin .Mult (.var 5) (.cst (.int 48271))) (.cst (.int 11))]) (.cst (.int 2147483647))), .expr (.mut .append 1 [.bin .Mod (.blt .int [.bin .Add (.bin .Mult (.var 6) (.cst (.int 69621))) (.var 5)]) (.cst (.int 2147483629))]),
        .expr (.mut .append 1 [.bin .Mod (.blt .int [.bin .Add (.var 6) (.bin .FloorDiv (.var 5) (.cst (.int 7)))]) (.cst (.int 1000003))]), .asg 5 (.cst (.int 0))] []) [x0, .own true (.lst (ds.map .int)), .val (.int z), s3, s4, .val (.int n), s6] =
      .nx [x0, .own true (.lst ((ds ++ [(f * 69621 + n).fmod 2147483629, (f + n.fdiv 7).fmod 1000003]).map .int)), .val (.int z), s3, s4, .val (.int 0), .val (.int f)] := by
      rcases h6 with rfl | ⟨q, rfl⟩ <;> simp [muA, opMut, hs, pw, m1, m2, d7, hf, z1, z2]
    rw [exL_step e1]
    obtain ⟨s4', n', ds', g4, hle, e⟩ := draws_in x0 (.val (.int z)) s3 s4 (.val (.int f)) h4 0 (ds ++ [(f * 69621 + n).fmod 2147483629, (f + n.fdiv 7).fmod 1000003]) (by simp; omega) (E := E) (Φ := Φ) rfl
    refine ⟨s4', .val (.int f), n', ds', g4, fs_val _, by simp at hle; omega, ?_⟩
    rw [exL_step e, exL]
  · have pw : (10 : Int) ^ 18 = 1000000000000000000 := by decide
    have e1 : exS E Φ (.ifs (.cmp .Lt (.var 5) (.bin .Pow (.cst (.int 10)) (.cst (.int 18)))) [.asg 6 (.bin .Mod (.blt .int [.bin .Add (.bin .Mult (.var 5) (.cst (.int 48271))) (.cst (.int 11))]) (.cst (.int 2147483647))), .expr (.mut .append 1 [.bin .Mod (.blt .int [.bin .Add (.bin .Mult (.var 6) (.cst (.int 69621))) (.var 5)]) (.cst (.int 2147483629))]),
        .expr (.mut .append 1 [.bin .Mod (.blt .int [.bin .Add (.var 6) (.bin .FloorDiv (.var 5) (.cst (.int 7)))]) (.cst (.int 1000003))]), .asg 5 (.cst (.int 0))] []) [x0, .own true (.lst (ds.map .int)), .val (.int z), s3, s4, .val (.int n), s6] =
      .nx [x0, .own true (.lst (ds.map .int)), .val (.int z), s3, s4, .val (.int n), s6] := by
      simp [hs, pw]
    rw [exL_step e1]
    obtain ⟨s4', n', ds', g4, hle, e⟩ := draws_in x0 (.val (.int z)) s3 s4 s6 h4 n ds (by omega) (E := E) (Φ := Φ) rfl
    refine ⟨s4', s6, n', ds', g4, h6, by omega, ?_⟩
    rw [exL_step e, exL]

/-- the loop over the script -/
theorem draws_scr {E : Eng} {Φ : Nat → List PV → CO} (l : List Int) (hl : l.length ≤ 63) (s3 : Slot) {body : List IS} (hb : ∃ t r, fDraws.body = t :: .for_ (.nm 2) .val [.var 0] body :: r) :
    ∃ (s2 s4 s5 s6 : Slot) (ds : List Int), Fs s4 ∧ ds.length ≤ 3906 ∧ exS E Φ (.for_ (.nm 2) .val [.var 0] body) [.val (.scr (l.map .int)), .own true (.lst []), .none, s3, .none, .none, .none] = .nx [.val (.scr (l.map .int)), .own true (.lst (ds.map .int)), s2, s3, s4, s5, s6] := by
  rw [exS]
  simp only [evA, evE, Out.bind, Rv.opd, srcI, Rv.peek, List.getElem?_cons_zero, itemsOf, Option.bind_some, Option.map_some, walkOk, if_true]
  have key : ∃ ε', (∃ (s2 s4 s5 s6 : Slot) (ds : List Int), Fs s2 ∧ Fs s4 ∧ Fs s5 ∧ Fs s6 ∧ ds.length ≤ 62 * l.length ∧ ε' = [.val (.scr (l.map .int)), .own true (.lst (ds.map .int)), s2, s3, s4, s5, s6]) ∧
      forI (.val (.scr (l.map .int))) (fun p ε => asgT (.nm 2) p ε) (fun ε => exL E Φ body ε) (l.map .int) [.val (.scr (l.map .int)), .own true (.lst []), .none, s3, .none, .none, .none] = .nx ε' := by
    refine forI_wp (Q := fun o => ∃ ε', (∃ (s2 s4 s5 s6 : Slot) (ds : List Int), Fs s2 ∧ Fs s4 ∧ Fs s5 ∧ Fs s6 ∧ ds.length ≤ 62 * l.length ∧ ε' = [.val (.scr (l.map .int)), .own true (.lst (ds.map .int)), s2, s3, s4, s5, s6]) ∧ o = .nx ε')
      (fun ps ε => ∃ (m : List Int) (s2 s4 s5 s6 : Slot) (ds : List Int), ps = m.map .int ∧ Fs s2 ∧ Fs s4 ∧ Fs s5 ∧ Fs s6 ∧ ds.length + 62 * m.length ≤ 62 * l.length ∧ ε = [.val (.scr (l.map .int)), .own true (.lst (ds.map .int)), s2, s3, s4, s5, s6])
      ⟨l, .none, .none, .none, .none, [], rfl, fs_none, fs_none, fs_none, fs_none, by simp, rfl⟩ ?_ ?_
    · rintro p ps _ ⟨m, s2, s4, s5, s6, ds, em, h2, h4, h5, h6, hle, rfl⟩
      cases m with
      | nil => cases em
      | cons z m =>
        cases em
        rw [List.length_cons] at hle
        obtain ⟨s4', s6', n', ds', g4, g6, gl, e⟩ := draws_cell (E := E) (Φ := Φ) (.val (.scr (l.map .int))) s2 s3 s4 s5 s6 h2 h4 h5 h6 z ds (by omega) hb
        refine ⟨[.val (.scr (l.map .int)), .own true (.lst (ds.map .int)), .val (.int z), s3, s4, s5, s6], ?_, ?_⟩
        · rcases h2 with rfl | ⟨q, rfl⟩ <;> rfl
        · rw [e]
          exact ⟨rfl, m, _, _, _, _, ds', rfl, fs_val _, g4, fs_val _, g6, by omega, rfl⟩
    · rintro _ ⟨m, s2, s4, s5, s6, ds, em, h2, h4, h5, h6, hle, rfl⟩
      exact ⟨_, ⟨s2, s4, s5, s6, ds, h2, h4, h5, h6, by omega, rfl⟩, rfl⟩
  obtain ⟨ε', ⟨s2, s4, s5, s6, ds, h2, h4, h5, h6, hle, rfl⟩, e⟩ := key
  exact ⟨s2, s4, s5, s6, ds, h4, by omega, e⟩
/-- the 900 that follow -/
theorem draws_more {E : Eng} {Φ : Nat → List PV → CO} (x0 s2 s4 s5 s6 : Slot) (h4 : Fs s4) (n : Int) (hn : Sm 1048600 n) (ds : List Int) (hl : ds.length ≤ 10000) :
    ∃ (s4' : Slot) (n' : Int) (ds' : List Int), ds'.length ≤ ds.length + 900 ∧ exS E Φ (.for_ (.nm 4) .rng [.cst (.int 900)] [.asg 3 (.bin .Mod (.blt .int [.bin .Add (.bin .Mult (.var 3) (.cst (.int 48271))) (.cst (.int 69621))]) (.cst (.int 2147483647))), .expr (.mut .append 1 [.bin .FloorDiv (.var 3) (.cst (.int 5))])])
      [x0, .own true (.lst (ds.map .int)), s2, .val (.int n), s4, s5, s6] = .nx [x0, .own true (.lst (ds'.map .int)), s2, .val (.int n'), s4', s5, s6] := by
  have r9 : rgB 900 = true := by decide
  rw [exS]
  simp only [evA, evE, Out.bind, Rv.opd, srcI, peekL, Rv.peek, r9, if_true, walkOk]
  have key : ∃ ε', (∃ (s4' : Slot) (n' : Int) (ds' : List Int), ds'.length ≤ ds.length + 900 ∧ ε' = [x0, .own true (.lst (ds'.map .int)), s2, .val (.int n'), s4', s5, s6]) ∧ forI (.val .non) (fun p ε => asgT (.nm 4) p ε) (fun ε => exL E Φ [.asg 3 (.bin .Mod (.blt .int [.bin .Add (.bin .Mult (.var 3) (.cst (.int 48271))) (.cst (.int 69621))]) (.cst (.int 2147483647))), .expr (.mut .append 1 [.bin .FloorDiv (.var 3) (.cst (.int 5))])] ε) (rngL 0 (900 : Int).toNat)
      [x0, .own true (.lst (ds.map .int)), s2, .val (.int n), s4, s5, s6] = .nx ε' := by
    refine forI_wp (Q := fun o => ∃ ε', (∃ (s4' : Slot) (n' : Int) (ds' : List Int), ds'.length ≤ ds.length + 900 ∧ ε' = [x0, .own true (.lst (ds'.map .int)), s2, .val (.int n'), s4', s5, s6]) ∧ o = .nx ε')
      (fun ps ε => ∃ (s4' : Slot) (n' : Int) (ds' : List Int), Fs s4' ∧ Sm 1048600 n' ∧ ds'.length + ps.length ≤ ds.length + 900 ∧ ε = [x0, .own true (.lst (ds'.map .int)), s2, .val (.int n'), s4', s5, s6]) ⟨s4, n, ds, h4, hn, by simp, rfl⟩ ?_ ?_
    · rintro p ps _ ⟨t4, m, es, f4, sm, hle, rfl⟩
      rw [List.length_cons] at hle
      refine ⟨[x0, .own true (.lst (es.map .int)), s2, .val (.int m), .val p, s5, s6], ?_, ?_⟩
      · rcases f4 with rfl | ⟨q, rfl⟩ <;> rfl
      · have hsz : es.length < 16777216 := by omega
        have m1 := mul_ok sm (show Sm 16 48271 by unfold Sm; decide) (by decide)
        have d5 := fun i => div_ok (i := i) (j := 5) ((show Sm 3 5 by unfold Sm; decide).le (by decide))
        have f1 := Int.fmod_nonneg_of_pos (a := m * 48271 + 69621) (b := 2147483647) (by decide)
        have f2 := Int.fmod_lt_of_pos (m * 48271 + 69621) (b := 2147483647) (by decide)
        have sf : Sm 31 ((m * 48271 + 69621).fmod 2147483647) := by unfold Sm; omega
        generalize hf : (m * 48271 + 69621).fmod 2147483647 = f at *
        have ev : exL E Φ [.asg 3 (.bin .Mod (.blt .int [.bin .Add (.bin .Mult (.var 3) (.cst (.int 48271))) (.cst (.int 69621))]) (.cst (.int 2147483647))), .expr (.mut .append 1 [.bin .FloorDiv (.var 3) (.cst (.int 5))])] [x0, .own true (.lst (es.map .int)), s2, .val (.int m), .val p, s5, s6] = .nx [x0, .own true (.lst ((es ++ [f.fdiv 5]).map .int)), s2, .val (.int f), .val p, s5, s6] := by
          simp [muA, opMut, hsz, m1, hf, d5]
        rw [ev]
        exact ⟨rfl, _, _, _, fs_val p, sf.le (by decide), by rw [List.length_append, List.length_singleton]; omega, rfl⟩
    · rintro _ ⟨t4, m, es, f4, sm, hle, rfl⟩
      exact ⟨_, ⟨t4, m, es, by simpa using hle, rfl⟩, rfl⟩
  obtain ⟨ε', ⟨s4', n', ds', hle, rfl⟩, e⟩ := key
  exact ⟨s4', n', ds', hle, e⟩
theorem sm_bits {z : Int} (h : Builtin.Int.intBits z ≤ 1048576) : Sm 1048577 z := by
  unfold Sm
  by_cases hz : z.natAbs = 0
  · rw [hz]; exact Nat.two_pow_pos _
  · have : Builtin.Int.intBits z = z.natAbs.log2 + 1 := by
      unfold Builtin.Int.intBits
      rw [if_neg (by simp; omega)]
    rw [← Nat.log2_lt hz]
    omega
theorem call_draws {E : Eng} {k i : Nat} (h : E.fns[i]? = some fDraws) (l : List Int) (hl : l.length ≤ 63) (hb : ∀ z ∈ l, Builtin.Int.intBits z ≤ 1048576) :
    ∃ ds : List Int, ds.length ≤ 5000 ∧ callF E (k + 1) i [.scr (l.map .int)] = .ok (.lst (ds.map .int)) true [] := by
  rw [call_top h]
  obtain ⟨s2, s4, s5, s6, ds, h4, hd, e2⟩ := draws_scr (E := E) (Φ := callF E k) l hl .none ⟨_, _, rfl⟩
  have fin : ∃ (n : Int), Sm 1048600 n ∧ exL E (callF E k) [.asg 3 (.cst (.int 1)), .ifs (.cmp .Gt (.blt .len [.var 0]) (.cst (.int 0))) [.asg 3 (.bin .Add (.cst (.int 1)) (.blt .abs [.sub (.var 0) (.cst (.int 0))]))] []] [.val (.scr (l.map .int)), .own true (.lst (ds.map .int)), s2, .none, s4, s5, s6] = .nx [.val (.scr (l.map .int)), .own true (.lst (ds.map .int)), s2, .val (.int n), s4, s5, s6] := by
    cases l with
    | nil => exact ⟨1, (show Sm 1 1 by unfold Sm; decide).le (by decide), by simp⟩
    | cons z m =>
      have sz := sm_bits (hb z List.mem_cons_self)
      refine ⟨1 + (if z < 0 then -z else z), ?_, ?_⟩
      · refine (Sm.add (n := 1048577) ((show Sm 1 1 by unfold Sm; decide).le (by decide)) ?_).le (by decide)
        split
        · exact sz.neg
        · exact sz
      · have : (0 : Int) < (m.length : Int) + 1 := by omega
        simp [this]
  obtain ⟨n, sn, e3⟩ := fin
  obtain ⟨s4', n', ds', hle, e4⟩ := draws_more (E := E) (Φ := callF E k) (.val (.scr (l.map .int))) s2 s4 s5 s6 h4 n sn ds (by omega)
  refine ⟨ds'.reverse, by simp; omega, ?_⟩
  have key : exL E (callF E k) fDraws.body [.val (.scr (l.map .int)), .none, .none, .none, .none, .none, .none] = .rt (.fresh (.lst (ds'.reverse.map .int))) [.val (.scr (l.map .int)), .own true (.lst (ds'.map .int)), s2, .val (.int n'), s4', s5, s6] := by
    have e1 : exS E (callF E k) (.asg 1 (.lst [])) [.val (.scr (l.map .int)), .none, .none, .none, .none, .none, .none] = .nx [.val (.scr (l.map .int)), .own true (.lst []), .none, .none, .none, .none, .none] := by simp
    refine (exL_step e1).trans ((exL_step e2).trans ?_)
    have q : ∀ (a b : IS) (r : List IS) {ε ε' : Sg}, exL E (callF E k) [a, b] ε = .nx ε' → exL E (callF E k) (a :: b :: r) ε = exL E (callF E k) r ε' := fun a b r {ε ε'} e => by
      rw [exL] at e
      cases ha : exS E (callF E k) a ε with
      | nx ε1 =>
        rw [ha] at e
        rw [exL_step ha]
        have e : exL E (callF E k) [b] ε1 = .nx ε' := e
        rw [exL] at e
        cases hb : exS E (callF E k) b ε1 with
        | nx ε2 =>
          rw [hb] at e
          have e : exL E (callF E k) [] ε2 = .nx ε' := e
          rw [exL] at e
          cases e
          rw [exL_step hb]
        | rt _ _ => rw [hb] at e; cases e
        | bk _ => rw [hb] at e; cases e
        | ct _ => rw [hb] at e; cases e
        | exc _ _ => rw [hb] at e; cases e
        | stuck => rw [hb] at e; cases e
      | rt _ _ => rw [ha] at e; cases e
      | bk _ => rw [ha] at e; cases e
      | ct _ => rw [ha] at e; cases e
      | exc _ _ => rw [ha] at e; cases e
      | stuck => rw [ha] at e; cases e
    refine (q _ _ _ e3).trans ((exL_step e4).trans (exL_ret ?_))
    simp
  have eb : startS fDraws.mask [.scr (l.map PV.int)] ++ List.replicate (fDraws.nsl - fDraws.np) Slot.none = [.val (.scr (l.map .int)), .none, .none, .none, .none, .none, .none] := rfl
  rw [callB, if_pos ⟨rfl, rfl, by decide⟩, eb, key]
  rfl
end Eng

namespace Eng
open PySem PySem.Spec L2 Rt
open PyProof.Rows hiding St
/-! ### the ratios' defs, whatever their places in the text -/
def fRatio (c : Nat) : FnI := ⟨"ratio", 2, [false, false], 3, [.int 1], [
    .ifs (.cmp .Eq (.var 1) (.cst (.int 0))) [.raise c "nothing is divided by 0"] [],
    .asg 2 (.blt .gcd [.var 0, .var 1]),
    .ifs (.cmp .Lt (.var 1) (.cst (.int 0))) [.asg 2 (.neg (.var 2))] [],
    .ret (.tup [.bin .FloorDiv (.var 0) (.var 2), .bin .FloorDiv (.var 1) (.var 2)])]⟩
@[simp] theorem fRatio_m {c : Nat} : (fRatio c).mask = [false, false] := rfl
@[simp] theorem fRatio_n {c : Nat} : (fRatio c).np = 2 := rfl
@[simp] theorem fRatio_d {c : Nat} : (fRatio c).dfl = [.int 1] := rfl
def fIsInt : FnI := ⟨"is_integer", 1, [false], 1, [], [
    .ret (.and [.isi (.var 0) "int", .not (.isi (.var 0) "bool")])]⟩
@[simp] theorem fIsInt_m  : fIsInt.mask = [false] := rfl
@[simp] theorem fIsInt_n  : fIsInt.np = 1 := rfl
@[simp] theorem fIsInt_d  : fIsInt.dfl = [] := rfl
def fIsRatio (ii : Nat) : FnI := ⟨"is_ratio", 1, [false], 2, [], [
    .ifs (.or [.not (.isi (.var 0) "tuple"), .cmp .NotEq (.blt .len [.var 0]) (.cst (.int 2)), .not (.blt .all [.cmpr (.call ii [.var 1]) (.nm 1) .val [.var 0] [] [1]])]) [.ret (.cst (.bl false))] [],
    .ret (.and [.cmp .GtE (.sub (.var 0) (.cst (.int 1))) (.cst (.int 1)), .cmp .Eq (.blt .gcd [.sub (.var 0) (.cst (.int 0)), .sub (.var 0) (.cst (.int 1))]) (.cst (.int 1))])]⟩
@[simp] theorem fIsRatio_m {ii : Nat} : (fIsRatio ii).mask = [false] := rfl
@[simp] theorem fIsRatio_n {ii : Nat} : (fIsRatio ii).np = 1 := rfl
@[simp] theorem fIsRatio_d {ii : Nat} : (fIsRatio ii).dfl = [] := rfl
def fPlus (ir : Nat) : FnI := ⟨"plus", 2, [false, false], 2, [], [
    .ret (.call ir [.bin .Add (.bin .Mult (.sub (.var 0) (.cst (.int 0))) (.sub (.var 1) (.cst (.int 1)))) (.bin .Mult (.sub (.var 1) (.cst (.int 0))) (.sub (.var 0) (.cst (.int 1)))), .bin .Mult (.sub (.var 0) (.cst (.int 1))) (.sub (.var 1) (.cst (.int 1)))])]⟩
@[simp] theorem fPlus_m {ir : Nat} : (fPlus ir).mask = [false, false] := rfl
@[simp] theorem fPlus_n {ir : Nat} : (fPlus ir).np = 2 := rfl
@[simp] theorem fPlus_d {ir : Nat} : (fPlus ir).dfl = [] := rfl
def fOpp : FnI := ⟨"opposite", 1, [false], 1, [], [
    .ret (.tup [.neg (.sub (.var 0) (.cst (.int 0))), .sub (.var 0) (.cst (.int 1))])]⟩
@[simp] theorem fOpp_m  : fOpp.mask = [false] := rfl
@[simp] theorem fOpp_n  : fOpp.np = 1 := rfl
@[simp] theorem fOpp_d  : fOpp.dfl = [] := rfl
def fMinus (ip io : Nat) : FnI := ⟨"minus", 2, [false, false], 2, [], [
    .ret (.call ip [.var 0, .call io [.var 1]])]⟩
@[simp] theorem fMinus_m {ip io : Nat} : (fMinus ip io).mask = [false, false] := rfl
@[simp] theorem fMinus_n {ip io : Nat} : (fMinus ip io).np = 2 := rfl
@[simp] theorem fMinus_d {ip io : Nat} : (fMinus ip io).dfl = [] := rfl
def fTimes (ir : Nat) : FnI := ⟨"times", 2, [false, false], 2, [], [
    .ret (.call ir [.bin .Mult (.sub (.var 0) (.cst (.int 0))) (.sub (.var 1) (.cst (.int 0))), .bin .Mult (.sub (.var 0) (.cst (.int 1))) (.sub (.var 1) (.cst (.int 1)))])]⟩
@[simp] theorem fTimes_m {ir : Nat} : (fTimes ir).mask = [false, false] := rfl
@[simp] theorem fTimes_n {ir : Nat} : (fTimes ir).np = 2 := rfl
@[simp] theorem fTimes_d {ir : Nat} : (fTimes ir).dfl = [] := rfl
def fOver (c ir : Nat) : FnI := ⟨"over", 2, [false, false], 2, [], [
    .ifs (.cmp .Eq (.sub (.var 1) (.cst (.int 0))) (.cst (.int 0))) [.raise c "nothing is divided by 0"] [],
    .ret (.call ir [.bin .Mult (.sub (.var 0) (.cst (.int 0))) (.sub (.var 1) (.cst (.int 1))), .bin .Mult (.sub (.var 0) (.cst (.int 1))) (.sub (.var 1) (.cst (.int 0)))])]⟩
@[simp] theorem fOver_m {c ir : Nat} : (fOver c ir).mask = [false, false] := rfl
@[simp] theorem fOver_n {c ir : Nat} : (fOver c ir).np = 2 := rfl
@[simp] theorem fOver_d {c ir : Nat} : (fOver c ir).dfl = [] := rfl
def fSign : FnI := ⟨"sign", 1, [false], 1, [], [
    .ret (.bin .Sub (.cmp .Gt (.sub (.var 0) (.cst (.int 0))) (.cst (.int 0))) (.cmp .Lt (.sub (.var 0) (.cst (.int 0))) (.cst (.int 0))))]⟩
@[simp] theorem fSign_m  : fSign.mask = [false] := rfl
@[simp] theorem fSign_n  : fSign.np = 1 := rfl
@[simp] theorem fSign_d  : fSign.dfl = [] := rfl
def fLess : FnI := ⟨"is_less", 2, [false, false], 2, [], [
    .ret (.cmp .Lt (.bin .Mult (.sub (.var 0) (.cst (.int 0))) (.sub (.var 1) (.cst (.int 1)))) (.bin .Mult (.sub (.var 1) (.cst (.int 0))) (.sub (.var 0) (.cst (.int 1)))))]⟩
@[simp] theorem fLess_m  : fLess.mask = [false, false] := rfl
@[simp] theorem fLess_n  : fLess.np = 2 := rfl
@[simp] theorem fLess_d  : fLess.dfl = [] := rfl
section
variable {E : Eng} {c ir ii ip io i : Nat}
theorem call_ratio (hr : E.fns[ir]? = some (fRatio c)) (k : Nat) {a b : Int} (h : b ≠ 0) (sb : Sm 8000 b) : callF E (k+1) ir [.int a, .int b] = .ok (.tup [.int (rN a b), .int (rD a b)]) false [] := by
  have hc := cm_ne (a := a) h
  have hd := fun i => div_ok (i := i) (cm_sm (a := a) h sb)
  have e1 : rN a b = a.fdiv (cm a b) := rfl
  have e2 : rD a b = b.fdiv (cm a b) := rfl
  rw [e1, e2, call_top hr]
  unfold cm at *
  by_cases hb : b < 0
  · simp only [if_pos hb] at *
    simp [fRatio, h, hb, gcd_cm, hc, hd]
  · simp only [if_neg hb] at *
    simp [fRatio, h, hb, gcd_cm, hc, hd]
theorem call_ratio0 (hr : E.fns[ir]? = some (fRatio c)) (k : Nat) {a : Int} : callF E (k+1) ir [.int a, .int 0] = .exc c [] := by
  rw [call_top hr]
  simp [fRatio]
theorem call_isint (hi : E.fns[ii]? = some fIsInt) (k : Nat) (a : Int) : callF E (k+1) ii [.int a] = .ok (.bl true) false [] := by
  rw [call_top hi]
  simp [fIsInt]
theorem call_isratio (h : E.fns[i]? = some (fIsRatio ii)) (hi : E.fns[ii]? = some fIsInt) (k : Nat) {p q : Int} (hr : IsR p q) : callF E (k+2) i [.tup [.int p, .int q]] = .ok (.bl true) false [] := by
  have h1 := hr.pos
  have h2 : (Int.gcd p q : Int) = 1 := by rw [hr.co]; rfl
  rw [call_top h]
  simp [fIsRatio, hi, call_isint hi, h1]
  exact h2
theorem call_plus (h : E.fns[i]? = some (fPlus ir)) (hr : E.fns[ir]? = some (fRatio c)) (k : Nat) {a b x d : Int} (hb : b ≠ 0) (hd : d ≠ 0) (sa : Sm 1000 a) (sb : Sm 1000 b) (sc : Sm 1000 x) (sd : Sm 1000 d) :
    callF E (k+2) i [.tup [.int a, .int b], .tup [.int x, .int d]] = .ok (.tup [.int (rN (a * d + x * b) (b * d)), .int (rD (a * d + x * b) (b * d))]) false [] := by
  have h0 := Int.mul_ne_zero hb hd
  have s := (sb.mul sd).le (m := 8000) (by decide)
  rw [call_top h]
  simp [fPlus, hr, mul_ok sa sd (by decide), mul_ok sc sb (by decide), mul_ok sb sd (by decide), call_ratio hr k h0 s]
theorem call_opp (h : E.fns[io]? = some fOpp) (k : Nat) {a b : Int} : callF E (k+1) io [.tup [.int a, .int b]] = .ok (.tup [.int (-a), .int b]) false [] := by
  rw [call_top h]
  simp [fOpp]
theorem call_minus (h : E.fns[i]? = some (fMinus ip io)) (hp : E.fns[ip]? = some (fPlus ir)) (ho : E.fns[io]? = some fOpp) (hr : E.fns[ir]? = some (fRatio c)) (k : Nat) {a b x d : Int} (hb : b ≠ 0) (hd : d ≠ 0) (sa : Sm 1000 a) (sb : Sm 1000 b) (sc : Sm 1000 x) (sd : Sm 1000 d) :
    callF E (k+3) i [.tup [.int a, .int b], .tup [.int x, .int d]] = .ok (.tup [.int (rN (a * d + -x * b) (b * d)), .int (rD (a * d + -x * b) (b * d))]) false [] := by
  rw [call_top h]
  simp [fMinus, hp, ho, call_opp ho, call_plus hp hr k hb hd sa sb sc.neg sd]
theorem call_times (h : E.fns[i]? = some (fTimes ir)) (hr : E.fns[ir]? = some (fRatio c)) (k : Nat) {a b x d : Int} (hb : b ≠ 0) (hd : d ≠ 0) (sa : Sm 1000 a) (sb : Sm 1000 b) (sc : Sm 1000 x) (sd : Sm 1000 d) :
    callF E (k+2) i [.tup [.int a, .int b], .tup [.int x, .int d]] = .ok (.tup [.int (rN (a * x) (b * d)), .int (rD (a * x) (b * d))]) false [] := by
  have h0 := Int.mul_ne_zero hb hd
  have s := (sb.mul sd).le (m := 8000) (by decide)
  rw [call_top h]
  simp [fTimes, hr, mul_ok sa sc (by decide), mul_ok sb sd (by decide), call_ratio hr k h0 s]
theorem call_over (h : E.fns[i]? = some (fOver c ir)) (hr : E.fns[ir]? = some (fRatio c)) (k : Nat) {a b x d : Int} (hb : b ≠ 0) (hc : x ≠ 0) (sa : Sm 1000 a) (sb : Sm 1000 b) (sc : Sm 1000 x) (sd : Sm 1000 d) :
    callF E (k+2) i [.tup [.int a, .int b], .tup [.int x, .int d]] = .ok (.tup [.int (rN (a * d) (b * x)), .int (rD (a * d) (b * x))]) false [] := by
  have h0 := Int.mul_ne_zero hb hc
  have s := (sb.mul sc).le (m := 8000) (by decide)
  rw [call_top h]
  simp [fOver, hc, hr, mul_ok sa sd (by decide), mul_ok sb sc (by decide), call_ratio hr k h0 s]
theorem call_over0 (h : E.fns[i]? = some (fOver c ir)) (k : Nat) {a b d : Int} : callF E (k+1) i [.tup [.int a, .int b], .tup [.int 0, .int d]] = .exc c [] := by
  rw [call_top h]
  simp [fOver]
theorem call_sign (h : E.fns[i]? = some fSign) (k : Nat) {a b : Int} : callF E (k+1) i [.tup [.int a, .int b]] = .ok (.int ((if 0 < a then 1 else 0) - (if a < 0 then 1 else 0))) false [] := by
  rw [call_top h]
  simp [fSign]
theorem call_less (h : E.fns[i]? = some fLess) (k : Nat) {a b x d : Int} (sa : Sm 1000 a) (sb : Sm 1000 b) (sc : Sm 1000 x) (sd : Sm 1000 d) : callF E (k+1) i [.tup [.int a, .int b], .tup [.int x, .int d]] = .ok (.bl (decide (a * d < x * b))) false [] := by
  rw [call_top h]
  simp [fLess, mul_ok sa sd (by decide), mul_ok sc sb (by decide)]
end
end Eng

namespace Eng
open PySem PySem.Spec L2 Rt TL
open PyProof.Rows hiding St
/-! ### data of a bounded depth and text -/
/-- p is data of depth at most k, its text at most n signs -/
def Shp (k n : Nat) (p : PV) : Prop := ∃ d, toD p = some d ∧ d.canLay0 = true ∧ d.depth ≤ k ∧ d.showable = true ∧ d.shown.length ≤ n
def ShpL (k n : Nat) (ps : List PV) : Prop := ∃ ds, toDL ps = some ds ∧ PyData.canLayAll0 ds = true ∧ PyData.depthAll ds ≤ k ∧ PyData.showableAll ds = true ∧ ((PyData.shownAll ds).map (·.length)).sum + 2 * (PyData.shownAll ds).length ≤ n
theorem Shp.le {k n k' n' : Nat} {p : PV} (h : Shp k n p) (hk : k ≤ k') (hn : n ≤ n') : Shp k' n' p := by
  obtain ⟨d, h1, h2, h3, h4, h5⟩ := h
  exact ⟨d, h1, h2, by omega, h4, by omega⟩
theorem ShpL.le {k n k' n' : Nat} {p : List PV} (h : ShpL k n p) (hk : k ≤ k') (hn : n ≤ n') : ShpL k' n' p := by
  obtain ⟨d, h1, h2, h3, h4, h5⟩ := h
  exact ⟨d, h1, h2, by omega, h4, by omega⟩
theorem shp_non : Shp 0 4 .non := ⟨.none, rfl, by simp [PyData.canLay0], by simp [PyData.depth], by simp [PyData.showable], by simp only [PyData.shown]; decide⟩
theorem shp_bl (b : Bool) : Shp 0 5 (.bl b) := ⟨.bool b, rfl, by simp [PyData.canLay0], by simp [PyData.depth], by simp [PyData.showable], by cases b <;> simp only [PyData.shown] <;> decide⟩
theorem shp_nil : ShpL 0 0 [] := ⟨[], rfl, by simp [PyData.canLayAll0], by simp [PyData.depthAll], by simp [PyData.showableAll], by simp [PyData.shownAll]⟩
theorem ShpL.cons {k n m : Nat} {p : PV} {ps : List PV} (h : Shp k n p) (t : ShpL k m ps) : ShpL k (n + m + 2) (p :: ps) := by
  obtain ⟨d, h1, h2, h3, h4, h5⟩ := h
  obtain ⟨ds, t1, t2, t3, t4, t5⟩ := t
  refine ⟨d :: ds, ?_, ?_, ?_, ?_, ?_⟩
  · rw [toDL, h1, t1]
  · simp [PyData.canLayAll0, h2, t2]
  · simp only [PyData.depthAll]; omega
  · simp [PyData.showableAll, h4, t4]
  · simp only [PyData.shownAll, List.map_cons, List.sum_cons, List.length_cons]; omega
theorem ShpL.tup {k n : Nat} {ps : List PV} (h : ShpL k n ps) : Shp (k + 1) (n + 3) (.tup ps) := by
  obtain ⟨ds, t1, t2, t3, t4, t5⟩ := h
  refine ⟨.tuple ds, ?_, ?_, ?_, ?_, ?_⟩
  · rw [toD, t1]; rfl
  · simp [PyData.canLay0, t2]
  · simp only [PyData.depth]; omega
  · simp [PyData.showable, t4]
  · simp only [PyData.shown]
    have := tupleText_len_le (PyData.shownAll ds)
    omega
theorem ShpL.lst {k n : Nat} {ps : List PV} (h : ShpL k n ps) : Shp (k + 1) (n + 3) (.lst ps) := by
  obtain ⟨ds, t1, t2, t3, t4, t5⟩ := h
  refine ⟨.list ds, ?_, ?_, ?_, ?_, ?_⟩
  · rw [toD, t1]; rfl
  · simp [PyData.canLay0, t2]
  · simp only [PyData.depth]; omega
  · simp [PyData.showable, t4]
  · simp only [PyData.shown]
    have := listText_len_le (PyData.shownAll ds)
    omega
theorem digits_len (n : Nat) : (Nat.toDigits 10 n).length ≤ n.log2 + 1 := by
  have h : (numL n).length ≤ n.log2 + 1 := by
    refine numL_len (by omega) ?_
    have h1 : n < 2 ^ (n.log2 + 1) := Nat.lt_log2_self
    exact Nat.lt_of_lt_of_le h1 (Nat.pow_le_pow_left (by omega) _)
  unfold numL at h
  simpa using h
theorem tl_strI (i : Int) : tl (strI i) = if i < 0 then 45 :: numL i.natAbs else numL i.natAbs := by
  by_cases h : i < 0
  · rw [if_pos h]
    obtain ⟨n, rfl⟩ : ∃ n : Nat, i = -(n : Int) := ⟨i.natAbs, by omega⟩
    have hn : n ≠ 0 := by omega
    have e : (-(n : Int)).natAbs = n := by omega
    rw [e]
    obtain ⟨m, rfl⟩ : ∃ m, n = m + 1 := ⟨n - 1, by omega⟩
    show tl (Str.ofString (toString (Int.negSucc m))) = _
    rw [tl_ofString]
    show (toString (Int.negSucc m)).toList.map Char.toNat = _
    have : toString (Int.negSucc m) = "-" ++ toString (m + 1) := rfl
    rw [this, String.toList_append, List.map_append]
    have h2 : (toString (m + 1)).toList = Nat.toDigits 10 (m + 1) := by
      show (Nat.repr (m + 1)).toList = _
      simp [Nat.repr]
    rw [h2]
    rfl
  · rw [if_neg h]
    obtain ⟨n, rfl⟩ : ∃ n : Nat, i = (n : Int) := ⟨i.natAbs, by omega⟩
    have e : ((n : Int)).natAbs = n := by omega
    rw [e]
    exact tl_num n
theorem strI_len (i : Int) : (strI i).length ≤ i.natAbs.log2 + 2 := by
  rw [len_tl, tl_strI]
  have h : (numL i.natAbs).length ≤ i.natAbs.log2 + 1 := by
    have := digits_len i.natAbs
    unfold numL
    simpa using this
  split
  · rw [List.length_cons]; omega
  · omega
theorem shp_int {n : Nat} {i : Int} (h : Sm n i) (hn : n < 1900) : Shp 0 (n + 2) (.int i) := by
  have := h.log
  refine ⟨.int i, rfl, by simp [PyData.canLay0], by simp [PyData.depth], ?_, ?_⟩
  · simp only [PyData.showable, decide_eq_true_eq]; omega
  · simp only [PyData.shown]
    have := strI_len i
    show (strI i).length ≤ _
    omega
/-- signs that stand -/
def okT (s : Str) : Prop := ∀ c ∈ tl s, c < 0x110000
theorem shp_str {n : Nat} {s : Str} (h : okT s) (hn : s.length ≤ n) : Shp 0 (10 * n + 2) (.str s) := by
  refine ⟨.str s, rfl, ?_, by simp [PyData.depth], by simp [PyData.showable], ?_⟩
  · simp only [PyData.canLay0, PyData.strOk]
    rw [← Array.all_toList, List.all_eq_true]
    intro c hc
    exact decide_eq_true (h c hc)
  · simp only [PyData.shown]
    have := StrLaws.reprText_len s fun c hc => by have := h c hc; omega
    omega
/-- a value's text -/
def shw (p : PV) : Str := (encP p).shown
theorem Shp.repr {k n : Nat} {p : PV} (h : Shp k n p) (hk : k ≤ 64) (hn : n ≤ 16777216) : opBlt .repr [p] = some (.val (.str (shw p))) := by
  obtain ⟨d, h1, h2, h3, h4, h5⟩ := h
  have e : shw p = d.shown := by unfold shw encP; rw [h1]; rfl
  have hs : SeqAt.shaped d = true := by
    unfold SeqAt.shaped
    rw [h2, Bool.true_and, decide_eq_true_eq]
    omega
  rw [e]
  simp only [opBlt, h1]
  rw [if_pos ⟨hs, h4, by rw [size_line]; omega⟩]
theorem eqPV_D {p q : PV} {d e : PyData} (h1 : toD p = some d) (h2 : toD q = some e) (h3 : SeqAt.shaped d = true) (h4 : SeqAt.shaped e = true) : eqPV p q = some (PyData.eqv d e) := by
  unfold eqPV
  split
  · cases h1
    cases h2
    simp only [PyData.eqv]
    rfl
  · rw [h1, h2]
    exact if_pos ⟨h3, h4⟩
theorem Shp.self {k n : Nat} {p : PV} (h : Shp k n p) (hk : k ≤ 64) : eqPV p p = some true := by
  obtain ⟨d, h1, h2, h3, h4, h5⟩ := h
  have hs : SeqAt.shaped d = true := by
    unfold SeqAt.shaped
    rw [h2, Bool.true_and, decide_eq_true_eq]
    omega
  rw [eqPV_D h1 h1 hs hs, SeqAt.eqv_refl d h2]
@[simp] theorem eqp_str {s t : Str} : eqPV (.str s) (.str t) = some (decide (s = t)) := rfl
/-! ### texts by their signs -/
def sT (d : List Nat) : Str := ⟨d.toArray⟩
@[simp] theorem sT_l (d : List Nat) : (sT d).cps.toList = d := rfl
@[simp] theorem sT_len (d : List Nat) : (sT d).length = d.length := rfl
theorem sT_of (w : Str) : w = sT w.cps.toList := rfl
theorem sT_inj {a b : List Nat} : sT a = sT b ↔ a = b := ⟨fun h => by
  have := congrArg (fun s : Str => s.cps.toList) h
  simpa using this, fun h => by rw [h]⟩
@[simp] theorem sT_app (a b : List Nat) : sT a ++ sT b = sT (a ++ b) := by
  apply ext_tl
  rw [tl_append]
  rfl
/-- signs that stand -/
def okD (d : List Nat) : Prop := ∀ c ∈ d, c < 0x110000
theorem okD_of {d : List Nat} (h : (d.all fun c => decide (c < 0x110000)) = true) : okD d := fun c hc => of_decide_eq_true (List.all_eq_true.mp h c hc)
theorem okD_app {a b : List Nat} (h : okD a) (h2 : okD b) : okD (a ++ b) := fun c hc => (List.mem_append.mp hc).elim (h c) (h2 c)
theorem okD_cons {a : Nat} {b : List Nat} (h : a < 0x110000) (h2 : okD b) : okD (a :: b) := fun c hc => (List.mem_cons.mp hc).elim (fun e => e ▸ h) (h2 c)
theorem okD_take {a : List Nat} (n : Nat) (h : okD a) : okD (a.take n) := fun c hc => h c (List.mem_of_mem_take hc)
theorem okD_drop {a : List Nat} (n : Nat) (h : okD a) : okD (a.drop n) := fun c hc => h c (List.mem_of_mem_drop hc)
theorem okD_numL (n : Nat) : okD (numL n) := fun c hc => by have := numL_digits n c hc; omega
@[simp] theorem sT_inj' {a b : List Nat} : (sT a = sT b) = (a = b) := propext sT_inj
theorem eqp_sT {a b : List Nat} : eqPV (.str (sT a)) (.str (sT b)) = some (decide (a = b)) := by
  simp
theorem shp_sT {n : Nat} {d : List Nat} (h : okD d) (hn : d.length ≤ n) : Shp 0 (10 * n + 2) (.str (sT d)) := shp_str (s := sT d) h hn
/-- an int's signs -/
def iL (i : Int) : List Nat := if i < 0 then 45 :: numL i.natAbs else numL i.natAbs
theorem strI_eq (i : Int) : strI i = sT (iL i) := ext_tl (tl_strI i)
theorem okD_iL (i : Int) : okD (iL i) := by
  unfold iL
  split
  · exact okD_cons (by omega) (okD_numL _)
  · exact okD_numL _
theorem sign_eq (c : Nat) : (⟨#[c]⟩ : Str) = sT [c] := rfl
/-- a slice's signs -/
theorem sIx_pos (n d : Nat) {i : Int} (h : 0 ≤ i) : HT.sIx n d (some i) = min i.toNat n := by
  show (if i < 0 then (i + (n : Int)).toNat else min i.toNat n) = min i.toNat n
  rw [if_neg (by omega)]
theorem cutL_hd {α : Type} (d : List α) (i : Int) (h : 0 ≤ i) : (d.drop (HT.sIx d.length 0 none)).take (HT.sIx d.length d.length (some i) - HT.sIx d.length 0 none) = d.take i.toNat := by
  rw [sIx_pos _ _ h, HT.sIx_none]
  simp only [List.drop_zero, Nat.sub_zero]
  by_cases hn : i.toNat ≤ d.length
  · rw [Nat.min_eq_left hn]
  · rw [Nat.min_eq_right (by omega), List.take_of_length_le (Nat.le_refl _), List.take_of_length_le (by omega)]
theorem cutL_tl {α : Type} (d : List α) (i : Int) (h : 0 ≤ i) : (d.drop (HT.sIx d.length 0 (some i))).take (HT.sIx d.length d.length none - HT.sIx d.length 0 (some i)) = d.drop i.toNat := by
  rw [sIx_pos _ _ h, HT.sIx_none, List.take_of_length_le (by rw [List.length_drop]; omega)]
  by_cases hn : i.toNat ≤ d.length
  · rw [Nat.min_eq_left hn]
  · rw [Nat.min_eq_right (by omega), List.drop_of_length_le (Nat.le_refl _), List.drop_of_length_le (by omega)]
theorem cut_hd (d : List Nat) (i : Int) (h : 0 ≤ i) : cutS (sT d) none (some i) = sT (d.take i.toNat) := ext_tl (cutL_hd d i h)
theorem cut_tl (d : List Nat) (i : Int) (h : 0 ≤ i) : cutS (sT d) (some i) none = sT (d.drop i.toNat) := ext_tl (cutL_tl d i h)
theorem cutP_hd (d : List PV) (i : Int) (h : 0 ≤ i) : cutP d none (some i) = d.take i.toNat := cutL_hd d i h
theorem cutP_tl (d : List PV) (i : Int) (h : 0 ≤ i) : cutP d (some i) none = d.drop i.toNat := cutL_tl d i h
theorem split_sT {c : Nat} (hc : c < 256) (d : List Nat) : Txt.split (sT d) (sT [c]) = (spl [c] 0 [] d).map sT := by
  refine map_tl_inj ?_
  rw [split_spl (sT d) (sT [c]) (by simp [tl]) (kind_ok (by rw [← Array.all_toList]; simp [hc])), List.map_map]
  show spl [c] 0 [] d = List.map (tl ∘ sT) (spl [c] 0 [] d)
  have : (tl ∘ sT) = id := by funext x; rfl
  rw [this, List.map_id]
theorem iL_len {n : Nat} {i : Int} (h : Sm n i) : (iL i).length ≤ n + 2 := by
  have h1 := strI_len i
  have h2 := h.log
  rw [strI_eq, sT_len] at h1
  omega
/-! ### the ends of a def's body -/
inductive Rz where
  | val (p : PV) | fr (p : PV) | exc (c : Nat)
def SO.is : SO → Rz → Prop
  | .rt (.val p) _, .val q => p = q
  | .rt (.fresh p) _, .fr q => p = q
  | .exc c _, .exc d => c = d
  | .nx _, .val q => q = .non
  | _, _ => False
def Rz.co : Rz → CO
  | .val p => .ok p false []
  | .fr p => .ok p true []
  | .exc c => .exc c []
/-- the statements end so -/
def Ends (E : Eng) (Φ : Nat → List PV → CO) (l : List IS) (ε : Sg) (z : Rz) : Prop := (exL E Φ l ε).is z
theorem Ends.step {E : Eng} {Φ : Nat → List PV → CO} {s : IS} {l : List IS} {ε : Sg} {z : Rz} (ε1 : Sg) (h : exS E Φ s ε = .nx ε1) (k : Ends E Φ l ε1 z) : Ends E Φ (s :: l) ε z := by
  unfold Ends
  rw [exL_step h]
  exact k
theorem Ends.ret {E : Eng} {Φ : Nat → List PV → CO} {s : IS} {l : List IS} {ε : Sg} {v : PV} (ε1 : Sg) (h : exS E Φ s ε = .rt (.val v) ε1) : Ends E Φ (s :: l) ε (.val v) := by
  unfold Ends
  rw [exL_ret h]
  rfl
theorem Ends.fr {E : Eng} {Φ : Nat → List PV → CO} {s : IS} {l : List IS} {ε : Sg} {v : PV} (ε1 : Sg) (h : exS E Φ s ε = .rt (.fresh v) ε1) : Ends E Φ (s :: l) ε (.fr v) := by
  unfold Ends
  rw [exL_ret h]
  rfl
theorem exL_exc {E : Eng} {Φ : Nat → List PV → CO} {s : IS} {l : List IS} {ε ε1 : Sg} {c : Nat} (h : exS E Φ s ε = .exc c ε1) : exL E Φ (s :: l) ε = .exc c ε1 := by
  rw [exL, h]; rfl
theorem Ends.exc {E : Eng} {Φ : Nat → List PV → CO} {s : IS} {l : List IS} {ε : Sg} {c : Nat} (ε1 : Sg) (h : exS E Φ s ε = .exc c ε1) : Ends E Φ (s :: l) ε (.exc c) := by
  unfold Ends
  rw [exL_exc h]
  rfl
theorem outs_no : ∀ {ms : List Bool} {i : Nat} {ε : Sg}, ms.all (! ·) = true → outsS ms i ε = some []
  | [], _, _, _ => rfl
  | true :: _, _, _, h => by simp at h
  | false :: ms, i, ε, h => by
    rw [outsS]
    exact outs_no (by simpa using h)
theorem call_ends {E : Eng} {k f : Nat} {fi : FnI} {ps : List PV} {z : Rz} (ε0 : Sg) (h : E.fns[f]? = some fi) (hn : ps.length = fi.np ∧ fi.mask.length = fi.np ∧ fi.np ≤ fi.nsl) (hm : fi.mask.all (! ·) = true)
    (e0 : startS fi.mask ps ++ List.replicate (fi.nsl - fi.np) Slot.none = ε0) (he : Ends E (callF E k) fi.body ε0 z) : callF E (k + 1) f ps = z.co := by
  rw [call_top h, callB, if_pos hn, e0]
  unfold Ends at he
  generalize exL E (callF E k) fi.body ε0 = o at he
  have ho := fun ε => outs_no (i := 0) (ε := ε) hm
  match o, z, he with
  | .rt (.val p) ε, .val q, he => cases he; dsimp only; rw [ho]; rfl
  | .rt (.fresh p) ε, .fr q, he => cases he; dsimp only; rw [ho]; rfl
  | .exc c ε, .exc d, he => cases he; dsimp only; rw [ho]; rfl
  | .nx ε, .val q, he => cases he; dsimp only; rw [ho]; rfl
/-! ### comprehensions with a test -/
theorem cmp_fm {own : List Nat} {r : Rv} {turn : PV → Sg → Out (Option PV)} {f : PV → Option PV} {ε : Sg} : ∀ {ps acc : List PV}, (∀ p ∈ ps, ∃ ε1, turn p ε = .ok (f p) ε1 ∧ wipeS ε1 own = some ε) → acc.length + ps.length ≤ sizeLine →
    cmpI own r turn ps acc ε = .ok (acc ++ ps.filterMap f) ε
  | [], acc, _, _ => by simp [cmpI]
  | p :: ps, acc, h, hl => by
    obtain ⟨ε1, h1, h2⟩ := h p List.mem_cons_self
    rw [List.length_cons] at hl
    rw [cmpI, h1]
    simp only [h2, stays_refl, if_true]
    cases hf : f p with
    | none =>
      dsimp only
      rw [cmp_fm (fun q hq => h q (List.mem_cons_of_mem _ hq)) (by omega), List.filterMap_cons, hf]
    | some q =>
      dsimp only
      rw [if_pos (by omega), cmp_fm (fun q hq => h q (List.mem_cons_of_mem _ hq)) (by rw [List.length_append, List.length_singleton]; omega), List.filterMap_cons, hf]
      simp
theorem ev_fm {E : Eng} {Φ : Nat → List PV → CO} {elt : IE} {tg : Tg} {sk : Src} {its : List IE} {cond : List IE} {own : List Nat} {ε ε1 ε2 : Sg} {rs : List Rv} {r : Rv} {ps : List PV} (f : PV → Option PV) (h1 : evA E Φ its ε = .ok rs ε1) (h2 : srcI sk rs ε1 = some (r, ps)) (h3 : wipeS ε1 own = some ε2) (h4 : walkOk r own = true)
    (h5 : ∀ p ∈ ps, ∃ ε3, turnC E Φ elt tg cond p ε2 = .ok (f p) ε3 ∧ wipeS ε3 own = some ε2) (h6 : ps.length ≤ sizeLine) : evE E Φ (.cmpr elt tg sk its cond own) ε = .ok (.fresh (.lst (ps.filterMap f))) (backS ε1 ε2 own) := by
  have h : cmpI own r (turnC E Φ elt tg cond) ps [] ε2 = .ok ([] ++ ps.filterMap f) ε2 := cmp_fm h5 (by simpa using h6)
  rw [List.nil_append] at h
  rw [evE, h1]
  simp only [Out.bind, h2, h3, h4, if_true]
  show (match cmpI own r (turnC E Φ elt tg cond) ps [] ε2 with | .ok acc ε7 => Out.ok (Rv.fresh (.lst acc)) (backS ε1 ε7 own) | _ => .stuck) = _
  rw [h]
/-- a slot that may be stored to -/
def Wr (s : Slot) : Prop := ∀ p, s ≠ .own false p
theorem wr_none : Wr .none := fun _ h => nomatch h
theorem wr_val (p : PV) : Wr (.val p) := fun _ h => nomatch h
theorem wr_own (p : PV) : Wr (.own true p) := fun _ h => nomatch h
theorem put_val {ε : Sg} {i : Nat} {s : Slot} {p : PV} (hs : ε[i]? = some s) (h : Wr s) : putR i (.val p) ε = some (ε.set i (.val p)) := by
  unfold putR
  rw [hs]
  cases s with
  | none => rfl
  | val q => rfl
  | own k q =>
    cases k with
    | true => rfl
    | false => exact absurd rfl (h q)
theorem put_fr {ε : Sg} {i : Nat} {s : Slot} {p : PV} (hs : ε[i]? = some s) (h : Wr s) : putR i (.fresh p) ε = some (ε.set i (.own true p)) := by
  unfold putR
  rw [hs]
  cases s with
  | none => rfl
  | val q => rfl
  | own k q =>
    cases k with
    | true => rfl
    | false => exact absurd rfl (h q)
theorem ex_val {E : Eng} {Φ : Nat → List PV → CO} {ε ε1 : Sg} {i : Nat} {s : Slot} {e : IE} {p : PV} (he : evE E Φ e ε = .ok (.val p) ε1) (hs : ε1[i]? = some s) (h : Wr s) : exS E Φ (.asg i e) ε = .nx (ε1.set i (.val p)) := by
  rw [exS, he]
  dsimp only
  rw [put_val hs h]
theorem ex_fr {E : Eng} {Φ : Nat → List PV → CO} {ε ε1 : Sg} {i : Nat} {s : Slot} {e : IE} {p : PV} (he : evE E Φ e ε = .ok (.fresh p) ε1) (hs : ε1[i]? = some s) (h : Wr s) : exS E Φ (.asg i e) ε = .nx (ε1.set i (.own true p)) := by
  rw [exS, he]
  dsimp only
  rw [put_fr hs h]
theorem asg_nm {ε : Sg} {i : Nat} {s : Slot} {p : PV} (hs : ε[i]? = some s) (h : Wr s) : asgT (.nm i) p ε = some (ε.set i (.val p)) := by
  unfold asgT
  rw [hs]
  cases s with
  | none => rfl
  | val q => rfl
  | own k q =>
    cases k with
    | true => rfl
    | false => exact absurd rfl (h q)
end Eng

namespace K06
open PySem PySem.Spec L2 Eng
open PyProof.Rows hiding St
def f_is_name : FnI := ⟨"is_name", 1, [false], 2, [], [
    .ifs (.or [.not (.isi (.var 0) "str"), .not (.chn .LtE .LtE (.cst (.int 1)) (.blt .len [.var 0]) (.glb "LONGEST")), .cmp .NotIn (.sub (.var 0) (.cst (.int 0))) (.glb "LETTERS")]) [.ret (.cst (.bl false))] [],
    .ret (.blt .all [.cmpr (.cmp .In (.var 1) (.bin .Add (.glb "LETTERS") (.glb "FIGURES"))) (.nm 1) .val [.var 0] [] [1]])]⟩

def f_ratio : FnI := ⟨"ratio", 2, [false, false], 3, [.int 1], [
    .ifs (.cmp .Eq (.var 1) (.cst (.int 0))) [.raise 0 "nothing is divided by 0"] [],
    .asg 2 (.blt .gcd [.var 0, .var 1]),
    .ifs (.cmp .Lt (.var 1) (.cst (.int 0))) [.asg 2 (.neg (.var 2))] [],
    .ret (.tup [.bin .FloorDiv (.var 0) (.var 2), .bin .FloorDiv (.var 1) (.var 2)])]⟩

def f_is_integer : FnI := ⟨"is_integer", 1, [false], 1, [], [
    .ret (.and [.isi (.var 0) "int", .not (.isi (.var 0) "bool")])]⟩

def f_is_ratio : FnI := ⟨"is_ratio", 1, [false], 2, [], [
    .ifs (.or [.not (.isi (.var 0) "tuple"), .cmp .NotEq (.blt .len [.var 0]) (.cst (.int 2)), .not (.blt .all [.cmpr (.call 2 [.var 1]) (.nm 1) .val [.var 0] [] [1]])]) [.ret (.cst (.bl false))] [],
    .ret (.and [.cmp .GtE (.sub (.var 0) (.cst (.int 1))) (.cst (.int 1)), .cmp .Eq (.blt .gcd [.sub (.var 0) (.cst (.int 0)), .sub (.var 0) (.cst (.int 1))]) (.cst (.int 1))])]⟩

def f_plus : FnI := ⟨"plus", 2, [false, false], 2, [], [
    .ret (.call 1 [.bin .Add (.bin .Mult (.sub (.var 0) (.cst (.int 0))) (.sub (.var 1) (.cst (.int 1)))) (.bin .Mult (.sub (.var 1) (.cst (.int 0))) (.sub (.var 0) (.cst (.int 1)))), .bin .Mult (.sub (.var 0) (.cst (.int 1))) (.sub (.var 1) (.cst (.int 1)))])]⟩

def f_opposite : FnI := ⟨"opposite", 1, [false], 1, [], [
    .ret (.tup [.neg (.sub (.var 0) (.cst (.int 0))), .sub (.var 0) (.cst (.int 1))])]⟩

def f_minus : FnI := ⟨"minus", 2, [false, false], 2, [], [
    .ret (.call 4 [.var 0, .call 5 [.var 1]])]⟩

def f_times : FnI := ⟨"times", 2, [false, false], 2, [], [
    .ret (.call 1 [.bin .Mult (.sub (.var 0) (.cst (.int 0))) (.sub (.var 1) (.cst (.int 0))), .bin .Mult (.sub (.var 0) (.cst (.int 1))) (.sub (.var 1) (.cst (.int 1)))])]⟩

def f_is_length : FnI := ⟨"is_length", 1, [false], 1, [], [
    .ret (.call 9 [.var 0, .glb "MOST_DEPTH"])]⟩

def f_fits : FnI := ⟨"fits", 2, [false, false], 2, [], [
    .ifs (.or [.cmp .Lt (.var 1) (.cst (.int 1)), .not (.isi (.var 0) "tuple"), .cmp .Lt (.blt .len [.var 0]) (.cst (.int 2))]) [.ret (.cst (.bl false))] [],
    .ifs (.cmp .Eq (.sub (.var 0) (.cst (.int 0))) (.cst (.str "num"))) [.ret (.and [.cmp .Eq (.blt .len [.var 0]) (.cst (.int 2)), .call 3 [.sub (.var 0) (.cst (.int 1))]])] [],
    .ifs (.cmp .Eq (.sub (.var 0) (.cst (.int 0))) (.cst (.str "of"))) [.ret (.and [.cmp .Eq (.blt .len [.var 0]) (.cst (.int 2)), .call 0 [.sub (.var 0) (.cst (.int 1))]])] [],
    .ifs (.cmp .NotEq (.blt .len [.var 0]) (.cst (.int 3))) [.ret (.cst (.bl false))] [],
    .ifs (.cmp .Eq (.sub (.var 0) (.cst (.int 0))) (.cst (.str "times"))) [.ret (.and [.call 3 [.sub (.var 0) (.cst (.int 1))], .call 9 [.sub (.var 0) (.cst (.int 2)), .bin .Sub (.var 1) (.cst (.int 1))]])] [],
    .ret (.and [.cmp .In (.sub (.var 0) (.cst (.int 0))) (.tup [.cst (.str "plus"), .cst (.str "minus")]), .call 9 [.sub (.var 0) (.cst (.int 1)), .bin .Sub (.var 1) (.cst (.int 1))], .call 9 [.sub (.var 0) (.cst (.int 2)), .bin .Sub (.var 1) (.cst (.int 1))]])]⟩

def f_length_worth : FnI := ⟨"length_worth", 2, [false, false], 4, [], [
    .asg 2 (.sub (.var 0) (.cst (.int 0))),
    .ifs (.cmp .Eq (.var 2) (.cst (.str "num"))) [.ret (.sub (.var 0) (.cst (.int 1)))] [],
    .ifs (.cmp .Eq (.var 2) (.cst (.str "of"))) [.ifs (.cmp .NotIn (.sub (.var 0) (.cst (.int 1))) (.var 1)) [.raiseE 1 (.bin .Add (.cst (.str "there is no number ")) (.sub (.var 0) (.cst (.int 1))))] [],
    .ret (.sub (.var 1) (.sub (.var 0) (.cst (.int 1))))] [],
    .ifs (.cmp .Eq (.var 2) (.cst (.str "times"))) [.ret (.call 7 [.sub (.var 0) (.cst (.int 1)), .call 10 [.sub (.var 0) (.cst (.int 2)), .var 1]])] [],
    .selr 3 (.cmp .Eq (.var 2) (.cst (.str "plus"))) 4 6 [.call 10 [.sub (.var 0) (.cst (.int 1)), .var 1], .call 10 [.sub (.var 0) (.cst (.int 2)), .var 1]]]⟩

def f_names_in : FnI := ⟨"names_in", 1, [false], 4, [], [
    .ifs (.cmp .Eq (.sub (.var 0) (.cst (.int 0))) (.cst (.str "num"))) [.ret (.lst [])] [],
    .ifs (.cmp .Eq (.sub (.var 0) (.cst (.int 0))) (.cst (.str "of"))) [.ret (.lst [.sub (.var 0) (.cst (.int 1))])] [],
    .asg 1 (.ite (.cmp .Eq (.sub (.var 0) (.cst (.int 0))) (.cst (.str "times"))) (.slc (.var 0) (some (.cst (.int 2))) none) (.slc (.var 0) (some (.cst (.int 1))) none)),
    .ret (.cmp2 (.var 3) (.nm 2) .val [.var 1] (.nm 3) .val [.call 11 [.var 2]] [3, 2] [3])]⟩

def f_numbers_in : FnI := ⟨"numbers_in", 1, [false], 1, [], [
    .ret (.sset (.call 11 [.var 0]))]⟩

def f_growth : FnI := ⟨"growth", 2, [false, false], 4, [], [
    .asg 2 (.sub (.var 0) (.cst (.int 0))),
    .ifs (.cmp .Eq (.var 2) (.cst (.str "num"))) [.ret (.glb "NONE")] [],
    .ifs (.cmp .Eq (.var 2) (.cst (.str "of"))) [.ret (.ite (.cmp .Eq (.sub (.var 0) (.cst (.int 1))) (.var 1)) (.glb "ONE") (.glb "NONE"))] [],
    .ifs (.cmp .Eq (.var 2) (.cst (.str "times"))) [.ret (.call 7 [.sub (.var 0) (.cst (.int 1)), .call 13 [.sub (.var 0) (.cst (.int 2)), .var 1]])] [],
    .selr 3 (.cmp .Eq (.var 2) (.cst (.str "plus"))) 4 6 [.call 13 [.sub (.var 0) (.cst (.int 1)), .var 1], .call 13 [.sub (.var 0) (.cst (.int 2)), .var 1]]]⟩

def f__law_draws : FnI := ⟨"_law_draws", 1, [false], 7, [], [
    .asg 1 (.lst []),
    .for_ (.nm 2) .val [.var 0] [.asg 5 (.blt .abs [.var 2]),
    .ifs (.cmp .Lt (.var 5) (.bin .Pow (.cst (.int 10)) (.cst (.int 18)))) [.asg 6 (.bin .Mod (.blt .int [.bin .Add (.bin .Mult (.var 5) (.cst (.int 48271))) (.cst (.int 11))]) (.cst (.int 2147483647))),
    .expr (.mut .append 1 [.bin .Mod (.blt .int [.bin .Add (.bin .Mult (.var 6) (.cst (.int 69621))) (.var 5)]) (.cst (.int 2147483629))]),
    .expr (.mut .append 1 [.bin .Mod (.blt .int [.bin .Add (.var 6) (.bin .FloorDiv (.var 5) (.cst (.int 7)))]) (.cst (.int 1000003))]),
    .asg 5 (.cst (.int 0))] [],
    .for_ (.nm 4) .rng [.cst (.int 60)] [.ifs (.cmp .Gt (.var 5) (.cst (.int 0))) [.expr (.mut .append 1 [.bin .Mod (.blt .int [.var 5]) (.cst (.int 997))]),
    .asg 5 (.bin .FloorDiv (.var 5) (.cst (.int 997)))] []]],
    .asg 3 (.cst (.int 1)),
    .ifs (.cmp .Gt (.blt .len [.var 0]) (.cst (.int 0))) [.asg 3 (.bin .Add (.cst (.int 1)) (.blt .abs [.sub (.var 0) (.cst (.int 0))]))] [],
    .for_ (.nm 4) .rng [.cst (.int 900)] [.asg 3 (.bin .Mod (.blt .int [.bin .Add (.bin .Mult (.var 3) (.cst (.int 48271))) (.cst (.int 69621))]) (.cst (.int 2147483647))),
    .expr (.mut .append 1 [.bin .FloorDiv (.var 3) (.cst (.int 5))])],
    .ret (.lrev (.var 1))]⟩

def f__law_take : FnI := ⟨"_law_take", 2, [true, false], 2, [], [
    .ifs (.cmp .Eq (.blt .len [.var 0]) (.cst (.int 0))) [.ret (.cst (.int 0))] [],
    .ret (.bin .Mod (.blt .int [.mut .pop 0 []]) (.var 1))]⟩

def f__law_ratio : FnI := ⟨"_law_ratio", 1, [true], 2, [], [
    .asg 1 (.call 15 [.var 0, .cst (.int 12)]),
    .ifs (.cmp .Lt (.var 1) (.cst (.int 5))) [.ret (.call 1 [.bin .Sub (.call 15 [.var 0, .cst (.int 7)]) (.cst (.int 3))])] [],
    .ifs (.cmp .Eq (.var 1) (.cst (.int 11))) [.ret (.call 1 [.bin .Sub (.bin .Pow (.bin .Add (.call 15 [.var 0, .cst (.int 999983)]) (.cst (.int 1))) (.cst (.int 3))) (.call 15 [.var 0, .cst (.int 999)]), .bin .Add (.call 15 [.var 0, .cst (.int 9973)]) (.cst (.int 1))])] [],
    .ret (.call 1 [.bin .Sub (.call 15 [.var 0, .cst (.int 41)]) (.cst (.int 20)), .bin .Add (.cst (.int 1)) (.call 15 [.var 0, .cst (.int 6)])])]⟩

def f__law_small : FnI := ⟨"_law_small", 1, [true], 1, [], [
    .ret (.call 1 [.bin .Sub (.call 15 [.var 0, .cst (.int 5)]) (.cst (.int 2))])]⟩

def f__law_any_length : FnI := ⟨"_law_any_length", 2, [true, false], 3, [], [
    .asg 2 (.call 15 [.var 0, .cst (.int 6)]),
    .ifs (.and [.cmp .Gt (.var 1) (.cst (.int 0)), .cmp .Lt (.var 2) (.cst (.int 2))]) [.ret (.tup [.sub (.lst [.cst (.str "plus"), .cst (.str "minus")]) (.var 2), .call 18 [.var 0, .bin .Sub (.var 1) (.cst (.int 1))], .call 18 [.var 0, .bin .Sub (.var 1) (.cst (.int 1))]])] [],
    .ifs (.and [.cmp .Gt (.var 1) (.cst (.int 0)), .cmp .Eq (.var 2) (.cst (.int 2))]) [.ret (.tup [.cst (.str "times"), .call 16 [.var 0], .call 18 [.var 0, .bin .Sub (.var 1) (.cst (.int 1))]])] [],
    .ifs (.cmp .Eq (.var 2) (.cst (.int 3))) [.ret (.tup [.cst (.str "num"), .call 16 [.var 0]])] [],
    .ret (.tup [.cst (.str "of"), .sub (.lst [.cst (.str "a"), .cst (.str "b2"), .cst (.str "w")]) (.call 15 [.var 0, .cst (.int 3)])])]⟩

def f__law_names : FnI := ⟨"_law_names", 1, [false], 3, [], [
    .ifs (.cmp .Eq (.sub (.var 0) (.cst (.int 0))) (.cst (.str "num"))) [.ret (.lst [])] [],
    .ifs (.cmp .Eq (.sub (.var 0) (.cst (.int 0))) (.cst (.str "of"))) [.ret (.lst [.sub (.var 0) (.cst (.int 1))])] [],
    .asg 1 (.lst []),
    .for_ (.nm 2) .val [.slc (.var 0) (some (.cst (.int 1))) none] [.ifs (.isi (.sub (.var 2) (.cst (.int 0))) "str") [.asg 1 (.bin .Add (.var 1) (.call 19 [.var 2]))] []],
    .ret (.var 1)]⟩

def f__law_worth : FnI := ⟨"_law_worth", 2, [false, false], 4, [], [
    .ifs (.cmp .Eq (.sub (.var 0) (.cst (.int 0))) (.cst (.str "num"))) [.ret (.sub (.var 0) (.cst (.int 1)))] [],
    .ifs (.cmp .Eq (.sub (.var 0) (.cst (.int 0))) (.cst (.str "of"))) [.ret (.sub (.var 1) (.sub (.var 0) (.cst (.int 1))))] [],
    .ifs (.cmp .Eq (.sub (.var 0) (.cst (.int 0))) (.cst (.str "times"))) [.ret (.call 7 [.sub (.var 0) (.cst (.int 1)), .call 20 [.sub (.var 0) (.cst (.int 2)), .var 1]])] [],
    .asgT (.tp [.nm 2, .nm 3]) (.tup [.call 20 [.sub (.var 0) (.cst (.int 1)), .var 1], .call 20 [.sub (.var 0) (.cst (.int 2)), .var 1]]),
    .ret (.pick [6, 4] (.blt .int [.cmp .Eq (.sub (.var 0) (.cst (.int 0))) (.cst (.str "plus"))]) [.var 2, .var 3])]⟩

def f__law_told : FnI := ⟨"_law_told", 2, [false, false], 2, [], [
    .tryn [.ret (.call 10 [.var 0, .var 1])] [(1, (.str "there")), (2, (.str "other"))]]⟩

def f__law_is_right : FnI := ⟨"_law_is_right", 2, [false, false], 2, [], [
    .ifs (.or [.cmp .Eq (.var 1) (.cst (.int 0)), .not (.isi (.var 0) "tuple"), .cmp .Lt (.blt .len [.var 0]) (.cst (.int 2)), .not (.isi (.sub (.var 0) (.cst (.int 0))) "str")]) [.ret (.cst (.bl false))] [],
    .ifs (.cmp .Eq (.sub (.var 0) (.cst (.int 0))) (.cst (.str "num"))) [.ret (.and [.cmp .Eq (.blt .len [.var 0]) (.cst (.int 2)), .call 23 [.sub (.var 0) (.cst (.int 1))]])] [],
    .ifs (.cmp .Eq (.sub (.var 0) (.cst (.int 0))) (.cst (.str "of"))) [.ret (.and [.cmp .Eq (.blt .len [.var 0]) (.cst (.int 2)), .isi (.sub (.var 0) (.cst (.int 1))) "str", .cmp .In (.sub (.var 0) (.cst (.int 1))) (.lst [.cst (.str "a"), .cst (.str "b2"), .cst (.str "w"), .cst (.str "zz9"), .cst (.str "num"), .cst (.str "of"), .cst (.str "plus")])])] [],
    .ifs (.or [.cmp .NotEq (.blt .len [.var 0]) (.cst (.int 3)), .cmp .NotIn (.sub (.var 0) (.cst (.int 0))) (.lst [.cst (.str "plus"), .cst (.str "minus"), .cst (.str "times")])]) [.ret (.cst (.bl false))] [],
    .ifs (.cmp .Eq (.sub (.var 0) (.cst (.int 0))) (.cst (.str "times"))) [.ret (.and [.call 23 [.sub (.var 0) (.cst (.int 1))], .call 22 [.sub (.var 0) (.cst (.int 2)), .bin .Sub (.var 1) (.cst (.int 1))]])] [],
    .ret (.and [.call 22 [.sub (.var 0) (.cst (.int 1)), .bin .Sub (.var 1) (.cst (.int 1))], .call 22 [.sub (.var 0) (.cst (.int 2)), .bin .Sub (.var 1) (.cst (.int 1))]])]⟩

def f__law_is_ratio : FnI := ⟨"_law_is_ratio", 1, [false], 2, [], [
    .ifs (.or [.not (.isi (.var 0) "tuple"), .cmp .NotEq (.blt .len [.var 0]) (.cst (.int 2)), .cmp .NotEq (.cmpr (.var 1) (.nm 1) .val [.var 0] [.or [.isi (.var 1) "bool", .not (.isi (.var 1) "int")]] [1]) (.lst [])]) [.ret (.cst (.bl false))] [],
    .ret (.and [.cmp .Gt (.sub (.var 0) (.cst (.int 1))) (.cst (.int 0)), .cmp .Eq (.call 1 [.sub (.var 0) (.cst (.int 0)), .sub (.var 0) (.cst (.int 1))]) (.var 0)])]⟩

def f__law_bent : FnI := ⟨"_law_bent", 2, [true, false], 6, [], [
    .asg 2 (.blt .list [.var 1]),
    .asg 3 (.call 15 [.var 0, .blt .len [.var 2]]),
    .asg 4 (.lst [.cst (.str "num"), .cst (.str "of"), .cst (.str "plus"), .cst (.str ""), .cst .non, .cst (.int 3), .tup [.cst (.int 1), .cst (.int 2)], .tup [.cst (.int 2), .cst (.int 4)], .cst (.str "zz9"), .cst (.str "9z"), .tup [.cst (.str "num"), .tup [.cst (.int 1), .cst (.int 1)]], .cst (.bl true)]),
    .asg 5 (.call 15 [.var 0, .cst (.int 3)]),
    .ifs (.cmp .Eq (.var 5) (.cst (.int 0))) [.setI 2 (.var 3) (.sub (.var 4) (.call 15 [.var 0, .cst (.int 12)]))] [],
    .ifs (.cmp .Eq (.var 5) (.cst (.int 1))) [.expr (.mut .popAt 2 [.var 3])] [],
    .ifs (.cmp .Eq (.var 5) (.cst (.int 2))) [.expr (.mut .insert 2 [.var 3, .sub (.var 4) (.call 15 [.var 0, .cst (.int 12)])])] [],
    .ret (.blt .tuple [.var 2])]⟩

def f_law : FnI := ⟨"law", 1, [false], 14, [], [
    .asg 1 (.call 14 [.var 0]),
    .asg 2 (.ddis ["a", "b2", "w", "x"] [.call 16 [.var 1], .call 17 [.var 1], .call 16 [.var 1], .call 1 [.cst (.int 9)]]),
    .for_ (.nm 3) .rng [.cst (.int 6)] [.asg 7 (.call 18 [.var 1, .cst (.int 3)]),
    .ifs (.or [.cmp .IsNot (.call 8 [.var 7]) (.cst (.bl true)), .cmp .NotEq (.blt .repr [.call 21 [.var 7, .var 2]]) (.blt .repr [.call 20 [.var 7, .var 2]])]) [.ret (.cst (.bl false))] [],
    .asg 8 (.sset (.call 19 [.var 7])),
    .ifs (.cmp .NotEq (.blt .repr [.call 12 [.var 7]]) (.blt .repr [.var 8])) [.ret (.cst (.bl false))] [],
    .for_ (.nm 9) .val [.lst [.cst (.str "a"), .cst (.str "b2"), .cst (.str "w"), .cst (.str "x")]] [.asg 11 (.blt .dict [.var 2]),
    .setI 11 (.var 9) (.call 4 [.sub (.var 2) (.var 9), .call 1 [.cst (.int 1)]]),
    .ifs (.cmp .NotEq (.blt .repr [.call 13 [.var 7, .var 9]]) (.blt .repr [.call 6 [.call 20 [.var 7, .var 11], .call 20 [.var 7, .var 2]]])) [.ret (.cst (.bl false))] [],
    .asg 12 (.blt .dict [.cmpr (.tup [.var 13, .sub (.var 2) (.var 13)]) (.nm 13) .keys [.fzv 2] [.cmp .NotEq (.var 13) (.var 9)] [13]]),
    .ifs (.cmp .NotEq (.cmp .Eq (.call 21 [.var 7, .var 12]) (.cst (.str "there"))) (.cmp .In (.var 9) (.var 8))) [.ret (.cst (.bl false))] []],
    .asg 10 (.call 24 [.var 1, .var 7]),
    .ifs (.cmp .NotEq (.blt .repr [.call 8 [.var 10]]) (.blt .repr [.call 22 [.var 10, .cst (.int 8)]])) [.ret (.cst (.bl false))] []],
    .asg 4 (.tup [.cst (.str "of"), .cst (.str "w")]),
    .for_ (.nm 5) .rng [.cst (.int 7)] [.asg 4 (.tup [.cst (.str "times"), .call 1 [.cst (.int 2)], .var 4])],
    .asg 6 (.lst [.call 8 [.var 4], .call 8 [.tup [.cst (.str "plus"), .tup [.cst (.str "num"), .call 1 [.cst (.int 1)]], .var 4]], .call 10 [.var 4, .var 2]]),
    .ret (.cmp .Eq (.blt .repr [.var 6]) (.blt .repr [.lst [.cst (.bl true), .cst (.bl false), .call 7 [.call 1 [.cst (.int 128)], .sub (.var 2) (.cst (.str "w"))]]]))]⟩

def fs : List FnI := [f_is_name, f_ratio, f_is_integer, f_is_ratio, f_plus, f_opposite, f_minus, f_times, f_is_length, f_fits, f_length_worth, f_names_in, f_numbers_in, f_growth, f__law_draws, f__law_take, f__law_ratio, f__law_small, f__law_any_length, f__law_names, f__law_worth, f__law_told, f__law_is_right, f__law_is_ratio, f__law_bent, f_law]
def gl : List (Str × PV) := [("LONGEST", (.int 12)), ("LETTERS", (.str "abcdefghijklmnopqrstuvwxyz")), ("FIGURES", (.str "0123456789")), ("MOST_DEPTH", (.int 8)), ("NONE", (.tup [.int 0, .int 1])), ("ONE", (.tup [.int 1, .int 1]))]
def cl : List Str := ["NotNumber", "NotThere", "MitreError"]
def sb (a b : Nat) : Bool := (a == 0 && b == 0) || (a == 0 && b == 2) || (a == 1 && b == 1) || (a == 1 && b == 2) || (a == 2 && b == 2)
def bs : List Blt := [.len, .all, .gcd, .abs, .int, .list, .tuple, .repr, .dict]
def ts : List String := ["str", "int", "bool", "tuple"]
def fr : List Str := ["sorted", "set", "range", "list", "reversed"]
def E : Eng.Eng := ⟨fs, gl, cl, bs, ts, sb, fr⟩
@[simp] theorem fx_is_name : E.fns[0]? = some f_is_name := rfl
@[simp] theorem fm_is_name : f_is_name.mask = [false] := rfl
@[simp] theorem fn_is_name : f_is_name.np = 1 := rfl
@[simp] theorem fd_is_name : f_is_name.dfl = [] := rfl
@[simp] theorem fx_ratio : E.fns[1]? = some f_ratio := rfl
@[simp] theorem fm_ratio : f_ratio.mask = [false, false] := rfl
@[simp] theorem fn_ratio : f_ratio.np = 2 := rfl
@[simp] theorem fd_ratio : f_ratio.dfl = [.int 1] := rfl
@[simp] theorem fx_is_integer : E.fns[2]? = some f_is_integer := rfl
@[simp] theorem fm_is_integer : f_is_integer.mask = [false] := rfl
@[simp] theorem fn_is_integer : f_is_integer.np = 1 := rfl
@[simp] theorem fd_is_integer : f_is_integer.dfl = [] := rfl
@[simp] theorem fx_is_ratio : E.fns[3]? = some f_is_ratio := rfl
@[simp] theorem fm_is_ratio : f_is_ratio.mask = [false] := rfl
@[simp] theorem fn_is_ratio : f_is_ratio.np = 1 := rfl
@[simp] theorem fd_is_ratio : f_is_ratio.dfl = [] := rfl
@[simp] theorem fx_plus : E.fns[4]? = some f_plus := rfl
@[simp] theorem fm_plus : f_plus.mask = [false, false] := rfl
@[simp] theorem fn_plus : f_plus.np = 2 := rfl
@[simp] theorem fd_plus : f_plus.dfl = [] := rfl
@[simp] theorem fx_opposite : E.fns[5]? = some f_opposite := rfl
@[simp] theorem fm_opposite : f_opposite.mask = [false] := rfl
@[simp] theorem fn_opposite : f_opposite.np = 1 := rfl
@[simp] theorem fd_opposite : f_opposite.dfl = [] := rfl
@[simp] theorem fx_minus : E.fns[6]? = some f_minus := rfl
@[simp] theorem fm_minus : f_minus.mask = [false, false] := rfl
@[simp] theorem fn_minus : f_minus.np = 2 := rfl
@[simp] theorem fd_minus : f_minus.dfl = [] := rfl
@[simp] theorem fx_times : E.fns[7]? = some f_times := rfl
@[simp] theorem fm_times : f_times.mask = [false, false] := rfl
@[simp] theorem fn_times : f_times.np = 2 := rfl
@[simp] theorem fd_times : f_times.dfl = [] := rfl
@[simp] theorem fx_is_length : E.fns[8]? = some f_is_length := rfl
@[simp] theorem fm_is_length : f_is_length.mask = [false] := rfl
@[simp] theorem fn_is_length : f_is_length.np = 1 := rfl
@[simp] theorem fd_is_length : f_is_length.dfl = [] := rfl
@[simp] theorem fx_fits : E.fns[9]? = some f_fits := rfl
@[simp] theorem fm_fits : f_fits.mask = [false, false] := rfl
@[simp] theorem fn_fits : f_fits.np = 2 := rfl
@[simp] theorem fd_fits : f_fits.dfl = [] := rfl
@[simp] theorem fx_length_worth : E.fns[10]? = some f_length_worth := rfl
@[simp] theorem fm_length_worth : f_length_worth.mask = [false, false] := rfl
@[simp] theorem fn_length_worth : f_length_worth.np = 2 := rfl
@[simp] theorem fd_length_worth : f_length_worth.dfl = [] := rfl
@[simp] theorem fx_names_in : E.fns[11]? = some f_names_in := rfl
@[simp] theorem fm_names_in : f_names_in.mask = [false] := rfl
@[simp] theorem fn_names_in : f_names_in.np = 1 := rfl
@[simp] theorem fd_names_in : f_names_in.dfl = [] := rfl
@[simp] theorem fx_numbers_in : E.fns[12]? = some f_numbers_in := rfl
@[simp] theorem fm_numbers_in : f_numbers_in.mask = [false] := rfl
@[simp] theorem fn_numbers_in : f_numbers_in.np = 1 := rfl
@[simp] theorem fd_numbers_in : f_numbers_in.dfl = [] := rfl
@[simp] theorem fx_growth : E.fns[13]? = some f_growth := rfl
@[simp] theorem fm_growth : f_growth.mask = [false, false] := rfl
@[simp] theorem fn_growth : f_growth.np = 2 := rfl
@[simp] theorem fd_growth : f_growth.dfl = [] := rfl
@[simp] theorem fx__law_draws : E.fns[14]? = some f__law_draws := rfl
@[simp] theorem fm__law_draws : f__law_draws.mask = [false] := rfl
@[simp] theorem fn__law_draws : f__law_draws.np = 1 := rfl
@[simp] theorem fd__law_draws : f__law_draws.dfl = [] := rfl
@[simp] theorem fx__law_take : E.fns[15]? = some f__law_take := rfl
@[simp] theorem fm__law_take : f__law_take.mask = [true, false] := rfl
@[simp] theorem fn__law_take : f__law_take.np = 2 := rfl
@[simp] theorem fd__law_take : f__law_take.dfl = [] := rfl
@[simp] theorem fx__law_ratio : E.fns[16]? = some f__law_ratio := rfl
@[simp] theorem fm__law_ratio : f__law_ratio.mask = [true] := rfl
@[simp] theorem fn__law_ratio : f__law_ratio.np = 1 := rfl
@[simp] theorem fd__law_ratio : f__law_ratio.dfl = [] := rfl
@[simp] theorem fx__law_small : E.fns[17]? = some f__law_small := rfl
@[simp] theorem fm__law_small : f__law_small.mask = [true] := rfl
@[simp] theorem fn__law_small : f__law_small.np = 1 := rfl
@[simp] theorem fd__law_small : f__law_small.dfl = [] := rfl
@[simp] theorem fx__law_any_length : E.fns[18]? = some f__law_any_length := rfl
@[simp] theorem fm__law_any_length : f__law_any_length.mask = [true, false] := rfl
@[simp] theorem fn__law_any_length : f__law_any_length.np = 2 := rfl
@[simp] theorem fd__law_any_length : f__law_any_length.dfl = [] := rfl
@[simp] theorem fx__law_names : E.fns[19]? = some f__law_names := rfl
@[simp] theorem fm__law_names : f__law_names.mask = [false] := rfl
@[simp] theorem fn__law_names : f__law_names.np = 1 := rfl
@[simp] theorem fd__law_names : f__law_names.dfl = [] := rfl
@[simp] theorem fx__law_worth : E.fns[20]? = some f__law_worth := rfl
@[simp] theorem fm__law_worth : f__law_worth.mask = [false, false] := rfl
@[simp] theorem fn__law_worth : f__law_worth.np = 2 := rfl
@[simp] theorem fd__law_worth : f__law_worth.dfl = [] := rfl
@[simp] theorem fx__law_told : E.fns[21]? = some f__law_told := rfl
@[simp] theorem fm__law_told : f__law_told.mask = [false, false] := rfl
@[simp] theorem fn__law_told : f__law_told.np = 2 := rfl
@[simp] theorem fd__law_told : f__law_told.dfl = [] := rfl
@[simp] theorem fx__law_is_right : E.fns[22]? = some f__law_is_right := rfl
@[simp] theorem fm__law_is_right : f__law_is_right.mask = [false, false] := rfl
@[simp] theorem fn__law_is_right : f__law_is_right.np = 2 := rfl
@[simp] theorem fd__law_is_right : f__law_is_right.dfl = [] := rfl
@[simp] theorem fx__law_is_ratio : E.fns[23]? = some f__law_is_ratio := rfl
@[simp] theorem fm__law_is_ratio : f__law_is_ratio.mask = [false] := rfl
@[simp] theorem fn__law_is_ratio : f__law_is_ratio.np = 1 := rfl
@[simp] theorem fd__law_is_ratio : f__law_is_ratio.dfl = [] := rfl
@[simp] theorem fx__law_bent : E.fns[24]? = some f__law_bent := rfl
@[simp] theorem fm__law_bent : f__law_bent.mask = [true, false] := rfl
@[simp] theorem fn__law_bent : f__law_bent.np = 2 := rfl
@[simp] theorem fd__law_bent : f__law_bent.dfl = [] := rfl
@[simp] theorem fx_law : E.fns[25]? = some f_law := rfl
@[simp] theorem fm_law : f_law.mask = [false] := rfl
@[simp] theorem fn_law : f_law.np = 1 := rfl
@[simp] theorem fd_law : f_law.dfl = [] := rfl
theorem es : E.sub = sb := rfl
end K06

namespace K06
open PySem PySem.Spec L2 Eng Rt TL
open PyProof.Rows hiding St
/-! ### lengths -/
def nm (j : Nat) : Str := if j = 0 then "a" else if j = 1 then "b2" else "w"
def rp (x : Int × Int) : PV := .tup [.int x.1, .int x.2]
inductive Ln where
  | num (x : Int × Int)
  | of (j : Nat)
  | times (x : Int × Int) (l : Ln)
  | plus (a b : Ln)
  | minus (a b : Ln)
def Ln.pv : Ln → PV
  | .num x => .tup [.str "num", rp x]
  | .of j => .tup [.str "of", .str (nm j)]
  | .times x l => .tup [.str "times", rp x, l.pv]
  | .plus a b => .tup [.str "plus", a.pv, b.pv]
  | .minus a b => .tup [.str "minus", a.pv, b.pv]
def Ln.dep : Ln → Nat
  | .num _ => 1
  | .of _ => 1
  | .times _ l => l.dep + 1
  | .plus a b => max a.dep b.dep + 1
  | .minus a b => max a.dep b.dep + 1
/-- a ratio of at most n bits -/
structure Rok (n : Nat) (x : Int × Int) : Prop where
  is : IsR x.1 x.2
  s1 : Sm n x.1
  s2 : Sm n x.2
theorem Rok.ne {n : Nat} {x : Int × Int} (h : Rok n x) : x.2 ≠ 0 := by have := h.is.pos; omega
theorem Rok.le {n m : Nat} {x : Int × Int} (h : Rok n x) (e : n ≤ m) : Rok m x := ⟨h.is, h.s1.le e, h.s2.le e⟩
def Ln.Ok : Ln → Prop
  | .num x => Rok 64 x
  | .of j => j < 3
  | .times x l => Rok 64 x ∧ l.Ok
  | .plus a b => a.Ok ∧ b.Ok
  | .minus a b => a.Ok ∧ b.Ok
def Ln.bits : Ln → Nat
  | .num _ => 64
  | .of _ => 64
  | .times _ l => 64 + l.bits
  | .plus a b => a.bits + b.bits + 1
  | .minus a b => a.bits + b.bits + 1
def Ln.nms : Ln → List Nat
  | .num _ => []
  | .of j => [j]
  | .times _ l => l.nms
  | .plus a b => a.nms ++ b.nms
  | .minus a b => a.nms ++ b.nms
def tm (x y : Int × Int) : Int × Int := (rN (x.1 * y.1) (x.2 * y.2), rD (x.1 * y.1) (x.2 * y.2))
def pl (x y : Int × Int) : Int × Int := (rN (x.1 * y.2 + y.1 * x.2) (x.2 * y.2), rD (x.1 * y.2 + y.1 * x.2) (x.2 * y.2))
def op (x : Int × Int) : Int × Int := (-x.1, x.2)
def Ln.w (v : Nat → Int × Int) : Ln → Int × Int
  | .num x => x
  | .of j => v j
  | .times x l => tm x (l.w v)
  | .plus a b => pl (a.w v) (b.w v)
  | .minus a b => pl (a.w v) (op (b.w v))
theorem Rok.tm {n m : Nat} {x y : Int × Int} (h : Rok n x) (k : Rok m y) : Rok (n + m) (tm x y) := by
  have h0 := Int.mul_ne_zero h.ne k.ne
  exact ⟨r_is h0, rN_sm h0 (h.s1.mul k.s1), rD_sm h0 (h.s2.mul k.s2)⟩
theorem Rok.op {n : Nat} {x : Int × Int} (h : Rok n x) : Rok n (op x) := ⟨⟨h.is.pos, by show Int.gcd (-x.1) x.2 = 1; rw [Int.neg_gcd]; exact h.is.co⟩, h.s1.neg, h.s2⟩
theorem Rok.pl {n m : Nat} {x y : Int × Int} (h : Rok n x) (k : Rok m y) : Rok (n + m + 1) (pl x y) := by
  have h0 := Int.mul_ne_zero h.ne k.ne
  refine ⟨r_is h0, rN_sm h0 ((h.s1.mul k.s2).add ((k.s1.mul h.s2).le (by omega))), rD_sm h0 ((h.s2.mul k.s2).le (by omega))⟩
def Vok (v : Nat → Int × Int) : Prop := ∀ j, Rok 64 (v j)
theorem w_ok {v : Nat → Int × Int} (hv : Vok v) : ∀ {l : Ln}, l.Ok → Rok l.bits (l.w v)
  | .num x, h => h
  | .of j, _ => hv j
  | .times x l, h => h.1.tm (w_ok hv h.2)
  | .plus a b, h => (w_ok hv h.1).pl (w_ok hv h.2)
  | .minus a b, h => (w_ok hv h.1).pl (w_ok hv h.2).op
/-! ### the ratios' defs -/
theorem d_ratio : E.fns[1]? = some (fRatio 0) := rfl
theorem d_isint : E.fns[2]? = some fIsInt := rfl
theorem d_isratio : E.fns[3]? = some (fIsRatio 2) := rfl
theorem d_plus : E.fns[4]? = some (fPlus 1) := rfl
theorem d_opp : E.fns[5]? = some fOpp := rfl
theorem d_minus : E.fns[6]? = some (fMinus 4 5) := rfl
theorem d_times : E.fns[7]? = some (fTimes 1) := rfl
theorem d_draws : E.fns[14]? = some fDraws := rfl
theorem d_take : E.fns[15]? = some fTake := rfl
theorem c_times {x y : Int × Int} {n : Nat} (hn : 2 ≤ n) (h : Rok 1000 x) (k : Rok 1000 y) : callF E n 7 [rp x, rp y] = .ok (rp (tm x y)) false [] := by
  obtain ⟨m, rfl⟩ : ∃ m, n = m + 2 := ⟨n - 2, by omega⟩
  exact call_times d_times d_ratio m h.ne k.ne h.s1 h.s2 k.s1 k.s2
theorem c_plus {x y : Int × Int} {n : Nat} (hn : 2 ≤ n) (h : Rok 1000 x) (k : Rok 1000 y) : callF E n 4 [rp x, rp y] = .ok (rp (pl x y)) false [] := by
  obtain ⟨m, rfl⟩ : ∃ m, n = m + 2 := ⟨n - 2, by omega⟩
  exact call_plus d_plus d_ratio m h.ne k.ne h.s1 h.s2 k.s1 k.s2
theorem c_minus {x y : Int × Int} {n : Nat} (hn : 3 ≤ n) (h : Rok 1000 x) (k : Rok 1000 y) : callF E n 6 [rp x, rp y] = .ok (rp (pl x (op y))) false [] := by
  obtain ⟨m, rfl⟩ : ∃ m, n = m + 3 := ⟨n - 3, by omega⟩
  exact call_minus d_minus d_plus d_opp d_ratio m h.ne k.ne h.s1 h.s2 k.s1 k.s2
theorem c_isratio {x : Int × Int} {n : Nat} (hn : 2 ≤ n) (h : IsR x.1 x.2) : callF E n 3 [rp x] = .ok (.bl true) false [] := by
  obtain ⟨m, rfl⟩ : ∃ m, n = m + 2 := ⟨n - 2, by omega⟩
  exact call_isratio d_isratio d_isint m h
/-! ### words -/
@[simp] theorem ne_num_of : ((Str.ofString "num") = (Str.ofString "of")) = False := by simp only [eq_iff_iff, iff_false]; decide
@[simp] theorem ne_num_times : ((Str.ofString "num") = (Str.ofString "times")) = False := by simp only [eq_iff_iff, iff_false]; decide
@[simp] theorem ne_num_plus : ((Str.ofString "num") = (Str.ofString "plus")) = False := by simp only [eq_iff_iff, iff_false]; decide
@[simp] theorem ne_num_minus : ((Str.ofString "num") = (Str.ofString "minus")) = False := by simp only [eq_iff_iff, iff_false]; decide
@[simp] theorem ne_of_num : ((Str.ofString "of") = (Str.ofString "num")) = False := by simp only [eq_iff_iff, iff_false]; decide
@[simp] theorem ne_of_times : ((Str.ofString "of") = (Str.ofString "times")) = False := by simp only [eq_iff_iff, iff_false]; decide
@[simp] theorem ne_of_plus : ((Str.ofString "of") = (Str.ofString "plus")) = False := by simp only [eq_iff_iff, iff_false]; decide
@[simp] theorem ne_of_minus : ((Str.ofString "of") = (Str.ofString "minus")) = False := by simp only [eq_iff_iff, iff_false]; decide
@[simp] theorem ne_times_num : ((Str.ofString "times") = (Str.ofString "num")) = False := by simp only [eq_iff_iff, iff_false]; decide
@[simp] theorem ne_times_of : ((Str.ofString "times") = (Str.ofString "of")) = False := by simp only [eq_iff_iff, iff_false]; decide
@[simp] theorem ne_times_plus : ((Str.ofString "times") = (Str.ofString "plus")) = False := by simp only [eq_iff_iff, iff_false]; decide
@[simp] theorem ne_times_minus : ((Str.ofString "times") = (Str.ofString "minus")) = False := by simp only [eq_iff_iff, iff_false]; decide
@[simp] theorem ne_plus_num : ((Str.ofString "plus") = (Str.ofString "num")) = False := by simp only [eq_iff_iff, iff_false]; decide
@[simp] theorem ne_plus_of : ((Str.ofString "plus") = (Str.ofString "of")) = False := by simp only [eq_iff_iff, iff_false]; decide
@[simp] theorem ne_plus_times : ((Str.ofString "plus") = (Str.ofString "times")) = False := by simp only [eq_iff_iff, iff_false]; decide
@[simp] theorem ne_plus_minus : ((Str.ofString "plus") = (Str.ofString "minus")) = False := by simp only [eq_iff_iff, iff_false]; decide
@[simp] theorem ne_minus_num : ((Str.ofString "minus") = (Str.ofString "num")) = False := by simp only [eq_iff_iff, iff_false]; decide
@[simp] theorem ne_minus_of : ((Str.ofString "minus") = (Str.ofString "of")) = False := by simp only [eq_iff_iff, iff_false]; decide
@[simp] theorem ne_minus_times : ((Str.ofString "minus") = (Str.ofString "times")) = False := by simp only [eq_iff_iff, iff_false]; decide
@[simp] theorem ne_minus_plus : ((Str.ofString "minus") = (Str.ofString "plus")) = False := by simp only [eq_iff_iff, iff_false]; decide
/-! ### worth -/
@[simp] theorem in_dct {s : Str} {d : List (Key × PV)} : opIn (.str s) (.dct d) = some (dG d (.inr s)).isSome := rfl
theorem nm_cases (j : Nat) : nm j = "a" ∨ nm j = "b2" ∨ nm j = "w" := by
  unfold nm
  split
  · exact .inl rfl
  · split
    · exact .inr (.inl rfl)
    · exact .inr (.inr rfl)
theorem nm_msg (j : Nat) : (Str.ofString "there is no number ").length + (nm j).length ≤ 16777216 := by
  rcases nm_cases j with h | h | h <;> rw [h] <;> decide
def pr (d : List (Key × PV)) (j : Nat) : Bool := (dG d (.inr (nm j))).isSome
/-- what the names are worth -/
structure Dct (v : Nat → Int × Int) (d : List (Key × PV)) : Prop where
  at_ : ∀ j, j < 3 → pr d j = true → dG d (.inr (nm j)) = some (rp (v j))
/-- all the names are there -/
def all (d : List (Key × PV)) (l : Ln) : Bool := l.nms.all (pr d)
theorem c_worth {v : Nat → Int × Int} (hv : Vok v) {d : List (Key × PV)} (hd : Dct v d) : ∀ {l : Ln} {n : Nat}, l.Ok → l.bits ≤ 900 → 3 + l.dep ≤ n → callF E n 10 [l.pv, .dct d] = if all d l = true then .ok (rp (l.w v)) false [] else .exc 1 []
  | l, 0, _, _, h => by omega
  | .num x, n + 1, ok, _, _ => by
    rw [call_top fx_length_worth]
    simp [f_length_worth, Ln.pv, Ln.nms, Ln.w, all]
  | .of j, n + 1, ok, _, _ => by
    rw [call_top fx_length_worth]
    have hj := hd.at_ j ok
    cases hp : pr d j with
    | true =>
      have hj := hj hp
      have hs : (dG d (.inr (nm j))).isSome = true := hp
      simp [f_length_worth, Ln.pv, Ln.nms, Ln.w, hj, hp, hs, all]
    | false =>
      have hs : (dG d (.inr (nm j))).isSome = false := hp
      have hm := nm_msg j
      simp [f_length_worth, Ln.pv, Ln.nms, Ln.w, hs, hp, all, hm]
  | .times x l, n + 1, ok, hb, hn => by
    have hb : 64 + l.bits ≤ 900 := hb
    have hn : 3 + (l.dep + 1) ≤ n + 1 := hn
    have ih := c_worth hv hd (l := l) (n := n) ok.2 (by omega) (by omega)
    have hw : Rok 1000 (l.w v) := (w_ok hv ok.2).le (by omega)
    have ht := c_times (n := n) (by omega) (ok.1.le (m := 1000) (by omega)) hw
    rw [call_top fx_length_worth]
    have ea : all d (.times x l) = all d l := rfl
    rw [ea]
    cases hc : all d l with
    | true =>
      rw [hc] at ih
      have ih : callF E n 10 [l.pv, .dct d] = .ok (rp (l.w v)) false [] := ih
      simp [f_length_worth, Ln.pv, Ln.w, ih, ht]
    | false =>
      rw [hc] at ih
      have ih : callF E n 10 [l.pv, .dct d] = .exc 1 [] := ih
      simp [f_length_worth, Ln.pv, ih]
  | .plus a b, n + 1, ok, hb, hn => by
    have hb : a.bits + b.bits + 1 ≤ 900 := hb
    have hn : 3 + (max a.dep b.dep + 1) ≤ n + 1 := hn
    have ia := c_worth hv hd (l := a) (n := n) ok.1 (by omega) (by omega)
    have ib := c_worth hv hd (l := b) (n := n) ok.2 (by omega) (by omega)
    have ht := c_plus (n := n) (by omega) ((w_ok hv ok.1).le (m := 1000) (by omega)) ((w_ok hv ok.2).le (m := 1000) (by omega))
    rw [call_top fx_length_worth]
    have ea : all d (.plus a b) = (all d a && all d b) := List.all_append
    rw [ea]
    cases hc : all d a with
    | true =>
      rw [hc] at ia
      have ia : callF E n 10 [a.pv, .dct d] = .ok (rp (a.w v)) false [] := ia
      cases he : all d b with
      | true =>
        rw [he] at ib
        have ib : callF E n 10 [b.pv, .dct d] = .ok (rp (b.w v)) false [] := ib
        simp [f_length_worth, Ln.pv, Ln.w, ia, ib, ht]
      | false =>
        rw [he] at ib
        have ib : callF E n 10 [b.pv, .dct d] = .exc 1 [] := ib
        simp [f_length_worth, Ln.pv, ia, ib]
    | false =>
      rw [hc] at ia
      have ia : callF E n 10 [a.pv, .dct d] = .exc 1 [] := ia
      simp [f_length_worth, Ln.pv, ia]
  | .minus a b, n + 1, ok, hb, hn => by
    have hb : a.bits + b.bits + 1 ≤ 900 := hb
    have hn : 3 + (max a.dep b.dep + 1) ≤ n + 1 := hn
    have ia := c_worth hv hd (l := a) (n := n) ok.1 (by omega) (by omega)
    have ib := c_worth hv hd (l := b) (n := n) ok.2 (by omega) (by omega)
    have ht := c_minus (n := n) (by omega) ((w_ok hv ok.1).le (m := 1000) (by omega)) ((w_ok hv ok.2).le (m := 1000) (by omega))
    rw [call_top fx_length_worth]
    have ea : all d (.minus a b) = (all d a && all d b) := List.all_append
    rw [ea]
    cases hc : all d a with
    | true =>
      rw [hc] at ia
      have ia : callF E n 10 [a.pv, .dct d] = .ok (rp (a.w v)) false [] := ia
      cases he : all d b with
      | true =>
        rw [he] at ib
        have ib : callF E n 10 [b.pv, .dct d] = .ok (rp (b.w v)) false [] := ib
        simp [f_length_worth, Ln.pv, Ln.w, ia, ib, ht]
      | false =>
        rw [he] at ib
        have ib : callF E n 10 [b.pv, .dct d] = .exc 1 [] := ib
        simp [f_length_worth, Ln.pv, ia, ib]
    | false =>
      rw [hc] at ia
      have ia : callF E n 10 [a.pv, .dct d] = .exc 1 [] := ia
      simp [f_length_worth, Ln.pv, ia]
end K06

namespace K06
open PySem PySem.Spec L2 Eng Rt TL
open PyProof.Rows hiding St
theorem c_lworth {v : Nat → Int × Int} (hv : Vok v) {d : List (Key × PV)} (hd : Dct v d) : ∀ {l : Ln} {n : Nat}, l.Ok → l.bits ≤ 900 → 3 + l.dep ≤ n → all d l = true → callF E n 20 [l.pv, .dct d] = .ok (rp (l.w v)) false []
  | l, 0, _, _, h, _ => by omega
  | .num x, n + 1, ok, _, _, _ => by
    rw [call_top fx__law_worth]
    simp [f__law_worth, Ln.pv, Ln.w]
  | .of j, n + 1, ok, _, _, ha => by
    rw [call_top fx__law_worth]
    have hp : pr d j = true := by simpa [all, Ln.nms] using ha
    have hj := hd.at_ j ok hp
    simp [f__law_worth, Ln.pv, Ln.w, hj]
  | .times x l, n + 1, ok, hb, hn, ha => by
    have hb : 64 + l.bits ≤ 900 := hb
    have hn : 3 + (l.dep + 1) ≤ n + 1 := hn
    have ih := c_lworth hv hd (l := l) (n := n) ok.2 (by omega) (by omega) ha
    have hw : Rok 1000 (l.w v) := (w_ok hv ok.2).le (by omega)
    have ht := c_times (n := n) (by omega) (ok.1.le (m := 1000) (by omega)) hw
    rw [call_top fx__law_worth]
    simp [f__law_worth, Ln.pv, Ln.w, ih, ht]
  | .plus a b, n + 1, ok, hb, hn, ha => by
    have hb : a.bits + b.bits + 1 ≤ 900 := hb
    have hn : 3 + (max a.dep b.dep + 1) ≤ n + 1 := hn
    have ha : all d a = true ∧ all d b = true := by simpa [all, Ln.nms] using ha
    have ia := c_lworth hv hd (l := a) (n := n) ok.1 (by omega) (by omega) ha.1
    have ib := c_lworth hv hd (l := b) (n := n) ok.2 (by omega) (by omega) ha.2
    have ht := c_plus (n := n) (by omega) ((w_ok hv ok.1).le (m := 1000) (by omega)) ((w_ok hv ok.2).le (m := 1000) (by omega))
    rw [call_top fx__law_worth]
    simp [f__law_worth, Ln.pv, Ln.w, ia, ib, ht]
  | .minus a b, n + 1, ok, hb, hn, ha => by
    have hb : a.bits + b.bits + 1 ≤ 900 := hb
    have hn : 3 + (max a.dep b.dep + 1) ≤ n + 1 := hn
    have ha : all d a = true ∧ all d b = true := by simpa [all, Ln.nms] using ha
    have ia := c_lworth hv hd (l := a) (n := n) ok.1 (by omega) (by omega) ha.1
    have ib := c_lworth hv hd (l := b) (n := n) ok.2 (by omega) (by omega) ha.2
    have ht := c_minus (n := n) (by omega) ((w_ok hv ok.1).le (m := 1000) (by omega)) ((w_ok hv ok.2).le (m := 1000) (by omega))
    rw [call_top fx__law_worth]
    simp [f__law_worth, Ln.pv, Ln.w, ia, ib, ht]
theorem c_told {v : Nat → Int × Int} (hv : Vok v) {d : List (Key × PV)} (hd : Dct v d) {l : Ln} {n : Nat} (ok : l.Ok) (hb : l.bits ≤ 900) (hn : 4 + l.dep ≤ n) : callF E n 21 [l.pv, .dct d] = .ok (if all d l = true then rp (l.w v) else .str "there") false [] := by
  obtain ⟨m, rfl⟩ : ∃ m, n = m + 1 := ⟨n - 1, by omega⟩
  have h := c_worth hv hd (n := m) ok hb (by omega)
  rw [call_top fx__law_told]
  cases hc : all d l with
  | true =>
    rw [hc] at h
    have h : callF E m 10 [l.pv, .dct d] = .ok (rp (l.w v)) false [] := h
    simp [f__law_told, h]
  | false =>
    rw [hc] at h
    have h : callF E m 10 [l.pv, .dct d] = .exc 1 [] := h
    simp [f__law_told, h, es, sb]
/-! ### the names -/
def nmsV (l : Ln) : List PV := l.nms.map fun j => .str (nm j)
theorem nms_len : ∀ l : Ln, l.nms.length ≤ l.bits
  | .num _ => by simp [Ln.nms]
  | .of _ => by simp [Ln.nms, Ln.bits]
  | .times x l => by have := nms_len l; simp only [Ln.nms, Ln.bits]; omega
  | .plus a b => by have := nms_len a; have := nms_len b; simp only [Ln.nms, Ln.bits, List.length_append]; omega
  | .minus a b => by have := nms_len a; have := nms_len b; simp only [Ln.nms, Ln.bits, List.length_append]; omega
theorem inner {own : List Nat} {r : Rv} {turn : PV → Sg → Out (Option PV)} {ε : Sg} {ps acc : List PV} (h : ∀ p ∈ ps, ∃ ε1, turn p ε = .ok (some p) ε1 ∧ wipeS ε1 own = some ε) (hl : acc.length + ps.length ≤ sizeLine) : cmpI own r turn ps acc ε = .ok (acc ++ ps) ε := by
  have := cmp_map (r := r) (f := fun p => p) h hl
  simpa using this
def nmL (L : List Ln) : List PV := L.flatMap nmsV
theorem outer {n : Nat} {r : Rv} {s0 s1 : Slot} : ∀ {L : List Ln} {acc : List PV}, (∀ l ∈ L, callF E n 11 [l.pv] = .ok (.lst (nmsV l)) true []) → acc.length + (nmL L).length ≤ 16777216 →
    cmpO [3, 2] r (turnO E (callF E n) (.var 3) (.nm 2) (.nm 3) .val [.call 11 [.var 2]] [3]) (L.map Ln.pv) acc [s0, s1, .none, .none] = .ok (acc ++ nmL L) [s0, s1, .none, .none]
  | [], acc, _, _ => by simp [nmL, cmpO]
  | l :: L, acc, h, hl => by
    have e : nmL (l :: L) = nmsV l ++ nmL L := rfl
    rw [e, List.length_append] at hl
    have h1 := h l List.mem_cons_self
    have ht : turnO E (callF E n) (.var 3) (.nm 2) (.nm 3) .val [.call 11 [.var 2]] [3] l.pv acc [s0, s1, .none, .none] = .ok (acc ++ nmsV l) [s0, s1, .val l.pv, .none] := by
      unfold turnO
      have ei : cmpI [3] (.val (.lst (nmsV l))) (turnI E (callF E n) (.var 3) (.nm 3) []) (nmsV l) acc [s0, s1, .val l.pv, .none] = .ok (acc ++ nmsV l) [s0, s1, .val l.pv, .none] :=
        inner (fun p _ => ⟨[s0, s1, .val l.pv, .val p], rfl, rfl⟩) (by rw [size_line]; omega)
      simp [h1, ei]
    have hw : wipeS [s0, s1, .val l.pv, .none] [3, 2] = some [s0, s1, .none, .none] := rfl
    rw [List.map_cons, cmpO, ht]
    simp only [hw, stays_refl, if_true]
    rw [outer (fun x hx => h x (List.mem_cons_of_mem _ hx)) (by rw [List.length_append]; omega), e, List.append_assoc]
theorem ev_names {n : Nat} {s0 : Slot} {L : List Ln} (h : ∀ l ∈ L, callF E n 11 [l.pv] = .ok (.lst (nmsV l)) true []) (hl : (nmL L).length ≤ 16777216) :
    evE E (callF E n) (.cmp2 (.var 3) (.nm 2) .val [.var 1] (.nm 3) .val [.call 11 [.var 2]] [3, 2] [3]) [s0, .val (.tup (L.map Ln.pv)), .none, .none] = .ok (.fresh (.lst (nmL L))) [s0, .val (.tup (L.map Ln.pv)), .none, .none] := by
  rw [ev_cmp2]
  have ho := outer (r := .val (.tup (L.map Ln.pv))) (s0 := s0) (s1 := .val (.tup (L.map Ln.pv))) (acc := []) h (by simpa using hl)
  simp [ho]
theorem c_names : ∀ {l : Ln} {n : Nat}, l.bits ≤ 900 → l.dep ≤ n → callF E n 11 [l.pv] = .ok (.lst (nmsV l)) true []
  | l, 0, _, h => by cases l <;> simp [Ln.dep] at h
  | .num x, n + 1, hb, hn => by
    rw [call_top fx_names_in]
    simp [f_names_in, Ln.pv, nmsV, Ln.nms]
  | .of j, n + 1, hb, hn => by
    rw [call_top fx_names_in]
    simp [f_names_in, Ln.pv, nmsV, Ln.nms]
  | .times x l, n + 1, hb, hn => by
    have hb : 64 + l.bits ≤ 900 := hb
    have hn : l.dep + 1 ≤ n + 1 := hn
    have ih := c_names (l := l) (n := n) (by omega) (by omega)
    have ll : (nmsV l).length ≤ 900 := by have := nms_len l; simp only [nmsV, List.length_map]; omega
    have ev := ev_names (n := n) (s0 := .val (.tup [.str "times", rp x, l.pv])) (L := [l]) (fun y hy => by rw [List.mem_singleton.mp hy]; exact ih) (by simp [nmL]; omega)
    have e2 : nmL [l] = nmsV (.times x l) := by simp [nmL, nmsV, Ln.nms]
    rw [e2] at ev
    simp only [List.map_cons, List.map_nil] at ev
    have sl : opSlc (.tup [.str "times", rp x, l.pv]) (some 2) none = some (.val (.tup [l.pv])) := rfl
    rw [call_top fx_names_in]
    simp [f_names_in, Ln.pv, ↓ev, sl]
  | .plus a b, n + 1, hb, hn => by
    have hb : a.bits + b.bits + 1 ≤ 900 := hb
    have hn : max a.dep b.dep + 1 ≤ n + 1 := hn
    have ia := c_names (l := a) (n := n) (by omega) (by omega)
    have ib := c_names (l := b) (n := n) (by omega) (by omega)
    have la : (nmsV a).length ≤ 900 := by have := nms_len a; simp only [nmsV, List.length_map]; omega
    have lb : (nmsV b).length ≤ 900 := by have := nms_len b; simp only [nmsV, List.length_map]; omega
    have ev := ev_names (n := n) (s0 := .val (.tup [.str "plus", a.pv, b.pv])) (L := [a, b]) (fun y hy => by rcases List.mem_cons.mp hy with rfl | hy; exact ia; rw [List.mem_singleton.mp hy]; exact ib) (by simp [nmL]; omega)
    have e2 : nmL [a, b] = nmsV (.plus a b) := by simp [nmL, nmsV, Ln.nms]
    rw [e2] at ev
    simp only [List.map_cons, List.map_nil] at ev
    have sl : opSlc (.tup [.str "plus", a.pv, b.pv]) (some 1) none = some (.val (.tup [a.pv, b.pv])) := rfl
    rw [call_top fx_names_in]
    simp [f_names_in, Ln.pv, ↓ev, sl]
  | .minus a b, n + 1, hb, hn => by
    have hb : a.bits + b.bits + 1 ≤ 900 := hb
    have hn : max a.dep b.dep + 1 ≤ n + 1 := hn
    have ia := c_names (l := a) (n := n) (by omega) (by omega)
    have ib := c_names (l := b) (n := n) (by omega) (by omega)
    have la : (nmsV a).length ≤ 900 := by have := nms_len a; simp only [nmsV, List.length_map]; omega
    have lb : (nmsV b).length ≤ 900 := by have := nms_len b; simp only [nmsV, List.length_map]; omega
    have ev := ev_names (n := n) (s0 := .val (.tup [.str "minus", a.pv, b.pv])) (L := [a, b]) (fun y hy => by rcases List.mem_cons.mp hy with rfl | hy; exact ia; rw [List.mem_singleton.mp hy]; exact ib) (by simp [nmL]; omega)
    have e2 : nmL [a, b] = nmsV (.minus a b) := by simp [nmL, nmsV, Ln.nms]
    rw [e2] at ev
    simp only [List.map_cons, List.map_nil] at ev
    have sl : opSlc (.tup [.str "minus", a.pv, b.pv]) (some 1) none = some (.val (.tup [a.pv, b.pv])) := rfl
    rw [call_top fx_names_in]
    simp [f_names_in, Ln.pv, ↓ev, sl]
/-- sorted(set(names)) -/
def sn (l : Ln) : List PV := (sS (l.nms.map nm)).map PV.str
theorem strsP_nms (l : List Nat) : strsP (l.map fun j => .str (nm j)) = some (l.map nm) := by
  induction l with
  | nil => rfl
  | cons j l ih => simp [strsP, ih]
theorem c_numbers {l : Ln} {n : Nat} (hb : l.bits ≤ 900) (hn : l.dep + 1 ≤ n) : callF E n 12 [l.pv] = .ok (.lst (sn l)) true [] := by
  obtain ⟨m, rfl⟩ : ∃ m, n = m + 1 := ⟨n - 1, by omega⟩
  have h := c_names (l := l) (n := m) hb (by omega)
  have hs : strsP (nmsV l) = some (l.nms.map nm) := strsP_nms l.nms
  have hz : (l.nms.map nm).length + 1 < 4096 := by have := nms_len l; rw [List.length_map]; omega
  have hz' : l.nms.length + 1 < 4096 := by simpa using hz
  rw [call_top fx_numbers_in]
  simp [f_numbers_in, h, hs, hz', sn]
end K06

namespace K06
open PySem PySem.Spec L2 Eng Rt TL
open PyProof.Rows hiding St
/-! ### the law's names -/
theorem pv_hd : ∀ l : Ln, ∃ w r, l.pv = .tup (.str w :: r)
  | .num x => ⟨_, _, rfl⟩
  | .of j => ⟨_, _, rfl⟩
  | .times x l => ⟨_, _, rfl⟩
  | .plus a b => ⟨_, _, rfl⟩
  | .minus a b => ⟨_, _, rfl⟩
theorem hd_str (l : Ln) : ∃ w, opIx l.pv (.int 0) = some (.str w) := by
  obtain ⟨w, r, e⟩ := pv_hd l
  exact ⟨w, by rw [e]; simp⟩
theorem c_lnames : ∀ {l : Ln} {n : Nat}, l.bits ≤ 900 → l.dep ≤ n → callF E n 19 [l.pv] = .ok (.lst (nmsV l)) true []
  | l, 0, _, h => by cases l <;> simp [Ln.dep] at h
  | .num x, n + 1, hb, hn => by
    rw [call_top fx__law_names]
    simp [f__law_names, Ln.pv, nmsV, Ln.nms]
  | .of j, n + 1, hb, hn => by
    rw [call_top fx__law_names]
    simp [f__law_names, Ln.pv, nmsV, Ln.nms]
  | .times x l, n + 1, hb, hn => by
    have hb : 64 + l.bits ≤ 900 := hb
    have hn : l.dep + 1 ≤ n + 1 := hn
    have ih := c_lnames (l := l) (n := n) (by omega) (by omega)
    have ll : (nmsV l).length ≤ 16777216 := by have := nms_len l; simp only [nmsV, List.length_map]; omega
    obtain ⟨w, hw⟩ := hd_str l
    have sl : opSlc (.tup [.str "times", rp x, l.pv]) (some 1) none = some (.val (.tup [rp x, l.pv])) := rfl
    have hx : opIx (rp x) (.int 0) = some (.int x.1) := rfl
    have e2 : nmsV (.times x l) = nmsV l := rfl
    rw [call_top fx__law_names, e2]
    simp [f__law_names, Ln.pv, sl, forI, ↓hw, ↓hx, ih, ll]
  | .plus a b, n + 1, hb, hn => by
    have hb : a.bits + b.bits + 1 ≤ 900 := hb
    have hn : max a.dep b.dep + 1 ≤ n + 1 := hn
    have ia := c_lnames (l := a) (n := n) (by omega) (by omega)
    have ib := c_lnames (l := b) (n := n) (by omega) (by omega)
    have la : (nmsV a).length ≤ 900 := by have := nms_len a; simp only [nmsV, List.length_map]; omega
    have lb : (nmsV b).length ≤ 900 := by have := nms_len b; simp only [nmsV, List.length_map]; omega
    have l1 : (nmsV a).length ≤ 16777216 := by omega
    have l2 : (nmsV a).length + (nmsV b).length ≤ 16777216 := by omega
    obtain ⟨wa, ha⟩ := hd_str a
    obtain ⟨wb, hb⟩ := hd_str b
    have sl : opSlc (.tup [.str "plus", a.pv, b.pv]) (some 1) none = some (.val (.tup [a.pv, b.pv])) := rfl
    have e2 : nmsV (.plus a b) = nmsV a ++ nmsV b := by simp [nmsV, Ln.nms]
    rw [call_top fx__law_names, e2]
    simp [f__law_names, Ln.pv, sl, forI, ↓ha, ↓hb, ia, ib, l1, l2]
  | .minus a b, n + 1, hb, hn => by
    have hb : a.bits + b.bits + 1 ≤ 900 := hb
    have hn : max a.dep b.dep + 1 ≤ n + 1 := hn
    have ia := c_lnames (l := a) (n := n) (by omega) (by omega)
    have ib := c_lnames (l := b) (n := n) (by omega) (by omega)
    have la : (nmsV a).length ≤ 900 := by have := nms_len a; simp only [nmsV, List.length_map]; omega
    have lb : (nmsV b).length ≤ 900 := by have := nms_len b; simp only [nmsV, List.length_map]; omega
    have l1 : (nmsV a).length ≤ 16777216 := by omega
    have l2 : (nmsV a).length + (nmsV b).length ≤ 16777216 := by omega
    obtain ⟨wa, ha⟩ := hd_str a
    obtain ⟨wb, hb⟩ := hd_str b
    have sl : opSlc (.tup [.str "minus", a.pv, b.pv]) (some 1) none = some (.val (.tup [a.pv, b.pv])) := rfl
    have e2 : nmsV (.minus a b) = nmsV a ++ nmsV b := by simp [nmsV, Ln.nms]
    rw [call_top fx__law_names, e2]
    simp [f__law_names, Ln.pv, sl, forI, ↓ha, ↓hb, ia, ib, l1, l2]
/-! ### growth -/
def Ln.g (y : Str) : Ln → Int × Int
  | .num _ => (0, 1)
  | .of j => if nm j = y then (1, 1) else (0, 1)
  | .times x l => tm x (l.g y)
  | .plus a b => pl (a.g y) (b.g y)
  | .minus a b => pl (a.g y) (op (b.g y))
theorem rok01 : Rok 64 (0, 1) := ⟨⟨by decide, by decide⟩, by unfold Sm; decide, by unfold Sm; decide⟩
theorem rok11 : Rok 64 (1, 1) := ⟨⟨by decide, by decide⟩, by unfold Sm; decide, by unfold Sm; decide⟩
theorem g_ok {y : Str} : ∀ {l : Ln}, l.Ok → Rok l.bits (l.g y)
  | .num x, h => rok01
  | .of j, _ => by
    unfold Ln.g
    split
    · exact rok11
    · exact rok01
  | .times x l, h => h.1.tm (g_ok h.2)
  | .plus a b, h => (g_ok h.1).pl (g_ok h.2)
  | .minus a b, h => (g_ok h.1).pl (g_ok h.2).op
@[simp] theorem gl_none : E.glb.lookup (Str.ofString "NONE") = some (.tup [.int 0, .int 1]) := rfl
@[simp] theorem gl_one : E.glb.lookup (Str.ofString "ONE") = some (.tup [.int 1, .int 1]) := rfl
theorem c_growth {y : Str} : ∀ {l : Ln} {n : Nat}, l.Ok → l.bits ≤ 900 → 3 + l.dep ≤ n → callF E n 13 [l.pv, .str y] = .ok (rp (l.g y)) false []
  | l, 0, _, _, h => by omega
  | .num x, n + 1, ok, _, _ => by
    rw [call_top fx_growth]
    simp [f_growth, Ln.pv, Ln.g, rp]
  | .of j, n + 1, ok, _, _ => by
    rw [call_top fx_growth]
    by_cases h : nm j = y
    · simp [f_growth, Ln.pv, Ln.g, rp, h]
    · simp [f_growth, Ln.pv, Ln.g, rp, h]
  | .times x l, n + 1, ok, hb, hn => by
    have hb : 64 + l.bits ≤ 900 := hb
    have hn : 3 + (l.dep + 1) ≤ n + 1 := hn
    have ih := c_growth (y := y) (l := l) (n := n) ok.2 (by omega) (by omega)
    have ht := c_times (n := n) (by omega) (ok.1.le (m := 1000) (by omega)) ((g_ok (y := y) ok.2).le (m := 1000) (by omega))
    rw [call_top fx_growth]
    simp [f_growth, Ln.pv, Ln.g, ih, ht]
  | .plus a b, n + 1, ok, hb, hn => by
    have hb : a.bits + b.bits + 1 ≤ 900 := hb
    have hn : 3 + (max a.dep b.dep + 1) ≤ n + 1 := hn
    have ia := c_growth (y := y) (l := a) (n := n) ok.1 (by omega) (by omega)
    have ib := c_growth (y := y) (l := b) (n := n) ok.2 (by omega) (by omega)
    have ht := c_plus (n := n) (by omega) ((g_ok (y := y) ok.1).le (m := 1000) (by omega)) ((g_ok (y := y) ok.2).le (m := 1000) (by omega))
    rw [call_top fx_growth]
    simp [f_growth, Ln.pv, Ln.g, ia, ib, ht]
  | .minus a b, n + 1, ok, hb, hn => by
    have hb : a.bits + b.bits + 1 ≤ 900 := hb
    have hn : 3 + (max a.dep b.dep + 1) ≤ n + 1 := hn
    have ia := c_growth (y := y) (l := a) (n := n) ok.1 (by omega) (by omega)
    have ib := c_growth (y := y) (l := b) (n := n) ok.2 (by omega) (by omega)
    have ht := c_minus (n := n) (by omega) ((g_ok (y := y) ok.1).le (m := 1000) (by omega)) ((g_ok (y := y) ok.2).le (m := 1000) (by omega))
    rw [call_top fx_growth]
    simp [f_growth, Ln.pv, Ln.g, ia, ib, ht]
/-! ### the ratios as numbers -/
def val (x : Int × Int) : Rat := (x.1 : Rat) / (x.2 : Rat)
theorem cast_ne {b : Int} (h : b ≠ 0) : (b : Rat) ≠ 0 := by
  intro z
  exact h (by exact_mod_cast z)
theorem val_r {a b : Int} (h : b ≠ 0) : ((rN a b : Int) : Rat) / ((rD a b : Int) : Rat) = (a : Rat) / (b : Rat) := by
  have e := r_eq (a := a) h
  have hd : (rD a b) ≠ 0 := by have := (r_is (a := a) h).pos; omega
  have e2 : ((rN a b : Int) : Rat) * (b : Rat) = (a : Rat) * ((rD a b : Int) : Rat) := by exact_mod_cast e
  have h1 := cast_ne h
  have h2 := cast_ne hd
  grind
theorem val_tm {x y : Int × Int} (hx : x.2 ≠ 0) (hy : y.2 ≠ 0) : val (tm x y) = val x * val y := by
  unfold val tm
  rw [val_r (Int.mul_ne_zero hx hy)]
  have h1 := cast_ne hx
  have h2 := cast_ne hy
  rw [Rat.intCast_mul, Rat.intCast_mul]
  grind
theorem val_pl {x y : Int × Int} (hx : x.2 ≠ 0) (hy : y.2 ≠ 0) : val (pl x y) = val x + val y := by
  unfold val pl
  rw [val_r (Int.mul_ne_zero hx hy)]
  have h1 := cast_ne hx
  have h2 := cast_ne hy
  rw [Rat.intCast_mul, Rat.intCast_add, Rat.intCast_mul, Rat.intCast_mul]
  grind
theorem val_op {x : Int × Int} : val (op x) = - val x := by
  unfold val op
  rw [Rat.intCast_neg]
  grind
theorem val_inj {x y : Int × Int} {n m : Nat} (hx : Rok n x) (hy : Rok m y) (h : val x = val y) : x = y := by
  have h1 := cast_ne hx.ne
  have h2 := cast_ne hy.ne
  unfold val at h
  have e : (x.1 : Rat) * (y.2 : Rat) = (y.1 : Rat) * (x.2 : Rat) := by grind
  have e2 : x.1 * y.2 = y.1 * x.2 := by exact_mod_cast e
  have := uniq hx.is hy.is e2
  exact Prod.ext this.1 this.2
/-- one more at the name y -/
def up (v : Nat → Int × Int) (y : Str) (j : Nat) : Int × Int := if nm j = y then pl (v j) (1, 1) else v j
theorem wr_ok {v : Nat → Int × Int} {n : Nat} (hv : ∀ j, Rok n (v j)) : ∀ {l : Ln}, l.Ok → ∃ m, Rok m (l.w v)
  | .num x, h => ⟨_, h⟩
  | .of j, _ => ⟨_, hv j⟩
  | .times x l, h => by
    obtain ⟨m, k⟩ := wr_ok hv h.2
    exact ⟨_, h.1.tm k⟩
  | .plus a b, h => by
    obtain ⟨m, k⟩ := wr_ok hv h.1
    obtain ⟨m2, k2⟩ := wr_ok hv h.2
    exact ⟨_, k.pl k2⟩
  | .minus a b, h => by
    obtain ⟨m, k⟩ := wr_ok hv h.1
    obtain ⟨m2, k2⟩ := wr_ok hv h.2
    exact ⟨_, k.pl k2.op⟩
theorem w_ne {v : Nat → Int × Int} {n : Nat} (hv : ∀ j, Rok n (v j)) {l : Ln} (h : l.Ok) : (l.w v).2 ≠ 0 := let ⟨_, k⟩ := wr_ok hv h; k.ne
theorem val_up {v v' : Nat → Int × Int} {n m : Nat} (hv : ∀ j, Rok n (v j)) (hv' : ∀ j, Rok m (v' j)) {y : Str} (hu : ∀ j, j < 3 → val (v' j) = val (v j) + if nm j = y then 1 else 0) : ∀ {l : Ln}, l.Ok → val (l.w v') = val (l.w v) + val (l.g y)
  | .num x, _ => by
    show val x = val x + val (0, 1)
    have : val (0, 1) = 0 := by decide +kernel
    rw [this, Rat.add_zero]
  | .of j, h => by
    show val (v' j) = val (v j) + val (if nm j = y then (1, 1) else (0, 1))
    rw [hu j h]
    have h0 : val (0, 1) = 0 := by decide +kernel
    have h1 : val (1, 1) = 1 := by decide +kernel
    split
    · rw [h1]
    · rw [h0]
  | .times x l, h => by
    have ih := val_up hv hv' hu (l := l) h.2
    have k1 := (w_ne hv h.2)
    have k2 := (w_ne hv' h.2)
    have k3 := (g_ok (y := y) h.2).ne
    show val (tm x (l.w v')) = val (tm x (l.w v)) + val (tm x (l.g y))
    rw [val_tm h.1.ne k1, val_tm h.1.ne k2, val_tm h.1.ne k3, ih]
    grind
  | .plus a b, h => by
    have ia := val_up hv hv' hu (l := a) h.1
    have ib := val_up hv hv' hu (l := b) h.2
    show val (pl (a.w v') (b.w v')) = val (pl (a.w v) (b.w v)) + val (pl (a.g y) (b.g y))
    rw [val_pl (w_ne hv' h.1) (w_ne hv' h.2), val_pl (w_ne hv h.1) (w_ne hv h.2), val_pl (g_ok (y := y) h.1).ne (g_ok (y := y) h.2).ne, ia, ib]
    grind
  | .minus a b, h => by
    have ia := val_up hv hv' hu (l := a) h.1
    have ib := val_up hv hv' hu (l := b) h.2
    show val (pl (a.w v') (op (b.w v'))) = val (pl (a.w v) (op (b.w v))) + val (pl (a.g y) (op (b.g y)))
    rw [val_pl (w_ne hv' h.1) (show (op (b.w v')).2 ≠ 0 from w_ne hv' h.2), val_pl (w_ne hv h.1) (show (op (b.w v)).2 ≠ 0 from w_ne hv h.2), val_pl (g_ok (y := y) h.1).ne (g_ok (y := y) h.2).op.ne, val_op, val_op, val_op, ia, ib]
    grind
end K06

namespace K06
open PySem PySem.Spec L2 Eng Rt TL
open PyProof.Rows hiding St
/-! ### is_name -/
def lets : List Nat := (Str.ofString "abcdefghijklmnopqrstuvwxyz").cps.toList
def figs : List Nat := (Str.ofString "0123456789").cps.toList
@[simp] theorem gl_long : E.glb.lookup (Str.ofString "LONGEST") = some (.int 12) := rfl
@[simp] theorem gl_lets : E.glb.lookup (Str.ofString "LETTERS") = some (.str "abcdefghijklmnopqrstuvwxyz") := rfl
@[simp] theorem gl_figs : E.glb.lookup (Str.ofString "FIGURES") = some (.str "0123456789") := rfl
@[simp] theorem gl_dep : E.glb.lookup (Str.ofString "MOST_DEPTH") = some (.int 8) := rfl
/-- a name by its signs -/
def isN (d : List Nat) : Bool := match d with
  | [] => false
  | c :: r => decide (r.length < 12) && decide (c ∈ lets) && (c :: r).all fun c => decide (c ∈ lets ++ figs)
theorem in_sign (c : Nat) (t : Str) : opIn (.str ⟨#[c]⟩) (.str t) = some (decide (c ∈ t.cps.toList)) := rfl
theorem lf_app : opBin .Add (.str "abcdefghijklmnopqrstuvwxyz") (.str "0123456789") = some (.val (.str (sT (lets ++ figs)))) := by
  have h : (Str.ofString "abcdefghijklmnopqrstuvwxyz").length + (Str.ofString "0123456789").length ≤ sizeLine := by rw [size_line]; decide
  show (if (Str.ofString "abcdefghijklmnopqrstuvwxyz").length + (Str.ofString "0123456789").length ≤ sizeLine then _ else none) = _
  rw [if_pos h]
  rfl
def sgn (c : Nat) : PV := .str ⟨#[c]⟩
theorem all_bl : ∀ l : List Bool, Eng.allB (l.map .bl) = some l
  | [] => rfl
  | b :: l => by simp [Eng.allB, all_bl l, truth]
theorem ev_signs {Φ : Nat → List PV → CO} {d : List Nat} {s1 : Slot} (h1 : s1 = .none) (hl : d.length ≤ 16777216) : evE E Φ (.cmpr (.cmp .In (.var 1) (.bin .Add (.glb "LETTERS") (.glb "FIGURES"))) (.nm 1) .val [.var 0] [] [1]) [.val (.str (sT d)), s1] =
    .ok (.fresh (.lst ((d.map fun c => decide (c ∈ lets ++ figs)).map .bl))) [.val (.str (sT d)), .none] := by
  subst h1
  have e : (d.map fun c => decide (c ∈ lets ++ figs)).map PV.bl = (d.map sgn).map fun p => match p with | .str t => .bl (decide (t.cps.toList.head?.getD 0 ∈ lets ++ figs)) | p => p := by
    rw [List.map_map, List.map_map]
    rfl
  rw [e]
  refine ev_map (rs := [.val (.str (sT d))]) (ε1 := [.val (.str (sT d)), .none]) (ε2 := [.val (.str (sT d)), .none]) (r := .val (.str (sT d))) (ps := d.map sgn) _ rfl rfl rfl rfl (fun p hp => ?_) (by simpa using hl)
  obtain ⟨c, hc, rfl⟩ := List.mem_map.mp hp
  refine ⟨[.val (.str (sT d)), .val (sgn c)], ?_, rfl⟩
  have ha := lf_app
  simp [sgn, ↓ha, ↓in_sign]
theorem c_isname {d : List Nat} {n : Nat} (hn : 1 ≤ n) (hl : d.length ≤ 16777216) : callF E n 0 [.str (sT d)] = .ok (.bl (isN d)) false [] := by
  obtain ⟨m, rfl⟩ : ∃ m, n = m + 1 := ⟨n - 1, by omega⟩
  rw [call_top fx_is_name]
  have ev := ev_signs (Φ := callF E m) (d := d) (s1 := .none) rfl hl
  have ab := all_bl (d.map fun c => decide (c ∈ lets ++ figs))
  have hal : (List.map (fun c => decide (c ∈ lets ++ figs)) d).all id = d.all fun c => decide (c ∈ lets ++ figs) := by rw [List.all_map]; rfl
  cases d with
  | nil => simp [f_is_name, isN]
  | cons c r =>
    have h0 : opIx (.str (sT (c :: r))) (.int 0) = some (.str ⟨#[c]⟩) := by
      have : (c :: r).length ≤ 16777216 := hl
      simp at this
      simp [this]
    have hr : r.length ≤ 16777215 := by have : (c :: r).length ≤ 16777216 := hl; simp at this; omega
    by_cases h12 : r.length < 12
    · have h1 : ((r.length : Int) + 1 ≤ 12) = True := by simp; omega
      have h1' : ((1 : Int) ≤ (r.length : Int) + 1) = True := by simp; omega
      by_cases hc : c ∈ lets
      · have hi : opIn (.str ⟨#[c]⟩) (.str "abcdefghijklmnopqrstuvwxyz") = some true := by rw [in_sign]; exact congrArg some (decide_eq_true hc)
        have ev2 := ev
        generalize hb : (List.map (fun c => decide (c ∈ lets ++ figs)) (c :: r)) = bs at ev2 ab hal
        have fin : opBlt .all [.lst (bs.map .bl)] = some (.val (.bl (bs.all id))) := by simp [opBlt, ab]
        have er : isN (c :: r) = bs.all id := by rw [hal]; simp only [isN, h12, hc, decide_true, Bool.true_and]
        rw [er]
        simp [f_is_name, hr, h1, h1', ↓h0, ↓hi, ↓ev2, ↓fin]
      · have hi : opIn (.str ⟨#[c]⟩) (.str "abcdefghijklmnopqrstuvwxyz") = some false := by rw [in_sign]; exact congrArg some (decide_eq_false hc)
        have er : isN (c :: r) = false := by simp only [isN, hc, decide_false, Bool.and_false, Bool.false_and]
        rw [er]
        simp [f_is_name, hr, h1, h1', ↓h0, ↓hi]
    · have h1 : ((r.length : Int) + 1 ≤ 12) = False := by simp; omega
      have h1' : ((1 : Int) ≤ (r.length : Int) + 1) = True := by simp; omega
      have er : isN (c :: r) = false := by simp only [isN, h12, decide_false, Bool.false_and]
      rw [er]
      simp [f_is_name, hr, h1, h1']
end K06

namespace K06
open PySem PySem.Spec L2 Eng Rt TL
open PyProof.Rows hiding St
/-! ### a text among texts -/
theorem eqv_str (a b : Str) : PyData.eqv (.str a) (.str b) = decide (a = b) := by
  simp only [PyData.eqv]; rfl
theorem in_tp (s : Str) : ∀ ts : List Str, opIn (.str s) (.tup (ts.map .str)) = some (decide (s ∈ ts)) := fun ts => by
  have h1 : (ts.map PV.str).all flatP = true := by rw [List.all_map]; exact List.all_eq_true.mpr fun _ _ => rfl
  have e : (ts.map PV.str).any (fun y => PyData.eqv (encP y) (encP (.str s))) = decide (s ∈ ts) := by
    rw [List.any_map, Bool.eq_iff_iff, List.any_eq_true, decide_eq_true_eq]
    constructor
    · rintro ⟨t, ht, h⟩
      have h : PyData.eqv (.str t) (.str s) = true := h
      rw [eqv_str, decide_eq_true_eq] at h
      exact h ▸ ht
    · intro h
      refine ⟨s, h, ?_⟩
      show PyData.eqv (.str s) (.str s) = true
      rw [eqv_str, decide_eq_true_eq]
  show (if flatP (.str s) = true ∧ (ts.map PV.str).all flatP = true then some ((ts.map PV.str).any fun y => PyData.eqv (encP y) (encP (.str s))) else _) = _
  rw [if_pos ⟨rfl, h1⟩, e]
theorem strs_D : ∀ ts : List Str, toDL (ts.map .str) = some (ts.map .str)
  | [] => rfl
  | t :: ts => by rw [List.map_cons, toDL, strs_D ts]; rfl
theorem strs_lay : ∀ {ts : List Str}, (∀ t ∈ ts, okT t) → PyData.canLayAll0 (ts.map .str) = true ∧ PyData.depthAll (ts.map .str) = 0
  | [], _ => by simp [PyData.canLayAll0, PyData.depthAll]
  | t :: ts, h => by
    obtain ⟨h1, h2⟩ := strs_lay (ts := ts) fun x hx => h x (List.mem_cons_of_mem _ hx)
    obtain ⟨d, e, k1, k2, _⟩ := shp_str (s := t) (n := t.length) (h t List.mem_cons_self) (Nat.le_refl _)
    cases e
    simp only [List.map_cons, PyData.canLayAll0, PyData.depthAll, h1, h2, k1]
    exact ⟨rfl, by omega⟩
theorem in_ls {s : Str} (h : okT s) {ts : List Str} (ht : ∀ t ∈ ts, okT t) : opIn (.str s) (.lst (ts.map .str)) = some (decide (s ∈ ts)) := by
  obtain ⟨d, e, k1, k2, _⟩ := shp_str (s := s) (n := s.length) h (Nat.le_refl _)
  cases e
  obtain ⟨l1, l2⟩ := strs_lay ht
  have s1 : SeqAt.shaped (.str s) = true := by
    unfold SeqAt.shaped
    rw [k1, Bool.true_and, decide_eq_true_eq]; omega
  have s2 : SeqAt.shaped (.list (ts.map .str)) = true := by
    unfold SeqAt.shaped
    simp only [PyData.canLay0, PyData.depth, l1, l2]
    decide
  have e : (ts.map PyData.str).any (fun z => PyData.eqv z (.str s)) = decide (s ∈ ts) := by
    rw [List.any_map, Bool.eq_iff_iff, List.any_eq_true, decide_eq_true_eq]
    constructor
    · rintro ⟨t, ht, h⟩
      have h : PyData.eqv (.str t) (.str s) = true := h
      rw [eqv_str, decide_eq_true_eq] at h
      exact h ▸ ht
    · intro h
      refine ⟨s, h, ?_⟩
      show PyData.eqv (.str s) (.str s) = true
      rw [eqv_str, decide_eq_true_eq]
  show (match toD (.str s), toDL (ts.map .str) with
    | some d, some ds => if SeqAt.shaped d = true ∧ SeqAt.shaped (.list ds) = true then some (ds.any fun z => PyData.eqv z d) else none
    | _, _ => none) = _
  rw [strs_D]
  show (if SeqAt.shaped (.str s) = true ∧ SeqAt.shaped (.list (ts.map .str)) = true then some ((ts.map PyData.str).any fun z => PyData.eqv z (.str s)) else none) = _
  rw [if_pos ⟨s1, s2⟩, e]
theorem okT_lit {s : Str} (h : (s.cps.toList.all fun c => decide (c < 0x110000)) = true) : okT s := okD_of h
def w3 : List Str := ["plus", "minus", "times"]
def w7 : List Str := ["a", "b2", "w", "zz9", "num", "of", "plus"]
theorem ok3 : ∀ t ∈ w3, okT t := by
  intro t ht
  simp only [w3, List.mem_cons, List.not_mem_nil, or_false] at ht
  rcases ht with rfl | rfl | rfl <;> exact okT_lit (by decide)
theorem ok7 : ∀ t ∈ w7, okT t := by
  intro t ht
  simp only [w7, List.mem_cons, List.not_mem_nil, or_false] at ht
  rcases ht with rfl | rfl | rfl | rfl | rfl | rfl | rfl <;> exact okT_lit (by decide)
theorem in_pm (s : Str) : opIn (.str s) (.tup [.str "plus", .str "minus"]) = some (decide (s ∈ (["plus", "minus"] : List Str))) := in_tp s ["plus", "minus"]
theorem in_w3 {s : Str} (h : okT s) : opIn (.str s) (.lst [.str "plus", .str "minus", .str "times"]) = some (decide (s ∈ w3)) := in_ls h ok3
theorem in_w7 {s : Str} (h : okT s) : opIn (.str s) (.lst [.str "a", .str "b2", .str "w", .str "zz9", .str "num", .str "of", .str "plus"]) = some (decide (s ∈ w7)) := in_ls h ok7
theorem nm_sT (j : Nat) : ∃ d, nm j = sT d ∧ isN d = true ∧ d.length ≤ 2 ∧ okT (nm j) ∧ decide (nm j ∈ w7) = true := by
  rcases nm_cases j with h | h | h <;> rw [h]
  · exact ⟨[97], rfl, by decide, by decide, okT_lit (by decide), by decide⟩
  · exact ⟨[98, 50], rfl, by decide, by decide, okT_lit (by decide), by decide⟩
  · exact ⟨[119], rfl, by decide, by decide, okT_lit (by decide), by decide⟩
/-! ### the law's is_ratio -/
theorem c_lratio {x : Int × Int} {n : Nat} (hn : 2 ≤ n) (h : Rok 1000 x) : callF E n 23 [rp x] = .ok (.bl true) false [] := by
  obtain ⟨m, rfl⟩ : ∃ m, n = m + 2 := ⟨n - 2, by omega⟩
  have hr : callF E (m + 1) 1 [.int x.1, .int x.2] = .ok (.tup [.int x.1, .int x.2]) false [] := by
    have := call_ratio d_ratio m (a := x.1) h.ne (h.s2.le (by decide))
    rw [(r_self h.is).1, (r_self h.is).2] at this
    exact this
  have hp : (0 < x.2) = True := by have := h.is.pos; simp; omega
  rw [call_top fx__law_is_ratio]
  have ev : evE E (callF E (m + 1)) (.cmpr (.var 1) (.nm 1) .val [.var 0] [.or [.isi (.var 1) "bool", .not (.isi (.var 1) "int")]] [1]) [.val (.tup [.int x.1, .int x.2]), .none] = .ok (.fresh (.lst [])) [.val (.tup [.int x.1, .int x.2]), .none] := by
    simp
  have e0 : eqPV (.lst []) (.lst []) = some true := by decide +kernel
  unfold rp
  simp [f__law_is_ratio, ↓ev, hr, hp, ↓e0]
/-! ### right lengths -/
theorem c_fits : ∀ {l : Ln} {n : Nat} {k : Int}, l.Ok → 3 + l.dep ≤ n → (l.dep : Int) ≤ k → callF E n 9 [l.pv, .int k] = .ok (.bl true) false []
  | l, 0, _, _, h, _ => by omega
  | .num x, n + 1, k, ok, hn, hk => by
    have hk : (k < 1) = False := by simp; exact hk
    have hr := c_isratio (n := n) (by have hn : 3 + 1 ≤ n + 1 := hn; omega) (Rok.is ok)
    rw [call_top fx_fits]
    simp [f_fits, Ln.pv, hk, hr]
  | .of j, n + 1, k, ok, hn, hk => by
    have hk : (k < 1) = False := by simp; exact hk
    obtain ⟨d, e, h1, h2, _⟩ := nm_sT j
    have hr := c_isname (d := d) (n := n) (by have hn : 3 + 1 ≤ n + 1 := hn; omega) (by omega)
    rw [h1, ← e] at hr
    rw [call_top fx_fits]
    simp [f_fits, Ln.pv, hk, hr]
  | .times x l, n + 1, k, ok, hn, hk => by
    have hn : 3 + (l.dep + 1) ≤ n + 1 := hn
    have hk : ((l.dep + 1 : Nat) : Int) ≤ k := hk
    have hk1 : (k < 1) = False := by simp; omega
    have ih := c_fits (l := l) (n := n) (k := k - 1) ok.2 (by omega) (by omega)
    have hr := c_isratio (n := n) (by omega) (Rok.is ok.1)
    rw [call_top fx_fits]
    simp [f_fits, Ln.pv, hk1, hr, ih]
  | .plus a b, n + 1, k, ok, hn, hk => by
    have hn : 3 + (max a.dep b.dep + 1) ≤ n + 1 := hn
    have hk : ((max a.dep b.dep + 1 : Nat) : Int) ≤ k := hk
    have hk1 : (k < 1) = False := by simp; omega
    have ia := c_fits (l := a) (n := n) (k := k - 1) ok.1 (by omega) (by omega)
    have ib := c_fits (l := b) (n := n) (k := k - 1) ok.2 (by omega) (by omega)
    have hi : opIn (.str "plus") (.tup [.str "plus", .str "minus"]) = some true := by rw [in_pm]; exact congrArg some (decide_eq_true (by simp))
    rw [call_top fx_fits]
    simp [f_fits, Ln.pv, hk1, ia, ib, ↓hi]
  | .minus a b, n + 1, k, ok, hn, hk => by
    have hn : 3 + (max a.dep b.dep + 1) ≤ n + 1 := hn
    have hk : ((max a.dep b.dep + 1 : Nat) : Int) ≤ k := hk
    have hk1 : (k < 1) = False := by simp; omega
    have ia := c_fits (l := a) (n := n) (k := k - 1) ok.1 (by omega) (by omega)
    have ib := c_fits (l := b) (n := n) (k := k - 1) ok.2 (by omega) (by omega)
    have hi : opIn (.str "minus") (.tup [.str "plus", .str "minus"]) = some true := by rw [in_pm]; exact congrArg some (decide_eq_true (by simp))
    rw [call_top fx_fits]
    simp [f_fits, Ln.pv, hk1, ia, ib, ↓hi]
theorem c_right : ∀ {l : Ln} {n : Nat} {k : Int}, l.Ok → 3 + l.dep ≤ n → (l.dep : Int) ≤ k → callF E n 22 [l.pv, .int k] = .ok (.bl true) false []
  | l, 0, _, _, h, _ => by omega
  | .num x, n + 1, k, ok, hn, hk => by
    have hk : (k = 0) = False := by
      have hk : ((1 : Nat) : Int) ≤ k := hk
      simp; omega
    have hr := c_lratio (n := n) (by have hn : 3 + 1 ≤ n + 1 := hn; omega) (Rok.le ok (m := 1000) (by omega))
    rw [call_top fx__law_is_right]
    simp [f__law_is_right, Ln.pv, hk, hr]
  | .of j, n + 1, k, ok, hn, hk => by
    have hk : (k = 0) = False := by
      have hk : ((1 : Nat) : Int) ≤ k := hk
      simp; omega
    obtain ⟨d, e, h1, h2, h3, h4⟩ := nm_sT j
    have hi := in_w7 h3
    rw [h4] at hi
    rw [call_top fx__law_is_right]
    simp [f__law_is_right, Ln.pv, hk, ↓hi]
  | .times x l, n + 1, k, ok, hn, hk => by
    have hn : 3 + (l.dep + 1) ≤ n + 1 := hn
    have hk : ((l.dep + 1 : Nat) : Int) ≤ k := hk
    have hk1 : (k = 0) = False := by simp; omega
    have ih := c_right (l := l) (n := n) (k := k - 1) ok.2 (by omega) (by omega)
    have hr := c_lratio (n := n) (by omega) (ok.1.le (m := 1000) (by omega))
    have hi : opIn (.str "times") (.lst [.str "plus", .str "minus", .str "times"]) = some true := by rw [in_w3 (okT_lit (by decide))]; decide
    rw [call_top fx__law_is_right]
    simp [f__law_is_right, Ln.pv, hk1, hr, ih, ↓hi]
  | .plus a b, n + 1, k, ok, hn, hk => by
    have hn : 3 + (max a.dep b.dep + 1) ≤ n + 1 := hn
    have hk : ((max a.dep b.dep + 1 : Nat) : Int) ≤ k := hk
    have hk1 : (k = 0) = False := by simp; omega
    have ia := c_right (l := a) (n := n) (k := k - 1) ok.1 (by omega) (by omega)
    have ib := c_right (l := b) (n := n) (k := k - 1) ok.2 (by omega) (by omega)
    have hi : opIn (.str "plus") (.lst [.str "plus", .str "minus", .str "times"]) = some true := by rw [in_w3 (okT_lit (by decide))]; decide
    rw [call_top fx__law_is_right]
    simp [f__law_is_right, Ln.pv, hk1, ia, ib, ↓hi]
  | .minus a b, n + 1, k, ok, hn, hk => by
    have hn : 3 + (max a.dep b.dep + 1) ≤ n + 1 := hn
    have hk : ((max a.dep b.dep + 1 : Nat) : Int) ≤ k := hk
    have hk1 : (k = 0) = False := by simp; omega
    have ia := c_right (l := a) (n := n) (k := k - 1) ok.1 (by omega) (by omega)
    have ib := c_right (l := b) (n := n) (k := k - 1) ok.2 (by omega) (by omega)
    have hi : opIn (.str "minus") (.lst [.str "plus", .str "minus", .str "times"]) = some true := by rw [in_w3 (okT_lit (by decide))]; decide
    rw [call_top fx__law_is_right]
    simp [f__law_is_right, Ln.pv, hk1, ia, ib, ↓hi]
end K06

namespace K06
open PySem PySem.Spec L2 Eng Rt TL
open PyProof.Rows hiding St
/-! ### what a bent length is made of -/
inductive Part where
  | txt (s : Str)
  | non | thr | tru
  | rat (x : Int × Int)
  | two4
  | len (l : Ln)
def Part.pv : Part → PV
  | .txt s => .str s
  | .non => .non
  | .thr => .int 3
  | .tru => .bl true
  | .rat x => rp x
  | .two4 => rp (2, 4)
  | .len l => l.pv
def Part.Ok : Part → Prop
  | .txt s => okT s ∧ s.length ≤ 20
  | .rat x => Rok 64 x
  | .len l => l.Ok ∧ l.dep ≤ 4
  | _ => True
def Part.isT : Part → Bool
  | .txt _ => true
  | _ => false
theorem eqp_is (a : Int) {t : Str} (h : okT t) : eqPV (.int a) (.str t) = some false := by
  obtain ⟨d, e, k1, k2, _⟩ := shp_str (s := t) (n := t.length) h (Nat.le_refl _)
  cases e
  have s2 : SeqAt.shaped (.str t) = true := by
    unfold SeqAt.shaped
    rw [k1, Bool.true_and, decide_eq_true_eq]; omega
  have s1 : SeqAt.shaped (.int a) = true := by
    unfold SeqAt.shaped
    simp [PyData.canLay0, PyData.depth]
  rw [eqPV_D (d := .int a) (e := .str t) rfl rfl s1 s2]
  simp only [PyData.eqv]
/-- data that is a tuple -/
def TupD (p : PV) : Prop := ∃ ds, toD p = some (.tuple ds) ∧ (PyData.tuple ds).canLay0 = true ∧ (PyData.tuple ds).depth ≤ 60
theorem shp_ln : ∀ {l : Ln}, l.Ok → ∃ ds, toD l.pv = some (.tuple ds) ∧ (PyData.tuple ds).canLay0 = true ∧ (PyData.tuple ds).depth ≤ l.dep + 1
  | .num x, _ => ⟨[.str "num", .tuple [.int x.1, .int x.2]], rfl, by simp only [PyData.canLay0, PyData.canLayAll0]; decide +kernel, by simp only [PyData.depth, PyData.depthAll, Ln.dep]; omega⟩
  | .of j, _ => by
    have h := (nm_sT j).choose_spec.2.2.2.1
    obtain ⟨d, e, k1, k2, _⟩ := shp_str (s := nm j) (n := (nm j).length) h (Nat.le_refl _)
    cases e
    refine ⟨[.str "of", .str (nm j)], rfl, ?_, by simp only [PyData.depth, PyData.depthAll, Ln.dep]; omega⟩
    simp only [PyData.canLay0, PyData.canLayAll0] at k1 ⊢
    rw [k1]; decide +kernel
  | .times x l, h => by
    obtain ⟨ds, h1, h2, h3⟩ := shp_ln h.2
    refine ⟨[.str "times", .tuple [.int x.1, .int x.2], .tuple ds], ?_, ?_, ?_⟩
    · show toD (.tup [.str "times", rp x, l.pv]) = _
      simp [toD, toDL, rp, h1]
    · simp only [PyData.canLay0, PyData.canLayAll0] at h2 ⊢
      rw [h2]; decide +kernel
    · simp only [PyData.depth, PyData.depthAll, Ln.dep] at h3 ⊢; omega
  | .plus a b, h => by
    obtain ⟨da, a1, a2, a3⟩ := shp_ln h.1
    obtain ⟨db, b1, b2, b3⟩ := shp_ln h.2
    refine ⟨[.str "plus", .tuple da, .tuple db], ?_, ?_, ?_⟩
    · show toD (.tup [.str "plus", a.pv, b.pv]) = _
      simp [toD, toDL, a1, b1]
    · simp only [PyData.canLay0, PyData.canLayAll0] at a2 b2 ⊢
      rw [a2, b2]; decide +kernel
    · simp only [PyData.depth, PyData.depthAll, Ln.dep] at a3 b3 ⊢; omega
  | .minus a b, h => by
    obtain ⟨da, a1, a2, a3⟩ := shp_ln h.1
    obtain ⟨db, b1, b2, b3⟩ := shp_ln h.2
    refine ⟨[.str "minus", .tuple da, .tuple db], ?_, ?_, ?_⟩
    · show toD (.tup [.str "minus", a.pv, b.pv]) = _
      simp [toD, toDL, a1, b1]
    · simp only [PyData.canLay0, PyData.canLayAll0] at a2 b2 ⊢
      rw [a2, b2]; decide +kernel
    · simp only [PyData.depth, PyData.depthAll, Ln.dep] at a3 b3 ⊢; omega
/-- what is no text -/
structure NoT (p : PV) : Prop where
  is : opIsi p "str" = some false
  eq : ∀ {t : Str}, okT t → eqPV p (.str t) = some false
  pm : opIn p (.tup [.str "plus", .str "minus"]) = some false
theorem noT_tup {p : PV} (r : List PV) (e : p = .tup r) (h : TupD p) : NoT p := by
  obtain ⟨ds, h1, h2, h3⟩ := h
  have s1 : SeqAt.shaped (.tuple ds) = true := by
    unfold SeqAt.shaped
    rw [h2, Bool.true_and, decide_eq_true_eq]; omega
  refine ⟨by rw [e]; simp, fun {t} ht => ?_, ?_⟩
  · obtain ⟨d, e', k1, k2, _⟩ := shp_str (s := t) (n := t.length) ht (Nat.le_refl _)
    cases e'
    have s2 : SeqAt.shaped (.str t) = true := by
      unfold SeqAt.shaped
      rw [k1, Bool.true_and, decide_eq_true_eq]; omega
    rw [eqPV_D h1 (e := .str t) rfl s1 s2]
    simp only [PyData.eqv]
  · subst e
    have s2 : SeqAt.shaped (.tuple [.str "plus", .str "minus"]) = true := by decide +kernel
    show (if flatP (.tup r) = true ∧ ([.str "plus", .str "minus"] : List PV).all flatP = true then some (([.str "plus", .str "minus"] : List PV).any fun y => PyData.eqv (encP y) (encP (.tup r))) else (match toD (.tup r), toDL [.str "plus", .str "minus"] with
      | some d, some ds => if SeqAt.shaped d = true ∧ SeqAt.shaped (.tuple ds) = true then some (ds.any fun z => PyData.eqv z d) else none
      | _, _ => none)) = _
    rw [if_neg (fun z => Bool.false_ne_true z.1), h1]
    show (if SeqAt.shaped (.tuple ds) = true ∧ SeqAt.shaped (.tuple [.str "plus", .str "minus"]) = true then some (([.str "plus", .str "minus"] : List PyData).any fun z => PyData.eqv z (.tuple ds)) else none) = _
    rw [if_pos ⟨s1, s2⟩]
    simp only [List.any_cons, List.any_nil, PyData.eqv]
    rfl
theorem rp_D (x : Int × Int) : TupD (rp x) := ⟨[.int x.1, .int x.2], rfl, by simp only [PyData.canLay0, PyData.canLayAll0]; decide +kernel, by simp only [PyData.depth, PyData.depthAll]; omega⟩
theorem eqp_sm {p : PV} {d : PyData} (h1 : toD p = some d) (h2 : SeqAt.shaped d = true) (h3 : ∀ t, PyData.eqv d (.str t) = false) {t : Str} (ht : okT t) : eqPV p (.str t) = some false := by
  obtain ⟨e, e', k1, k2, _⟩ := shp_str (s := t) (n := t.length) ht (Nat.le_refl _)
  cases e'
  have s2 : SeqAt.shaped (.str t) = true := by
    unfold SeqAt.shaped
    rw [k1, Bool.true_and, decide_eq_true_eq]; omega
  rw [eqPV_D h1 (e := .str t) rfl h2 s2, h3]
theorem noT : ∀ {p : Part}, p.Ok → p.isT = false → NoT p.pv
  | .txt s, _, h => by cases h
  | .non, _, _ => ⟨by decide +kernel, fun ht => eqp_sm (p := .non) (d := .none) rfl (by decide +kernel) (fun t => by simp only [PyData.eqv]) ht, by decide +kernel⟩
  | .thr, _, _ => ⟨by decide +kernel, fun ht => eqp_is 3 ht, by decide +kernel⟩
  | .tru, _, _ => ⟨by decide +kernel, fun ht => eqp_sm (p := .bl true) (d := .bool true) rfl (by decide +kernel) (fun t => by simp only [PyData.eqv]) ht, by decide +kernel⟩
  | .rat x, _, _ => noT_tup _ rfl (rp_D x)
  | .two4, _, _ => noT_tup _ rfl (rp_D (2, 4))
  | .len l, h, _ => by
    obtain ⟨w, r, e⟩ := pv_hd l
    obtain ⟨ds, h1, h2, h3⟩ := shp_ln h.1
    have := h.2
    exact noT_tup _ e ⟨ds, h1, h2, by omega⟩
/-! ### each part by itself -/
theorem int_no {p : PV} (h : opIsi p "int" = some false) (m : Nat) : callF E (m + 1) 2 [p] = .ok (.bl false) false [] := by
  rw [call_top fx_is_integer]
  simp [f_is_integer, h]
theorem e_ne {a : PV} {l : List PV} {ds : List PyData} (h : toDL (a :: l) = some ds) (s : SeqAt.shaped (.list ds) = true) : eqPV (.lst (a :: l)) (.lst []) = some false := by
  rw [eqPV_D (d := .list ds) (e := .list []) (by rw [toD, h]; rfl) rfl s (by decide +kernel)]
  cases ds with
  | nil => 
    rw [toDL] at h
    split at h <;> cases h
  | cons d ds => simp only [PyData.eqv]; rfl
theorem rt : ∀ {p : Part}, p.Ok → ∃ b, ∀ {n : Nat}, 2 ≤ n → callF E n 3 [p.pv] = .ok (.bl b) false [] ∧ callF E n 23 [p.pv] = .ok (.bl b) false []
  | .txt s, _ => by
    refine ⟨false, fun {n} hn => ?_⟩
    obtain ⟨m, rfl⟩ : ∃ m, n = m + 1 := ⟨n - 1, by omega⟩
    exact ⟨by rw [call_top fx_is_ratio]; simp [f_is_ratio, Part.pv], by rw [call_top fx__law_is_ratio]; simp [f__law_is_ratio, Part.pv]⟩
  | .non, _ => by
    refine ⟨false, fun {n} hn => ?_⟩
    obtain ⟨m, rfl⟩ : ∃ m, n = m + 1 := ⟨n - 1, by omega⟩
    exact ⟨by rw [call_top fx_is_ratio]; simp [f_is_ratio, Part.pv], by rw [call_top fx__law_is_ratio]; simp [f__law_is_ratio, Part.pv]⟩
  | .thr, _ => by
    refine ⟨false, fun {n} hn => ?_⟩
    obtain ⟨m, rfl⟩ : ∃ m, n = m + 1 := ⟨n - 1, by omega⟩
    exact ⟨by rw [call_top fx_is_ratio]; simp [f_is_ratio, Part.pv], by rw [call_top fx__law_is_ratio]; simp [f__law_is_ratio, Part.pv]⟩
  | .tru, _ => by
    refine ⟨false, fun {n} hn => ?_⟩
    obtain ⟨m, rfl⟩ : ∃ m, n = m + 1 := ⟨n - 1, by omega⟩
    exact ⟨by rw [call_top fx_is_ratio]; simp [f_is_ratio, Part.pv], by rw [call_top fx__law_is_ratio]; simp [f__law_is_ratio, Part.pv]⟩
  | .rat x, h => ⟨true, fun {n} hn => ⟨c_isratio hn (Rok.is h), c_lratio hn (Rok.le h (m := 1000) (by omega))⟩⟩
  | .two4, _ => by
    refine ⟨false, fun {n} hn => ?_⟩
    obtain ⟨m, rfl⟩ : ∃ m, n = m + 2 := ⟨n - 2, by omega⟩
    refine ⟨?_, ?_⟩
    · rw [call_top fx_is_ratio]
      have hi := call_isint d_isint m 2
      have hj := call_isint d_isint m 4
      simp [f_is_ratio, Part.pv, rp, hi, hj]
    · rw [call_top fx__law_is_ratio]
      have hr : callF E (m + 1) 1 [.int 2, .int 4] = .ok (.tup [.int 1, .int 2]) false [] := by
        have := call_ratio d_ratio m (a := 2) (b := 4) (by decide) (by unfold Sm; decide)
        have e1 : rN 2 4 = 1 := by decide
        have e2 : rD 2 4 = 2 := by decide
        rw [e1, e2] at this
        exact this
      have ev : evE E (callF E (m + 1)) (.cmpr (.var 1) (.nm 1) .val [.var 0] [.or [.isi (.var 1) "bool", .not (.isi (.var 1) "int")]] [1]) [.val (.tup [.int 2, .int 4]), .none] = .ok (.fresh (.lst [])) [.val (.tup [.int 2, .int 4]), .none] := by
        simp
      have e0 : eqPV (.lst []) (.lst []) = some true := by decide +kernel
      simp [f__law_is_ratio, Part.pv, rp, ↓ev, hr, ↓e0]
  | .len (.num x), h => by
    refine ⟨false, fun {n} hn => ?_⟩
    obtain ⟨m, rfl⟩ : ∃ m, n = m + 2 := ⟨n - 2, by omega⟩
    refine ⟨?_, ?_⟩
    · have h1 := int_no (p := .str "num") (by simp) m
      have h2 := int_no (p := rp x) (by simp [rp]) m
      rw [call_top fx_is_ratio]
      simp [f_is_ratio, Part.pv, Ln.pv, h1, h2]
    · have e0 : eqPV (.lst [.str "num", rp x]) (.lst []) = some false := by
        refine e_ne (ds := [.str "num", .tuple [.int x.1, .int x.2]]) rfl ?_
        unfold SeqAt.shaped
        simp only [PyData.canLay0, PyData.canLayAll0, PyData.depth, PyData.depthAll]
        have ek : PyData.strOk "num" = true := by decide +kernel
        rw [ek]; rfl
      have hx : opIsi (rp x) "int" = some false := by simp [rp]
      have hy : opIsi (rp x) "bool" = some false := by simp [rp]
      rw [call_top fx__law_is_ratio]
      simp [f__law_is_ratio, Part.pv, Ln.pv, hx, hy, ↓e0]
  | .len (.of j), h => by
    refine ⟨false, fun {n} hn => ?_⟩
    obtain ⟨m, rfl⟩ : ∃ m, n = m + 2 := ⟨n - 2, by omega⟩
    refine ⟨?_, ?_⟩
    · have h1 := int_no (p := .str "of") (by simp) m
      have h2 := int_no (p := .str (nm j)) (by simp) m
      rw [call_top fx_is_ratio]
      simp [f_is_ratio, Part.pv, Ln.pv, h1, h2]
    · have hk := (nm_sT j).choose_spec.2.2.2.1
      obtain ⟨d, e, k1, k2, _⟩ := shp_str (s := nm j) (n := (nm j).length) hk (Nat.le_refl _)
      cases e
      have e0 : eqPV (.lst [.str "of", .str (nm j)]) (.lst []) = some false := by
        refine e_ne (ds := [.str "of", .str (nm j)]) rfl ?_
        unfold SeqAt.shaped
        simp only [PyData.canLay0, PyData.canLayAll0, PyData.depth, PyData.depthAll] at k1 ⊢
        have ek : PyData.strOk "of" = true := by decide +kernel
        rw [k1, ek]; rfl
      rw [call_top fx__law_is_ratio]
      simp [f__law_is_ratio, Part.pv, Ln.pv, ↓e0]
  | .len (.times x l), h => by
    refine ⟨false, fun {n} hn => ?_⟩
    obtain ⟨m, rfl⟩ : ∃ m, n = m + 1 := ⟨n - 1, by omega⟩
    exact ⟨by rw [call_top fx_is_ratio]; simp [f_is_ratio, Part.pv, Ln.pv], by rw [call_top fx__law_is_ratio]; simp [f__law_is_ratio, Part.pv, Ln.pv]⟩
  | .len (.plus a b), h => by
    refine ⟨false, fun {n} hn => ?_⟩
    obtain ⟨m, rfl⟩ : ∃ m, n = m + 1 := ⟨n - 1, by omega⟩
    exact ⟨by rw [call_top fx_is_ratio]; simp [f_is_ratio, Part.pv, Ln.pv], by rw [call_top fx__law_is_ratio]; simp [f__law_is_ratio, Part.pv, Ln.pv]⟩
  | .len (.minus a b), h => by
    refine ⟨false, fun {n} hn => ?_⟩
    obtain ⟨m, rfl⟩ : ∃ m, n = m + 1 := ⟨n - 1, by omega⟩
    exact ⟨by rw [call_top fx_is_ratio]; simp [f_is_ratio, Part.pv, Ln.pv], by rw [call_top fx__law_is_ratio]; simp [f__law_is_ratio, Part.pv, Ln.pv]⟩
theorem ft : ∀ {p : Part}, p.Ok → ∃ b, ∀ {n : Nat}, 8 ≤ n → callF E n 9 [p.pv, .int 7] = .ok (.bl b) false [] ∧ callF E n 22 [p.pv, .int 7] = .ok (.bl b) false []
  | .txt s, _ => by
    refine ⟨false, fun {n} hn => ?_⟩
    obtain ⟨m, rfl⟩ : ∃ m, n = m + 1 := ⟨n - 1, by omega⟩
    exact ⟨by rw [call_top fx_fits]; simp [f_fits, Part.pv], by rw [call_top fx__law_is_right]; simp [f__law_is_right, Part.pv]⟩
  | .non, _ => by
    refine ⟨false, fun {n} hn => ?_⟩
    obtain ⟨m, rfl⟩ : ∃ m, n = m + 1 := ⟨n - 1, by omega⟩
    exact ⟨by rw [call_top fx_fits]; simp [f_fits, Part.pv], by rw [call_top fx__law_is_right]; simp [f__law_is_right, Part.pv]⟩
  | .thr, _ => by
    refine ⟨false, fun {n} hn => ?_⟩
    obtain ⟨m, rfl⟩ : ∃ m, n = m + 1 := ⟨n - 1, by omega⟩
    exact ⟨by rw [call_top fx_fits]; simp [f_fits, Part.pv], by rw [call_top fx__law_is_right]; simp [f__law_is_right, Part.pv]⟩
  | .tru, _ => by
    refine ⟨false, fun {n} hn => ?_⟩
    obtain ⟨m, rfl⟩ : ∃ m, n = m + 1 := ⟨n - 1, by omega⟩
    exact ⟨by rw [call_top fx_fits]; simp [f_fits, Part.pv], by rw [call_top fx__law_is_right]; simp [f__law_is_right, Part.pv]⟩
  | .rat x, h => by
    refine ⟨false, fun {n} hn => ?_⟩
    obtain ⟨m, rfl⟩ : ∃ m, n = m + 1 := ⟨n - 1, by omega⟩
    have e1 := eqp_is x.1 (t := "num") (okT_lit (by decide))
    have e2 := eqp_is x.1 (t := "of") (okT_lit (by decide))
    exact ⟨by rw [call_top fx_fits]; simp [f_fits, Part.pv, rp, ↓e1, ↓e2], by rw [call_top fx__law_is_right]; simp [f__law_is_right, Part.pv, rp]⟩
  | .two4, _ => by
    refine ⟨false, fun {n} hn => ?_⟩
    obtain ⟨m, rfl⟩ : ∃ m, n = m + 1 := ⟨n - 1, by omega⟩
    have e1 := eqp_is 2 (t := "num") (okT_lit (by decide))
    have e2 := eqp_is 2 (t := "of") (okT_lit (by decide))
    exact ⟨by rw [call_top fx_fits]; simp [f_fits, Part.pv, rp, ↓e1, ↓e2], by rw [call_top fx__law_is_right]; simp [f__law_is_right, Part.pv, rp]⟩
  | .len l, h => by
    have := h.2
    exact ⟨true, fun {n} hn => ⟨c_fits h.1 (by omega) (by omega), c_right h.1 (by omega) (by omega)⟩⟩
/-- a text after 'of' -/
def NmOk (p : Part) : Prop := ∀ s, p = .txt s → ∃ d, s = sT d ∧ isN d = decide (s ∈ w7)
theorem nmf {p : Part} (h : p.Ok) (hn : NmOk p) : ∃ b, (∀ {n : Nat}, 1 ≤ n → callF E n 0 [p.pv] = .ok (.bl b) false []) ∧ ((opIsi p.pv "str" = some false ∧ b = false) ∨ (opIsi p.pv "str" = some true ∧ opIn p.pv (.lst [.str "a", .str "b2", .str "w", .str "zz9", .str "num", .str "of", .str "plus"]) = some b)) := by
  cases ht : p.isT with
  | true =>
    cases p <;> first | (cases ht; done) | skip
    rename_i s
    obtain ⟨d, e, k⟩ := hn s rfl
    have hl : d.length ≤ 20 := by have := h.2; rw [e] at this; exact this
    refine ⟨isN d, fun {n} h1 => ?_, .inr ⟨by simp [Part.pv], ?_⟩⟩
    · show callF E n 0 [.str s] = _
      rw [e]
      exact c_isname h1 (by omega)
    · rw [k]
      exact in_w7 h.1
  | false =>
    have q := noT h ht
    refine ⟨false, fun {n} h1 => ?_, .inl ⟨q.is, rfl⟩⟩
    obtain ⟨m, rfl⟩ : ∃ m, n = m + 1 := ⟨n - 1, by omega⟩
    have qi := q.is
    rw [call_top fx_is_name]
    simp [f_is_name, ↓qi]
end K06

namespace K06
open PySem PySem.Spec L2 Eng Rt TL
open PyProof.Rows hiding St
/-! ### a bent length -/
def Same2 (ps : List Part) : Prop := ∃ b, ∀ {n : Nat}, 10 ≤ n → callF E n 9 [.tup (ps.map Part.pv), .int 8] = .ok (.bl b) false [] ∧ callF E n 22 [.tup (ps.map Part.pv), .int 8] = .ok (.bl b) false []
theorem pv_txt (s : Str) : Part.pv (.txt s) = .str s := rfl
theorem top1 {a : Part} (ha : a.Ok) : Same2 [a] := by
  exact ⟨false, fun {n} h => by obtain ⟨m, rfl⟩ : ∃ m, n = m + 1 := ⟨n - 1, by omega⟩; exact ⟨by rw [call_top fx_fits]; simp [f_fits], by rw [call_top fx__law_is_right]; simp [f__law_is_right]⟩⟩
theorem okNum : okT "num" := okT_lit (by decide)
theorem okOf : okT "of" := okT_lit (by decide)
theorem okTimes : okT "times" := okT_lit (by decide)
theorem top2 {a b : Part} (ha : a.Ok) (hb : b.Ok) (hn : a = .txt "of" → NmOk b) : Same2 [a, b] := by
  cases ht : a.isT with
  | false =>
    have q := noT ha ht
    have q1 := q.eq okNum
    have q2 := q.eq okOf
    have q3 := q.is
    exact ⟨false, fun {n} h => by obtain ⟨m, rfl⟩ : ∃ m, n = m + 1 := ⟨n - 1, by omega⟩; exact ⟨by rw [call_top fx_fits]; simp [f_fits, ↓q1, ↓q2], by rw [call_top fx__law_is_right]; simp [f__law_is_right, ↓q3]⟩⟩
  | true =>
    cases a <;> first | (cases ht; done) | skip
    rename_i s
    by_cases h1 : s = "num"
    · subst h1
      obtain ⟨v, rr⟩ := rt hb
      exact ⟨v, fun {n} h => by obtain ⟨m, rfl⟩ : ∃ m, n = m + 1 := ⟨n - 1, by omega⟩; have r1 := (rr (n := m) (by omega)).1; have r2 := (rr (n := m) (by omega)).2; exact ⟨by rw [call_top fx_fits]; simp [f_fits, pv_txt, r1], by rw [call_top fx__law_is_right]; simp [f__law_is_right, pv_txt, r2]⟩⟩
    · by_cases h2 : s = "of"
      · subst h2
        obtain ⟨v, nn, r2⟩ := nmf hb (hn rfl)
        refine ⟨v, fun {n} h => ?_⟩
        obtain ⟨m, rfl⟩ : ∃ m, n = m + 1 := ⟨n - 1, by omega⟩
        have r1 := nn (n := m) (by omega)
        refine ⟨by rw [call_top fx_fits]; simp [f_fits, pv_txt, r1], ?_⟩
        rcases r2 with ⟨r2, rfl⟩ | ⟨r2, r3⟩
        · rw [call_top fx__law_is_right]; simp [f__law_is_right, pv_txt, ↓r2]
        · rw [call_top fx__law_is_right]; simp [f__law_is_right, pv_txt, ↓r2, ↓r3]
      · exact ⟨false, fun {n} h => by obtain ⟨m, rfl⟩ : ∃ m, n = m + 1 := ⟨n - 1, by omega⟩; exact ⟨by rw [call_top fx_fits]; simp [f_fits, pv_txt, h1, h2], by rw [call_top fx__law_is_right]; simp [f__law_is_right, pv_txt, h1, h2]⟩⟩
theorem top3 {a b c : Part} (ha : a.Ok) (hb : b.Ok) (hc : c.Ok) : Same2 [a, b, c] := by
  cases ht : a.isT with
  | false =>
    have q := noT ha ht
    have q1 := q.eq okNum
    have q2 := q.eq okOf
    have q3 := q.is
    have q4 := q.eq okTimes
    have q5 := q.pm
    exact ⟨false, fun {n} h => by obtain ⟨m, rfl⟩ : ∃ m, n = m + 1 := ⟨n - 1, by omega⟩; exact ⟨by rw [call_top fx_fits]; simp [f_fits, ↓q1, ↓q2, ↓q4, ↓q5], by rw [call_top fx__law_is_right]; simp [f__law_is_right, ↓q3]⟩⟩
  | true =>
    cases a <;> first | (cases ht; done) | skip
    rename_i s
    have i1 := in_pm s
    have i2 := in_w3 ha.1
    by_cases h1 : s = "num"
    · subst h1
      exact ⟨false, fun {n} h => by obtain ⟨m, rfl⟩ : ∃ m, n = m + 1 := ⟨n - 1, by omega⟩; exact ⟨by rw [call_top fx_fits]; simp [f_fits, pv_txt], by rw [call_top fx__law_is_right]; simp [f__law_is_right, pv_txt]⟩⟩
    · by_cases h2 : s = "of"
      · subst h2
        exact ⟨false, fun {n} h => by obtain ⟨m, rfl⟩ : ∃ m, n = m + 1 := ⟨n - 1, by omega⟩; exact ⟨by rw [call_top fx_fits]; simp [f_fits, pv_txt], by rw [call_top fx__law_is_right]; simp [f__law_is_right, pv_txt]⟩⟩
      · by_cases h3 : s = "times"
        · subst h3
          have i2 : opIn (.str "times") (.lst [.str "plus", .str "minus", .str "times"]) = some true := by rw [i2]; decide
          obtain ⟨v, rr⟩ := rt hb
          obtain ⟨u, tt⟩ := ft hc
          cases v with
          | false => exact ⟨false, fun {n} h => by obtain ⟨m, rfl⟩ : ∃ m, n = m + 1 := ⟨n - 1, by omega⟩; have r1 := (rr (n := m) (by omega)).1; have r2 := (rr (n := m) (by omega)).2; exact ⟨by rw [call_top fx_fits]; simp [f_fits, pv_txt, r1], by rw [call_top fx__law_is_right]; simp [f__law_is_right, pv_txt, r2, ↓i2]⟩⟩
          | true => exact ⟨u, fun {n} h => by obtain ⟨m, rfl⟩ : ∃ m, n = m + 1 := ⟨n - 1, by omega⟩; have r1 := (rr (n := m) (by omega)).1; have r2 := (rr (n := m) (by omega)).2; have t1 := (tt (n := m) (by omega)).1; have t2 := (tt (n := m) (by omega)).2; exact ⟨by rw [call_top fx_fits]; simp [f_fits, pv_txt, r1, t1], by rw [call_top fx__law_is_right]; simp [f__law_is_right, pv_txt, r2, t2, ↓i2]⟩⟩
        · by_cases h4 : s ∈ (["plus", "minus"] : List Str)
          · rw [decide_eq_true h4] at i1
            have h5 : s ∈ w3 := by
              simp only [List.mem_cons, List.not_mem_nil, or_false] at h4
              rcases h4 with rfl | rfl <;> decide
            rw [decide_eq_true h5] at i2
            obtain ⟨v, rr⟩ := ft hb
            obtain ⟨u, tt⟩ := ft hc
            cases v with
            | false => exact ⟨false, fun {n} h => by obtain ⟨m, rfl⟩ : ∃ m, n = m + 1 := ⟨n - 1, by omega⟩; have r1 := (rr (n := m) (by omega)).1; have r2 := (rr (n := m) (by omega)).2; exact ⟨by rw [call_top fx_fits]; simp [f_fits, pv_txt, h1, h2, h3, r1, ↓i1], by rw [call_top fx__law_is_right]; simp [f__law_is_right, pv_txt, h1, h2, h3, r2, ↓i2]⟩⟩
            | true => exact ⟨u, fun {n} h => by obtain ⟨m, rfl⟩ : ∃ m, n = m + 1 := ⟨n - 1, by omega⟩; have r1 := (rr (n := m) (by omega)).1; have r2 := (rr (n := m) (by omega)).2; have t1 := (tt (n := m) (by omega)).1; have t2 := (tt (n := m) (by omega)).2; exact ⟨by rw [call_top fx_fits]; simp [f_fits, pv_txt, h1, h2, h3, r1, t1, ↓i1], by rw [call_top fx__law_is_right]; simp [f__law_is_right, pv_txt, h1, h2, h3, r2, t2, ↓i2]⟩⟩
          · rw [decide_eq_false h4] at i1
            have h5 : s ∉ w3 := by
              intro z
              simp only [w3, List.mem_cons, List.not_mem_nil, or_false] at z h4
              rcases z with z | z | z
              · exact h4 (.inl z)
              · exact h4 (.inr z)
              · exact h3 z
            rw [decide_eq_false h5] at i2
            exact ⟨false, fun {n} h => by obtain ⟨m, rfl⟩ : ∃ m, n = m + 1 := ⟨n - 1, by omega⟩; exact ⟨by rw [call_top fx_fits]; simp [f_fits, pv_txt, h1, h2, h3, ↓i1], by rw [call_top fx__law_is_right]; simp [f__law_is_right, pv_txt, h1, h2, h3, ↓i2]⟩⟩
theorem top4 {a b c d : Part} (ha : a.Ok) : Same2 [a, b, c, d] := by
  cases ht : a.isT with
  | false =>
    have q := noT ha ht
    have q1 := q.eq okNum
    have q2 := q.eq okOf
    have q3 := q.is
    exact ⟨false, fun {n} h => by obtain ⟨m, rfl⟩ : ∃ m, n = m + 1 := ⟨n - 1, by omega⟩; exact ⟨by rw [call_top fx_fits]; simp [f_fits, ↓q1, ↓q2], by rw [call_top fx__law_is_right]; simp [f__law_is_right, ↓q3]⟩⟩
  | true =>
    cases a <;> first | (cases ht; done) | skip
    rename_i s
    by_cases h1 : s = "num"
    · subst h1
      exact ⟨false, fun {n} h => by obtain ⟨m, rfl⟩ : ∃ m, n = m + 1 := ⟨n - 1, by omega⟩; exact ⟨by rw [call_top fx_fits]; simp [f_fits, pv_txt], by rw [call_top fx__law_is_right]; simp [f__law_is_right, pv_txt]⟩⟩
    · by_cases h2 : s = "of"
      · subst h2
        exact ⟨false, fun {n} h => by obtain ⟨m, rfl⟩ : ∃ m, n = m + 1 := ⟨n - 1, by omega⟩; exact ⟨by rw [call_top fx_fits]; simp [f_fits, pv_txt], by rw [call_top fx__law_is_right]; simp [f__law_is_right, pv_txt]⟩⟩
      · exact ⟨false, fun {n} h => by obtain ⟨m, rfl⟩ : ∃ m, n = m + 1 := ⟨n - 1, by omega⟩; exact ⟨by rw [call_top fx_fits]; simp [f_fits, pv_txt, h1, h2], by rw [call_top fx__law_is_right]; simp [f__law_is_right, pv_txt, h1, h2]⟩⟩
end K06

namespace K06
open PySem PySem.Spec L2 Eng Rt TL
open PyProof.Rows hiding St
/-! ### what is drawn -/
abbrev dw (ds : List Int) : PV := .lst (ds.map .int)
theorem c_take {n : Nat} (hn : 1 ≤ n) (ds : List Int) {b : Int} (hb : 0 < b) : ∃ (v : Int) (ds' : List Int), 0 ≤ v ∧ v < b ∧ callF E n 15 [dw ds, .int b] = .ok (.int v) false [dw ds'] := by
  obtain ⟨m, rfl⟩ : ∃ m, n = m + 1 := ⟨n - 1, by omega⟩
  obtain ⟨v, d, h1, h2, _, h3⟩ := call_take d_take (k := m) ds hb
  exact ⟨v, d, h1, h2, h3⟩
theorem c_ratio {n : Nat} (hn : 1 ≤ n) {a b : Int} (hb : b ≠ 0) (sa : Sm 62 a) (sb : Sm 62 b) : ∃ x, Rok 62 x ∧ callF E n 1 [.int a, .int b] = .ok (rp x) false [] := by
  obtain ⟨m, rfl⟩ : ∃ m, n = m + 1 := ⟨n - 1, by omega⟩
  exact ⟨(rN a b, rD a b), ⟨r_is hb, rN_sm hb sa, rD_sm hb sb⟩, call_ratio d_ratio m hb (sb.le (by decide))⟩
theorem c_lr {n : Nat} (hn : 2 ≤ n) (ds : List Int) : ∃ (x : Int × Int) (ds' : List Int), Rok 62 x ∧ callF E n 16 [dw ds] = .ok (rp x) false [dw ds'] := by
  obtain ⟨m, rfl⟩ : ∃ m, n = m + 1 := ⟨n - 1, by omega⟩
  have hm : 1 ≤ m := by omega
  rw [call_top fx__law_ratio]
  obtain ⟨k, d1, k0, k1, e1⟩ := c_take hm ds (b := 12) (by decide)
  by_cases h1 : k < 5
  · obtain ⟨v, d2, v0, v1, e2⟩ := c_take hm d1 (b := 7) (by decide)
    obtain ⟨x, rx, ex⟩ := c_ratio hm (a := v - 3) (b := 1) (by decide) (by unfold Sm; omega) (by unfold Sm; decide)
    refine ⟨x, d2, rx, ?_⟩
    simp [f__law_ratio, e1, h1, e2, ex]
  · by_cases h2 : k = 11
    · obtain ⟨v, d2, v0, v1, e2⟩ := c_take hm d1 (b := 999983) (by decide)
      obtain ⟨u, d3, u0, u1, e3⟩ := c_take hm d2 (b := 999) (by decide)
      obtain ⟨t, d4, t0, t1, e4⟩ := c_take hm d3 (b := 9973) (by decide)
      have sv : Sm 20 (v + 1) := by unfold Sm; omega
      have s3 : Sm 60 ((v + 1) ^ 3) := by
        have e : (v + 1) ^ 3 = (v + 1) * (v + 1) * (v + 1) := by rw [Int.pow_succ, Int.pow_succ, Int.pow_succ, Int.pow_zero, Int.one_mul]
        rw [e]
        exact (sv.mul sv).mul sv
      have sa : Sm 62 ((v + 1) ^ 3 - u) := (s3.sub ((show Sm 10 u by unfold Sm; omega).le (by omega))).le (by omega)
      obtain ⟨x, rx, ex⟩ := c_ratio hm (a := (v + 1) ^ 3 - u) (b := t + 1) (by omega) sa ((show Sm 20 (t + 1) by unfold Sm; omega).le (by omega))
      have na : (v + 1).natAbs < 18446744073709551616 := by omega
      refine ⟨x, d4, rx, ?_⟩
      subst h2
      simp [f__law_ratio, e1, e2, e3, e4, na, ex]
    · obtain ⟨v, d2, v0, v1, e2⟩ := c_take hm d1 (b := 41) (by decide)
      obtain ⟨t, d3, t0, t1, e3⟩ := c_take hm d2 (b := 6) (by decide)
      obtain ⟨x, rx, ex⟩ := c_ratio hm (a := v - 20) (b := 1 + t) (by omega) (by unfold Sm; omega) (by unfold Sm; omega)
      refine ⟨x, d3, rx, ?_⟩
      simp [f__law_ratio, e1, h1, h2, e2, e3, ex]
theorem c_small {n : Nat} (hn : 2 ≤ n) (ds : List Int) : ∃ (x : Int × Int) (ds' : List Int), Rok 62 x ∧ callF E n 17 [dw ds] = .ok (rp x) false [dw ds'] := by
  obtain ⟨m, rfl⟩ : ∃ m, n = m + 1 := ⟨n - 1, by omega⟩
  have hm : 1 ≤ m := by omega
  rw [call_top fx__law_small]
  obtain ⟨v, d2, v0, v1, e2⟩ := c_take hm ds (b := 5) (by decide)
  obtain ⟨x, rx, ex⟩ := c_ratio hm (a := v - 2) (b := 1) (by decide) (by unfold Sm; omega) (by unfold Sm; decide)
  exact ⟨x, d2, rx, by simp [f__law_small, e2, ex]⟩
/-- what a length of depth t may be -/
def Lk (t : Nat) (l : Ln) : Prop := l.Ok ∧ l.dep ≤ t + 1 ∧ l.bits + 1 ≤ 65 * 2 ^ t
theorem c_any : ∀ (t : Nat) {n : Nat}, 3 + t ≤ n → ∀ ds : List Int, ∃ (l : Ln) (ds' : List Int), Lk t l ∧ callF E n 18 [dw ds, .int t] = .ok l.pv false [dw ds'] := by
  intro t
  induction t with
  | zero =>
    intro n hn ds
    obtain ⟨m, rfl⟩ : ∃ m, n = m + 1 := ⟨n - 1, by omega⟩
    rw [call_top fx__law_any_length]
    obtain ⟨k, d1, k0, k1, e1⟩ := c_take (n := m) (by omega) ds (b := 6) (by decide)
    by_cases h3 : k = 3
    · obtain ⟨x, d2, rx, e2⟩ := c_lr (n := m) (by omega) d1
      refine ⟨.num x, d2, ⟨rx.le (m := 64) (by omega), by simp [Ln.dep], by simp [Ln.bits]⟩, ?_⟩
      subst h3
      simp [f__law_any_length, e1, e2, Ln.pv]
    · obtain ⟨v, d2, v0, v1, e2⟩ := c_take (n := m) (by omega) d1 (b := 3) (by decide)
      obtain ⟨j, rfl⟩ : ∃ j : Nat, v = j := ⟨v.toNat, by omega⟩
      refine ⟨.of j, d2, ⟨by show j < 3; omega, by simp [Ln.dep], by simp [Ln.bits]⟩, ?_⟩
      have hj : opIx (.lst [.str "a", .str "b2", .str "w"]) (.int j) = some (.str (nm j)) := by
        have : j = 0 ∨ j = 1 ∨ j = 2 := by omega
        rcases this with rfl | rfl | rfl <;> simp [nm]
      simp [f__law_any_length, e1, e2, h3, Ln.pv, ↓hj]
  | succ t ih =>
    intro n hn ds
    obtain ⟨m, rfl⟩ : ∃ m, n = m + 1 := ⟨n - 1, by omega⟩
    rw [call_top fx__law_any_length]
    obtain ⟨k, d1, k0, k1, e1⟩ := c_take (n := m) (by omega) ds (b := 6) (by decide)
    have ht : ((t + 1 : Nat) : Int) - 1 = (t : Int) := by omega
    have hp : (0 < ((t : Int) + 1)) = True := by first | (simp; done) | (simp; omega)
    have p2 : 65 * 2 ^ (t + 1) = 65 * 2 ^ t + 65 * 2 ^ t := by rw [Nat.pow_succ, ← Nat.mul_assoc, Nat.mul_two]
    have p1 : 65 ≤ 65 * 2 ^ t := by have := Nat.one_le_two_pow (n := t); omega
    by_cases h3 : k = 3
    · obtain ⟨x, d2, rx, e2⟩ := c_lr (n := m) (by omega) d1
      refine ⟨.num x, d2, ⟨rx.le (m := 64) (by omega), by simp [Ln.dep], by simp only [Ln.bits]; omega⟩, ?_⟩
      subst h3
      simp [f__law_any_length, e1, e2, Ln.pv, hp]
    · by_cases h2 : k = 2
      · obtain ⟨x, d2, rx, e2⟩ := c_lr (n := m) (by omega) d1
        obtain ⟨l, d3, ⟨l1, l2, l3⟩, e3⟩ := ih (n := m) (by omega) d2
        refine ⟨.times x l, d3, ⟨⟨rx.le (m := 64) (by omega), l1⟩, by simp only [Ln.dep]; omega, by simp only [Ln.bits]; omega⟩, ?_⟩
        subst h2
        simp [f__law_any_length, e1, e2, e3, Ln.pv, hp]
      · by_cases h1 : k < 2
        · obtain ⟨a, d2, ⟨a1, a2, a3⟩, e2⟩ := ih (n := m) (by omega) d1
          obtain ⟨b, d3, ⟨b1, b2, b3⟩, e3⟩ := ih (n := m) (by omega) d2
          have hk : k = 0 ∨ k = 1 := by omega
          rcases hk with rfl | rfl
          · refine ⟨.plus a b, d3, ⟨⟨a1, b1⟩, by simp only [Ln.dep]; omega, by simp only [Ln.bits]; omega⟩, ?_⟩
            simp [f__law_any_length, e1, e2, e3, Ln.pv, hp]
          · refine ⟨.minus a b, d3, ⟨⟨a1, b1⟩, by simp only [Ln.dep]; omega, by simp only [Ln.bits]; omega⟩, ?_⟩
            simp [f__law_any_length, e1, e2, e3, Ln.pv, hp]
        · obtain ⟨v, d2, v0, v1, e2⟩ := c_take (n := m) (by omega) d1 (b := 3) (by decide)
          obtain ⟨j, rfl⟩ : ∃ j : Nat, v = j := ⟨v.toNat, by omega⟩
          refine ⟨.of j, d2, ⟨by show j < 3; omega, by simp [Ln.dep], by simp only [Ln.bits]; omega⟩, ?_⟩
          have hj : opIx (.lst [.str "a", .str "b2", .str "w"]) (.int j) = some (.str (nm j)) := by
            have : j = 0 ∨ j = 1 ∨ j = 2 := by omega
            rcases this with rfl | rfl | rfl <;> simp [nm]
          simp [f__law_any_length, e1, e2, h3, h2, h1, Ln.pv, ↓hj, hp]
end K06

namespace K06
open PySem PySem.Spec L2 Eng Rt TL
open PyProof.Rows hiding St
/-! ### a length is bent -/
def oddP : List Part := [.txt "num", .txt "of", .txt "plus", .txt "", .non, .thr, .rat (1, 2), .two4, .txt "zz9", .txt "9z", .len (.num (1, 1)), .tru]
theorem odd_at {v : Int} (h0 : 0 ≤ v) (h1 : v < 12) : ∃ o ∈ oddP, opIx (.lst [.str "num", .str "of", .str "plus", .str "", .non, .int 3, .tup [.int 1, .int 2], .tup [.int 2, .int 4], .str "zz9", .str "9z", .tup [.str "num", .tup [.int 1, .int 1]], .bl true]) (.int v) = some o.pv := by
  obtain ⟨j, rfl⟩ : ∃ j : Nat, v = j := ⟨v.toNat, by omega⟩
  have hj : j < oddP.length := by show j < 12; omega
  refine ⟨oddP[j], List.getElem_mem hj, ?_⟩
  have : j = 0 ∨ j = 1 ∨ j = 2 ∨ j = 3 ∨ j = 4 ∨ j = 5 ∨ j = 6 ∨ j = 7 ∨ j = 8 ∨ j = 9 ∨ j = 10 ∨ j = 11 := by omega
  rcases this with rfl | rfl | rfl | rfl | rfl | rfl | rfl | rfl | rfl | rfl | rfl | rfl <;> simp [oddP, Part.pv, Ln.pv, rp]
theorem ix_nat {n k : Nat} (h : k < n) : L2.ixN n (k : Int) = some k := by
  unfold L2.ixN
  rw [if_pos (by omega), if_pos (by omega)]
  rfl
theorem ixB_small {k : Nat} (h : k ≤ 4) : ixB (k : Int) = true := by
  have : k = 0 ∨ k = 1 ∨ k = 2 ∨ k = 3 ∨ k = 4 := by omega
  rcases this with rfl | rfl | rfl | rfl | rfl <;> decide +kernel
theorem mut_pop {l : List PV} {k : Nat} {p : PV} (hk : k ≤ 4) (h : l[k]? = some p) : opMut .popAt (.lst l) [.int k] = some (.lst (l.eraseIdx k), p) := by
  show (if ixB (k : Int) = true then match l[(k : Int).toNat]? with | some p => some (PV.lst (l.eraseIdx (k : Int).toNat), p) | none => none else none) = _
  rw [if_pos (ixB_small hk), Int.toNat_natCast k, h]
theorem mut_ins {l : List PV} {k : Nat} {p : PV} (hk : k ≤ 4) (h : l.length < 16777216) : opMut .insert (.lst l) [.int k, p] = some (.lst (l.take k ++ [p] ++ l.drop k), .non) := by
  show (if ixB (k : Int) = true ∧ l.length < sizeLine then some (PV.lst (l.take (k : Int).toNat ++ [p] ++ l.drop (k : Int).toNat), PV.non) else none) = _
  rw [if_pos ⟨ixB_small hk, h⟩, Int.toNat_natCast k]
theorem ev_mutL {E : Eng.Eng} {Φ : Nat → List PV → CO} {m : Mu} {i : Nat} {as : List IE} {ε ε1 ε2 : Sg} {l0 : List PV} {rs : List Rv} {ps : List PV} {kk : Bool} {p p' q : PV} (ha : as.length = muA m) (h1 : peekS ε i = some (.lst l0)) (h2 : evA E Φ as ε = .ok rs ε1) (h3 : Eng.frzL rs ε1 = some (ps, ε2)) (h4 : ε2[i]? = some (.own kk p)) (h5 : opMut m p ps = some (p', q)) :
    evE E Φ (.mut m i as) ε = .ok (.val q) (ε2.set i (.own kk p')) := by
  rw [evE, if_pos ha, h1, h2]
  dsimp only [Out.bind]
  rw [h3]
  dsimp only
  rw [h4]
  dsimp only
  rw [h5]
theorem ev_pop {n : Nat} {s0 s1 s4 s5 : Slot} {r : List PV} {k : Nat} {p : PV} (hk : k ≤ 4) (h : r[k]? = some p) : evE E (callF E n) (.mut .popAt 2 [.var 3]) [s0, s1, .own true (.lst r), .val (.int k), s4, s5] = .ok (.val p) [s0, s1, .own true (.lst (r.eraseIdx k)), .val (.int k), s4, s5] :=
  ev_mutL (ε1 := [s0, s1, .own true (.lst r), .val (.int k), s4, s5]) (ε2 := [s0, s1, .own true (.lst r), .val (.int k), s4, s5]) (rs := [.val (.int k)]) (ps := [.int k]) (kk := true) (p := .lst r) rfl rfl (by simp) rfl rfl (mut_pop hk h)
theorem ev_ins {n : Nat} {s1 s5 : Slot} {ds d3 : List Int} {r od : List PV} {k : Nat} {v : Int} {o : PV} (hk : k ≤ 4) (hl : r.length < 16777216) (e3 : callF E n 15 [dw ds, .int 12] = .ok (.int v) false [dw d3]) (e4 : opIx (.lst od) (.int v) = some o) :
    evE E (callF E n) (.mut .insert 2 [.var 3, .sub (.var 4) (.call 15 [.var 0, .cst (.int 12)])]) [.own false (dw ds), s1, .own true (.lst r), .val (.int k), .own true (.lst od), s5] = .ok (.val .non) [.own false (dw d3), s1, .own true (.lst (r.take k ++ [o] ++ r.drop k)), .val (.int k), .own true (.lst od), s5] :=
  ev_mutL (ε1 := [.own false (dw d3), s1, .own true (.lst r), .val (.int k), .own true (.lst od), s5]) (ε2 := [.own false (dw d3), s1, .own true (.lst r), .val (.int k), .own true (.lst od), s5]) (rs := [.val (.int k), .val o]) (ps := [.int k, o]) (kk := true) (p := .lst r) rfl rfl (by simp [e3, ↓e4]) rfl rfl (mut_ins hk hl)
def oddL : List PV := oddP.map Part.pv
def b1 : IS := .ifs (.cmp .Eq (.var 5) (.cst (.int 0))) [.setI 2 (.var 3) (.sub (.var 4) (.call 15 [.var 0, .cst (.int 12)]))] []
def b2 : IS := .ifs (.cmp .Eq (.var 5) (.cst (.int 1))) [.expr (.mut .popAt 2 [.var 3])] []
def b3 : IS := .ifs (.cmp .Eq (.var 5) (.cst (.int 2))) [.expr (.mut .insert 2 [.var 3, .sub (.var 4) (.call 15 [.var 0, .cst (.int 12)])])] []
/-- the slots of the def -/
def bs' (ds : List Int) (v : PV) (r od : List PV) (k kd : Int) : Sg := [.own false (dw ds), .val v, .own true (.lst r), .val (.int k), .own true (.lst od), .val (.int kd)]
theorem b1_no {n : Nat} {ds : List Int} {v : PV} {r od : List PV} {k kd : Int} (h : kd ≠ 0) : exS E (callF E n) b1 (bs' ds v r od k kd) = .nx (bs' ds v r od k kd) := by
  simp [b1, bs', h]
theorem b2_no {n : Nat} {ds : List Int} {v : PV} {r od : List PV} {k kd : Int} (h : kd ≠ 1) : exS E (callF E n) b2 (bs' ds v r od k kd) = .nx (bs' ds v r od k kd) := by
  simp [b2, bs', h]
theorem b3_no {n : Nat} {ds : List Int} {v : PV} {r od : List PV} {k kd : Int} (h : kd ≠ 2) : exS E (callF E n) b3 (bs' ds v r od k kd) = .nx (bs' ds v r od k kd) := by
  simp [b3, bs', h]
theorem b1_yes {n : Nat} {ds d3 : List Int} {v : PV} {r od : List PV} {k : Nat} {w : Int} {o : PV} (hk : k < r.length) (e3 : callF E n 15 [dw ds, .int 12] = .ok (.int w) false [dw d3]) (e4 : opIx (.lst od) (.int w) = some o) :
    exS E (callF E n) b1 (bs' ds v r od k 0) = .nx (bs' d3 v (r.set k o) od k 0) := by
  have hx := ix_nat (n := r.length) hk
  simp [b1, bs', e3, ↓e4, setOk, setC, hx]
theorem ifs_one {E : Eng.Eng} {Φ : Nat → List PV → CO} {c : IE} {s : IS} {ε ε1 ε2 : Sg} (h1 : evT E Φ c ε = .ok true ε1) (h2 : exS E Φ s ε1 = .nx ε2) : exS E Φ (.ifs c [s] []) ε = .nx ε2 := by
  rw [exS, h1]
  show exL E Φ [s] ε1 = _
  rw [exL_step h2]
  rfl
theorem expr_v {E : Eng.Eng} {Φ : Nat → List PV → CO} {e : IE} {ε ε1 : Sg} {p : PV} (h : evE E Φ e ε = .ok (.val p) ε1) : exS E Φ (.expr e) ε = .nx ε1 := by
  rw [exS, h]
theorem b2_yes {n : Nat} {ds : List Int} {v : PV} {r od : List PV} {k : Nat} (hk : k < r.length) (h4 : k ≤ 4) : exS E (callF E n) b2 (bs' ds v r od k 1) = .nx (bs' ds v (r.eraseIdx k) od k 1) :=
  ifs_one (ε1 := bs' ds v r od k 1) (by simp [bs']) (expr_v (ev_pop h4 (List.getElem?_eq_getElem hk)))
theorem b3_yes {n : Nat} {ds d3 : List Int} {v : PV} {r od : List PV} {k : Nat} {w : Int} {o : PV} (h4 : k ≤ 4) (hl : r.length < 16777216) (e3 : callF E n 15 [dw ds, .int 12] = .ok (.int w) false [dw d3]) (e4 : opIx (.lst od) (.int w) = some o) :
    exS E (callF E n) b3 (bs' ds v r od k 2) = .nx (bs' d3 v (r.take k ++ [o] ++ r.drop k) od k 2) :=
  ifs_one (ε1 := bs' ds v r od k 2) (by simp [bs']) (expr_v (ev_ins h4 hl e3 e4))
theorem c_bent {n : Nat} (hn : 2 ≤ n) (ds : List Int) (r : List PV) (c : Nat) (hc : r.length = c) (h2 : 0 < c) (h4 : c ≤ 4) : ∃ (k : Nat) (o : Part) (ds' : List Int) (ps : List PV), k < c ∧ o ∈ oddP ∧ (ps = r.set k o.pv ∨ ps = r.eraseIdx k ∨ ps = r.take k ++ [o.pv] ++ r.drop k) ∧
    callF E n 24 [dw ds, .tup r] = .ok (.tup ps) false [dw ds'] := by
  obtain ⟨m, rfl⟩ : ∃ m, n = m + 1 := ⟨n - 1, by omega⟩
  have hm : 1 ≤ m := by omega
  obtain ⟨k0, d1, a0, a1, e1⟩ := c_take hm ds (b := c) (by omega)
  obtain ⟨k, rfl⟩ : ∃ k : Nat, k0 = k := ⟨k0.toNat, by omega⟩
  have hk : k < c := by omega
  obtain ⟨kd, d2, y0, y1, e2⟩ := c_take hm d1 (b := 3) (by decide)
  have hcl : c ≤ 16777216 := by omega
  obtain ⟨v, d3, v0, v1, e3⟩ := c_take hm d2 (b := 12) (by decide)
  obtain ⟨o, ho, e4⟩ := odd_at v0 v1
  obtain ⟨od, hod⟩ : ∃ od, od = ([.str "num", .str "of", .str "plus", .str "", .non, .int 3, .tup [.int 1, .int 2], .tup [.int 2, .int 4], .str "zz9", .str "9z", .tup [.str "num", .tup [.int 1, .int 1]], .bl true] : List PV) := ⟨_, rfl⟩
  rw [← hod] at e4
  have pre : ∀ rest : List IS, exL E (callF E m) (f__law_bent.body.take 4 ++ rest) [.own false (dw ds), .val (.tup r), .none, .none, .none, .none] = exL E (callF E m) rest (bs' d2 (.tup r) r od k kd) := fun rest => by
    simp only [f__law_bent, List.take, List.cons_append, List.nil_append]
    rw [exL_step (ε1 := [.own false (dw ds), .val (.tup r), .own true (.lst r), .none, .none, .none]) (by simp)]
    rw [exL_step (ε1 := [.own false (dw d1), .val (.tup r), .own true (.lst r), .val (.int k), .none, .none]) (by simp [hc, hcl, e1])]
    rw [exL_step (ε1 := [.own false (dw d1), .val (.tup r), .own true (.lst r), .val (.int k), .own true (.lst od), .none]) (by simp [hod])]
    rw [exL_step (ε1 := bs' d2 (.tup r) r od k kd) (by simp [bs', e2])]
  have fin : ∀ (d : List Int) (ps : List PV), exL E (callF E m) [b1, b2, b3, .ret (.blt .tuple [.var 2])] (bs' d2 (.tup r) r od k kd) = .rt (.val (.tup ps)) (bs' d (.tup r) ps od k kd) → callF E (m + 1) 24 [dw ds, .tup r] = .ok (.tup ps) false [dw d] := fun d ps h => by
    have h := (pre _).trans h
    rw [call_top fx__law_bent, callB, if_pos ⟨rfl, rfl, by decide⟩]
    have h : exL E (callF E m) f__law_bent.body (startS f__law_bent.mask [dw ds, .tup r] ++ List.replicate (f__law_bent.nsl - f__law_bent.np) Slot.none) = .rt (.val (.tup ps)) (bs' d (.tup r) ps od k kd) := h
    rw [h]
    rfl
  have ret : ∀ (d : List Int) (ps : List PV), exL E (callF E m) [.ret (.blt .tuple [.var 2])] (bs' d (.tup r) ps od k kd) = .rt (.val (.tup ps)) (bs' d (.tup r) ps od k kd) := fun d ps => exL_ret (by simp [bs'])
  have hkk : kd = 0 ∨ kd = 1 ∨ kd = 2 := by omega
  rcases hkk with rfl | rfl | rfl
  · refine ⟨k, o, d3, _, hk, ho, .inl rfl, fin d3 _ ?_⟩
    rw [exL_step (b1_yes (by omega) e3 e4), exL_step (b2_no (by decide)), exL_step (b3_no (by decide))]
    exact ret _ _
  · refine ⟨k, o, d2, _, hk, ho, .inr (.inl rfl), fin d2 _ ?_⟩
    rw [exL_step (b1_no (by decide)), exL_step (b2_yes (by omega) (by omega)), exL_step (b3_no (by decide))]
    exact ret _ _
  · refine ⟨k, o, d3, _, hk, ho, .inr (.inr rfl), fin d3 _ ?_⟩
    rw [exL_step (b1_no (by decide)), exL_step (b2_no (by decide)), exL_step (b3_yes (by omega) (by omega) e3 e4)]
    exact ret _ _
end K06

namespace K06
open PySem PySem.Spec L2 Eng Rt TL
open PyProof.Rows hiding St
def prow : Ln → List Part
  | .num x => [.txt "num", .rat x]
  | .of j => [.txt "of", .txt (nm j)]
  | .times x l => [.txt "times", .rat x, .len l]
  | .plus a b => [.txt "plus", .len a, .len b]
  | .minus a b => [.txt "minus", .len a, .len b]
theorem prow_pv (l : Ln) : l.pv = .tup ((prow l).map Part.pv) := by cases l <;> rfl
theorem txt_ok {s : Str} (h : (s.cps.toList.all fun c => decide (c < 0x110000)) = true) (hl : s.length ≤ 20) : (Part.txt s).Ok := ⟨okT_lit h, hl⟩
theorem nmp_ok (j : Nat) : (Part.txt (nm j)).Ok := by
  obtain ⟨d, e, _, h2, h3, _⟩ := nm_sT j
  exact ⟨h3, by rw [e, sT_len]; omega⟩
theorem odd_ok : ∀ o ∈ oddP, o.Ok := by
  intro o ho
  simp only [oddP, List.mem_cons, List.not_mem_nil, or_false] at ho
  rcases ho with rfl | rfl | rfl | rfl | rfl | rfl | rfl | rfl | rfl | rfl | rfl | rfl
  · exact txt_ok (by decide) (by decide)
  · exact txt_ok (by decide) (by decide)
  · exact txt_ok (by decide) (by decide)
  · exact txt_ok (by decide) (by decide)
  · trivial
  · trivial
  · exact ⟨⟨by decide, by decide⟩, by unfold Sm; decide, by unfold Sm; decide⟩
  · trivial
  · exact txt_ok (by decide) (by decide)
  · exact txt_ok (by decide) (by decide)
  · exact ⟨⟨⟨by decide, by decide⟩, by unfold Sm; decide, by unfold Sm; decide⟩, by decide⟩
  · trivial
theorem nmOk_no {p : Part} (h : p.isT = false) : NmOk p := fun s e => by subst e; cases h
theorem nmOk_txt {t : Str} (h : ∃ d, t = sT d ∧ isN d = decide (t ∈ w7)) : NmOk (.txt t) := fun s e => by cases e; exact h
theorem odd_nm : ∀ o ∈ oddP, NmOk o := by
  intro o ho
  simp only [oddP, List.mem_cons, List.not_mem_nil, or_false] at ho
  rcases ho with rfl | rfl | rfl | rfl | rfl | rfl | rfl | rfl | rfl | rfl | rfl | rfl
  · exact nmOk_txt ⟨[110, 117, 109], rfl, by decide⟩
  · exact nmOk_txt ⟨[111, 102], rfl, by decide⟩
  · exact nmOk_txt ⟨[112, 108, 117, 115], rfl, by decide⟩
  · exact nmOk_txt ⟨[], rfl, by decide⟩
  · exact nmOk_no rfl
  · exact nmOk_no rfl
  · exact nmOk_no rfl
  · exact nmOk_no rfl
  · exact nmOk_txt ⟨[122, 122, 57], rfl, by decide⟩
  · exact nmOk_txt ⟨[57, 122], rfl, by decide⟩
  · exact nmOk_no rfl
  · exact nmOk_no rfl
theorem nm_nm (j : Nat) : NmOk (.txt (nm j)) := nmOk_txt (by
  obtain ⟨d, e, h1, _, _, h4⟩ := nm_sT j
  exact ⟨d, e, by rw [h1, h4]⟩)
theorem not_of {s : Str} (h : s ≠ "of") {p : Part} : (Part.txt s = .txt "of") → NmOk p := fun e => absurd (Part.txt.inj e) h
theorem sub_ok {l : Ln} (h : l.Ok) (hd : l.dep ≤ 4) : (Part.len l).Ok := ⟨h, hd⟩
theorem tr (ps : List Part) (h : ∀ p ∈ ps, p.Ok) (h0 : 1 ≤ ps.length) (h4 : ps.length ≤ 4) (hn : ∀ a b, ps = [a, b] → a = .txt "of" → NmOk b) : Same2 ps := by
  match ps, h0, h4 with
  | [a], _, _ => exact top1 (h a (by simp))
  | [a, b], _, _ => exact top2 (h a (by simp)) (h b (by simp)) (hn a b rfl)
  | [a, b, c], _, _ => exact top3 (h a (by simp)) (h b (by simp)) (h c (by simp))
  | [a, b, c, d], _, _ => exact top4 (h a (by simp))
theorem prow_ok {l : Ln} (h : l.Ok) (hd : l.dep ≤ 4) : ∀ p ∈ prow l, p.Ok := by
  cases l with
  | num x =>
    intro p hp
    simp only [prow, List.mem_cons, List.not_mem_nil, or_false] at hp
    rcases hp with rfl | rfl
    · exact txt_ok (by decide) (by decide)
    · exact h
  | of j =>
    intro p hp
    simp only [prow, List.mem_cons, List.not_mem_nil, or_false] at hp
    rcases hp with rfl | rfl
    · exact txt_ok (by decide) (by decide)
    · exact nmp_ok j
  | times x l =>
    intro p hp
    simp only [Ln.dep] at hd
    simp only [prow, List.mem_cons, List.not_mem_nil, or_false] at hp
    rcases hp with rfl | rfl | rfl
    · exact txt_ok (by decide) (by decide)
    · exact h.1
    · exact sub_ok h.2 (by omega)
  | plus a b =>
    intro p hp
    simp only [Ln.dep] at hd
    simp only [prow, List.mem_cons, List.not_mem_nil, or_false] at hp
    rcases hp with rfl | rfl | rfl
    · exact txt_ok (by decide) (by decide)
    · exact sub_ok h.1 (by omega)
    · exact sub_ok h.2 (by omega)
  | minus a b =>
    intro p hp
    simp only [Ln.dep] at hd
    simp only [prow, List.mem_cons, List.not_mem_nil, or_false] at hp
    rcases hp with rfl | rfl | rfl
    · exact txt_ok (by decide) (by decide)
    · exact sub_ok h.1 (by omega)
    · exact sub_ok h.2 (by omega)
theorem prow_len (l : Ln) : 2 ≤ (prow l).length ∧ (prow l).length ≤ 3 := by cases l <;> simp [prow]
/-- the second of two, where the first is 'of' -/
theorem second {l : Ln} {k : Nat} {o : Part} (ho : o ∈ oddP) (hk : k < (prow l).length) {ps : List Part} (hp : ps = (prow l).set k o ∨ ps = (prow l).eraseIdx k ∨ ps = (prow l).take k ++ [o] ++ (prow l).drop k) : ∀ a b, ps = [a, b] → a = .txt "of" → NmOk b := by
  intro a b e ea
  have two : ∀ {p q r : Part} {k : Nat}, k < 3 → ([p, q, r] : List Part).eraseIdx k = [a, b] → (a = p ∧ (b = r ∨ b = q)) ∨ (a = q ∧ b = r) := fun {p q r k} hk z => by
    have : k = 0 ∨ k = 1 ∨ k = 2 := by omega
    rcases this with rfl | rfl | rfl <;> simp at z
    · exact .inr ⟨z.1.symm, z.2.symm⟩
    · exact .inl ⟨z.1.symm, .inl z.2.symm⟩
    · exact .inl ⟨z.1.symm, .inr z.2.symm⟩
  have len := congrArg List.length e
  rcases hp with rfl | rfl | rfl
  · -- replaced
    rw [List.length_set] at len
    cases l with
    | num x =>
      have : k = 0 ∨ k = 1 := by simp [prow] at hk; omega
      rcases this with rfl | rfl <;> simp [prow] at e
      · rw [← e.2]; exact nmOk_no rfl
      · rw [← e.1] at ea; exact absurd (Part.txt.inj ea) (by decide)
    | of j =>
      have : k = 0 ∨ k = 1 := by simp [prow] at hk; omega
      rcases this with rfl | rfl <;> simp [prow] at e
      · rw [← e.2]; exact nm_nm j
      · rw [← e.2]; exact odd_nm o ho
    | times x l => simp [prow] at len
    | plus a b => simp [prow] at len
    | minus a b => simp [prow] at len
  · cases l with
    | num x => rw [List.length_eraseIdx_of_lt hk] at len; simp [prow] at len
    | of j => rw [List.length_eraseIdx_of_lt hk] at len; simp [prow] at len
    | times x l =>
      rcases two hk e with ⟨z, _⟩ | ⟨z, w⟩
      · rw [z] at ea; exact absurd (Part.txt.inj ea) (by decide)
      · rw [z] at ea; cases ea
    | plus x y =>
      rcases two hk e with ⟨z, _⟩ | ⟨z, w⟩
      · rw [z] at ea; exact absurd (Part.txt.inj ea) (by decide)
      · rw [z] at ea; cases ea
    | minus x y =>
      rcases two hk e with ⟨z, _⟩ | ⟨z, w⟩
      · rw [z] at ea; exact absurd (Part.txt.inj ea) (by decide)
      · rw [z] at ea; cases ea
  · have := prow_len l
    simp only [List.length_append, List.length_take, List.length_drop, List.length_cons, List.length_nil] at len
    omega
theorem map_erase {α β : Type} {f : α → β} : ∀ {l : List α} {k : Nat}, (l.eraseIdx k).map f = (l.map f).eraseIdx k
  | [], _ => rfl
  | _ :: _, 0 => rfl
  | a :: l, k + 1 => by
    rw [List.eraseIdx_cons_succ, List.map_cons, List.map_cons, List.eraseIdx_cons_succ, map_erase]
theorem bent {n : Nat} (hn : 10 ≤ n) (ds : List Int) {l : Ln} (h : l.Ok) (hd : l.dep ≤ 4) : ∃ (ds' : List Int) (v : PV) (b : Bool), callF E (n + 1) 24 [dw ds, l.pv] = .ok v false [dw ds'] ∧ callF E (n + 1) 22 [v, .int 8] = .ok (.bl b) false [] ∧ callF E (n + 1) 8 [v] = .ok (.bl b) false [] := by
  have hl := prow_len l
  obtain ⟨k, o, ds', ps, hk, ho, hp, e⟩ := c_bent (n := n + 1) (by omega) ds ((prow l).map Part.pv) (prow l).length (by simp) (by omega) (by omega)
  have key : ∃ qs : List Part, ps = qs.map Part.pv ∧ (qs = (prow l).set k o ∨ qs = (prow l).eraseIdx k ∨ qs = (prow l).take k ++ [o] ++ (prow l).drop k) := by
    rcases hp with rfl | rfl | rfl
    · exact ⟨_, List.map_set.symm, .inl rfl⟩
    · exact ⟨_, map_erase.symm, .inr (.inl rfl)⟩
    · exact ⟨_, by rw [List.map_append, List.map_append, List.map_take, List.map_drop]; rfl, .inr (.inr rfl)⟩
  obtain ⟨qs, rfl, hq⟩ := key
  have po := prow_ok h hd
  have oo := odd_ok o ho
  have sm : Same2 qs := by
    refine tr qs (fun p hp => ?_) ?_ ?_ (second ho hk hq)
    · rcases hq with rfl | rfl | rfl
      · rcases List.mem_or_eq_of_mem_set hp with z | z
        · exact po p z
        · rw [z]; exact oo
      · exact po p (List.mem_of_mem_eraseIdx hp)
      · rcases List.mem_append.mp hp with z | z
        · rcases List.mem_append.mp z with z | z
          · exact po p (List.mem_of_mem_take z)
          · rw [List.mem_singleton.mp z]; exact oo
        · exact po p (List.mem_of_mem_drop z)
    · rcases hq with rfl | rfl | rfl
      · rw [List.length_set]; omega
      · rw [List.length_eraseIdx_of_lt hk]; omega
      · simp only [List.length_append, List.length_take, List.length_drop, List.length_cons, List.length_nil]; omega
    · rcases hq with rfl | rfl | rfl
      · rw [List.length_set]; omega
      · rw [List.length_eraseIdx_of_lt hk]; omega
      · simp only [List.length_append, List.length_take, List.length_drop, List.length_cons, List.length_nil]; omega
  obtain ⟨b, sb⟩ := sm
  have b1 := (sb (n := n) hn).1
  refine ⟨ds', _, b, by rw [prow_pv]; exact e, (sb (n := n + 1) (by omega)).2, ?_⟩
  rw [call_top fx_is_length]
  simp [f_is_length, b1]
end K06

namespace K06
open PySem PySem.Spec L2 Eng Rt TL
open PyProof.Rows hiding St
/-! ### one name's turn -/
def NB : List IS := [.asg 11 (.blt .dict [.var 2]),
    .setI 11 (.var 9) (.call 4 [.sub (.var 2) (.var 9), .call 1 [.cst (.int 1)]]),
    .ifs (.cmp .NotEq (.blt .repr [.call 13 [.var 7, .var 9]]) (.blt .repr [.call 6 [.call 20 [.var 7, .var 11], .call 20 [.var 7, .var 2]]])) [.ret (.cst (.bl false))] [],
    .asg 12 (.blt .dict [.cmpr (.tup [.var 13, .sub (.var 2) (.var 13)]) (.nm 13) .keys [.fzv 2] [.cmp .NotEq (.var 13) (.var 9)] [13]]),
    .ifs (.cmp .NotEq (.cmp .Eq (.call 21 [.var 7, .var 12]) (.cst (.str "there"))) (.cmp .In (.var 9) (.var 8))) [.ret (.cst (.bl false))] []]
/-- the slots of the law, in a turn -/
def sg (s0 : Slot) (ds : List Int) (D : List (Key × PV)) (s3 : Slot) (lv : PV) (ns : List PV) (s9 s10 s11 s12 : Slot) : Sg := [s0, .own true (dw ds), .val (.dct D), s3, .none, .none, .none, .val lv, .own true (.lst ns), s9, s10, s11, s12, .none]
theorem shp_rp {n : Nat} {x : Int × Int} (h : Rok n x) (hn : n < 1800) : Shp 1 5000 (rp x) :=
  ((ShpL.cons (shp_int h.s1 (by omega)) (ShpL.cons (shp_int h.s2 (by omega)) (shp_nil.le (Nat.zero_le _) (Nat.le_refl _)))).tup).le (by omega) (by omega)
theorem mem_sS {y : Str} {l : List Str} : y ∈ sS l ↔ y ∈ l := by
  unfold sS
  rw [(List.mergeSort_perm _ _).mem_iff, mem_nubS]
theorem sS_ok {l : List Nat} : ∀ t ∈ sS (l.map nm), okT t := fun t ht => by
  obtain ⟨j, _, rfl⟩ := List.mem_map.mp (mem_sS.mp ht)
  exact (nm_sT j).choose_spec.2.2.2.1
theorem okThere : okT "there" := okT_lit (by decide)
theorem c_one {n : Nat} (hn : 1 ≤ n) : callF E n 1 [.int 1, .int 1] = .ok (rp (1, 1)) false [] := by
  obtain ⟨m, rfl⟩ : ∃ m, n = m + 1 := ⟨n - 1, by omega⟩
  have := call_ratio d_ratio m (a := 1) (b := 1) (by decide) (by unfold Sm; decide)
  have e1 : rN 1 1 = 1 := by decide
  have e2 : rD 1 1 = 1 := by decide
  rw [e1, e2] at this
  exact this
theorem rok1 : Rok 1 (1, 1) := ⟨⟨by decide, by decide⟩, by unfold Sm; decide, by unfold Sm; decide⟩
structure Yd (D : List (Key × PV)) (v : Nat → Int × Int) (y : Str) (u : Int × Int) (D1 D2 : List (Key × PV)) (v1 : Nat → Int × Int) : Prop where
  oky : okT y
  hu : dG D (.inr y) = some (rp u)
  ru : Rok 62 u
  st : ∀ z, z = pl u (1, 1) → setC (.dct D) (.str y) (rp z) = some (.dct D1)
  hD1 : Dct v1 D1
  al1 : ∀ j, j < 3 → pr D1 j = true
  vo1 : Vok v1
  up : ∀ j, j < 3 → val (v1 j) = val (v j) + if nm j = y then 1 else 0
  le : ∀ (Φ : Nat → List PV → CO) (s0 : Slot) (ds : List Int) (s3 : Slot) (lv : PV) (ns : List PV) (s10 s11 s12 : Slot), evE E Φ (.blt .dict [.cmpr (.tup [.var 13, .sub (.var 2) (.var 13)]) (.nm 13) .keys [.fzv 2] [.cmp .NotEq (.var 13) (.var 9)] [13]]) (sg s0 ds D s3 lv ns (.val (.str y)) s10 s11 s12) =
    .ok (.fresh (.dct D2)) (sg s0 ds D s3 lv ns (.val (.str y)) s10 s11 s12)
  hD2 : Dct v D2
  al2 : ∀ j, j < 3 → pr D2 j = !decide (nm j = y)
theorem all_of {D : List (Key × PV)} (h : ∀ j, j < 3 → pr D j = true) : ∀ {l : Ln}, l.Ok → all D l = true := fun {l} ok => by
  have nl : ∀ {l : Ln}, l.Ok → ∀ j ∈ l.nms, j < 3 := fun {l} => by
    induction l with
    | num x => intro _ j hj; simp [Ln.nms] at hj
    | of i => intro ok j hj; simp [Ln.nms] at hj; rw [hj]; exact ok
    | times x l ih => exact fun ok => ih ok.2
    | plus a b ia ib => exact fun ok j hj => (List.mem_append.mp hj).elim (ia ok.1 j) (ib ok.2 j)
    | minus a b ia ib => exact fun ok j hj => (List.mem_append.mp hj).elim (ia ok.1 j) (ib ok.2 j)
  exact List.all_eq_true.mpr fun j hj => h j (nl ok j hj)
theorem nms_lt {l : Ln} : l.Ok → ∀ j ∈ l.nms, j < 3 := by
  induction l with
  | num x => intro _ j hj; simp [Ln.nms] at hj
  | of i => intro ok j hj; simp [Ln.nms] at hj; rw [hj]; exact ok
  | times x l ih => exact fun ok => ih ok.2
  | plus a b ia ib => exact fun ok j hj => (List.mem_append.mp hj).elim (ia ok.1 j) (ib ok.2 j)
  | minus a b ia ib => exact fun ok j hj => (List.mem_append.mp hj).elim (ia ok.1 j) (ib ok.2 j)
theorem it {D D1 D2 : List (Key × PV)} {v v1 : Nat → Int × Int} {y : Str} {u : Int × Int} (Y : Yd D v y u D1 D2 v1) (hv : Vok v) (hD : Dct v D) (al : ∀ j, j < 3 → pr D j = true) {l : Ln} (ok : l.Ok) (hb : l.bits ≤ 600) (hd : l.dep ≤ 4) (s0 : Slot) (ds : List Int) (s3 s10 s11 s12 : Slot) (w11 : Wr s11) (w12 : Wr s12) :
    exL E (callF E 20) NB (sg s0 ds D s3 l.pv (sn l) (.val (.str y)) s10 s11 s12) = .nx (sg s0 ds D s3 l.pv (sn l) (.val (.str y)) s10 (.val (.dct D1)) (.val (.dct D2))) := by
  have a0 := all_of al ok
  have a1 := all_of Y.al1 ok
  have g := c_growth (y := y) (l := l) (n := 20) ok (by omega) (by omega)
  have e1 := c_lworth hv hD (l := l) (n := 20) ok (by omega) (by omega) a0
  have e2 := c_lworth Y.vo1 Y.hD1 (l := l) (n := 20) ok (by omega) (by omega) a1
  have r1 := w_ok hv ok
  have r2 := w_ok Y.vo1 ok
  have mi := c_minus (n := 20) (by omega) (r2.le (m := 1000) (by omega)) (r1.le (m := 1000) (by omega))
  have rg := g_ok (y := y) ok
  have same : pl (l.w v1) (op (l.w v)) = l.g y := by
    refine val_inj (r2.pl r1.op) rg ?_
    rw [val_pl r2.ne r1.op.ne, val_op, val_up hv Y.vo1 Y.up ok]
    grind
  rw [same] at mi
  have sp := (shp_rp rg (by omega)).repr (by omega) (by omega)
  have hz := Y.st _ rfl
  have cp := c_plus (n := 20) (by omega) (Y.ru.le (m := 1000) (by omega)) (rok1.le (m := 1000) (by omega))
  have c1 := c_one (n := 20) (by omega)
  have t := c_told hv Y.hD2 (l := l) (n := 20) ok (by omega) (by omega)
  have ht : all D2 l = !decide (y ∈ sS (l.nms.map nm)) := by
    rw [Bool.eq_iff_iff]
    unfold all
    rw [List.all_eq_true, Bool.not_eq_true', decide_eq_false_iff_not, mem_sS, List.mem_map]
    constructor
    · rintro h ⟨j, hj, e⟩
      have := h j hj
      rw [Y.al2 j (nms_lt ok j hj), e] at this
      simp at this
    · intro h j hj
      rw [Y.al2 j (nms_lt ok j hj)]
      have : nm j ≠ y := fun e => h ⟨j, hj, e⟩
      simp [this]
  have hi : opIn (.str y) (.lst (sn l)) = some (decide (y ∈ sS (l.nms.map nm))) := in_ls Y.oky sS_ok
  have hq : eqPV (rp (l.w v)) (.str "there") = some false := (noT_tup _ rfl (rp_D _)).eq okThere
  unfold NB
  rw [exL_step (ε1 := sg s0 ds D s3 l.pv (sn l) (.val (.str y)) s10 (.own true (.dct D)) s12) (ex_fr (p := .dct D) (ε1 := sg s0 ds D s3 l.pv (sn l) (.val (.str y)) s10 s11 s12) (by simp [sg]) rfl w11)]
  rw [exL_step (ε1 := sg s0 ds D s3 l.pv (sn l) (.val (.str y)) s10 (.own true (.dct D1)) s12) (by
    have hu := Y.hu
    simp [sg, hu, c1, cp, ↓hz])]
  rw [exL_step (ε1 := sg s0 ds D s3 l.pv (sn l) (.val (.str y)) s10 (.val (.dct D1)) s12) (by simp [sg, g, e1, e2, mi, ↓sp])]
  rw [exL_step (ε1 := sg s0 ds D s3 l.pv (sn l) (.val (.str y)) s10 (.val (.dct D1)) (.own true (.dct D2))) (ex_fr (p := .dct D2) (Y.le _ _ _ _ _ _ _ _ _) rfl w12)]
  rw [exL_step (ε1 := sg s0 ds D s3 l.pv (sn l) (.val (.str y)) s10 (.val (.dct D1)) (.val (.dct D2))) (by
    cases hc : decide (y ∈ sS (l.nms.map nm)) with
    | true =>
      rw [hc] at ht hi
      rw [ht] at t
      have t : callF E 20 21 [l.pv, .dct D2] = .ok (.str "there") false [] := t
      simp [sg, t, ↓hi]
    | false =>
      rw [hc] at ht hi
      rw [ht] at t
      have t : callF E 20 21 [l.pv, .dct D2] = .ok (rp (l.w v)) false [] := t
      simp [sg, t, ↓hi, ↓hq])]
  rfl
end K06

namespace K06
open PySem PySem.Spec L2 Eng Rt TL
open PyProof.Rows hiding St
/-! ### the four numbers -/
@[simp] theorem nk_a_b2 : ((Str.ofString "a") = (Str.ofString "b2")) = False := by simp only [eq_iff_iff, iff_false]; decide
@[simp] theorem nk_a_w : ((Str.ofString "a") = (Str.ofString "w")) = False := by simp only [eq_iff_iff, iff_false]; decide
@[simp] theorem nk_a_x : ((Str.ofString "a") = (Str.ofString "x")) = False := by simp only [eq_iff_iff, iff_false]; decide
@[simp] theorem nk_b2_a : ((Str.ofString "b2") = (Str.ofString "a")) = False := by simp only [eq_iff_iff, iff_false]; decide
@[simp] theorem nk_b2_w : ((Str.ofString "b2") = (Str.ofString "w")) = False := by simp only [eq_iff_iff, iff_false]; decide
@[simp] theorem nk_b2_x : ((Str.ofString "b2") = (Str.ofString "x")) = False := by simp only [eq_iff_iff, iff_false]; decide
@[simp] theorem nk_w_a : ((Str.ofString "w") = (Str.ofString "a")) = False := by simp only [eq_iff_iff, iff_false]; decide
@[simp] theorem nk_w_b2 : ((Str.ofString "w") = (Str.ofString "b2")) = False := by simp only [eq_iff_iff, iff_false]; decide
@[simp] theorem nk_w_x : ((Str.ofString "w") = (Str.ofString "x")) = False := by simp only [eq_iff_iff, iff_false]; decide
@[simp] theorem nk_x_a : ((Str.ofString "x") = (Str.ofString "a")) = False := by simp only [eq_iff_iff, iff_false]; decide
@[simp] theorem nk_x_b2 : ((Str.ofString "x") = (Str.ofString "b2")) = False := by simp only [eq_iff_iff, iff_false]; decide
@[simp] theorem nk_x_w : ((Str.ofString "x") = (Str.ofString "w")) = False := by simp only [eq_iff_iff, iff_false]; decide
def D0 (xa xb xw x9 : Int × Int) : List (Key × PV) := [(.inr "a", rp xa), (.inr "b2", rp xb), (.inr "w", rp xw), (.inr "x", rp x9)]
def vv (xa xb xw : Int × Int) (j : Nat) : Int × Int := if j = 0 then xa else if j = 1 then xb else xw
theorem j3 {j : Nat} (h : j < 3) : j = 0 ∨ j = 1 ∨ j = 2 := by omega
section
variable {xa xb xw x9 : Int × Int}
theorem vok (ra : Rok 62 xa) (rb : Rok 62 xb) (rw' : Rok 62 xw) : Vok (vv xa xb xw) := fun j => by
  unfold vv
  split
  · exact ra.le (by omega)
  · split
    · exact rb.le (by omega)
    · exact rw'.le (by omega)
theorem dct0 : Dct (vv xa xb xw) (D0 xa xb xw x9) := ⟨fun j hj _ => by
  rcases j3 hj with rfl | rfl | rfl <;> simp [nm, vv, D0, dG]⟩
theorem al0 : ∀ j, j < 3 → pr (D0 xa xb xw x9) j = true := fun j hj => by
  rcases j3 hj with rfl | rfl | rfl <;> simp [nm, pr, D0, dG]
theorem v_one : val (1, 1) = 1 := by decide +kernel
theorem yd_a (ra : Rok 62 xa) (rb : Rok 62 xb) (rw' : Rok 62 xw) (r9 : Rok 62 x9) : Yd (D0 xa xb xw x9) (vv xa xb xw) "a" xa [(.inr "a", rp (pl xa (1, 1))), (.inr "b2", rp xb), (.inr "w", rp xw), (.inr "x", rp x9)] [(.inr "b2", rp xb), (.inr "w", rp xw), (.inr "x", rp x9)] (vv (pl xa (1, 1)) xb xw) where
  oky := okT_lit (by decide)
  hu := by simp [D0, dG]
  ru := ra
  st := fun z hz => by subst hz; simp [D0, dP, keyP]
  hD1 := ⟨fun j hj _ => by rcases j3 hj with rfl | rfl | rfl <;> simp [nm, vv, dG]⟩
  al1 := fun j hj => by rcases j3 hj with rfl | rfl | rfl <;> simp [nm, pr, dG]
  vo1 := fun j => by
    have rz : Rok 64 (pl xa (1, 1)) := Rok.pl ra rok1
    unfold vv
    split
    · exact rz
    · split
      · exact rb.le (by omega)
      · exact rw'.le (by omega)
  up := fun j hj => by
    have e := val_pl (x := xa) (y := (1, 1)) ra.ne (by decide)
    rw [v_one] at e
    rcases j3 hj with rfl | rfl | rfl <;> simp [nm, vv, e, Rat.add_zero]
  le := fun Φ s0 ds s3 lv ns s10 s11 s12 => by
    simp [sg, D0, keyP, prsP, dP, dG]
  hD2 := ⟨fun j hj hp => by rcases j3 hj with rfl | rfl | rfl <;> simp [nm, vv, dG, pr] at hp ⊢⟩
  al2 := fun j hj => by rcases j3 hj with rfl | rfl | rfl <;> simp [nm, pr, dG]
theorem yd_b2 (ra : Rok 62 xa) (rb : Rok 62 xb) (rw' : Rok 62 xw) (r9 : Rok 62 x9) : Yd (D0 xa xb xw x9) (vv xa xb xw) "b2" xb [(.inr "a", rp xa), (.inr "b2", rp (pl xb (1, 1))), (.inr "w", rp xw), (.inr "x", rp x9)] [(.inr "a", rp xa), (.inr "w", rp xw), (.inr "x", rp x9)] (vv xa (pl xb (1, 1)) xw) where
  oky := okT_lit (by decide)
  hu := by simp [D0, dG]
  ru := rb
  st := fun z hz => by subst hz; simp [D0, dP, keyP]
  hD1 := ⟨fun j hj _ => by rcases j3 hj with rfl | rfl | rfl <;> simp [nm, vv, dG]⟩
  al1 := fun j hj => by rcases j3 hj with rfl | rfl | rfl <;> simp [nm, pr, dG]
  vo1 := fun j => by
    have rz : Rok 64 (pl xb (1, 1)) := Rok.pl rb rok1
    unfold vv
    split
    · exact ra.le (by omega)
    · split
      · exact rz
      · exact rw'.le (by omega)
  up := fun j hj => by
    have e := val_pl (x := xb) (y := (1, 1)) rb.ne (by decide)
    rw [v_one] at e
    rcases j3 hj with rfl | rfl | rfl <;> simp [nm, vv, e, Rat.add_zero]
  le := fun Φ s0 ds s3 lv ns s10 s11 s12 => by
    simp [sg, D0, keyP, prsP, dP, dG]
  hD2 := ⟨fun j hj hp => by rcases j3 hj with rfl | rfl | rfl <;> simp [nm, vv, dG, pr] at hp ⊢⟩
  al2 := fun j hj => by rcases j3 hj with rfl | rfl | rfl <;> simp [nm, pr, dG]
theorem yd_w (ra : Rok 62 xa) (rb : Rok 62 xb) (rw' : Rok 62 xw) (r9 : Rok 62 x9) : Yd (D0 xa xb xw x9) (vv xa xb xw) "w" xw [(.inr "a", rp xa), (.inr "b2", rp xb), (.inr "w", rp (pl xw (1, 1))), (.inr "x", rp x9)] [(.inr "a", rp xa), (.inr "b2", rp xb), (.inr "x", rp x9)] (vv xa xb (pl xw (1, 1))) where
  oky := okT_lit (by decide)
  hu := by simp [D0, dG]
  ru := rw'
  st := fun z hz => by subst hz; simp [D0, dP, keyP]
  hD1 := ⟨fun j hj _ => by rcases j3 hj with rfl | rfl | rfl <;> simp [nm, vv, dG]⟩
  al1 := fun j hj => by rcases j3 hj with rfl | rfl | rfl <;> simp [nm, pr, dG]
  vo1 := fun j => by
    have rz : Rok 64 (pl xw (1, 1)) := Rok.pl rw' rok1
    unfold vv
    split
    · exact ra.le (by omega)
    · split
      · exact rb.le (by omega)
      · exact rz
  up := fun j hj => by
    have e := val_pl (x := xw) (y := (1, 1)) rw'.ne (by decide)
    rw [v_one] at e
    rcases j3 hj with rfl | rfl | rfl <;> simp [nm, vv, e, Rat.add_zero]
  le := fun Φ s0 ds s3 lv ns s10 s11 s12 => by
    simp [sg, D0, keyP, prsP, dP, dG]
  hD2 := ⟨fun j hj hp => by rcases j3 hj with rfl | rfl | rfl <;> simp [nm, vv, dG, pr] at hp ⊢⟩
  al2 := fun j hj => by rcases j3 hj with rfl | rfl | rfl <;> simp [nm, pr, dG]
theorem yd_x (ra : Rok 62 xa) (rb : Rok 62 xb) (rw' : Rok 62 xw) (r9 : Rok 62 x9) : Yd (D0 xa xb xw x9) (vv xa xb xw) "x" x9 [(.inr "a", rp xa), (.inr "b2", rp xb), (.inr "w", rp xw), (.inr "x", rp (pl x9 (1, 1)))] [(.inr "a", rp xa), (.inr "b2", rp xb), (.inr "w", rp xw)] (vv xa xb xw) where
  oky := okT_lit (by decide)
  hu := by simp [D0, dG]
  ru := r9
  st := fun z hz => by subst hz; simp [D0, dP, keyP]
  hD1 := ⟨fun j hj _ => by rcases j3 hj with rfl | rfl | rfl <;> simp [nm, vv, dG]⟩
  al1 := fun j hj => by rcases j3 hj with rfl | rfl | rfl <;> simp [nm, pr, dG]
  vo1 := fun j => by
    have rz : Rok 64 (pl x9 (1, 1)) := Rok.pl r9 rok1
    unfold vv
    split
    · exact ra.le (by omega)
    · split
      · exact rb.le (by omega)
      · exact rw'.le (by omega)
  up := fun j hj => by
    have e := val_pl (x := x9) (y := (1, 1)) r9.ne (by decide)
    rw [v_one] at e
    rcases j3 hj with rfl | rfl | rfl <;> simp [nm, vv, e, Rat.add_zero]
  le := fun Φ s0 ds s3 lv ns s10 s11 s12 => by
    simp [sg, D0, keyP, prsP, dP, dG]
  hD2 := ⟨fun j hj hp => by rcases j3 hj with rfl | rfl | rfl <;> simp [nm, vv, dG, pr] at hp ⊢⟩
  al2 := fun j hj => by rcases j3 hj with rfl | rfl | rfl <;> simp [nm, pr, dG]
end
end K06

namespace K06
open PySem PySem.Spec L2 Eng Rt TL
open PyProof.Rows hiding St
/-! ### a turn of the law -/
def T1 : IS := .asg 7 (.call 18 [.var 1, .cst (.int 3)])
def T2 : IS := .ifs (.or [.cmp .IsNot (.call 8 [.var 7]) (.cst (.bl true)), .cmp .NotEq (.blt .repr [.call 21 [.var 7, .var 2]]) (.blt .repr [.call 20 [.var 7, .var 2]])]) [.ret (.cst (.bl false))] []
def T3 : IS := .asg 8 (.sset (.call 19 [.var 7]))
def T4 : IS := .ifs (.cmp .NotEq (.blt .repr [.call 12 [.var 7]]) (.blt .repr [.var 8])) [.ret (.cst (.bl false))] []
def T5 : IS := .for_ (.nm 9) .val [.lst [.cst (.str "a"), .cst (.str "b2"), .cst (.str "w"), .cst (.str "x")]] NB
def T6 : IS := .asg 10 (.call 24 [.var 1, .var 7])
def T7 : IS := .ifs (.cmp .NotEq (.blt .repr [.call 8 [.var 10]]) (.blt .repr [.call 22 [.var 10, .cst (.int 8)]])) [.ret (.cst (.bl false))] []
def TB : List IS := [T1, T2, T3, T4, T5, T6, T7]
/-- the slots at a turn's start -/
def st (s0 : Slot) (ds : List Int) (s2 s3 s7 s8 s9 s10 s11 s12 : Slot) : Sg := [s0, .own true (dw ds), s2, s3, .none, .none, .none, s7, s8, s9, s10, s11, s12, .none]
def Dk (D : List (Key × PV)) (s : Slot) : Prop := s = .own true (.dct D) ∨ s = .val (.dct D)
theorem shp_nms : ∀ {ts : List Str}, (∀ t ∈ ts, okT t ∧ t.length ≤ 2) → ShpL 0 (24 * ts.length) (ts.map PV.str)
  | [], _ => shp_nil
  | t :: ts, h => by
    have ih := shp_nms (ts := ts) fun x hx => h x (List.mem_cons_of_mem _ hx)
    obtain ⟨h1, h2⟩ := h t List.mem_cons_self
    exact (ShpL.cons (shp_str h1 h2) ih).le (by omega) (by simp only [List.length_cons]; omega)
theorem shp_sn {l : Ln} (hb : l.bits ≤ 900) : Shp 1 100000 (.lst (sn l)) := by
  have h1 : ∀ t ∈ sS (l.nms.map nm), okT t ∧ t.length ≤ 2 := fun t ht => by
    obtain ⟨j, _, rfl⟩ := List.mem_map.mp (mem_sS.mp ht)
    obtain ⟨d, e, _, h2, h3, _⟩ := nm_sT j
    exact ⟨h3, by rw [e, sT_len]; exact h2⟩
  have hl : (sS (l.nms.map nm)).length ≤ 900 := by
    unfold sS
    rw [List.length_mergeSort]
    have := length_nubS (l := l.nms.map nm)
    have := nms_len l
    rw [List.length_map] at *
    omega
  exact ((shp_nms h1).lst).le (by omega) (by omega)
theorem c_islen {l : Ln} (ok : l.Ok) (hd : l.dep ≤ 8) : callF E 20 8 [l.pv] = .ok (.bl true) false [] := by
  have h := c_fits (l := l) (n := 19) (k := 8) ok (by omega) (by omega)
  rw [call_top fx_is_length]
  simp [f_is_length, h]
theorem forI_cons {r : Rv} {set : PV → Sg → Option Sg} {body : Sg → SO} {p : PV} {ps : List PV} {ε ε1 ε2 : Sg} (h1 : set p ε = some ε1) (h2 : body ε1 = .nx ε2) (h3 : stays r ε ε2 = true) : forI r set body (p :: ps) ε = forI r set body ps ε2 := by
  rw [forI, h1]
  dsimp only
  rw [h2]
  dsimp only
  rw [if_pos h3]
section
variable {xa xb xw x9 : Int × Int} (ra : Rok 62 xa) (rb : Rok 62 xb) (rw' : Rok 62 xw) (r9 : Rok 62 x9)
include ra rb rw' r9
theorem names {l : Ln} (ok : l.Ok) (hb : l.bits ≤ 600) (hd : l.dep ≤ 4) (s0 : Slot) (ds : List Int) (s3 s9 s10 s11 s12 : Slot) (w9 : Wr s9) (w11 : Wr s11) (w12 : Wr s12) :
    ∃ p11 p12 : PV, exS E (callF E 20) T5 (sg s0 ds (D0 xa xb xw x9) s3 l.pv (sn l) s9 s10 s11 s12) = .nx (sg s0 ds (D0 xa xb xw x9) s3 l.pv (sn l) (.val (.str "x")) s10 (.val p11) (.val p12)) := by
  have hv := vok ra rb rw'
  have hD := dct0 (xa := xa) (xb := xb) (xw := xw) (x9 := x9)
  have al := al0 (xa := xa) (xb := xb) (xw := xw) (x9 := x9)
  have i1 := it (yd_a ra rb rw' r9) hv hD al ok hb hd s0 ds s3 s10 s11 s12 w11 w12
  refine ⟨.dct [(.inr "a", rp xa), (.inr "b2", rp xb), (.inr "w", rp xw), (.inr "x", rp (pl x9 (1, 1)))], .dct [(.inr "a", rp xa), (.inr "b2", rp xb), (.inr "w", rp xw)], ?_⟩
  rw [T5, exS]
  have hs : evA E (callF E 20) [.lst [.cst (.str "a"), .cst (.str "b2"), .cst (.str "w"), .cst (.str "x")]] (sg s0 ds (D0 xa xb xw x9) s3 l.pv (sn l) s9 s10 s11 s12) = .ok [.val (.lst [.str "a", .str "b2", .str "w", .str "x"])] (sg s0 ds (D0 xa xb xw x9) s3 l.pv (sn l) s9 s10 s11 s12) := by simp [sg]
  rw [hs]
  show (if walkOk (.val (.lst [.str "a", .str "b2", .str "w", .str "x"])) (asgsS T5) = true then forI (.val (.lst [.str "a", .str "b2", .str "w", .str "x"])) (fun p ε => asgT (.nm 9) p ε) (fun ε => exL E (callF E 20) NB ε) [.str "a", .str "b2", .str "w", .str "x"] (sg s0 ds (D0 xa xb xw x9) s3 l.pv (sn l) s9 s10 s11 s12) else .stuck) = _
  rw [if_pos (show walkOk (.val (.lst [.str "a", .str "b2", .str "w", .str "x"])) (asgsS T5) = true from rfl)]
  rw [forI_cons (asg_nm rfl w9) i1 rfl]
  rw [forI_cons (asg_nm rfl (wr_val _)) (it (yd_b2 ra rb rw' r9) hv hD al ok hb hd s0 ds s3 s10 _ _ (wr_val _) (wr_val _)) rfl]
  rw [forI_cons (asg_nm rfl (wr_val _)) (it (yd_w ra rb rw' r9) hv hD al ok hb hd s0 ds s3 s10 _ _ (wr_val _) (wr_val _)) rfl]
  rw [forI_cons (asg_nm rfl (wr_val _)) (it (yd_x ra rb rw' r9) hv hD al ok hb hd s0 ds s3 s10 _ _ (wr_val _) (wr_val _)) rfl]
  rfl
theorem turn (s0 : Slot) (ds : List Int) (s2 s3 s7 s8 s9 s10 s11 s12 : Slot) (k2 : Dk (D0 xa xb xw x9) s2) (w7 : Wr s7) (w8 : Wr s8) (w9 : Wr s9) (w10 : Wr s10) (w11 : Wr s11) (w12 : Wr s12) :
    ∃ (ds' : List Int) (p7 p8 p9 p10 p11 p12 : PV), exL E (callF E 20) TB (st s0 ds s2 s3 s7 s8 s9 s10 s11 s12) = .nx (st s0 ds' (.val (.dct (D0 xa xb xw x9))) s3 (.val p7) (.own true p8) (.val p9) (.val p10) (.val p11) (.val p12)) := by
  have hv := vok ra rb rw'
  have hD := dct0 (xa := xa) (xb := xb) (xw := xw) (x9 := x9)
  have al := al0 (xa := xa) (xb := xb) (xw := xw) (x9 := x9)
  obtain ⟨l, d1, ⟨ok, hd, hb⟩, e1⟩ := c_any 3 (n := 20) (by omega) ds
  have hb : l.bits ≤ 600 := by have : 65 * 2 ^ 3 = 520 := by decide
                               omega
  have hd : l.dep ≤ 4 := by omega
  have e1 : callF E 20 18 [dw ds, .int 3] = .ok l.pv false [dw d1] := e1
  have a0 := all_of al ok
  have il := c_islen ok (by omega)
  have tl := c_told hv hD (l := l) (n := 20) ok (by omega) (by omega)
  rw [if_pos a0] at tl
  have lw := c_lworth hv hD (l := l) (n := 20) ok (by omega) (by omega) a0
  have sp := (shp_rp (w_ok hv ok) (by omega)).repr (by omega) (by omega)
  have ln := c_lnames (l := l) (n := 20) (by omega) (by omega)
  have hs : strsP (nmsV l) = some (l.nms.map nm) := strsP_nms l.nms
  have hz : l.nms.length + 1 < 4096 := by have := nms_len l; omega
  have nu := c_numbers (l := l) (n := 20) (by omega) (by omega)
  have sq := (shp_sn (l := l) (by omega)).repr (by omega) (by omega)
  obtain ⟨p11, p12, en⟩ := names ra rb rw' r9 ok hb hd s0 d1 s3 s9 s10 s11 s12 w9 w11 w12
  obtain ⟨d2, v, b, f1, f2, f3⟩ := bent (n := 19) (by omega) d1 ok hd
  have f1 : callF E 20 24 [dw d1, l.pv] = .ok v false [dw d2] := f1
  have f2 : callF E 20 22 [v, .int 8] = .ok (.bl b) false [] := f2
  have f3 : callF E 20 8 [v] = .ok (.bl b) false [] := f3
  have sb := (shp_bl b).repr (by omega) (by omega)
  refine ⟨d2, l.pv, .lst (sn l), .str "x", v, p11, p12, ?_⟩
  generalize hDD : D0 xa xb xw x9 = D at *
  unfold TB
  rw [exL_step (ε1 := st s0 d1 s2 s3 (.val l.pv) s8 s9 s10 s11 s12) (ex_val (ε1 := st s0 d1 s2 s3 s7 s8 s9 s10 s11 s12) (by simp [st, e1]) rfl w7)]
  rw [exL_step (ε1 := st s0 d1 (.val (.dct D)) s3 (.val l.pv) s8 s9 s10 s11 s12) (by
    rcases k2 with rfl | rfl
    · simp [T2, st, il, tl, lw, ↓sp]
    · simp [T2, st, il, tl, lw, ↓sp])]
  rw [exL_step (ε1 := sg s0 d1 D s3 l.pv (sn l) s9 s10 s11 s12) (ex_fr (ε1 := st s0 d1 (.val (.dct D)) s3 (.val l.pv) s8 s9 s10 s11 s12) (p := .lst (sn l)) (by simp [st, ln, hs, hz, sn]) rfl w8)]
  rw [exL_step (ε1 := sg s0 d1 D s3 l.pv (sn l) s9 s10 s11 s12) (by simp [T4, sg, nu, ↓sq])]
  rw [exL_step en]
  rw [exL_step (ε1 := st s0 d2 (.val (.dct D)) s3 (.val l.pv) (.own true (.lst (sn l))) (.val (.str "x")) (.val v) (.val p11) (.val p12)) (ex_val (ε1 := st s0 d2 (.val (.dct D)) s3 (.val l.pv) (.own true (.lst (sn l))) (.val (.str "x")) s10 (.val p11) (.val p12)) (by simp [sg, st, f1]) rfl w10)]
  rw [exL_step (ε1 := st s0 d2 (.val (.dct D)) s3 (.val l.pv) (.own true (.lst (sn l))) (.val (.str "x")) (.val v) (.val p11) (.val p12)) (by simp [T7, st, f2, f3, ↓sb])]
  rfl
end
/-! ### the law's end -/
def deepL : Nat → Ln
  | 0 => .of 2
  | n + 1 => .times (2, 1) (deepL n)
theorem deep_dep : ∀ n, (deepL n).dep = n + 1
  | 0 => rfl
  | n + 1 => by rw [deepL, Ln.dep, deep_dep n]
theorem deep_bits : ∀ n, (deepL n).bits = 64 * (n + 1)
  | 0 => rfl
  | n + 1 => by rw [deepL, Ln.bits, deep_bits n]; omega
theorem rok2 : Rok 64 (2, 1) := ⟨⟨by decide, by decide⟩, by unfold Sm; decide, by unfold Sm; decide⟩
theorem deep_ok : ∀ n, (deepL n).Ok
  | 0 => by show 2 < 3; omega
  | n + 1 => ⟨rok2, deep_ok n⟩
theorem deep_nms : ∀ n, (deepL n).nms = [2]
  | 0 => rfl
  | n + 1 => deep_nms n
theorem c_rat {n : Nat} (hn : 1 ≤ n) {p q : Int} (h : IsR p q) (hs : Sm 100 q) : callF E n 1 [.int p, .int q] = .ok (rp (p, q)) false [] := by
  obtain ⟨m, rfl⟩ : ∃ m, n = m + 1 := ⟨n - 1, by omega⟩
  have := call_ratio d_ratio m (a := p) (b := q) (by have := h.pos; omega) (hs.le (by decide))
  rw [(r_self h).1, (r_self h).2] at this
  exact this
/-- a sum one level too deep -/
theorem too_deep : ∀ {l : Ln} {n : Nat} {k : Int}, l.Ok → 3 + l.dep ≤ n → k < l.dep → (∃ m, l = deepL m) → callF E n 9 [l.pv, .int k] = .ok (.bl false) false [] := by
  intro l n k ok hn hk ⟨m, e⟩
  subst e
  induction m generalizing n k with
  | zero =>
    obtain ⟨n, rfl⟩ : ∃ n', n = n' + 1 := ⟨n - 1, by omega⟩
    have hk1 : (k < 1) = True := by rw [deep_dep] at hk; simp; omega
    rw [call_top fx_fits]
    simp [f_fits, hk1]
  | succ m ih =>
    obtain ⟨n, rfl⟩ : ∃ n', n = n' + 1 := ⟨n - 1, by omega⟩
    rw [deep_dep] at hk hn
    by_cases hk1 : k < 1
    · rw [call_top fx_fits]
      simp [f_fits, hk1]
    · have h1 : (k < 1) = False := by simp; omega
      have i := ih (n := n) (k := k - 1) (deep_ok m) (by rw [deep_dep]; omega) (by rw [deep_dep]; omega)
      have r := c_isratio (x := (2, 1)) (n := n) (by omega) (Rok.is rok2)
      rw [call_top fx_fits]
      simp [f_fits, deepL, Ln.pv, h1, r, i]
end K06

namespace K06
open PySem PySem.Spec L2 Eng Rt TL
open PyProof.Rows hiding St
def B5 : List IS := [.asg 4 (.tup [.cst (.str "times"), .call 1 [.cst (.int 2)], .var 4])]
def L5 : IS := .for_ (.nm 5) .rng [.cst (.int 7)] B5
def L6 : IS := .asg 6 (.lst [.call 8 [.var 4], .call 8 [.tup [.cst (.str "plus"), .tup [.cst (.str "num"), .call 1 [.cst (.int 1)]], .var 4]], .call 10 [.var 4, .var 2]])
def L7 : IS := .ret (.cmp .Eq (.blt .repr [.var 6]) (.blt .repr [.lst [.cst (.bl true), .cst (.bl false), .call 7 [.call 1 [.cst (.int 128)], .sub (.var 2) (.cst (.str "w"))]]]))
/-- the slots at the end -/
def en (s0 : Slot) (ds : List Int) (D : List (Key × PV)) (s3 s4 s5 s6 s7 s8 s9 s10 s11 s12 : Slot) : Sg := [s0, .own true (dw ds), .val (.dct D), s3, s4, s5, s6, s7, s8, s9, s10, s11, s12, .none]
theorem loop5 (s0 : Slot) (ds : List Int) (D : List (Key × PV)) (s3 s6 s7 s8 s9 s10 s11 s12 : Slot) :
    exS E (callF E 20) L5 (en s0 ds D s3 (.val (deepL 0).pv) .none s6 s7 s8 s9 s10 s11 s12) = .nx (en s0 ds D s3 (.val (deepL 7).pv) (.val (.int 6)) s6 s7 s8 s9 s10 s11 s12) := by
  have r7 : rgB 7 = true := by decide
  have c2 := c_rat (n := 20) (by omega) (p := 2) (q := 1) (Rok.is rok2) (by unfold Sm; decide)
  have body : ∀ (m : Nat) (p : PV), exL E (callF E 20) B5 (en s0 ds D s3 (.val (deepL m).pv) (.val p) s6 s7 s8 s9 s10 s11 s12) = .nx (en s0 ds D s3 (.val (deepL (m + 1)).pv) (.val p) s6 s7 s8 s9 s10 s11 s12) := fun m p => by
    have e : (deepL (m + 1)).pv = .tup [.str "times", rp (2, 1), (deepL m).pv] := rfl
    rw [e]
    simp [en, c2, B5]
  have F : ∀ {p : PV} {ps : List PV} {a b c : Sg}, asgT (.nm 5) p a = some b → exL E (callF E 20) B5 b = .nx c → forI (.val .non) (fun p ε => asgT (.nm 5) p ε) (fun ε => exL E (callF E 20) B5 ε) (p :: ps) a = forI (.val .non) (fun p ε => asgT (.nm 5) p ε) (fun ε => exL E (callF E 20) B5 ε) ps c := fun h1 h2 => forI_cons h1 h2 rfl
  rw [L5, exS]
  have hs : evA E (callF E 20) [.cst (.int 7)] (en s0 ds D s3 (.val (deepL 0).pv) .none s6 s7 s8 s9 s10 s11 s12) = .ok [.val (.int 7)] (en s0 ds D s3 (.val (deepL 0).pv) .none s6 s7 s8 s9 s10 s11 s12) := by simp [en]
  have hi : srcI .rng [.val (.int 7)] (en s0 ds D s3 (.val (deepL 0).pv) .none s6 s7 s8 s9 s10 s11 s12) = some (.val .non, [.int 0, .int 1, .int 2, .int 3, .int 4, .int 5, .int 6]) := by
    simp [peekL, r7]
    rfl
  rw [hs]
  dsimp only
  rw [hi]
  show (if walkOk (.val .non) (asgsS L5) = true then forI (.val .non) (fun p ε => asgT (.nm 5) p ε) (fun ε => exL E (callF E 20) B5 ε) [.int 0, .int 1, .int 2, .int 3, .int 4, .int 5, .int 6] (en s0 ds D s3 (.val (deepL 0).pv) .none s6 s7 s8 s9 s10 s11 s12) else .stuck) = _
  rw [if_pos (show walkOk (.val .non) (asgsS L5) = true from rfl)]
  have st : ∀ (s : Slot) (m : Nat) (p : PV), Wr s → asgT (.nm 5) p (en s0 ds D s3 (.val (deepL m).pv) s s6 s7 s8 s9 s10 s11 s12) = some (en s0 ds D s3 (.val (deepL m).pv) (.val p) s6 s7 s8 s9 s10 s11 s12) := fun s m p hw => asg_nm (i := 5) (s := s) rfl hw
  rw [F (st _ 0 _ wr_none) (body 0 _), F (st _ 1 _ (wr_val _)) (body 1 _), F (st _ 2 _ (wr_val _)) (body 2 _), F (st _ 3 _ (wr_val _)) (body 3 _), F (st _ 4 _ (wr_val _)) (body 4 _), F (st _ 5 _ (wr_val _)) (body 5 _), F (st _ 6 _ (wr_val _)) (body 6 _)]
  rfl
theorem v2 : val (2, 1) = 2 := by decide +kernel
theorem v128 : val (128, 1) = 128 := by decide +kernel
theorem rok128 : Rok 64 (128, 1) := ⟨⟨by decide, by decide⟩, by unfold Sm; decide, by unfold Sm; decide⟩
theorem deep_val {v : Nat → Int × Int} (hv : Vok v) : ∀ n, val ((deepL n).w v) = 2 ^ n * val (v 2)
  | 0 => by
    show val (v 2) = _
    rw [Rat.pow_zero, Rat.one_mul]
  | n + 1 => by
    have h := deep_val hv n
    show val (tm (2, 1) ((deepL n).w v)) = _
    rw [val_tm (by decide) (w_ok hv (deep_ok n)).ne, h, v2, Rat.pow_succ]
    grind
theorem e128 {v : Nat → Int × Int} (hv : Vok v) : (deepL 7).w v = tm (128, 1) (v 2) := by
  refine val_inj (w_ok hv (deep_ok 7)) (rok128.tm (hv 2)) ?_
  rw [deep_val hv 7, val_tm (by decide) (hv 2).ne, v128]
  congr 1
section
variable {xa xb xw x9 : Int × Int} (ra : Rok 62 xa) (rb : Rok 62 xb) (rw' : Rok 62 xw) (r9 : Rok 62 x9)
include ra rb rw' r9
theorem fin (s0 : Slot) (ds : List Int) (s3 s5 s7 s8 s9 s10 s11 s12 : Slot) : Ends E (callF E 20) [L6, L7] (en s0 ds (D0 xa xb xw x9) s3 (.val (deepL 7).pv) s5 .none s7 s8 s9 s10 s11 s12) (.val (.bl true)) := by
  have hv := vok ra rb rw'
  have hD := dct0 (xa := xa) (xb := xb) (xw := xw) (x9 := x9)
  have al := al0 (xa := xa) (xb := xb) (xw := xw) (x9 := x9)
  have hw : dG (D0 xa xb xw x9) (.inr "w") = some (rp xw) := by simp [D0, dG]
  generalize D0 xa xb xw x9 = D at *
  have ok := deep_ok 7
  have hd : (deepL 7).dep = 8 := deep_dep 7
  have i1 := c_islen ok (by omega)
  have wt := c_worth hv hD (l := deepL 7) (n := 20) ok (by rw [deep_bits]; omega) (by omega)
  rw [if_pos (all_of al ok), e128 hv] at wt
  have c1 := c_rat (n := 20) (by omega) (p := 1) (q := 1) (by exact ⟨by decide, by decide⟩) (by unfold Sm; decide)
  have c128 := c_rat (n := 20) (by omega) (p := 128) (q := 1) (Rok.is rok128) (by unfold Sm; decide)
  have tw := c_times (n := 20) (by omega) (rok128.le (m := 1000) (by omega)) (rw'.le (m := 1000) (by omega))
  have i2 : callF E 20 8 [.tup [.str "plus", .tup [.str "num", rp (1, 1)], (deepL 7).pv]] = .ok (.bl false) false [] := by
    have f1 := c_fits (l := .num (1, 1)) (n := 18) (k := 7) (rok1.le (m := 64) (by omega)) (by show 3 + 1 ≤ 18; omega) (by show ((1 : Nat) : Int) ≤ 7; omega)
    have f1 : callF E 18 9 [.tup [.str "num", rp (1, 1)], .int 7] = .ok (.bl true) false [] := f1
    have f2 := too_deep (l := deepL 7) (n := 18) (k := 7) ok (by omega) (by omega) ⟨7, rfl⟩
    have hi : opIn (.str "plus") (.tup [.str "plus", .str "minus"]) = some true := by rw [in_pm]; exact congrArg some (decide_eq_true (by simp))
    have f3 : callF E 19 9 [.tup [.str "plus", .tup [.str "num", rp (1, 1)], (deepL 7).pv], .int 8] = .ok (.bl false) false [] := by
      rw [call_top fx_fits]
      simp [f_fits, f1, f2, ↓hi]
    rw [call_top fx_is_length]
    simp [f_is_length, f3]
  generalize hdp : (deepL 7).pv = dp at *
  have v2 : vv xa xb xw 2 = xw := rfl
  rw [v2] at wt
  have sh : Shp 2 50000 (.lst [.bl true, .bl false, rp (tm (128, 1) xw)]) :=
    ((ShpL.cons ((shp_bl true).le (k' := 1) (by omega) (Nat.le_refl _)) (ShpL.cons ((shp_bl false).le (k' := 1) (by omega) (Nat.le_refl _)) (ShpL.cons (shp_rp (rok128.tm rw') (by omega)) (shp_nil.le (Nat.zero_le _) (Nat.le_refl _))))).lst).le (by omega) (by omega)
  have sr := sh.repr (by omega) (by omega)
  refine Ends.step (en s0 ds D s3 (.val dp) s5 (.own true (.lst [.bl true, .bl false, rp (tm (128, 1) xw)])) s7 s8 s9 s10 s11 s12) (ex_fr (ε1 := en s0 ds D s3 (.val dp) s5 .none s7 s8 s9 s10 s11 s12) (by simp [en, i1, c1, i2, wt]) rfl wr_none) ?_
  exact Ends.ret (en s0 ds D s3 (.val dp) s5 (.own true (.lst [.bl true, .bl false, rp (tm (128, 1) xw)])) s7 s8 s9 s10 s11 s12) (by simp [L7, en, c128, hw, tw, ↓sr])
end
end K06

namespace K06
open PySem PySem.Spec L2 Eng Rt TL
open PyProof.Rows hiding St
def A2 : IE := .ddis ["a", "b2", "w", "x"] [.call 16 [.var 1], .call 17 [.var 1], .call 16 [.var 1], .call 1 [.cst (.int 9)]]
def F3 : IS := .for_ (.nm 3) .rng [.cst (.int 6)] TB
theorem law_body : f_law.body = [.asg 1 (.call 14 [.var 0]), .asg 2 A2, F3, .asg 4 (.tup [.cst (.str "of"), .cst (.str "w")]), L5, L6, L7] := rfl
theorem rok9 : Rok 62 (9, 1) := ⟨⟨by decide, by decide⟩, by unfold Sm; decide, by unfold Sm; decide⟩
theorem numbers (s0 : Slot) (ds : List Int) : ∃ (xa xb xw : Int × Int) (ds' : List Int), Rok 62 xa ∧ Rok 62 xb ∧ Rok 62 xw ∧ evE E (callF E 20) A2 (st s0 ds .none .none .none .none .none .none .none .none) = .ok (.fresh (.dct (D0 xa xb xw (9, 1)))) (st s0 ds' .none .none .none .none .none .none .none .none) := by
  obtain ⟨xa, d1, ra, e1⟩ := c_lr (n := 20) (by omega) ds
  obtain ⟨xb, d2, rb, e2⟩ := c_small (n := 20) (by omega) d1
  obtain ⟨xw, d3, rw', e3⟩ := c_lr (n := 20) (by omega) d2
  have e4 := c_rat (n := 20) (by omega) (p := 9) (q := 1) (Rok.is rok9) (by unfold Sm; decide)
  refine ⟨xa, xb, xw, d3, ra, rb, rw', ?_⟩
  simp [A2, st, e1, e2, e3, e4, D0, dP]
theorem loop3 {xa xb xw x9 : Int × Int} (ra : Rok 62 xa) (rb : Rok 62 xb) (rw' : Rok 62 xw) (r9 : Rok 62 x9) (s0 : Slot) (ds : List Int) :
    ∃ (ds' : List Int) (s3 s7 s8 s9 s10 s11 s12 : Slot), exS E (callF E 20) F3 (st s0 ds (.own true (.dct (D0 xa xb xw x9))) .none .none .none .none .none .none .none) = .nx (en s0 ds' (D0 xa xb xw x9) s3 .none .none .none s7 s8 s9 s10 s11 s12) := by
  have r6 : rgB 6 = true := by decide
  generalize hD : D0 xa xb xw x9 = D
  have T := fun s0 ds s2 s3 s7 s8 s9 s10 s11 s12 => turn ra rb rw' r9 s0 ds s2 s3 s7 s8 s9 s10 s11 s12
  rw [hD] at T
  obtain ⟨d1, a7, a8, a9, a10, a11, a12, t1⟩ := T s0 ds (.own true (.dct D)) (.val (.int 0)) .none .none .none .none .none .none (.inl rfl) wr_none wr_none wr_none wr_none wr_none wr_none
  obtain ⟨d2, b7, b8, b9, b10, b11, b12, t2⟩ := T s0 d1 (.val (.dct D)) (.val (.int 1)) (.val a7) (.own true a8) (.val a9) (.val a10) (.val a11) (.val a12) (.inr rfl) (wr_val _) (wr_own _) (wr_val _) (wr_val _) (wr_val _) (wr_val _)
  obtain ⟨d3, c7, c8, c9, c10, c11, c12, t3⟩ := T s0 d2 (.val (.dct D)) (.val (.int 2)) (.val b7) (.own true b8) (.val b9) (.val b10) (.val b11) (.val b12) (.inr rfl) (wr_val _) (wr_own _) (wr_val _) (wr_val _) (wr_val _) (wr_val _)
  obtain ⟨d4, e7, e8, e9, e10, e11, e12, t4⟩ := T s0 d3 (.val (.dct D)) (.val (.int 3)) (.val c7) (.own true c8) (.val c9) (.val c10) (.val c11) (.val c12) (.inr rfl) (wr_val _) (wr_own _) (wr_val _) (wr_val _) (wr_val _) (wr_val _)
  obtain ⟨d5, f7, f8, f9, f10, f11, f12, t5⟩ := T s0 d4 (.val (.dct D)) (.val (.int 4)) (.val e7) (.own true e8) (.val e9) (.val e10) (.val e11) (.val e12) (.inr rfl) (wr_val _) (wr_own _) (wr_val _) (wr_val _) (wr_val _) (wr_val _)
  obtain ⟨d6, g7, g8, g9, g10, g11, g12, t6⟩ := T s0 d5 (.val (.dct D)) (.val (.int 5)) (.val f7) (.own true f8) (.val f9) (.val f10) (.val f11) (.val f12) (.inr rfl) (wr_val _) (wr_own _) (wr_val _) (wr_val _) (wr_val _) (wr_val _)
  refine ⟨d6, .val (.int 5), .val g7, .own true g8, .val g9, .val g10, .val g11, .val g12, ?_⟩
  have F : ∀ {p : PV} {ps : List PV} {a b c : Sg}, asgT (.nm 3) p a = some b → exL E (callF E 20) TB b = .nx c → forI (.val .non) (fun p ε => asgT (.nm 3) p ε) (fun ε => exL E (callF E 20) TB ε) (p :: ps) a = forI (.val .non) (fun p ε => asgT (.nm 3) p ε) (fun ε => exL E (callF E 20) TB ε) ps c := fun h1 h2 => forI_cons h1 h2 rfl
  have S : ∀ (ds : List Int) (s2 s3 s7 s8 s9 s10 s11 s12 : Slot) (p : PV), Wr s3 → asgT (.nm 3) p (st s0 ds s2 s3 s7 s8 s9 s10 s11 s12) = some (st s0 ds s2 (.val p) s7 s8 s9 s10 s11 s12) := fun ds s2 s3 s7 s8 s9 s10 s11 s12 p hw => asg_nm (i := 3) (s := s3) rfl hw
  rw [F3, exS]
  have hs : ∀ e : Sg, evA E (callF E 20) [.cst (.int 6)] e = .ok [.val (.int 6)] e := fun e => by simp
  have hi : ∀ e : Sg, srcI .rng [.val (.int 6)] e = some (.val .non, [.int 0, .int 1, .int 2, .int 3, .int 4, .int 5]) := fun e => by
    simp [peekL, r6]
    rfl
  rw [hs]
  dsimp only
  rw [hi]
  show (if walkOk (.val .non) (asgsS F3) = true then forI (.val .non) (fun p ε => asgT (.nm 3) p ε) (fun ε => exL E (callF E 20) TB ε) [.int 0, .int 1, .int 2, .int 3, .int 4, .int 5] (st s0 ds (.own true (.dct D)) .none .none .none .none .none .none .none) else .stuck) = _
  rw [if_pos (show walkOk (.val .non) (asgsS F3) = true from rfl)]
  rw [F (S _ _ _ _ _ _ _ _ _ _ wr_none) t1, F (S _ _ _ _ _ _ _ _ _ _ (wr_val _)) t2, F (S _ _ _ _ _ _ _ _ _ _ (wr_val _)) t3, F (S _ _ _ _ _ _ _ _ _ _ (wr_val _)) t4, F (S _ _ _ _ _ _ _ _ _ _ (wr_val _)) t5, F (S _ _ _ _ _ _ _ _ _ _ (wr_val _)) t6]
  rfl
theorem law_chain {E : Eng.Eng} {Φ : Nat → List PV → CO} {s1 s2 s3 s4 s5 : IS} {rest : List IS} {q0 q1 q2 q3 q4 q5 : Sg} {z : Rz} (h1 : exS E Φ s1 q0 = .nx q1) (h2 : exS E Φ s2 q1 = .nx q2) (h3 : exS E Φ s3 q2 = .nx q3) (h4 : exS E Φ s4 q3 = .nx q4) (h5 : exS E Φ s5 q4 = .nx q5) (h6 : Ends E Φ rest q5 z) :
    Ends E Φ (s1 :: s2 :: s3 :: s4 :: s5 :: rest) q0 z := Ends.step _ h1 (Ends.step _ h2 (Ends.step _ h3 (Ends.step _ h4 (Ends.step _ h5 h6))))
theorem law_ok (ns : List Int) (h1 : ns.length ≤ 63) (hb : ∀ z ∈ ns, Builtin.Int.intBits z ≤ 1048576) : callF E (20 + 1) 25 [.scr (ns.map PV.int)] = .ok (.bl true) false [] := by
  obtain ⟨ds, hd, e1⟩ := call_draws (k := 19) d_draws ns h1 hb
  have e1 : callF E 20 14 [.scr (ns.map .int)] = .ok (.lst (ds.map .int)) true [] := e1
  refine call_ends (z := .val (.bl true)) [.val (.scr (ns.map .int)), .none, .none, .none, .none, .none, .none, .none, .none, .none, .none, .none, .none, .none] fx_law ⟨rfl, rfl, by decide⟩ rfl rfl ?_
  rw [law_body]
  generalize hs0 : Slot.val (.scr (ns.map PV.int)) = s0
  obtain ⟨xa, xb, xw, d2, ra, rb, rw', e2⟩ := numbers s0 ds
  obtain ⟨d3, s3, s7, s8, s9, s10, s11, s12, e3⟩ := loop3 ra rb rw' rok9 s0 d2
  have z6 := fin ra rb rw' rok9 s0 d3 s3 (.val (.int 6)) s7 s8 s9 s10 s11 s12
  have l5 := loop5 s0 d3 (D0 xa xb xw (9, 1)) s3 .none s7 s8 s9 s10 s11 s12
  have e : (deepL 0).pv = .tup [.str "of", .str "w"] := rfl
  have v4 : evE E (callF E 20) (.tup [.cst (.str "of"), .cst (.str "w")]) (en s0 d3 (D0 xa xb xw (9, 1)) s3 .none .none .none s7 s8 s9 s10 s11 s12) = .ok (.val (deepL 0).pv) (en s0 d3 (D0 xa xb xw (9, 1)) s3 .none .none .none s7 s8 s9 s10 s11 s12) := by
    rw [e]
    simp [en]
  have a4 : exS E (callF E 20) (.asg 4 (.tup [.cst (.str "of"), .cst (.str "w")])) (en s0 d3 (D0 xa xb xw (9, 1)) s3 .none .none .none s7 s8 s9 s10 s11 s12) = .nx (en s0 d3 (D0 xa xb xw (9, 1)) s3 (.val (deepL 0).pv) .none .none s7 s8 s9 s10 s11 s12) := ex_val v4 rfl wr_none
  have a2 : exS E (callF E 20) (.asg 2 A2) (st s0 ds .none .none .none .none .none .none .none .none) = .nx (st s0 d2 (.own true (.dct (D0 xa xb xw (9, 1)))) .none .none .none .none .none .none .none) := ex_fr e2 rfl wr_none
  have v1 : evE E (callF E 20) (.call 14 [.var 0]) [s0, .none, .none, .none, .none, .none, .none, .none, .none, .none, .none, .none, .none, .none] = .ok (.fresh (dw ds)) [s0, .none, .none, .none, .none, .none, .none, .none, .none, .none, .none, .none, .none, .none] := by
    subst hs0
    simp [e1]
  have a1 : exS E (callF E 20) (.asg 1 (.call 14 [.var 0])) [s0, .none, .none, .none, .none, .none, .none, .none, .none, .none, .none, .none, .none, .none] = .nx (st s0 ds .none .none .none .none .none .none .none .none) := ex_fr v1 rfl wr_none
  exact law_chain a1 a2 e3 a4 l5 z6
end K06

namespace K06
open PySem PySem.Spec L2 Eng
open PyProof.Rows hiding St
def top (i : Nat) : Stmt := PySem.Challenge.pw_mitrehouse_k06_lengths.main.body.getD i (.Pass ⟨0, 0, 0, 0⟩)
theorem sc_is_name : FnScope ["value", "sign"] ["value"] (defScope (top 8)) := ⟨rfl, rfl, rfl, by decide +kernel, rfl, by decide +kernel, by decide +kernel⟩
theorem mt_is_name : mtSs E ⟨["value", "sign"], defScope (top 8), defScope (top 8)⟩ f_is_name.body (defBody (top 8)) = true := by decide +kernel
def dx_is_name : DX := ⟨f_is_name, top 8, ["value", "sign"], ["value"]⟩
theorem dxk_is_name : DX.Ok E dx_is_name := ⟨sc_is_name, rfl, rfl, mt_is_name, rfl, .inl ⟨rfl, fun _ _ _ _ _ _ us hl => match us, hl with | [_], _ => rfl⟩⟩
theorem sc_ratio : FnScope ["above", "below", "common"] ["above", "below"] (defScope (top 12)) := ⟨rfl, rfl, rfl, by decide +kernel, rfl, by decide +kernel, by decide +kernel⟩
theorem mt_ratio : mtSs E ⟨["above", "below", "common"], defScope (top 12), defScope (top 12)⟩ f_ratio.body (defBody (top 12)) = true := by decide +kernel
def dx_ratio : DX := ⟨f_ratio, top 12, ["above", "below", "common"], ["above", "below"]⟩
theorem dxk_ratio : DX.Ok E dx_ratio := ⟨sc_ratio, rfl, rfl, mt_ratio, rfl, .inr ⟨List.cons_ne_nil _ _, fun _ _ _ _ _ _ _ us its hu hi => match us, hu, its, hi with | [_, _], _, [_], _ => ⟨_, rfl, rfl⟩, 1, rfl, fun _ _ _ _ _ _ _ us its hu hi => match us, hu, its, hi with | [_], _, [_], _ => ⟨_, rfl, rfl⟩⟩⟩
theorem sc_is_integer : FnScope ["value"] ["value"] (defScope (top 13)) := ⟨rfl, rfl, rfl, by decide +kernel, rfl, by decide +kernel, by decide +kernel⟩
theorem mt_is_integer : mtSs E ⟨["value"], defScope (top 13), defScope (top 13)⟩ f_is_integer.body (defBody (top 13)) = true := by decide +kernel
def dx_is_integer : DX := ⟨f_is_integer, top 13, ["value"], ["value"]⟩
theorem dxk_is_integer : DX.Ok E dx_is_integer := ⟨sc_is_integer, rfl, rfl, mt_is_integer, rfl, .inl ⟨rfl, fun _ _ _ _ _ _ us hl => match us, hl with | [_], _ => rfl⟩⟩
theorem sc_is_ratio : FnScope ["value", "part"] ["value"] (defScope (top 14)) := ⟨rfl, rfl, rfl, by decide +kernel, rfl, by decide +kernel, by decide +kernel⟩
theorem mt_is_ratio : mtSs E ⟨["value", "part"], defScope (top 14), defScope (top 14)⟩ f_is_ratio.body (defBody (top 14)) = true := by decide +kernel
def dx_is_ratio : DX := ⟨f_is_ratio, top 14, ["value", "part"], ["value"]⟩
theorem dxk_is_ratio : DX.Ok E dx_is_ratio := ⟨sc_is_ratio, rfl, rfl, mt_is_ratio, rfl, .inl ⟨rfl, fun _ _ _ _ _ _ us hl => match us, hl with | [_], _ => rfl⟩⟩
theorem sc_plus : FnScope ["one", "other"] ["one", "other"] (defScope (top 15)) := ⟨rfl, rfl, rfl, by decide +kernel, rfl, by decide +kernel, by decide +kernel⟩
theorem mt_plus : mtSs E ⟨["one", "other"], defScope (top 15), defScope (top 15)⟩ f_plus.body (defBody (top 15)) = true := by decide +kernel
def dx_plus : DX := ⟨f_plus, top 15, ["one", "other"], ["one", "other"]⟩
theorem dxk_plus : DX.Ok E dx_plus := ⟨sc_plus, rfl, rfl, mt_plus, rfl, .inl ⟨rfl, fun _ _ _ _ _ _ us hl => match us, hl with | [_, _], _ => rfl⟩⟩
theorem sc_opposite : FnScope ["one"] ["one"] (defScope (top 16)) := ⟨rfl, rfl, rfl, by decide +kernel, rfl, by decide +kernel, by decide +kernel⟩
theorem mt_opposite : mtSs E ⟨["one"], defScope (top 16), defScope (top 16)⟩ f_opposite.body (defBody (top 16)) = true := by decide +kernel
def dx_opposite : DX := ⟨f_opposite, top 16, ["one"], ["one"]⟩
theorem dxk_opposite : DX.Ok E dx_opposite := ⟨sc_opposite, rfl, rfl, mt_opposite, rfl, .inl ⟨rfl, fun _ _ _ _ _ _ us hl => match us, hl with | [_], _ => rfl⟩⟩
theorem sc_minus : FnScope ["one", "other"] ["one", "other"] (defScope (top 17)) := ⟨rfl, rfl, rfl, by decide +kernel, rfl, by decide +kernel, by decide +kernel⟩
theorem mt_minus : mtSs E ⟨["one", "other"], defScope (top 17), defScope (top 17)⟩ f_minus.body (defBody (top 17)) = true := by decide +kernel
def dx_minus : DX := ⟨f_minus, top 17, ["one", "other"], ["one", "other"]⟩
theorem dxk_minus : DX.Ok E dx_minus := ⟨sc_minus, rfl, rfl, mt_minus, rfl, .inl ⟨rfl, fun _ _ _ _ _ _ us hl => match us, hl with | [_, _], _ => rfl⟩⟩
theorem sc_times : FnScope ["one", "other"] ["one", "other"] (defScope (top 18)) := ⟨rfl, rfl, rfl, by decide +kernel, rfl, by decide +kernel, by decide +kernel⟩
theorem mt_times : mtSs E ⟨["one", "other"], defScope (top 18), defScope (top 18)⟩ f_times.body (defBody (top 18)) = true := by decide +kernel
def dx_times : DX := ⟨f_times, top 18, ["one", "other"], ["one", "other"]⟩
theorem dxk_times : DX.Ok E dx_times := ⟨sc_times, rfl, rfl, mt_times, rfl, .inl ⟨rfl, fun _ _ _ _ _ _ us hl => match us, hl with | [_, _], _ => rfl⟩⟩
theorem sc_is_length : FnScope ["value"] ["value"] (defScope (top 21)) := ⟨rfl, rfl, rfl, by decide +kernel, rfl, by decide +kernel, by decide +kernel⟩
theorem mt_is_length : mtSs E ⟨["value"], defScope (top 21), defScope (top 21)⟩ f_is_length.body (defBody (top 21)) = true := by decide +kernel
def dx_is_length : DX := ⟨f_is_length, top 21, ["value"], ["value"]⟩
theorem dxk_is_length : DX.Ok E dx_is_length := ⟨sc_is_length, rfl, rfl, mt_is_length, rfl, .inl ⟨rfl, fun _ _ _ _ _ _ us hl => match us, hl with | [_], _ => rfl⟩⟩
theorem sc_fits : FnScope ["value", "depth"] ["value", "depth"] (defScope (top 22)) := ⟨rfl, rfl, rfl, by decide +kernel, rfl, by decide +kernel, by decide +kernel⟩
theorem mt_fits : mtSs E ⟨["value", "depth"], defScope (top 22), defScope (top 22)⟩ f_fits.body (defBody (top 22)) = true := by decide +kernel
def dx_fits : DX := ⟨f_fits, top 22, ["value", "depth"], ["value", "depth"]⟩
theorem dxk_fits : DX.Ok E dx_fits := ⟨sc_fits, rfl, rfl, mt_fits, rfl, .inl ⟨rfl, fun _ _ _ _ _ _ us hl => match us, hl with | [_, _], _ => rfl⟩⟩
theorem sc_length_worth : FnScope ["length", "numbers", "word", "join"] ["length", "numbers"] (defScope (top 23)) := ⟨rfl, rfl, rfl, by decide +kernel, rfl, by decide +kernel, by decide +kernel⟩
theorem mt_length_worth : mtSs E ⟨["length", "numbers", "word", "join"], defScope (top 23), defScope (top 23)⟩ f_length_worth.body (defBody (top 23)) = true := by decide +kernel
def dx_length_worth : DX := ⟨f_length_worth, top 23, ["length", "numbers", "word", "join"], ["length", "numbers"]⟩
theorem dxk_length_worth : DX.Ok E dx_length_worth := ⟨sc_length_worth, rfl, rfl, mt_length_worth, rfl, .inl ⟨rfl, fun _ _ _ _ _ _ us hl => match us, hl with | [_, _], _ => rfl⟩⟩
theorem sc_names_in : FnScope ["length", "parts", "part", "name"] ["length"] (defScope (top 24)) := ⟨rfl, rfl, rfl, by decide +kernel, rfl, by decide +kernel, by decide +kernel⟩
theorem mt_names_in : mtSs E ⟨["length", "parts", "part", "name"], defScope (top 24), defScope (top 24)⟩ f_names_in.body (defBody (top 24)) = true := by decide +kernel
def dx_names_in : DX := ⟨f_names_in, top 24, ["length", "parts", "part", "name"], ["length"]⟩
theorem dxk_names_in : DX.Ok E dx_names_in := ⟨sc_names_in, rfl, rfl, mt_names_in, rfl, .inl ⟨rfl, fun _ _ _ _ _ _ us hl => match us, hl with | [_], _ => rfl⟩⟩
theorem sc_numbers_in : FnScope ["length"] ["length"] (defScope (top 25)) := ⟨rfl, rfl, rfl, by decide +kernel, rfl, by decide +kernel, by decide +kernel⟩
theorem mt_numbers_in : mtSs E ⟨["length"], defScope (top 25), defScope (top 25)⟩ f_numbers_in.body (defBody (top 25)) = true := by decide +kernel
def dx_numbers_in : DX := ⟨f_numbers_in, top 25, ["length"], ["length"]⟩
theorem dxk_numbers_in : DX.Ok E dx_numbers_in := ⟨sc_numbers_in, rfl, rfl, mt_numbers_in, rfl, .inl ⟨rfl, fun _ _ _ _ _ _ us hl => match us, hl with | [_], _ => rfl⟩⟩
theorem sc_growth : FnScope ["length", "name", "word", "join"] ["length", "name"] (defScope (top 26)) := ⟨rfl, rfl, rfl, by decide +kernel, rfl, by decide +kernel, by decide +kernel⟩
theorem mt_growth : mtSs E ⟨["length", "name", "word", "join"], defScope (top 26), defScope (top 26)⟩ f_growth.body (defBody (top 26)) = true := by decide +kernel
def dx_growth : DX := ⟨f_growth, top 26, ["length", "name", "word", "join"], ["length", "name"]⟩
theorem dxk_growth : DX.Ok E dx_growth := ⟨sc_growth, rfl, rfl, mt_growth, rfl, .inl ⟨rfl, fun _ _ _ _ _ _ us hl => match us, hl with | [_, _], _ => rfl⟩⟩
theorem sc__law_draws : FnScope ["script", "draws", "cell", "seed", "k", "number", "first"] ["script"] (defScope (top 28)) := ⟨rfl, rfl, rfl, by decide +kernel, rfl, by decide +kernel, by decide +kernel⟩
theorem mt__law_draws : mtSs E ⟨["script", "draws", "cell", "seed", "k", "number", "first"], defScope (top 28), defScope (top 28)⟩ f__law_draws.body (defBody (top 28)) = true := by decide +kernel
def dx__law_draws : DX := ⟨f__law_draws, top 28, ["script", "draws", "cell", "seed", "k", "number", "first"], ["script"]⟩
theorem dxk__law_draws : DX.Ok E dx__law_draws := ⟨sc__law_draws, rfl, rfl, mt__law_draws, rfl, .inl ⟨rfl, fun _ _ _ _ _ _ us hl => match us, hl with | [_], _ => rfl⟩⟩
theorem sc__law_take : FnScope ["draws", "bound"] ["draws", "bound"] (defScope (top 29)) := ⟨rfl, rfl, rfl, by decide +kernel, rfl, by decide +kernel, by decide +kernel⟩
theorem mt__law_take : mtSs E ⟨["draws", "bound"], defScope (top 29), defScope (top 29)⟩ f__law_take.body (defBody (top 29)) = true := by decide +kernel
def dx__law_take : DX := ⟨f__law_take, top 29, ["draws", "bound"], ["draws", "bound"]⟩
theorem dxk__law_take : DX.Ok E dx__law_take := ⟨sc__law_take, rfl, rfl, mt__law_take, rfl, .inl ⟨rfl, fun _ _ _ _ _ _ us hl => match us, hl with | [_, _], _ => rfl⟩⟩
theorem sc__law_ratio : FnScope ["draws", "kind"] ["draws"] (defScope (top 30)) := ⟨rfl, rfl, rfl, by decide +kernel, rfl, by decide +kernel, by decide +kernel⟩
theorem mt__law_ratio : mtSs E ⟨["draws", "kind"], defScope (top 30), defScope (top 30)⟩ f__law_ratio.body (defBody (top 30)) = true := by decide +kernel
def dx__law_ratio : DX := ⟨f__law_ratio, top 30, ["draws", "kind"], ["draws"]⟩
theorem dxk__law_ratio : DX.Ok E dx__law_ratio := ⟨sc__law_ratio, rfl, rfl, mt__law_ratio, rfl, .inl ⟨rfl, fun _ _ _ _ _ _ us hl => match us, hl with | [_], _ => rfl⟩⟩
theorem sc__law_small : FnScope ["draws"] ["draws"] (defScope (top 31)) := ⟨rfl, rfl, rfl, by decide +kernel, rfl, by decide +kernel, by decide +kernel⟩
theorem mt__law_small : mtSs E ⟨["draws"], defScope (top 31), defScope (top 31)⟩ f__law_small.body (defBody (top 31)) = true := by decide +kernel
def dx__law_small : DX := ⟨f__law_small, top 31, ["draws"], ["draws"]⟩
theorem dxk__law_small : DX.Ok E dx__law_small := ⟨sc__law_small, rfl, rfl, mt__law_small, rfl, .inl ⟨rfl, fun _ _ _ _ _ _ us hl => match us, hl with | [_], _ => rfl⟩⟩
theorem sc__law_any_length : FnScope ["draws", "depth", "kind"] ["draws", "depth"] (defScope (top 32)) := ⟨rfl, rfl, rfl, by decide +kernel, rfl, by decide +kernel, by decide +kernel⟩
theorem mt__law_any_length : mtSs E ⟨["draws", "depth", "kind"], defScope (top 32), defScope (top 32)⟩ f__law_any_length.body (defBody (top 32)) = true := by decide +kernel
def dx__law_any_length : DX := ⟨f__law_any_length, top 32, ["draws", "depth", "kind"], ["draws", "depth"]⟩
theorem dxk__law_any_length : DX.Ok E dx__law_any_length := ⟨sc__law_any_length, rfl, rfl, mt__law_any_length, rfl, .inl ⟨rfl, fun _ _ _ _ _ _ us hl => match us, hl with | [_, _], _ => rfl⟩⟩
theorem sc__law_names : FnScope ["length", "found", "part"] ["length"] (defScope (top 33)) := ⟨rfl, rfl, rfl, by decide +kernel, rfl, by decide +kernel, by decide +kernel⟩
theorem mt__law_names : mtSs E ⟨["length", "found", "part"], defScope (top 33), defScope (top 33)⟩ f__law_names.body (defBody (top 33)) = true := by decide +kernel
def dx__law_names : DX := ⟨f__law_names, top 33, ["length", "found", "part"], ["length"]⟩
theorem dxk__law_names : DX.Ok E dx__law_names := ⟨sc__law_names, rfl, rfl, mt__law_names, rfl, .inl ⟨rfl, fun _ _ _ _ _ _ us hl => match us, hl with | [_], _ => rfl⟩⟩
theorem sc__law_worth : FnScope ["length", "numbers", "one", "other"] ["length", "numbers"] (defScope (top 34)) := ⟨rfl, rfl, rfl, by decide +kernel, rfl, by decide +kernel, by decide +kernel⟩
theorem mt__law_worth : mtSs E ⟨["length", "numbers", "one", "other"], defScope (top 34), defScope (top 34)⟩ f__law_worth.body (defBody (top 34)) = true := by decide +kernel
def dx__law_worth : DX := ⟨f__law_worth, top 34, ["length", "numbers", "one", "other"], ["length", "numbers"]⟩
theorem dxk__law_worth : DX.Ok E dx__law_worth := ⟨sc__law_worth, rfl, rfl, mt__law_worth, rfl, .inl ⟨rfl, fun _ _ _ _ _ _ us hl => match us, hl with | [_, _], _ => rfl⟩⟩
theorem sc__law_told : FnScope ["length", "numbers"] ["length", "numbers"] (defScope (top 35)) := ⟨rfl, rfl, rfl, by decide +kernel, rfl, by decide +kernel, by decide +kernel⟩
theorem mt__law_told : mtSs E ⟨["length", "numbers"], defScope (top 35), defScope (top 35)⟩ f__law_told.body (defBody (top 35)) = true := by decide +kernel
def dx__law_told : DX := ⟨f__law_told, top 35, ["length", "numbers"], ["length", "numbers"]⟩
theorem dxk__law_told : DX.Ok E dx__law_told := ⟨sc__law_told, rfl, rfl, mt__law_told, rfl, .inl ⟨rfl, fun _ _ _ _ _ _ us hl => match us, hl with | [_, _], _ => rfl⟩⟩
theorem sc__law_is_right : FnScope ["value", "depth"] ["value", "depth"] (defScope (top 36)) := ⟨rfl, rfl, rfl, by decide +kernel, rfl, by decide +kernel, by decide +kernel⟩
theorem mt__law_is_right : mtSs E ⟨["value", "depth"], defScope (top 36), defScope (top 36)⟩ f__law_is_right.body (defBody (top 36)) = true := by decide +kernel
def dx__law_is_right : DX := ⟨f__law_is_right, top 36, ["value", "depth"], ["value", "depth"]⟩
theorem dxk__law_is_right : DX.Ok E dx__law_is_right := ⟨sc__law_is_right, rfl, rfl, mt__law_is_right, rfl, .inl ⟨rfl, fun _ _ _ _ _ _ us hl => match us, hl with | [_, _], _ => rfl⟩⟩
theorem sc__law_is_ratio : FnScope ["value", "part"] ["value"] (defScope (top 37)) := ⟨rfl, rfl, rfl, by decide +kernel, rfl, by decide +kernel, by decide +kernel⟩
theorem mt__law_is_ratio : mtSs E ⟨["value", "part"], defScope (top 37), defScope (top 37)⟩ f__law_is_ratio.body (defBody (top 37)) = true := by decide +kernel
def dx__law_is_ratio : DX := ⟨f__law_is_ratio, top 37, ["value", "part"], ["value"]⟩
theorem dxk__law_is_ratio : DX.Ok E dx__law_is_ratio := ⟨sc__law_is_ratio, rfl, rfl, mt__law_is_ratio, rfl, .inl ⟨rfl, fun _ _ _ _ _ _ us hl => match us, hl with | [_], _ => rfl⟩⟩
theorem sc__law_bent : FnScope ["draws", "value", "row", "at", "odd", "kind"] ["draws", "value"] (defScope (top 38)) := ⟨rfl, rfl, rfl, by decide +kernel, rfl, by decide +kernel, by decide +kernel⟩
theorem mt__law_bent : mtSs E ⟨["draws", "value", "row", "at", "odd", "kind"], defScope (top 38), defScope (top 38)⟩ f__law_bent.body (defBody (top 38)) = true := by decide +kernel
def dx__law_bent : DX := ⟨f__law_bent, top 38, ["draws", "value", "row", "at", "odd", "kind"], ["draws", "value"]⟩
theorem dxk__law_bent : DX.Ok E dx__law_bent := ⟨sc__law_bent, rfl, rfl, mt__law_bent, rfl, .inl ⟨rfl, fun _ _ _ _ _ _ us hl => match us, hl with | [_, _], _ => rfl⟩⟩
theorem sc_law : FnScope ["script", "draws", "numbers", "turn", "deep", "k", "told", "length", "names", "name", "value", "more", "less", "other"] ["script"] (defScope (top 39)) := ⟨rfl, rfl, rfl, by decide +kernel, rfl, by decide +kernel, by decide +kernel⟩
theorem mt_law : mtSs E ⟨["script", "draws", "numbers", "turn", "deep", "k", "told", "length", "names", "name", "value", "more", "less", "other"], defScope (top 39), defScope (top 39)⟩ f_law.body (defBody (top 39)) = true := by decide +kernel
def dx_law : DX := ⟨f_law, top 39, ["script", "draws", "numbers", "turn", "deep", "k", "told", "length", "names", "name", "value", "more", "less", "other"], ["script"]⟩
theorem dxk_law : DX.Ok E dx_law := ⟨sc_law, rfl, rfl, mt_law, rfl, .inl ⟨rfl, fun _ _ _ _ _ _ us hl => match us, hl with | [_], _ => rfl⟩⟩
def dxs : List DX := [dx_is_name, dx_ratio, dx_is_integer, dx_is_ratio, dx_plus, dx_opposite, dx_minus, dx_times, dx_is_length, dx_fits, dx_length_worth, dx_names_in, dx_numbers_in, dx_growth, dx__law_draws, dx__law_take, dx__law_ratio, dx__law_small, dx__law_any_length, dx__law_names, dx__law_worth, dx__law_told, dx__law_is_right, dx__law_is_ratio, dx__law_bent, dx_law]
theorem dxs_ok : AllF (DX.Ok E) dxs := ⟨dxk_is_name, dxk_ratio, dxk_is_integer, dxk_is_ratio, dxk_plus, dxk_opposite, dxk_minus, dxk_times, dxk_is_length, dxk_fits, dxk_length_worth, dxk_names_in, dxk_numbers_in, dxk_growth, dxk__law_draws, dxk__law_take, dxk__law_ratio, dxk__law_small, dxk__law_any_length, dxk__law_names, dxk__law_worth, dxk__law_told, dxk__law_is_right, dxk__law_is_ratio, dxk__law_bent, dxk_law, trivial⟩
abbrev hdR : PySem.W.OpenRow := PySem.W.OpenLaw.row PySem.Challenge.rw_mitrehouse_k06_lengths
abbrev hdq : Program := PySem.W.view hdR.prog [0, 39]
def hdn : List PySem.Str := (["FIGURES", "LETTERS", "LONGEST", "MOST_DEPTH", "MitreError", "NONE", "NotNumber", "NotThere", "ONE", "_law_any_length", "_law_bent", "_law_draws", "_law_is_ratio", "_law_is_right", "_law_names", "_law_ratio", "_law_small", "_law_take", "_law_told", "_law_worth", "fits", "growth", "is_integer", "is_length", "is_name", "is_ratio", "length_worth", "minus", "names_in", "numbers_in"] : List PySem.Str) ++ (["opposite", "plus", "ratio", "times"] : List PySem.Str)
set_option maxHeartbeats 0 in
theorem hd_run (w : World) : HandSHeadRun.RunEqI hdR hdq (hookX 5 E (dxs.map DX.d)) (obX 5 E (dxs.map DX.d)) 6000 hdn w := by
  unfold HandSHeadRun.RunEqI
  kernel_rfl
end K06
open PySem PySem.W PyProof.Rows PySem.Calls
set_option maxRecDepth 100000 in
set_option maxHeartbeats 0 in
theorem PySem.Challenge.cw_mitrehouse_k06_lengths_holds : PySem.Challenge.rw_mitrehouse_k06_lengths.Holds := by
  w_on; o_law
  refine HandSHeadRun.head_imp (r := K06.hdR) (q := K06.hdq) (H := Eng.hookX 5 K06.E (K06.dxs.map Eng.DX.d)) (ob := Eng.obX 5 K06.E (K06.dxs.map Eng.DX.d)) (M := 6000) (loose := K06.hdn) (d := HandSHeadRun.topDef K06.hdR.prog 39) (kwd := []) (Eng.obX_eq 5 K06.E (K06.dxs.map Eng.DX.d)) K06.hd_run
    (by kernel_rfl) (by kernel_rfl) (by kernel_rfl) (by rfl) (by first | assumption | decide +kernel) (by decide +kernel) ⟨rfl, rfl, rfl, rfl, rfl, by decide +kernel⟩ ?hw ?hc
  case hw => w_witness2
  case hc => exact Eng.walkX (l := PySem.Challenge.rw_mitrehouse_k06_lengths) (E := K06.E) (dx := K06.dxs) (x := K06.dx_law) (s := "script") (k := 20) (iLaw := 25) rfl (by kernel_rfl) (by kernel_rfl) ⟨rfl, by decide, by decide⟩ rfl rfl rfl rfl rfl rfl K06.law_ok K06.dxs_ok
#print axioms PySem.Challenge.cw_mitrehouse_k06_lengths_holds

