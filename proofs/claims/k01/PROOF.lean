import PyProof.Rows.All
import Wide.All
import OpenK.AllK
import Wide.FinOn
import HandS.ForMost
import HandS.IsInst
import HandS.TupAny
import HandS.Style
import HandS.Flow
import HandS.Walk
import HandS.Conv
import HandS.Defaults
import PySem.Challenge.RW_fourclosed_k01_names_sources_houses_and
set_option Elab.async false
set_option linter.all false
set_option maxRecDepth 100000
set_option maxHeartbeats 4000000

/-! Dv: plain data D, its standing in the abstract heap (Rep), and a logic of bodies over plain data alone:
EvN te δ R (whatever te gives where the slots hold δ satisfies R), StN ts δ Ks (statements), spN W (a def's promise). -/
namespace Dv
open PySem PySem.Spec PyProof.Rows L2

/-- the largest length of a text, a tuple, a list that is told as data -/
abbrev lim : Nat := 4000000
theorem lim_line {n : Nat} (h : n ≤ 2 * lim) : n ≤ sizeLine := by rw [sizeLine_eq]; unfold lim at h; omega
theorem lim_lt {n : Nat} (h : n ≤ 2 * lim) : n < sizeLine := by rw [sizeLine_eq]; unfold lim at h; omega

/-- plain data; stm: the stream of a law -/
inductive D where
  | non | bl (b : Bool) | int (i : Int) | str (s : Str) | tup (l : List D) | lst (l : List D) | stm

/-- the stream stands at p: a list of a list of ints and two ints -/
def Strm (K : PySem.W.Frag) (p : Addr) (X : Addr → Prop) (H : Hp) : Prop := ∃ (a : Addr) (ns : List Int) (c k : Int), ¬ X a ∧ H p = some (.lst [.ref a, .int c, .int k]) ∧ H a = some (.lst (ns.map V.int)) ∧ 0 ≤ c ∧ 0 ≤ k ∧ ns.length ≤ 63

/-- what a call may change: the list at p alone -/
structure Ext (K : PySem.W.Frag) (p : Addr) (H H' : Hp) : Prop where
  keep : ∀ b o, H b = some o → H' b = some o ∨ (b = p ∧ ∃ l, o = .lst l)
  strm : ∀ X : Addr → Prop, X p → Strm K p X H → Strm K p X H'
  dfn : H p ≠ none → H' p ≠ none

section
variable {K : PySem.W.Frag} {p : Addr} {H H1 H2 H' : Hp}
theorem Ext.refl (H : Hp) : Ext K p H H := ⟨fun _ _ h => .inl h, fun _ _ h => h, fun h => h⟩
theorem Ext.trans (a : Ext K p H H1) (b : Ext K p H1 H2) : Ext K p H H2 :=
  ⟨fun c o h => by
    rcases a.keep c o h with h1 | h1
    · rcases b.keep c o h1 with h2 | h2
      · exact .inl h2
      · exact .inr h2
    · exact .inr h1, fun X hX h => b.strm X hX (a.strm X hX h), fun h => b.dfn (a.dfn h)⟩
theorem Ext.of_same (s : Same H H') : Ext K p H H' :=
  ⟨fun b o h => .inl (s b o h), fun X _ ⟨a, ns, c, k, h1, h2, h3, h4⟩ => ⟨a, ns, c, k, h1, s _ _ h2, s _ _ h3, h4⟩, fun h => by
    cases e : H p with
    | none => exact absurd e h
    | some o => rw [s _ _ e]; exact fun z => by cases z⟩
theorem Same.new {q : Addr} {o : HO} (h : H q = none) : Same H (upd H q o) := fun b u e => by
  rw [upd_ne (ne_of_none e h)]; exact e
theorem Ext.new {q : Addr} {o : HO} (h : H q = none) : Ext K p H (upd H q o) := Ext.of_same (Same.new h)
theorem Ext.other (e : Ext K p H H') {b : Addr} {o : HO} (h : H b = some o) (hb : b ≠ p ∨ ∀ l, o ≠ .lst l) : H' b = some o := by
  rcases e.keep b o h with h1 | ⟨h1, l, h2⟩
  · exact h1
  · rcases hb with hb | hb
    · exact absurd h1 hb
    · exact absurd h2 (hb l)
theorem Ext.some (e : Ext K p H H') {b : Addr} (h : H b ≠ none) : H' b ≠ none := by
  by_cases hb : b = p
  · subst hb; exact e.dfn h
  · cases q : H b with
    | none => exact absurd q h
    | some o => rw [e.other q (.inl hb)]; exact fun z => by cases z
theorem Ext.free (e : Ext K p H H') {b : Addr} (h : H' b = none) : H b = none := by
  cases q : H b with
  | none => rfl
  | some o => exact absurd h (e.some (by rw [q]; exact fun z => by cases z))
theorem Ext.sqT (e : Ext K p H H') {a : Addr} {xs : List V} (h : SqT K H a xs) : SqT K H' a xs := by
  rcases h with (h | ⟨o, h⟩) | h
  · exact .inl (.inl (e.other h (.inr fun l z => by cases z)))
  · exact .inl (.inr ⟨o, e.other h (.inr fun l z => by cases z)⟩)
  · exact .inr h
end

/-! ### data in the heap -/
section
variable (K : PySem.W.Frag) (p : Addr) (X : Addr → Prop) (H : Hp)
mutual
def Rep : D → V → Prop
  | .non, v => v = .non
  | .bl b, v => v = .bl b
  | .int i, v => v = .int i
  | .str s, v => v = .str s ∧ s.length ≤ lim
  | .tup l, v => ∃ a vs, v = .ref a ∧ SqT K H a vs ∧ l.length ≤ lim ∧ Reps l vs
  | .lst l, v => ∃ a vs, v = .ref a ∧ ¬ X a ∧ H a = some (.lst vs) ∧ l.length ≤ lim ∧ Reps l vs
  | .stm, v => v = .ref p ∧ Strm K p X H
def Reps : List D → List V → Prop
  | [], vs => vs = []
  | d :: ds, vs => ∃ v vs', vs = v :: vs' ∧ Rep d v ∧ Reps ds vs'
end
end

section
variable {K : PySem.W.Frag} {p : Addr} {X Y : Addr → Prop} {H H' : Hp}
mutual
/-- lists that stay where they are not excluded, tuples that stay, and the stream -/
theorem rep_to (hl : ∀ a vs, ¬ X a → H a = some (.lst vs) → ¬ Y a ∧ H' a = some (.lst vs)) (ht : ∀ a vs, SqT K H a vs → SqT K H' a vs) (hs : Strm K p X H → Strm K p Y H') :
    ∀ (d : D) (v : V), Rep K p X H d v → Rep K p Y H' d v
  | .non, v, h => h
  | .bl _, v, h => h
  | .int _, v, h => h
  | .str _, v, h => h
  | .tup l, v, h => by
    obtain ⟨a, vs, e, h1, h2, h3⟩ := h
    exact ⟨a, vs, e, ht a vs h1, h2, reps_to hl ht hs l vs h3⟩
  | .lst l, v, h => by
    obtain ⟨a, vs, e, hx, h1, h2, h3⟩ := h
    obtain ⟨hy, h1'⟩ := hl a vs hx h1
    exact ⟨a, vs, e, hy, h1', h2, reps_to hl ht hs l vs h3⟩
  | .stm, v, h => ⟨h.1, hs h.2⟩
theorem reps_to (hl : ∀ a vs, ¬ X a → H a = some (.lst vs) → ¬ Y a ∧ H' a = some (.lst vs)) (ht : ∀ a vs, SqT K H a vs → SqT K H' a vs) (hs : Strm K p X H → Strm K p Y H') :
    ∀ (ds : List D) (vs : List V), Reps K p X H ds vs → Reps K p Y H' ds vs
  | [], vs, h => h
  | d :: ds, vs, h => by
    obtain ⟨v, vs', e, h1, h2⟩ := h
    exact ⟨v, vs', e, rep_to hl ht hs d v h1, reps_to hl ht hs ds vs' h2⟩
end
theorem rep_ext (hp : X p) (e : Ext K p H H') {d : D} {v : V} (h : Rep K p X H d v) : Rep K p X H' d v :=
  rep_to (fun a vs hx h1 => ⟨hx, e.other h1 (.inl fun z => hx (z ▸ hp))⟩) (fun _ _ h => e.sqT h) (e.strm X hp) d v h
theorem reps_ext (hp : X p) (e : Ext K p H H') {ds : List D} {vs : List V} (h : Reps K p X H ds vs) : Reps K p X H' ds vs :=
  reps_to (fun a vs hx h1 => ⟨hx, e.other h1 (.inl fun z => hx (z ▸ hp))⟩) (fun _ _ h => e.sqT h) (e.strm X hp) ds vs h
theorem rep_sub (s : ∀ a, Y a → X a) {d : D} {v : V} (h : Rep K p X H d v) : Rep K p Y H d v :=
  rep_to (fun a vs hx h1 => ⟨fun z => hx (s a z), h1⟩) (fun _ _ h => h) (fun ⟨a, ns, c, k, h1, h2⟩ => ⟨a, ns, c, k, fun z => h1 (s a z), h2⟩) d v h
theorem reps_sub (s : ∀ a, Y a → X a) {ds : List D} {vs : List V} (h : Reps K p X H ds vs) : Reps K p Y H ds vs :=
  reps_to (fun a vs hx h1 => ⟨fun z => hx (s a z), h1⟩) (fun _ _ h => h) (fun ⟨a, ns, c, k, h1, h2⟩ => ⟨a, ns, c, k, fun z => h1 (s a z), h2⟩) ds vs h
theorem reps_len : ∀ {ds : List D} {vs : List V}, Reps K p X H ds vs → vs.length = ds.length
  | [], _, h => by rw [show _ = [] from h]; rfl
  | d :: ds, _, h => by
    obtain ⟨v, vs', rfl, _, h2⟩ := h
    rw [List.length_cons, List.length_cons, reps_len h2]
theorem reps_get : ∀ {ds : List D} {vs : List V} {i : Nat} {d : D}, Reps K p X H ds vs → ds[i]? = some d → ∃ v, vs[i]? = some v ∧ Rep K p X H d v
  | [], _, _, _, h, e => by simp at e
  | d :: ds, _, 0, _, h, e => by
    obtain ⟨v, vs', rfl, h1, h2⟩ := h
    cases (show some d = some _ from e)
    exact ⟨v, rfl, h1⟩
  | d :: ds, _, i + 1, d', h, e => by
    obtain ⟨v, vs', rfl, h1, h2⟩ := h
    obtain ⟨w, h3, h4⟩ := reps_get (i := i) h2 (show ds[i]? = some d' from by simpa using e)
    exact ⟨w, by simpa using h3, h4⟩
theorem reps_get' {ds : List D} {vs : List V} {i : Nat} {v : V} (h : Reps K p X H ds vs) (e : vs[i]? = some v) : ∃ d, ds[i]? = some d ∧ Rep K p X H d v := by
  have hi : i < ds.length := by rw [← reps_len h]; exact (List.getElem?_eq_some_iff.mp e).1
  obtain ⟨w, h1, h2⟩ := reps_get h (List.getElem?_eq_getElem hi)
  rw [e] at h1
  cases h1
  exact ⟨_, List.getElem?_eq_getElem hi, h2⟩
theorem reps_app : ∀ {ds es : List D} {vs ws : List V}, Reps K p X H ds vs → Reps K p X H es ws → Reps K p X H (ds ++ es) (vs ++ ws)
  | [], _, _, _, h, h' => by rw [show _ = [] from h]; exact h'
  | d :: ds, _, _, _, h, h' => by
    obtain ⟨v, vs', rfl, h1, h2⟩ := h
    exact ⟨v, _, rfl, h1, reps_app h2 h'⟩
theorem reps_take : ∀ {ds : List D} {vs : List V} (n : Nat), Reps K p X H ds vs → Reps K p X H (ds.take n) (vs.take n)
  | _, _, 0, _ => rfl
  | [], _, n + 1, h => by rw [show _ = [] from h]; rfl
  | d :: ds, _, n + 1, h => by
    obtain ⟨v, vs', rfl, h1, h2⟩ := h
    exact ⟨v, _, rfl, h1, reps_take n h2⟩
theorem reps_drop : ∀ {ds : List D} {vs : List V} (n : Nat), Reps K p X H ds vs → Reps K p X H (ds.drop n) (vs.drop n)
  | _, _, 0, h => h
  | [], _, n + 1, h => by rw [show _ = [] from h]; rfl
  | d :: ds, _, n + 1, h => by
    obtain ⟨v, vs', rfl, h1, h2⟩ := h
    exact reps_drop n h2
theorem reps_one {d : D} {v : V} (h : Rep K p X H d v) : Reps K p X H [d] [v] := ⟨v, [], rfl, h, rfl⟩
theorem reps_rev : ∀ {ds : List D} {vs : List V}, Reps K p X H ds vs → Reps K p X H ds.reverse vs.reverse
  | [], _, h => by rw [show _ = [] from h]; rfl
  | d :: ds, _, h => by
    obtain ⟨v, vs', rfl, h1, h2⟩ := h
    rw [List.reverse_cons, List.reverse_cons]
    exact reps_app (reps_rev h2) (reps_one h1)
theorem reps_cons {d : D} {ds : List D} {v : V} {vs : List V} (h : Rep K p X H d v) (hs : Reps K p X H ds vs) : Reps K p X H (d :: ds) (v :: vs) := ⟨v, vs, rfl, h, hs⟩
end

/-! ### slots -/
/-- what a slot holds: nothing known; data; a list of the def's own, that it may still change -/
inductive Sl where
  | no | val (d : D) | own (l : List D)

def SlotOk (K : PySem.W.Frag) (p : Addr) (X0 C : Addr → Prop) (H : Hp) (v : Option V) : Sl → Prop
  | .no => True
  | .val d => ∃ x, v = some x ∧ Rep K p (fun a => X0 a ∨ C a) H d x
  | .own l => ∃ a vs, v = some (.ref a) ∧ C a ∧ ¬ X0 a ∧ H a = some (.lst vs) ∧ l.length ≤ lim ∧ Reps K p (fun a => X0 a ∨ C a) H l vs

/-- X0: lists that the caller holds as its own, the stream's too; C: those that this def may change -/
structure Nv (K : PySem.W.Frag) (p : Addr) (X0 C : Addr → Prop) (H : Hp) (σ : L2.St) (δ : List Sl) : Prop where
  px : X0 p
  pc : C p
  gd : ∀ a, X0 a ∨ C a → H a ≠ none
  len : δ.length = σ.length
  sl : ∀ (i : Nat) s, δ[i]? = some s → SlotOk K p X0 C H (σ[i]?.join) s
  dis : ∀ (i j : Nat) a l m, δ[i]? = some (.own l) → σ[i]? = some (some (.ref a)) → δ[j]? = some (.own m) → σ[j]? = some (some (.ref a)) → i = j

section
variable {K : PySem.W.Frag} {p : Addr} {X0 C C' : Addr → Prop} {H H' H1 : Hp} {σ : L2.St} {δ : List Sl}
/-- a statement's step: lists of C may change, and what is new may be taken into C -/
structure Stp (K : PySem.W.Frag) (p : Addr) (C : Addr → Prop) (H : Hp) (C' : Addr → Prop) (H' : Hp) : Prop where
  keep : ∀ b o, H b = some o → H' b = some o ∨ (C b ∧ ∃ l, o = .lst l)
  cs : ∀ b, C' b → C b ∨ H b = none
  strm : ∀ X0 : Addr → Prop, X0 p → Strm K p (fun a => X0 a ∨ C a) H → Strm K p (fun a => X0 a ∨ C' a) H'
  dfn : ∀ b, H b ≠ none → H' b ≠ none
theorem Stp.refl (C : Addr → Prop) (H : Hp) : Stp K p C H C H := ⟨fun _ _ h => .inl h, fun _ h => .inl h, fun _ _ h => h, fun _ h => h⟩
theorem Stp.trans {C1 C2 : Addr → Prop} {H2 : Hp} (a : Stp K p C H C1 H1) (b : Stp K p C1 H1 C2 H2) : Stp K p C H C2 H2 where
  keep := fun c o h => by
    rcases a.keep c o h with h1 | h1
    · rcases b.keep c o h1 with h2 | ⟨h2, h3⟩
      · exact .inl h2
      · rcases a.cs c h2 with h4 | h4
        · exact .inr ⟨h4, h3⟩
        · rw [h] at h4; cases h4
    · exact .inr h1
  cs := fun c h => by
    rcases b.cs c h with h1 | h1
    · exact a.cs c h1
    · refine .inr ?_
      cases q : H c with
      | none => rfl
      | some o => exact absurd h1 (a.dfn c (by rw [q]; exact fun z => by cases z))
  strm := fun X0 hX h => b.strm X0 hX (a.strm X0 hX h)
  dfn := fun c h => b.dfn c (a.dfn c h)
theorem Stp.of_ext (pc : C p) (e : Ext K p H H') : Stp K p C H C H' where
  keep := fun b o h => by
    rcases e.keep b o h with h1 | ⟨rfl, h1⟩
    · exact .inl h1
    · exact .inr ⟨pc, h1⟩
  cs := fun _ h => .inl h
  strm := fun X0 hX h => e.strm _ (.inl hX) h
  dfn := fun _ h => e.some h
theorem Stp.sqT (e : Stp K p C H C' H') {a : Addr} {xs : List V} (h : SqT K H a xs) : SqT K H' a xs := by
  have kp : ∀ o, H a = some o → (∀ l, o ≠ .lst l) → H' a = some o := fun o ho hn => by
    rcases e.keep a o ho with h1 | ⟨_, l, h1⟩
    · exact h1
    · exact absurd h1 (hn l)
  rcases h with (h | ⟨o, h⟩) | h
  · exact .inl (.inl (kp _ h fun l z => by cases z))
  · exact .inl (.inr ⟨o, kp _ h fun l z => by cases z⟩)
  · exact .inr h
theorem Stp.lst (e : Stp K p C H C' H') {a : Addr} {xs : List V} (hx : ¬ C a) (h : H a = some (.lst xs)) : ¬ C' a ∧ H' a = some (.lst xs) := by
  refine ⟨fun z => ?_, ?_⟩
  · rcases e.cs a z with h1 | h1
    · exact hx h1
    · rw [h] at h1; cases h1
  · rcases e.keep a _ h with h1 | ⟨h1, _⟩
    · exact h1
    · exact absurd h1 hx
theorem rep_stp (px : X0 p) (e : Stp K p C H C' H') {d : D} {v : V} (h : Rep K p (fun a => X0 a ∨ C a) H d v) : Rep K p (fun a => X0 a ∨ C' a) H' d v :=
  rep_to (fun a vs hx h1 => by
    obtain ⟨h2, h3⟩ := e.lst (fun z => hx (.inr z)) h1
    exact ⟨fun z => z.elim (fun z => hx (.inl z)) h2, h3⟩) (fun _ _ h => e.sqT h) (e.strm X0 px) d v h
theorem reps_stp (px : X0 p) (e : Stp K p C H C' H') {ds : List D} {vs : List V} (h : Reps K p (fun a => X0 a ∨ C a) H ds vs) : Reps K p (fun a => X0 a ∨ C' a) H' ds vs :=
  reps_to (fun a vs hx h1 => by
    obtain ⟨h2, h3⟩ := e.lst (fun z => hx (.inr z)) h1
    exact ⟨fun z => z.elim (fun z => hx (.inl z)) h2, h3⟩) (fun _ _ h => e.sqT h) (e.strm X0 px) ds vs h
theorem Nv.ext (n : Nv K p X0 C H σ δ) (e : Ext K p H H') : Nv K p X0 C H' σ δ where
  px := n.px
  pc := n.pc
  gd := fun a h => e.some (n.gd a h)
  len := n.len
  sl := fun i s h => by
    have q := n.sl i s h
    cases s with
    | no => trivial
    | val d =>
      obtain ⟨x, h1, h2⟩ := q
      exact ⟨x, h1, rep_ext (.inl n.px) e h2⟩
    | own l =>
      obtain ⟨a, vs, h1, h2, h3, h4, h5, h6⟩ := q
      exact ⟨a, vs, h1, h2, h3, e.other h4 (.inl fun z => h3 (z ▸ n.px)), h5, reps_ext (.inl n.px) e h6⟩
  dis := n.dis
theorem Nv.xp (n : Nv K p X0 C H σ δ) : (fun a => X0 a ∨ C a) p := .inl n.px
/-- an address that is new is no excluded one -/
theorem Nv.fresh (n : Nv K p X0 C H σ δ) {q : Addr} (h : H q = none) : ¬ (X0 q ∨ C q) := fun z => n.gd q z h
theorem Nv.val (n : Nv K p X0 C H σ δ) {i : Nat} {d : D} (h : δ[i]? = some (.val d)) : ∃ x, σ[i]? = some (some x) ∧ Rep K p (fun a => X0 a ∨ C a) H d x := by
  obtain ⟨x, h1, h2⟩ := n.sl i _ h
  refine ⟨x, ?_, h2⟩
  cases e : σ[i]? with
  | none => rw [e] at h1; cases h1
  | some y => rw [e] at h1; cases (show y = some x from h1); rfl
theorem Nv.own (n : Nv K p X0 C H σ δ) {i : Nat} {l : List D} (h : δ[i]? = some (.own l)) : ∃ a vs, σ[i]? = some (some (.ref a)) ∧ C a ∧ ¬ X0 a ∧ H a = some (.lst vs) ∧ l.length ≤ lim ∧ Reps K p (fun a => X0 a ∨ C a) H l vs := by
  obtain ⟨a, vs, h1, h2⟩ := n.sl i _ h
  refine ⟨a, vs, ?_, h2⟩
  cases e : σ[i]? with
  | none => rw [e] at h1; cases h1
  | some y => rw [e] at h1; cases (show y = some _ from h1); rfl
/-- a slot is stored with data -/
theorem Nv.set (n : Nv K p X0 C H σ δ) {i : Nat} {d : D} {x : V} (h : Rep K p (fun a => X0 a ∨ C a) H d x) : Nv K p X0 C H (σ.set i (some x)) (δ.set i (.val d)) where
  px := n.px
  pc := n.pc
  gd := n.gd
  len := by rw [List.length_set, List.length_set]; exact n.len
  sl := fun j s hj => by
    by_cases e : i = j
    · subst e
      have hi : i < δ.length := by have := (List.getElem?_eq_some_iff.mp hj).1; rw [List.length_set] at this; exact this
      rw [List.getElem?_set_self hi] at hj
      cases hj
      rw [List.getElem?_set_self (by rw [← n.len]; exact hi)]
      exact ⟨x, rfl, h⟩
    · rw [List.getElem?_set_ne e] at hj ⊢
      exact n.sl j s hj
  dis := fun j k a l m h1 h2 h3 h4 => by
    by_cases ej : i = j
    · subst ej
      have hi : i < δ.length := by have := (List.getElem?_eq_some_iff.mp h1).1; rw [List.length_set] at this; exact this
      rw [List.getElem?_set_self hi] at h1; cases h1
    · by_cases ek : i = k
      · subst ek
        have hi : i < δ.length := by have := (List.getElem?_eq_some_iff.mp h3).1; rw [List.length_set] at this; exact this
        rw [List.getElem?_set_self hi] at h3; cases h3
      · rw [List.getElem?_set_ne ej] at h1 h2
        rw [List.getElem?_set_ne ek] at h3 h4
        exact n.dis j k a l m h1 h2 h3 h4
/-- what is known of a slot is forgotten -/
theorem Nv.forget (n : Nv K p X0 C H σ δ) {i : Nat} {v : Option V} : Nv K p X0 C H (σ.set i v) (δ.set i .no) where
  px := n.px
  pc := n.pc
  gd := n.gd
  len := by rw [List.length_set, List.length_set]; exact n.len
  sl := fun j s hj => by
    by_cases e : i = j
    · subst e
      have hi : i < δ.length := by have := (List.getElem?_eq_some_iff.mp hj).1; rw [List.length_set] at this; exact this
      rw [List.getElem?_set_self hi] at hj
      cases hj
      trivial
    · rw [List.getElem?_set_ne e] at hj ⊢
      exact n.sl j s hj
  dis := fun j k a l m h1 h2 h3 h4 => by
    by_cases ej : i = j
    · subst ej
      have hi : i < δ.length := by have := (List.getElem?_eq_some_iff.mp h1).1; rw [List.length_set] at this; exact this
      rw [List.getElem?_set_self hi] at h1; cases h1
    · by_cases ek : i = k
      · subst ek
        have hi : i < δ.length := by have := (List.getElem?_eq_some_iff.mp h3).1; rw [List.length_set] at this; exact this
        rw [List.getElem?_set_self hi] at h3; cases h3
      · rw [List.getElem?_set_ne ej] at h1 h2
        rw [List.getElem?_set_ne ek] at h3 h4
        exact n.dis j k a l m h1 h2 h3 h4
end
end Dv

namespace Dv
open PySem PySem.Spec PyProof.Rows L2

/-! ### the logic: what holds of all outcomes -/
section
variable (K : PySem.W.Frag)
def EvN (te : TE) (δ : List Sl) (R : D → Prop) : Prop := ∀ (p : Addr) (X0 C : Addr → Prop) (H : Hp) (σ : L2.St) (Q : VK), Nv K p X0 C H σ δ →
  (∀ v H' d, Ext K p H H' → Rep K p (fun a => X0 a ∨ C a) H' d v → R d → Q v H') → te σ H Q
def TsN (tt : TT) (δ : List Sl) (R : Bool → Prop) : Prop := ∀ (p : Addr) (X0 C : Addr → Prop) (H : Hp) (σ : L2.St) (Q : Bool → Hp → Prop), Nv K p X0 C H σ δ →
  (∀ b H', Ext K p H H' → R b → Q b H') → tt σ H Q
def ANv (ta : TA) (δ : List Sl) (R : List D → Prop) : Prop := ∀ (p : Addr) (X0 C : Addr → Prop) (H : Hp) (σ : L2.St) (Q : List V → Hp → Prop), Nv K p X0 C H σ δ →
  (∀ vs H' ds, Ext K p H H' → Reps K p (fun a => X0 a ∨ C a) H' ds vs → R ds → Q vs H') → ta σ H Q
def PoN (to : TO) (δ : List Sl) (R : Option Int → Prop) : Prop := ∀ (p : Addr) (X0 C : Addr → Prop) (H : Hp) (σ : L2.St) (Q : Option Int → Hp → Prop), Nv K p X0 C H σ δ →
  (∀ o H', Ext K p H H' → R o → Q o H') → to σ H Q
/-- an operation on two values; on a list of values -/
def OpN (r : R2) (x y : D) (R : D → Prop) : Prop := ∀ (p : Addr) (X : Addr → Prop) (H : Hp) (v w : V) (Q : VK), X p → (∀ a, X a → H a ≠ none) → Rep K p X H x v → Rep K p X H y w →
  (∀ z H' d, Ext K p H H' → Rep K p X H' d z → R d → Q z H') → r v w H Q
def UnN (r : V → Hp → VK → Prop) (x : D) (R : D → Prop) : Prop := ∀ (p : Addr) (X : Addr → Prop) (H : Hp) (v : V) (Q : VK), X p → (∀ a, X a → H a ≠ none) → Rep K p X H x v →
  (∀ z H' d, Ext K p H H' → Rep K p X H' d z → R d → Q z H') → r v H Q
def CaN (r : List V → Hp → VK → Prop) (xs : List D) (R : D → Prop) : Prop := ∀ (p : Addr) (X : Addr → Prop) (H : Hp) (vs : List V) (Q : VK), X p → (∀ a, X a → H a ≠ none) → Reps K p X H xs vs →
  (∀ z H' d, Ext K p H H' → Rep K p X H' d z → R d → Q z H') → r vs H Q
structure Ks where
  nx : List Sl → Prop
  rt : D → Prop
  bk : List Sl → Prop := fun _ => False
  ct : List Sl → Prop := fun _ => False
def StN (ts : TS) (δ : List Sl) (k : Ks) : Prop := ∀ (p : Addr) (X0 C : Addr → Prop) (H : Hp) (σ : L2.St) (N : Ends), Nv K p X0 C H σ δ →
  (∀ C' H' σ' δ', Stp K p C H C' H' → Nv K p X0 C' H' σ' δ' → k.nx δ' → N.nx σ' H') →
  (∀ C' H' v d, Stp K p C H C' H' → Rep K p X0 H' d v → k.rt d → N.rt v H') →
  (∀ C' H' σ' δ', Stp K p C H C' H' → Nv K p X0 C' H' σ' δ' → k.bk δ' → N.bk σ' H') →
  (∀ C' H' σ' δ', Stp K p C H C' H' → Nv K p X0 C' H' σ' δ' → k.ct δ' → N.ct σ' H') → ts N σ H
/-- a def's promise: W ds R says what must hold of the arguments so that every answer satisfies R -/
def spN (W : List D → (D → Prop) → Prop) : Sp := fun vs H Q _ => ∃ (p : Addr) (X : Addr → Prop) (ds : List D) (R : D → Prop), X p ∧ (∀ a, X a → H a ≠ none) ∧ Reps K p X H ds vs ∧ W ds R ∧
  ∀ v H' d, Ext K p H H' → Rep K p X H' d v → R d → Q v H'
end

section
variable {K : PySem.W.Frag} {δ : List Sl} {R R' : D → Prop} {te ta tb tc tx : TE} {t u : TT}
theorem EvN.mono (h : EvN K te δ R) (i : ∀ d, R d → R' d) : EvN K te δ R' := fun p X0 C H σ Q n q => h p X0 C H σ Q n fun v H' d e r z => q v H' d e r (i d z)
theorem TsN.mono {R R' : Bool → Prop} (h : TsN K t δ R) (i : ∀ d, R d → R' d) : TsN K t δ R' := fun p X0 C H σ Q n q => h p X0 C H σ Q n fun b H' e z => q b H' e (i b z)
theorem ANv.mono {ta : TA} {R R' : List D → Prop} (h : ANv K ta δ R) (i : ∀ d, R d → R' d) : ANv K ta δ R' := fun p X0 C H σ Q n q => h p X0 C H σ Q n fun v H' d e r z => q v H' d e r (i d z)
theorem en_var {i : Nat} {d : D} (h : δ[i]? = some (.val d)) (q : R d) : EvN K (tVar i) δ R := fun p X0 C H σ Q n k => by
  obtain ⟨x, h1, h2⟩ := n.val h
  exact ⟨x, h1, k x H d (Ext.refl H) h2 q⟩
theorem en_int {i : Int} (q : R (.int i)) : EvN K (tC (.int i)) δ R := fun p X0 C H σ Q n k => k _ H (.int i) (Ext.refl H) rfl q
theorem en_bl {b : Bool} (q : R (.bl b)) : EvN K (tC (.bl b)) δ R := fun p X0 C H σ Q n k => k _ H (.bl b) (Ext.refl H) rfl q
theorem en_non (q : R .non) : EvN K (tC .non) δ R := fun p X0 C H σ Q n k => k _ H .non (Ext.refl H) rfl q
theorem en_str {s : Str} (hs : s.length ≤ lim) (q : R (.str s)) : EvN K (tC (.str s)) δ R := fun p X0 C H σ Q n k => k _ H (.str s) (Ext.refl H) ⟨rfl, hs⟩ q
/-- a constant of the written part -/
theorem en_k {v : V} {d : D} (h : ∀ p X H, Rep K p X H d v) (q : R d) : EvN K (tC v) δ R := fun p X0 C H σ Q n k => k v H d (Ext.refl H) (h p _ H) q
theorem en_op {r : R2} (h : EvN K ta δ fun x => EvN K tb δ fun y => OpN K r x y R) : EvN K (tOp r ta tb) δ R := fun p X0 C H σ Q n k =>
  h p X0 C H σ _ n fun v H1 x e1 r1 h1 => h1 p X0 C H1 σ _ (n.ext e1) fun w H2 y e2 r2 h2 =>
    h2 p _ H2 v w Q n.xp ((n.ext e1).ext e2).gd (rep_ext n.xp e2 r1) r2 fun z H3 d e3 r3 q => k z H3 d ((e1.trans e2).trans e3) r3 q
theorem en_un {r : V → Hp → VK → Prop} (h : EvN K ta δ fun x => UnN K r x R) : EvN K (tUn r ta) δ R := fun p X0 C H σ Q n k =>
  h p X0 C H σ _ n fun v H1 x e1 r1 h1 => h1 p _ H1 v Q n.xp (n.ext e1).gd r1 fun z H3 d e3 r3 q => k z H3 d (e1.trans e3) r3 q
theorem en_chain {r r' : R2} (h : EvN K ta δ fun x => EvN K tb δ fun y => OpN K r x y fun z => ∃ b, z = .bl b ∧ if b = true then EvN K tc δ fun w => OpN K r' y w R else R (.bl false)) : EvN K (tChain r r' ta tb tc) δ R := fun p X0 C H σ Q n k =>
  h p X0 C H σ _ n fun v H1 x e1 r1 h1 => h1 p X0 C H1 σ _ (n.ext e1) fun w H2 y e2 r2 h2 =>
    h2 p _ H2 v w _ n.xp ((n.ext e1).ext e2).gd (rep_ext n.xp e2 r1) r2 fun z H3 d e3 r3 q => by
      obtain ⟨b, rfl, q⟩ := q
      refine ⟨b, r3, ?_⟩
      cases b with
      | true =>
        refine iteT ?_
        rw [if_pos rfl] at q
        exact q p X0 C H3 σ _ (((n.ext e1).ext e2).ext e3) fun w' H4 y' e4 r4 h4 =>
          h4 p _ H4 w w' Q n.xp ((((n.ext e1).ext e2).ext e3).ext e4).gd (rep_ext n.xp (e3.trans e4) r2) r4 fun z H5 d e5 r5 q => k z H5 d ((((e1.trans e2).trans e3).trans e4).trans e5) r5 q
      | false =>
        refine iteF ?_
        rw [if_neg Bool.false_ne_true] at q
        exact k _ H3 (.bl false) ((e1.trans e2).trans e3) rfl q
theorem en_and (h : EvN K ta δ fun x => ∃ b, x = .bl b ∧ if b = true then EvN K tb δ R else R (.bl false)) : EvN K (tAndV ta tb) δ R := fun p X0 C H σ Q n k =>
  h p X0 C H σ _ n fun v H1 x e1 r1 ⟨b, hb, q⟩ => by
    subst hb
    refine ⟨b, r1, ?_⟩
    cases b with
    | true =>
      refine iteT ?_
      rw [if_pos rfl] at q
      exact q p X0 C H1 σ Q (n.ext e1) fun z H3 d e3 r3 q => k z H3 d (e1.trans e3) r3 q
    | false =>
      refine iteF ?_
      rw [if_neg Bool.false_ne_true] at q
      exact k _ H1 (.bl false) e1 rfl q
theorem en_or (h : EvN K ta δ fun x => ∃ b, x = .bl b ∧ if b = true then R (.bl true) else EvN K tb δ R) : EvN K (tOrV ta tb) δ R := fun p X0 C H σ Q n k =>
  h p X0 C H σ _ n fun v H1 x e1 r1 ⟨b, hb, q⟩ => by
    subst hb
    refine ⟨b, r1, ?_⟩
    cases b with
    | true =>
      refine iteT ?_
      rw [if_pos rfl] at q
      exact k _ H1 (.bl true) e1 rfl q
    | false =>
      refine iteF ?_
      rw [if_neg Bool.false_ne_true] at q
      exact q p X0 C H1 σ Q (n.ext e1) fun z H3 d e3 r3 q => k z H3 d (e1.trans e3) r3 q
theorem en_not (h : EvN K ta δ fun x => ∃ b, x = .bl b ∧ R (.bl !b)) : EvN K (tNotV ta) δ R := fun p X0 C H σ Q n k =>
  h p X0 C H σ _ n fun v H1 x e1 r1 ⟨b, hb, q⟩ => by
    subst hb
    exact ⟨b, r1, k _ H1 (.bl !b) e1 rfl q⟩
theorem en_if (h : TsN K t δ fun b => if b = true then EvN K ta δ R else EvN K tb δ R) : EvN K (tIf t ta tb) δ R := fun p X0 C H σ Q n k =>
  h p X0 C H σ _ n fun b H1 e1 q => by
    cases b with
    | true =>
      refine iteT ?_
      rw [if_pos rfl] at q
      exact q p X0 C H1 σ Q (n.ext e1) fun z H3 d e3 r3 q => k z H3 d (e1.trans e3) r3 q
    | false =>
      refine iteF ?_
      rw [if_neg Bool.false_ne_true] at q
      exact q p X0 C H1 σ Q (n.ext e1) fun z H3 d e3 r3 q => k z H3 d (e1.trans e3) r3 q
theorem tn_test {R : Bool → Prop} (h : EvN K ta δ fun x => ∃ b, x = .bl b ∧ R b) : TsN K (tTest ta) δ R := fun p X0 C H σ Q n k =>
  h p X0 C H σ _ n fun v H1 x e1 r1 ⟨b, hb, q⟩ => by
    subst hb
    exact ⟨b, r1, k b H1 e1 q⟩
theorem tn_B {R : Bool → Prop} (h : EvN K ta δ fun x => ∃ b, x = .bl b ∧ R b) : TsN K (tB ta) δ R := fun p X0 C H σ Q n k =>
  h p X0 C H σ _ n fun v H1 x e1 r1 ⟨b, hb, q⟩ => by
    subst hb
    exact ⟨b, r1, k b H1 e1 q⟩
theorem tn_and {R : Bool → Prop} (h : TsN K t δ fun b => if b = true then TsN K u δ R else R false) : TsN K (tAnd t u) δ R := fun p X0 C H σ Q n k =>
  h p X0 C H σ _ n fun b H1 e1 q => by
    cases b with
    | true =>
      refine iteT ?_
      rw [if_pos rfl] at q
      exact q p X0 C H1 σ Q (n.ext e1) fun b H3 e3 q => k b H3 (e1.trans e3) q
    | false =>
      refine iteF ?_
      rw [if_neg Bool.false_ne_true] at q
      exact k false H1 e1 q
theorem tn_or {R : Bool → Prop} (h : TsN K t δ fun b => if b = true then R true else TsN K u δ R) : TsN K (tOr t u) δ R := fun p X0 C H σ Q n k =>
  h p X0 C H σ _ n fun b H1 e1 q => by
    cases b with
    | true =>
      refine iteT ?_
      rw [if_pos rfl] at q
      exact k true H1 e1 q
    | false =>
      refine iteF ?_
      rw [if_neg Bool.false_ne_true] at q
      exact q p X0 C H1 σ Q (n.ext e1) fun b H3 e3 q => k b H3 (e1.trans e3) q
theorem tn_not {R : Bool → Prop} (h : TsN K t δ fun b => R !b) : TsN K (tNot t) δ R := fun p X0 C H σ Q n k =>
  h p X0 C H σ _ n fun b H1 e1 q => k (!b) H1 e1 q
theorem an_nil {R : List D → Prop} (q : R []) : ANv K tNil δ R := fun p X0 C H σ Q n k => k [] H [] (Ext.refl H) rfl q
theorem an_cons {tr : TA} {R : List D → Prop} (h : EvN K ta δ fun x => ANv K tr δ fun xs => R (x :: xs)) : ANv K (tCons ta tr) δ R := fun p X0 C H σ Q n k =>
  h p X0 C H σ _ n fun v H1 x e1 r1 h1 => h1 p X0 C H1 σ _ (n.ext e1) fun ws H2 ys e2 r2 h2 => k _ H2 _ (e1.trans e2) (reps_cons (rep_ext n.xp e2 r1) r2) h2
theorem en_tup {ta : TA} (h : ANv K ta δ fun ds => ds.length ≤ lim ∧ R (.tup ds)) : EvN K (tTup ta) δ R := fun p X0 C H σ Q n k =>
  h p X0 C H σ _ n fun vs H1 ds e1 r1 ⟨hl, q⟩ => by
    have hv := reps_len r1
    refine ⟨lim_line (by rw [hv]; omega), fun q' hq => ?_⟩
    have e2 : Ext K p H1 (upd H1 q' (.tup vs)) := Ext.new hq
    exact k _ _ (.tup ds) (e1.trans e2) ⟨q', vs, rfl, SqT.of upd_same, hl, reps_ext n.xp e2 r1⟩ q
theorem en_lst {ta : TA} (h : ANv K ta δ fun ds => ds.length ≤ lim ∧ R (.lst ds)) : EvN K (tLst ta) δ R := fun p X0 C H σ Q n k =>
  h p X0 C H σ _ n fun vs H1 ds e1 r1 ⟨hl, q⟩ => by
    have hv := reps_len r1
    refine ⟨lim_line (by rw [hv]; omega), fun q' hq => ?_⟩
    have e2 : Ext K p H1 (upd H1 q' (.lst vs)) := Ext.new hq
    exact k _ _ (.lst ds) (e1.trans e2) ⟨q', vs, rfl, (n.ext e1).fresh hq, upd_same, hl, reps_ext n.xp e2 r1⟩ q
theorem en_cb {r : List V → Hp → VK → Prop} {ta : TA} (h : ANv K ta δ fun ds => CaN K r ds R) : EvN K (tCB r ta) δ R := fun p X0 C H σ Q n k =>
  h p X0 C H σ _ n fun vs H1 ds e1 r1 h1 => h1 p _ H1 vs Q n.xp (n.ext e1).gd r1 fun z H3 d e3 r3 q => k z H3 d (e1.trans e3) r3 q
theorem en_call {W : List D → (D → Prop) → Prop} {E : XK} {ta : TA} {dd : List D} {dvs : List V} (h : ANv K ta δ fun ds => W (ds ++ dd) R) (hd : ∀ p X H, Reps K p X H dd dvs) : EvN K (tCall (spN K W) dvs E ta) δ R := fun p X0 C H σ Q n k =>
  h p X0 C H σ _ n fun vs H1 ds e1 r1 h1 => ⟨p, _, ds ++ dd, R, n.xp, (n.ext e1).gd, reps_app r1 (hd p _ H1), h1, fun z H3 d e3 r3 q => k z H3 d (e1.trans e3) r3 q⟩
theorem en_call0 {W : List D → (D → Prop) → Prop} {E : XK} {ta : TA} (h : ANv K ta δ fun ds => W ds R) : EvN K (tCall (spN K W) [] E ta) δ R :=
  en_call (dd := []) (h.mono fun ds q => by rw [List.append_nil]; exact q) fun _ _ _ => rfl
theorem pon_none {R : Option Int → Prop} (q : R none) : PoN K tNoPart δ R := fun p X0 C H σ Q n k => k none H (Ext.refl H) q
theorem pon_some {R : Option Int → Prop} (h : EvN K ta δ fun x => ∃ i, x = .int i ∧ R (some i)) : PoN K (tPart ta) δ R := fun p X0 C H σ Q n k =>
  h p X0 C H σ _ n fun v H1 x e1 r1 ⟨i, hi, q⟩ => by
    subst hi
    exact ⟨i, r1, k _ H1 e1 q⟩
def SlN (K : PySem.W.Frag) (r : V → Option Int → Option Int → Hp → VK → Prop) (x : D) (lo hi : Option Int) (R : D → Prop) : Prop := ∀ (p : Addr) (X : Addr → Prop) (H : Hp) (v : V) (Q : VK), X p → (∀ a, X a → H a ≠ none) → Rep K p X H x v →
  (∀ z H' d, Ext K p H H' → Rep K p X H' d z → R d → Q z H') → r v lo hi H Q
theorem en_sl {r : V → Option Int → Option Int → Hp → VK → Prop} {tl th : TO} (h : EvN K te δ fun x => PoN K tl δ fun lo => PoN K th δ fun hi => SlN K r x lo hi R) : EvN K (tSl r te tl th) δ R := fun p X0 C H σ Q n k =>
  h p X0 C H σ _ n fun v H1 x e1 r1 h1 => h1 p X0 C H1 σ _ (n.ext e1) fun lo H2 e2 h2 => h2 p X0 C H2 σ _ ((n.ext e1).ext e2) fun hi H3 e3 h3 =>
    h3 p _ H3 v Q n.xp (((n.ext e1).ext e2).ext e3).gd (rep_ext n.xp (e2.trans e3) r1) fun z H4 d e4 r4 q => k z H4 d (((e1.trans e2).trans e3).trans e4) r4 q
end

/-! ### statements -/
section
variable {K : PySem.W.Frag} {δ : List Sl} {te ta tb : TE} {t : TT} {ts tu tw : TS} {k k' : Ks}
theorem StN.mono (h : StN K ts δ k) (hn : ∀ d, k.nx d → k'.nx d) (hr : ∀ d, k.rt d → k'.rt d) (hb : ∀ d, k.bk d → k'.bk d) (hc : ∀ d, k.ct d → k'.ct d) : StN K ts δ k' :=
  fun p X0 C H σ N n qn qr qb qc => h p X0 C H σ N n (fun C' H' σ' δ' s m z => qn C' H' σ' δ' s m (hn _ z)) (fun C' H' v d s r z => qr C' H' v d s r (hr _ z))
    (fun C' H' σ' δ' s m z => qb C' H' σ' δ' s m (hb _ z)) (fun C' H' σ' δ' s m z => qc C' H' σ' δ' s m (hc _ z))
theorem sn_seq (h : StN K ts δ { k with nx := fun δ' => StN K tu δ' k }) : StN K (tSeq ts tu) δ k := fun p X0 C H σ N n qn qr qb qc =>
  h p X0 C H σ { N with nx := tu N } n (fun C1 H1 σ1 δ1 s1 m1 z => z p X0 C1 H1 σ1 N m1
    (fun C' H' σ' δ' s m z => qn C' H' σ' δ' (s1.trans s) m z) (fun C' H' v d s r z => qr C' H' v d (s1.trans s) r z)
    (fun C' H' σ' δ' s m z => qb C' H' σ' δ' (s1.trans s) m z) (fun C' H' σ' δ' s m z => qc C' H' σ' δ' (s1.trans s) m z)) qr qb qc
theorem sn_next (h : k.nx δ) : StN K tNext δ k := fun p X0 C H σ N n qn qr qb qc => qn C H σ δ (Stp.refl C H) n h
theorem sn_break (h : k.bk δ) : StN K tBreak δ k := fun p X0 C H σ N n qn qr qb qc => qb C H σ δ (Stp.refl C H) n h
theorem sn_cont (h : k.ct δ) : StN K tCont δ k := fun p X0 C H σ N n qn qr qb qc => qc C H σ δ (Stp.refl C H) n h
theorem sn_ret (h : EvN K te δ k.rt) : StN K (tRet te) δ k := fun p X0 C H σ N n qn qr qb qc =>
  h p X0 C H σ _ n fun v H' d e r z => qr C H' v d (Stp.of_ext n.pc e) (rep_sub (fun a h => .inl h) r) z
theorem sn_drop (h : EvN K te δ fun _ => k.nx δ) : StN K (tDrop te) δ k := fun p X0 C H σ N n qn qr qb qc =>
  h p X0 C H σ _ n fun v H' d e r z => qn C H' σ δ (Stp.of_ext n.pc e) (n.ext e) z
theorem sn_asg {i : Nat} (h : EvN K te δ fun d => k.nx (δ.set i (.val d))) : StN K (tAsg te (gName i)) δ k := fun p X0 C H σ N n qn qr qb qc =>
  h p X0 C H σ _ n fun v H' d e r z => qn C H' _ _ (Stp.of_ext n.pc e) ((n.ext e).set r) z
theorem sn_if (h : TsN K t δ fun b => if b = true then StN K tu δ k else StN K tw δ k) : StN K (tIfS t tu tw) δ k := fun p X0 C H σ N n qn qr qb qc =>
  h p X0 C H σ _ n fun b H1 e1 z => by
    have s1 : Stp K p C H C H1 := Stp.of_ext n.pc e1
    have go : ∀ {ts : TS}, StN K ts δ k → ts N σ H1 := fun {ts} z => z p X0 C H1 σ N (n.ext e1) (fun C' H' σ' δ' s m z => qn C' H' σ' δ' (s1.trans s) m z) (fun C' H' v d s r z => qr C' H' v d (s1.trans s) r z)
      (fun C' H' σ' δ' s m z => qb C' H' σ' δ' (s1.trans s) m z) (fun C' H' σ' δ' s m z => qc C' H' σ' δ' (s1.trans s) m z)
    cases b with
    | true =>
      refine iteT ?_
      rw [if_pos rfl] at z
      exact go z
    | false =>
      refine iteF ?_
      rw [if_neg Bool.false_ne_true] at z
      exact go z
/-- a new list that this def goes on changing -/
theorem sn_own {i : Nat} {ta : TA} (h : ANv K ta δ fun ds => ds.length ≤ lim ∧ k.nx (δ.set i (.own ds))) (hi : i < δ.length) : StN K (tAsg (tLst ta) (gName i)) δ k := fun p X0 C H σ N n qn qr qb qc =>
  h p X0 C H σ _ n fun vs H1 ds e1 r1 ⟨hl, z⟩ => by
    have hv := reps_len r1
    refine ⟨lim_line (by rw [hv]; omega), fun q hq => ?_⟩
    have e2 : Ext K p H1 (upd H1 q (.lst vs)) := Ext.new hq
    have n1 := n.ext e1
    have n2 := n1.ext e2
    have nq : ¬ (X0 q ∨ C q) := n1.fresh hq
    have s2 : Stp K p C H1 (fun a => C a ∨ a = q) (upd H1 q (.lst vs)) := by
      refine ⟨fun b o hb => .inl (Same.new hq b o hb), fun b hb => hb.elim .inl fun z => .inr (z ▸ hq), fun Y hY ⟨b, ns, c, w, w1, w2, w3⟩ => ?_, fun b hb => e2.some hb⟩
      refine ⟨b, ns, c, w, ?_, Same.new hq _ _ w2, Same.new hq _ _ w3.1, w3.2⟩
      rintro (z | z | z)
      · exact w1 (.inl z)
      · exact w1 (.inr z)
      · subst z
        rw [hq] at w3
        cases w3.1
    have hσ : i < σ.length := by rw [← n.len]; exact hi
    refine qn (fun a => C a ∨ a = q) _ _ _ ((Stp.of_ext n.pc e1).trans s2) ?_ z
    refine ⟨n.px, .inl n.pc, fun a ha => ?_, by rw [List.length_set, List.length_set]; exact n.len, fun j s hj => ?_, fun j l a m m' h1 h2 h3 h4 => ?_⟩
    · rcases ha with ha | ha | ha
      · exact n2.gd a (.inl ha)
      · exact n2.gd a (.inr ha)
      · rw [ha, upd_same]; exact fun z => by cases z
    · by_cases e : i = j
      · subst e
        rw [List.getElem?_set_self hi] at hj
        cases hj
        rw [List.getElem?_set_self hσ]
        exact ⟨q, vs, rfl, .inr rfl, fun z => nq (.inl z), upd_same, hl, reps_stp n.px s2 r1⟩
      · rw [List.getElem?_set_ne e] at hj ⊢
        have w := n1.sl j s hj
        cases s with
        | no => trivial
        | val d =>
          obtain ⟨x, w1, w2⟩ := w
          exact ⟨x, w1, rep_stp n.px s2 w2⟩
        | own l =>
          obtain ⟨a, ws, w1, w2, w3, w4, w5, w6⟩ := w
          exact ⟨a, ws, w1, .inl w2, w3, Same.new hq _ _ w4, w5, reps_stp n.px s2 w6⟩
    · have key : ∀ j (m : List D) (a : Addr), i ≠ j → (δ.set i (.own ds))[j]? = some (.own m) → (σ.set i (some (.ref q)))[j]? = some (some (.ref a)) → a ≠ q := fun j m a e h1 h2 => by
        rw [List.getElem?_set_ne e] at h1 h2
        obtain ⟨b, ws, w1, w2, w3, w4, _⟩ := n1.own h1
        rw [h2] at w1
        cases w1
        intro z
        exact nq (.inr (z ▸ w2))
      by_cases ej : i = j
      · by_cases ek : i = l
        · exact ej.symm.trans ek
        · have := key l m' a ek h3 h4
          subst ej
          rw [List.getElem?_set_self hσ] at h2
          cases h2
          exact absurd rfl this
      · by_cases ek : i = l
        · have := key j m a ej h1 h2
          subst ek
          rw [List.getElem?_set_self hσ] at h4
          cases h4
          exact absurd rfl this
        · rw [List.getElem?_set_ne ej] at h1 h2
          rw [List.getElem?_set_ne ek] at h3 h4
          exact n.dis j l a m m' h1 h2 h3 h4
/-- a list of the def's own is changed no more: from here on it is data -/
theorem sn_freeze {i : Nat} {l : List D} (hi : δ[i]? = some (.own l)) (h : StN K ts (δ.set i (.val (.lst l))) k) : StN K ts δ k := fun p X0 C H σ N n qn qr qb qc => by
  obtain ⟨a, vs, h1, h2, h3, h4, h5, h6⟩ := n.own hi
  have hil := (List.getElem?_eq_some_iff.mp hi).1
  have ap : a ≠ p := fun z => h3 (z ▸ n.px)
  have sub : ∀ b, (X0 b ∨ (C b ∧ b ≠ a)) → X0 b ∨ C b := fun b hb => hb.elim .inl fun z => .inr z.1
  have n' : Nv K p X0 (fun b => C b ∧ b ≠ a) H σ (δ.set i (.val (.lst l))) := by
    refine ⟨n.px, ⟨n.pc, ap.symm⟩, fun b hb => n.gd b (sub b hb), by rw [List.length_set]; exact n.len, fun j s hj => ?_, fun j m b l1 l2 w1 w2 w3 w4 => ?_⟩
    · by_cases e : i = j
      · subst e
        rw [List.getElem?_set_self hil] at hj
        cases hj
        rw [h1]
        exact ⟨_, rfl, a, vs, rfl, fun z => z.elim h3 fun z => z.2 rfl, h4, h5, reps_sub sub h6⟩
      · rw [List.getElem?_set_ne e] at hj
        have w := n.sl j s hj
        cases s with
        | no => trivial
        | val d =>
          obtain ⟨x, w1, w2⟩ := w
          exact ⟨x, w1, rep_sub sub w2⟩
        | own l' =>
          obtain ⟨b, ws, w1, w2, w3, w4, w5, w6⟩ := w
          refine ⟨b, ws, w1, ⟨w2, fun z => e ?_⟩, w3, w4, w5, reps_sub sub w6⟩
          subst z
          refine n.dis i j b l l' hi h1 hj ?_
          cases q : σ[j]? with
          | none => rw [q] at w1; cases w1
          | some y => rw [q] at w1; cases (show y = some _ from w1); rfl
    · by_cases ej : i = j
      · subst ej; rw [List.getElem?_set_self hil] at w1; cases w1
      · by_cases em : i = m
        · subst em; rw [List.getElem?_set_self hil] at w3; cases w3
        · rw [List.getElem?_set_ne ej] at w1
          rw [List.getElem?_set_ne em] at w3
          exact n.dis j m b l1 l2 w1 w2 w3 w4
  have s0 : Stp K p C H (fun b => C b ∧ b ≠ a) H := ⟨fun _ _ z => .inl z, fun _ z => .inl z.1, fun Y _ ⟨b, ns, c, w, w1, w2⟩ => ⟨b, ns, c, w, fun z => w1 (z.elim .inl fun z => .inr z.1), w2⟩, fun _ z => z⟩
  exact h p X0 _ H σ N n' (fun C' H' σ' δ' s m z => qn C' H' σ' δ' (s0.trans s) m z) (fun C' H' v d s r z => qr C' H' v d (s0.trans s) r z)
    (fun C' H' σ' δ' s m z => qb C' H' σ' δ' (s0.trans s) m z) (fun C' H' σ' δ' s m z => qc C' H' σ' δ' (s0.trans s) m z)
/-- own.append(e) -/
theorem sn_append {i : Nat} {l : List D} (hi : δ[i]? = some (.own l)) (hl : l.length < lim) (h : EvN K te δ fun d => k.nx (δ.set i (.own (l ++ [d])))) : StN K (tDrop (tBM K "list" rAppend (tVar i) (tCons te tNil))) δ k := fun p X0 C H σ N n qn qr qb qc => by
  obtain ⟨a, vs, h1, h2, h3, h4, h5, h6⟩ := n.own hi
  have hil := (List.getElem?_eq_some_iff.mp hi).1
  have ap : a ≠ p := fun z => h3 (z ▸ n.px)
  refine ⟨_, h1, .inl ⟨rfl, _, SqL.of h4⟩, h p X0 C H σ _ n fun v H1 d e1 r1 z => ?_⟩
  have n1 := n.ext e1
  have h4' : H1 a = some (.lst vs) := e1.other h4 (.inl ap)
  have h6' := reps_ext n.xp e1 h6
  have hv := reps_len h6
  refine ⟨a, vs, v, rfl, rfl, h4', lim_lt (by omega), ?_⟩
  have s2 : Stp K p C H1 C (upd H1 a (.lst (vs ++ [v]))) := by
    refine ⟨fun b o hb => ?_, fun b hb => .inl hb, fun Y hY ⟨b, ns, c, q, w1, w2, w3, w4⟩ => ?_, fun b hb => ?_⟩
    · by_cases e : b = a
      · subst e
        rw [h4'] at hb
        cases hb
        exact .inr ⟨h2, _, rfl⟩
      · exact .inl (by rw [upd_ne e]; exact hb)
    · have e : b ≠ a := fun z => w1 (.inr (z ▸ h2))
      refine ⟨b, ns, c, q, w1, by rw [upd_ne ap.symm]; exact w2, by rw [upd_ne e]; exact w3, w4⟩
    · by_cases e : b = a
      · rw [e, upd_same]; exact fun z => by cases z
      · rw [upd_ne e]; exact hb
  refine qn C _ _ _ ((Stp.of_ext n.pc e1).trans s2) ?_ z
  refine ⟨n.px, n.pc, fun b hb => s2.dfn b (n1.gd b hb), by rw [List.length_set]; exact n.len, fun j s hj => ?_, fun j m b l1 l2 w1 w2 w3 w4 => ?_⟩
  · by_cases e : i = j
    · subst e
      rw [List.getElem?_set_self hil] at hj
      cases hj
      rw [h1]
      exact ⟨a, _, rfl, h2, h3, upd_same, by rw [List.length_append]; exact hl, reps_app (reps_stp n.px s2 h6') (reps_one (rep_stp n.px s2 r1))⟩
    · rw [List.getElem?_set_ne e] at hj
      have w := n1.sl j s hj
      cases s with
      | no => trivial
      | val d =>
        obtain ⟨x, w1, w2⟩ := w
        exact ⟨x, w1, rep_stp n.px s2 w2⟩
      | own l' =>
        obtain ⟨b, ws, w1, w2, w3, w4, w5, w6⟩ := w
        have eb : b ≠ a := fun z => e (by
          subst z
          refine n.dis i j b l l' hi h1 hj ?_
          cases q : σ[j]? with
          | none => rw [q] at w1; cases w1
          | some y => rw [q] at w1; cases (show y = some _ from w1); rfl)
        exact ⟨b, ws, w1, w2, w3, by rw [upd_ne eb]; exact w4, w5, reps_stp n.px s2 w6⟩
  · have un : ∀ (j : Nat) (l1 : List D), (δ.set i (.own (l ++ [d])))[j]? = some (.own l1) → ∃ l2, δ[j]? = some (.own l2) := fun j l1 w => by
      by_cases ej : i = j
      · subst ej; exact ⟨l, hi⟩
      · rw [List.getElem?_set_ne ej] at w; exact ⟨l1, w⟩
    obtain ⟨y1, w1'⟩ := un j l1 w1
    obtain ⟨y2, w3'⟩ := un m l2 w3
    exact n.dis j m b y1 y2 w1' w2 w3' w4
end
end Dv

namespace Dv
open PySem PySem.Spec PyProof.Rows L2

/-! ### defs -/
def startD (N : List Str) (ds : List D) : List Sl := ds.map .val ++ List.replicate (N.length - ds.length) .no
section
variable {P : Program} {w : World} {K : PySem.W.Frag} {mg : Str → Option Value} {base : Heap}
theorem fn_N {x qual : Str} {st : Stmt} {f : Addr} {fd : FuncData} {N ps : List Str} {k : Nat} {W : List D → (D → Prop) → Prop} (F : Fun K x qual st f fd) (S : FnScope N ps (defScope st)) (ar : ∀ ds R, W ds R → ds.length = ps.length)
    (hb : ∀ (cdv : Value) (A : Around) (outer : List Env) (s : Shared) (H : Hp) (E : XK), Room k (A.deeper (envOfC qual (defScope st) s.heap.objs.size f cdv)) →
      ∃ t, PSs (cxOf CX0 P w K mg base N qual (defScope st) f cdv A outer s H E).nox (defBody st) t ∧ ∀ ds R, W ds R → StN K t (startD N ds) { nx := fun _ => R .non, rt := R }) :
    FnOk P w K mg base CX0 (k + 1) f fd ps (spN K W) := by
  refine F.ok S (fun vs H Q E h => ?_) fun cdv A outer s H vs Q E hr h => ?_
  · obtain ⟨p, X, ds, R, _, _, h3, h4, _⟩ := h
    rw [reps_len h3]
    exact ar ds R h4
  · obtain ⟨p, X, ds, R, px, gd, h3, h4, kq⟩ := h
    obtain ⟨t, h1, h2⟩ := hb cdv A outer s H E hr
    refine ⟨t, h1, ?_⟩
    have hl := reps_len h3
    have n : Nv K p X (fun a => a = p) H (L2.start N vs) (startD N ds) := by
      refine ⟨px, rfl, fun a ha => ha.elim (gd a) fun z => gd a (z ▸ px), ?_, fun i s hs => ?_, fun i j a l m q1 q2 q3 q4 => ?_⟩
      · unfold L2.start startD
        rw [List.length_append, List.length_append, List.length_map, List.length_map, List.length_replicate, List.length_replicate, hl]
      · unfold startD at hs
        unfold L2.start
        by_cases hi : i < ds.length
        · rw [List.getElem?_append_left (by rw [List.length_map]; exact hi), List.getElem?_map] at hs
          rw [List.getElem?_append_left (by rw [List.length_map, hl]; exact hi), List.getElem?_map]
          obtain ⟨v, hv, rv⟩ := reps_get h3 (List.getElem?_eq_getElem hi)
          rw [List.getElem?_eq_getElem hi] at hs
          cases hs
          rw [hv]
          exact ⟨v, rfl, rep_to (fun a vs hx h => ⟨fun z => z.elim hx fun z => hx (z ▸ px), h⟩) (fun _ _ h => h) (fun ⟨a, ns, c, q, w1, w2⟩ => ⟨a, ns, c, q, fun z => z.elim w1 fun z => w1 (z ▸ px), w2⟩) _ _ rv⟩
        · rw [List.getElem?_append_right (by rw [List.length_map]; omega)] at hs
          have := List.mem_of_getElem? hs
          rw [List.mem_replicate] at this
          rw [this.2]
          trivial
      · unfold startD at q1
        have := List.mem_of_getElem? q1
        rw [List.mem_append, List.mem_map, List.mem_replicate] at this
        rcases this with ⟨d, _, e⟩ | ⟨_, e⟩ <;> cases e
    have toExt : ∀ {C' : Addr → Prop} {H' : Hp}, Stp K p (fun a => a = p) H C' H' → Ext K p H H' := fun {C' H'} z =>
      ⟨fun b o hb => (z.keep b o hb).elim .inl fun y => .inr y, fun Y hY ⟨a, ns, c, q, w1, w2⟩ => by
        obtain ⟨a', ns', c', q', v1, v2⟩ := z.strm Y hY ⟨a, ns, c, q, fun u => u.elim w1 fun u => w1 (u ▸ hY), w2⟩
        exact ⟨a', ns', c', q', fun u => v1 (.inl u), v2⟩, fun hb => z.dfn p hb⟩
    exact h2 ds R h4 p X _ H _ { nx := fun _ H' => Q .non H', rt := Q } n (fun C' H' σ' δ' z m y => kq .non H' .non (toExt z) rfl y) (fun C' H' v d z r y => kq v H' d (toExt z) r y)
      (fun _ _ _ _ _ _ z => z.elim) (fun _ _ _ _ _ _ z => z.elim)
/-- a def of the text, as its callers know it: the name, the level, its parameters, the defaults, its promise -/
structure Kn (P : Program) (w : World) (K : PySem.W.Frag) (mg : Str → Option Value) (base : Heap) (x : Str) (k : Nat) (dvs : List V) (sp : Sp) : Prop where
  ex : ∃ (f : Addr) (fd : FuncData) (ps : List Str) (ds : List Value), FnOk P w K mg base CX0 k f fd ps sp ∧ mg x = some (.ref f) ∧ PySem.W.keepIn K (.ref f) = true ∧ Binds K fd ps ds ∧ Vals dvs ds
theorem pe_kn {X : Cx} {x : Str} {k j : Nat} {dvs : List V} {sp : Sp} {p pos : Pos} {e : Expr} {es : List Expr} {t : TA} (F : Kn X.prog X.w X.K X.mg X.base x k dvs sp) (hr : Room j X.A) (ha : PA X (e :: es) t) (hk : k ≤ j := by decide) (hg : Gl X x := by rfl)
    (hdb : (x == ("__debug__" : Str)) = false := by decide) (he : starEach (e :: es) X.env = (false, eval e X.env) :: starEach es X.env := by rfl) (hpl : (backTo pos (starEach es X.env)).any (·.1) = false := by rfl) :
    PE X (.Call (.Name x p) (e :: es) [] pos) (tCall sp dvs E0 t) := by
  obtain ⟨f, fd, ps, ds, G, hm, kp, b, v⟩ := F.ex
  exact pe_call G (hr.mono hk) hg hm kp b v pass0 ha hdb he hpl
end

/-! ### targets -/
section
variable (K : PySem.W.Frag)
def GN (g : TG) (vs : List Nat) (d : D) (δ : List Sl) (R : List Sl → Prop) : Prop := ∀ (p : Addr) (X0 C : Addr → Prop) (H : Hp) (σ : L2.St) (v : V) (Q : L2.St → Hp → Prop), Nv K p X0 C H σ δ → Rep K p (fun a => X0 a ∨ C a) H d v →
  (∀ σ' H' δ', Ext K p H H' → Nv K p X0 C H' σ' δ' → wipe σ' vs = wipe σ vs → R δ' → Q σ' H') → g v σ H Q
def GsN (g : TGs) (vs : List Nat) (ds : List D) (δ : List Sl) (R : List Sl → Prop) : Prop := ∀ (p : Addr) (X0 C : Addr → Prop) (H : Hp) (σ : L2.St) (ws : List V) (Q : L2.St → Hp → Prop), Nv K p X0 C H σ δ → Reps K p (fun a => X0 a ∨ C a) H ds ws →
  (∀ σ' H' δ', Ext K p H H' → Nv K p X0 C H' σ' δ' → wipe σ' vs = wipe σ vs → R δ' → Q σ' H') → g ws σ H Q
end
theorem wipe_at {σ : L2.St} {i : Nat} : ∀ {vs : List Nat}, (wipe σ vs)[i]? = if i ∈ vs then (if i < σ.length then some none else none) else σ[i]?
  | [] => by rw [if_neg (by simp)]; rfl
  | v :: vs => by
    unfold wipe
    by_cases e : v = i
    · subst e
      rw [if_pos List.mem_cons_self, List.getElem?_set, if_pos rfl, wipe_length]
    · rw [List.getElem?_set_ne e, wipe_at]
      by_cases h : i ∈ vs
      · rw [if_pos h, if_pos (List.mem_cons_of_mem _ h)]
      · rw [if_neg h, if_neg (fun z => (List.mem_cons.mp z).elim (fun z => e z.symm) h)]
theorem wipe_set {σ : L2.St} {i : Nat} {x : Option V} {vs : List Nat} (h : i ∈ vs) : wipe (σ.set i x) vs = wipe σ vs := by
  apply List.ext_getElem?
  intro j
  rw [wipe_at, wipe_at, List.length_set]
  by_cases e : j ∈ vs
  · rw [if_pos e, if_pos e]
  · rw [if_neg e, if_neg e, List.getElem?_set_ne (fun z : i = j => e (by rw [← z]; exact h))]
theorem wipe_wipe {σ : L2.St} {vs : List Nat} : wipe (wipe σ vs) vs = wipe σ vs := by
  apply List.ext_getElem?
  intro j
  rw [wipe_at, wipe_length, wipe_at]
  by_cases e : j ∈ vs
  · rw [if_pos e, if_pos e]
  · rw [if_neg e, if_neg e]
def wipeD (δ : List Sl) : List Nat → List Sl
  | [] => δ
  | v :: vs => (wipeD δ vs).set v .no
section
variable {K : PySem.W.Frag} {p : Addr} {X0 C : Addr → Prop} {H : Hp} {σ : L2.St} {δ : List Sl} {R : List Sl → Prop}
theorem Nv.wipe (n : Nv K p X0 C H σ δ) : ∀ vs : List Nat, Nv K p X0 C H (wipe σ vs) (wipeD δ vs)
  | [] => n
  | v :: vs => (Nv.wipe n vs).forget
theorem gn_name {i : Nat} {vs : List Nat} {d : D} (q : R (δ.set i (.val d))) (hi : i ∈ vs := by simp) : GN K (gName i) vs d δ R := fun p X0 C H σ v Q n r k => k _ H _ (Ext.refl H) (n.set r) (wipe_set hi) q
theorem gsn_nil {vs : List Nat} (q : R δ) : GsN K gNil vs [] δ R := fun p X0 C H σ ws Q n r k => ⟨r, k σ H δ (Ext.refl H) n rfl q⟩
theorem gsn_cons {g : TG} {u : TGs} {vs : List Nat} {d : D} {ds : List D} (h : GN K g vs d δ fun δ' => GsN K u vs ds δ' R) : GsN K (gCons g u) vs (d :: ds) δ R := fun p X0 C H σ ws Q n r k => by
  obtain ⟨v, vs', rfl, r1, r2⟩ := r
  exact ⟨v, vs', rfl, h p X0 C H σ v _ n r1 fun σ1 H1 δ1 e1 n1 w1 q1 => q1 p X0 C H1 σ1 vs' Q n1 (reps_ext n.xp e1 r2) fun σ2 H2 δ2 e2 n2 w2 q2 => k σ2 H2 δ2 (e1.trans e2) n2 (w2.trans w1) q2⟩
theorem gn_tup {u : TGs} {vs : List Nat} {ds : List D} {m : Nat} (hm : ds.length = m) (h : GsN K u vs ds δ R) : GN K (gTup K m u) vs (.tup ds) δ R := fun p X0 C H σ v Q n r k => by
  obtain ⟨a, ws, rfl, r1, _, r2⟩ := r
  exact ⟨a, ws, rfl, r1, (reps_len r2).trans hm, h p X0 C H σ ws Q n r2 k⟩
theorem sn_asgG {te : TE} {g : TG} {k : Ks} (vs : List Nat) (h : EvN K te δ fun d => GN K g vs d δ k.nx) : StN K (tAsg te g) δ k := fun p X0 C H σ N n qn qr qb qc =>
  h p X0 C H σ _ n fun v H' d e r z => z p X0 C H' σ v _ (n.ext e) r fun σ' H2 δ' e2 n2 _ y => qn C H2 σ' δ' ((Stp.of_ext n.pc e).trans (Stp.of_ext n.pc e2)) n2 y
end

/-! ### what is walked -/
/-- J gives the items l, whatever happens meanwhile to lists of C -/
structure Srv (K : PySem.W.Frag) (p : Addr) (X0 C : Addr → Prop) (H1 : Hp) (J : It) (l : List D) : Prop where
  ex : ∃ G Y, Walk J l.length G Y ∧ (∀ C' H', Stp K p C H1 C' H' → G H') ∧ ∀ i C' H x H', i < l.length → Stp K p C H1 C' H → Y i H x H' → Same H H' ∧ ∃ d, l[i]? = some d ∧ Rep K p (fun a => X0 a ∨ C' a) H' d x
def ItN (K : PySem.W.Frag) (wi : TI) (δ : List Sl) (R : List D → Prop) : Prop := ∀ (p : Addr) (X0 C : Addr → Prop) (H : Hp) (σ : L2.St) (Q : It → Hp → Prop), Nv K p X0 C H σ δ →
  (∀ J H1 l, Ext K p H H1 → Srv K p X0 C H1 J l → R l → Q J H1) → wi σ H Q
/-- a list or a tuple -/
def iLT (K : PySem.W.Frag) (tl : TE) : TI := fun σ H R => tl σ H fun x H1 => ∃ a, x = .ref a ∧ (((∃ xs, SqL K H1 a xs) ∧ R (Itl K a) H1) ∨ ((∃ xs, SqT K H1 a xs) ∧ R (Itt K a) H1))
theorem pi_LT {X : Cx} {tg l : Expr} {tl : TE} (hl : PE X l tl) : PI X tg l (iLT X.K tl) := by
  refine ⟨fun pins s σ H R I h => ?_⟩
  refine thn (hl.run pins s σ H _ I h) fun v s1 ⟨x, H1, I1, r1, q1⟩ => ?_
  obtain ⟨a, e, q⟩ := q1
  subst e
  cases r1
  rcases q with ⟨⟨xs, hq⟩, q⟩ | ⟨⟨xs, hq⟩, q⟩
  · obtain ⟨its, rv, p, hz⟩ := I1.list hq
    refine wpAny_pyIter_list p.isList ?_
    refine ⟨s1.heap.objs.size, [s1.heap.objs.size], _, _, H1, rfl, I1.kept (t' := s1.toks) fun b o e => Heap.get?_push_of_some _ e, turn_list a _, ⟨_, Heap.get?_push_size _ rfl, rfl, rfl⟩, fun b hb => ?_, q⟩
    have e : b = s1.heap.objs.size := by simpa using hb
    subst e
    exact I1.fpOk (Nat.le_refl _) (I1.hok.fresh (Nat.le_refl _))
  · obtain ⟨its, rv, p, hz⟩ := I1.tuple hq
    refine wpAny_pyIter_tuple (show s1.heap.IsTuple a its.toArray from p) ?_
    refine ⟨s1.heap.objs.size, [s1.heap.objs.size], _, _, H1, rfl, I1.kept (t' := s1.toks) fun b o e => Heap.get?_push_of_some _ e, turn_tuple a _, ⟨_, Heap.get?_push_size _ rfl, rfl, rfl⟩, fun b hb => ?_, q⟩
    have e : b = s1.heap.objs.size := by simpa using hb
    subst e
    exact I1.fpOk (Nat.le_refl _) (I1.hok.fresh (Nat.le_refl _))
/-- the items of a list or a tuple -/
def items? : D → Option (List D)
  | .lst l => some l
  | .tup l => some l
  | _ => none
/-- the ints from lo on, n of them -/
def rangeD (lo : Int) (n : Nat) : List D := (List.range n).map fun i => .int (lo + (i : Nat))
theorem rangeD_len (lo : Int) (n : Nat) : (rangeD lo n).length = n := by unfold rangeD; rw [List.length_map, List.length_range]
theorem rangeD_at {lo : Int} {n i : Nat} {d : D} (h : (rangeD lo n)[i]? = some d) : i < n ∧ d = .int (lo + (i : Nat)) := by
  have hi : i < n := by have := (List.getElem?_eq_some_iff.mp h).1; rw [rangeD_len] at this; exact this
  unfold rangeD at h
  rw [List.getElem?_map, List.getElem?_range hi] at h
  cases h
  exact ⟨hi, rfl⟩
/-- the signs of a text -/
def signsD (s : Str) : List D := s.cps.toList.map fun c => .str ⟨#[c]⟩
section
variable {K : PySem.W.Frag} {δ : List Sl} {te : TE}
theorem in_LT {R : List D → Prop} (h : EvN K te δ fun d => ∃ l, items? d = some l ∧ R l) : ItN K (iLT K te) δ R := fun p X0 C H σ Q n k =>
  h p X0 C H σ _ n fun v H1 d e1 r1 ⟨l, hl, q⟩ => by
    cases d with
    | lst l' =>
      cases (show some l' = some l from hl)
      obtain ⟨a, vs, rfl, hx, ha, hz, rs⟩ := r1
      refine ⟨a, rfl, .inl ⟨⟨vs, SqL.of ha⟩, k _ H1 l e1 ⟨_, _, (reps_len rs) ▸ walk_list (K := K) (a := a) (xs := vs), fun C' H' z => ?_, fun i C' H2 x H3 hi z y => ?_⟩ q⟩⟩
      · exact SqL.of (z.lst (fun u => hx (.inr u)) ha).2
      · obtain ⟨e, y⟩ := y
        subst e
        obtain ⟨d, g1, g2⟩ := reps_get' rs y
        exact ⟨Same.refl _, d, g1, rep_stp n.px z g2⟩
    | tup l' =>
      cases (show some l' = some l from hl)
      obtain ⟨a, vs, rfl, ha, hz, rs⟩ := r1
      refine ⟨a, rfl, .inr ⟨⟨vs, ha⟩, k _ H1 l e1 ⟨_, _, (reps_len rs) ▸ walk_tup (K := K) (a := a) (xs := vs), fun C' H' z => z.sqT ha, fun i C' H2 x H3 hi z y => ?_⟩ q⟩⟩
      obtain ⟨e, y⟩ := y
      subst e
      obtain ⟨d, g1, g2⟩ := reps_get' rs y
      exact ⟨Same.refl _, d, g1, rep_stp n.px z g2⟩
    | _ => cases hl
theorem srv_range {p : Addr} {X0 C : Addr → Prop} {H1 : Hp} {lo : Int} {m : Nat} : Srv K p X0 C H1 (Itr lo m) (rangeD lo m) :=
  ⟨_, _, (show Walk (Itr lo m) (rangeD lo m).length (fun _ => True) (YFn fun i => .int (lo + i)) by rw [rangeD_len]; exact walk_range), fun _ _ _ => trivial, fun i C' H x H' hi z y => by
    obtain ⟨e, y⟩ := y
    subst e y
    rw [rangeD_len] at hi
    refine ⟨Same.refl _, .int (lo + (i : Nat)), ?_, rfl⟩
    unfold rangeD
    rw [List.getElem?_map, List.getElem?_range hi]
    rfl⟩
theorem in_R1 {ta : TA} {R : List D → Prop} (h : ANv K ta δ fun ds => ∃ n : Int, ds = [.int n] ∧ (-(2 ^ 62) ≤ n ∧ n < 2 ^ 62) ∧ R (rangeD 0 n.toNat)) : ItN K (iRng1 ta) δ R := fun p X0 C H σ Q n k =>
  h p X0 C H σ _ n fun vs H1 ds e1 r1 ⟨m, hm, hb, q⟩ => by
    subst hm
    obtain ⟨v, vs', rfl, r1, r2⟩ := r1
    cases (show vs' = [] from r2)
    cases (show v = .int m from r1)
    exact ⟨m, rfl, hb.1, hb.2, k _ H1 _ e1 srv_range q⟩
theorem in_R2 {ta : TA} {R : List D → Prop} (h : ANv K ta δ fun ds => ∃ m n : Int, ds = [.int m, .int n] ∧ (-(2 ^ 62) ≤ m ∧ m < 2 ^ 62 ∧ -(2 ^ 62) ≤ n ∧ n < 2 ^ 62) ∧ R (rangeD m (n - m).toNat)) : ItN K (iRng2 ta) δ R := fun p X0 C H σ Q n k =>
  h p X0 C H σ _ n fun vs H1 ds e1 r1 ⟨m, m', hm, hb, q⟩ => by
    subst hm
    obtain ⟨v, vs', rfl, r1, r2⟩ := r1
    obtain ⟨v2, vs2, rfl, r2, r3⟩ := r2
    cases (show vs2 = [] from r3)
    cases (show v = .int m from r1)
    cases (show v2 = .int m' from r2)
    exact ⟨m, m', rfl, hb, k _ H1 _ e1 srv_range q⟩
theorem in_str {R : List D → Prop} (h : EvN K te δ fun d => ∃ s, d = .str s ∧ R (signsD s)) : ItN K (iStr te) δ R := fun p X0 C H σ Q n k =>
  h p X0 C H σ _ n fun v H1 d e1 r1 ⟨s, hs, q⟩ => by
    subst hs
    obtain ⟨rfl, hz⟩ := r1
    have hl : (signsD s).length = s.cps.size := by unfold signsD; simp
    refine ⟨s, rfl, k _ H1 _ e1 ⟨_, _, hl.symm ▸ walk_str (z := s), fun _ _ _ => trivial, fun i C' H x H' hi z y => ?_⟩ q⟩
    obtain ⟨e, c, hc, y⟩ := y
    subst e y
    refine ⟨Same.refl _, .str ⟨#[c]⟩, ?_, rfl, by show 1 ≤ lim; unfold lim; omega⟩
    unfold signsD
    rw [List.getElem?_map, Array.getElem?_toList, hc]
    rfl
end

/-! ### loops -/
section
variable {K : PySem.W.Frag} {δ : List Sl} {wi : TI} {g : TG} {tb : TS} {k : Ks}
theorem sn_for (vs : List Nat) (h : ItN K wi δ fun l => ∃ G : Nat → List Sl → Prop, G 0 δ ∧ (∀ (i : Nat) d δ', l[i]? = some d → G i δ' → GN K g vs d δ' fun δ'' => StN K tb δ'' { k with nx := G (i + 1), ct := G (i + 1), bk := k.nx }) ∧ ∀ δ', G l.length δ' → k.nx δ') :
    StN K (tFor wi g tb) δ k := fun p X0 C H σ N n qn qr qb qc =>
  h p X0 C H σ _ n fun J H1 l e1 ⟨Gh, Y, wk, hG, hY⟩ ⟨G, g0, gs, gd⟩ => by
    have s1 : Stp K p C H C H1 := Stp.of_ext n.pc e1
    refine for_it wk (fun i σ' H' => ∃ C' δ', Stp K p C H1 C' H' ∧ Nv K p X0 C' H' σ' δ' ∧ G i δ') ⟨C, δ, Stp.refl C H1, n.ext e1, g0⟩ (fun i σ' H' _ ⟨C', δ', z, _⟩ => hG C' H' z) ?_ ?_
    · rintro i x σ' H2 H3 hi ⟨C', δ', z, n', gi⟩ y
      obtain ⟨sm, d, hd, r⟩ := hY i C' H2 x H3 hi z y
      have e3 : Ext K p H2 H3 := Ext.of_same sm
      have s3 : Stp K p C H1 C' H3 := z.trans (Stp.of_ext n'.pc e3)
      refine gs i d δ' hd gi p X0 C' H3 σ' x _ (n'.ext e3) r fun σ4 H4 δ4 e4 n4 _ b => ?_
      have s4 : Stp K p C H1 C' H4 := s3.trans (Stp.of_ext n'.pc e4)
      exact b p X0 C' H4 σ4 _ n4 (fun C5 H5 σ5 δ5 z5 n5 y5 => ⟨C5, δ5, s4.trans z5, n5, y5⟩) (fun C5 H5 v d z5 r5 y5 => qr C5 H5 v d (s1.trans (s4.trans z5)) r5 y5)
        (fun C5 H5 σ5 δ5 z5 n5 y5 => qn C5 H5 σ5 δ5 (s1.trans (s4.trans z5)) n5 y5) (fun C5 H5 σ5 δ5 z5 n5 y5 => ⟨C5, δ5, s4.trans z5, n5, y5⟩)
    · rintro σ' H' ⟨C', δ', z, n', gl⟩
      exact qn C' H' σ' δ' (s1.trans z) n' (gd δ' gl)
end

/-! ### comprehensions -/
section
variable {K : PySem.W.Frag} {p : Addr} {X0 C : Addr → Prop} {H1 H' : Hp} {σ : L2.St} {δ : List Sl}
/-- q is new since H1 -/
theorem Ext.stpNew (pc : C p) (e : Ext K p H1 H') {q : Addr} (hq : H1 q = none) : Stp K p C H1 (fun a => C a ∨ a = q) H' where
  keep := (Stp.of_ext pc e).keep
  cs := fun b hb => hb.elim .inl fun z => .inr (z ▸ hq)
  strm := fun Y hY ⟨b, ns, c, w, w1, w2, w3, w4⟩ => by
    have hb : b ≠ q := fun z => by subst z; rw [hq] at w3; cases w3
    obtain ⟨b', ns', c', w', v1, v2⟩ := e.strm (fun a => Y a ∨ (C a ∨ a = q)) (.inl hY) ⟨b, ns, c, w, fun z => z.elim (fun z => w1 (.inl z)) fun z => z.elim (fun z => w1 (.inr z)) hb, w2, w3, w4⟩
    exact ⟨b', ns', c', w', v1, v2⟩
  dfn := fun b hb => e.some hb
theorem Nv.stpNew (n : Nv K p X0 C H1 σ δ) (e : Ext K p H1 H') {q : Addr} (hq : H1 q = none) (hq' : H' q ≠ none) : Nv K p X0 (fun a => C a ∨ a = q) H' σ δ where
  px := n.px
  pc := .inl n.pc
  gd := fun a ha => by
    rcases ha with ha | ha | ha
    · exact e.some (n.gd a (.inl ha))
    · exact e.some (n.gd a (.inr ha))
    · exact ha ▸ hq'
  len := n.len
  sl := fun i s h => by
    have w := n.sl i s h
    have st := e.stpNew n.pc hq
    cases s with
    | no => trivial
    | val d =>
      obtain ⟨x, h1, h2⟩ := w
      exact ⟨x, h1, rep_stp n.px st h2⟩
    | own l =>
      obtain ⟨a, vs, h1, h2, h3, h4, h5, h6⟩ := w
      exact ⟨a, vs, h1, .inl h2, h3, e.other h4 (.inl fun z => h3 (z ▸ n.px)), h5, reps_stp n.px st h6⟩
  dis := n.dis
theorem Ext.mutNew (e : Ext K p H1 H') {q : Addr} {o : HO} (hq : H1 q = none) (hp : H1 p ≠ none) : Ext K p H1 (upd H' q o) where
  keep := fun b u hb => by
    have : b ≠ q := ne_of_none hb hq
    rw [upd_ne this]
    exact e.keep b u hb
  strm := fun Y hY ⟨b, ns, c, w, w1, w2, w3, w4⟩ => by
    have hb : b ≠ q := fun z => by subst z; rw [hq] at w3; cases w3
    have hpq : p ≠ q := fun z => by subst z; exact hp hq
    obtain ⟨b', ns', c', w', v1, v2, v3, v4⟩ := e.strm (fun a => Y a ∨ a = q) (.inl hY) ⟨b, ns, c, w, fun z => z.elim w1 hb, w2, w3, w4⟩
    exact ⟨b', ns', c', w', fun z => v1 (.inl z), by rw [upd_ne hpq]; exact v2, by rw [upd_ne fun z => v1 (.inr z)]; exact v3, v4⟩
  dfn := fun h => by
    by_cases z : p = q
    · subst z; rw [upd_same]; exact fun z => by cases z
    · rw [upd_ne z]; exact e.dfn h
theorem en_lc {wi : TI} {g : TG} {tt : TT} {te : TE} {vs : List Nat} {R : D → Prop} (h : ItN K wi δ fun l => l.length ≤ lim ∧ ∃ G : Nat → List D → Prop, G 0 [] ∧
    (∀ (i : Nat) d acc, l[i]? = some d → acc.length ≤ i → G i acc → GN K g vs d (wipeD δ vs) fun δ' => TsN K tt δ' fun b => if b = true then EvN K te δ' fun z => G (i + 1) (acc ++ [z]) else G (i + 1) acc) ∧ ∀ acc, acc.length ≤ l.length → G l.length acc → R (.lst acc)) :
    EvN K (tLc wi g tt te vs) δ R := fun p X0 C H σ Q n k =>
  h p X0 C H σ _ n fun J H1 l e1 ⟨Gh, Y, wk, hG, hY⟩ ⟨hlim, G, g0, gs, gd⟩ Dl hD => by
    have n1 := n.ext e1
    have pd : H1 p ≠ none := n1.gd p (.inl n.px)
    have pD : p ≠ Dl := fun z => by subst z; exact pd hD
    refine lc_it wk (fun i H' => ∃ acc ws, Ext K p H1 H' ∧ H' Dl = some (.lst ws) ∧ Reps K p (fun a => X0 a ∨ (C a ∨ a = Dl)) H' acc ws ∧ acc.length ≤ i ∧ G i acc) ⟨[], [], Ext.new hD, upd_same, rfl, Nat.le_refl _, g0⟩ (fun i H' _ ⟨acc, ws, e, hw, _⟩ => hG _ H' (e.stpNew n.pc hD)) ?_ ?_
    · rintro i x H2 H3 hi ⟨acc, ws, e2, hw, rs, hl, gi⟩ y
      obtain ⟨sm, d, hd, r⟩ := hY i _ H2 x H3 hi (e2.stpNew n.pc hD) y
      have e3 : Ext K p H1 H3 := e2.trans (Ext.of_same sm)
      have hw3 := sm _ _ hw
      have n3 : Nv K p X0 (fun a => C a ∨ a = Dl) H3 (wipe σ vs) (wipeD δ vs) := (n1.stpNew e3 hD (by rw [hw3]; exact fun z => by cases z)).wipe vs
      refine gs i d acc hd hl gi p X0 _ H3 _ x _ n3 r fun σ4 H4 δ4 e4 n4 w4 q4 => ⟨w4.trans wipe_wipe, q4 p X0 _ H4 σ4 _ n4 fun b H5 e5 q5 => ?_⟩
      have hw5 : H5 Dl = some (.lst ws) := (e4.trans e5).other hw3 (.inl pD.symm)
      have e15 : Ext K p H1 H5 := e3.trans (e4.trans e5)
      have rs5 := reps_ext (.inl n.px) ((Ext.of_same sm).trans (e4.trans e5)) rs
      cases b with
      | true =>
        refine iteT ?_
        rw [if_pos rfl] at q5
        refine q5 p X0 _ H5 σ4 _ (n4.ext e5) fun z H6 dz e6 rz q6 => ?_
        have hw6 : H6 Dl = some (.lst ws) := e6.other hw5 (.inl pD.symm)
        have hlen := reps_len rs
        refine ⟨ws, hw6, lim_lt (by omega), acc ++ [dz], ws ++ [z], (e15.trans e6).mutNew hD pd, upd_same, ?_, by rw [List.length_append]; exact Nat.succ_le_succ hl, q6⟩
        have both : Reps K p (fun a => X0 a ∨ (C a ∨ a = Dl)) H6 (acc ++ [dz]) (ws ++ [z]) := reps_app (reps_ext (.inl n.px) e6 rs5) (reps_one rz)
        refine reps_to (fun a vs hx h1 => ⟨hx, by rw [upd_ne fun z => hx (.inr (.inr z))]; exact h1⟩) (fun a xs h1 => ?_) (fun ⟨b', ns', c', w', v1, v2, v3, v4⟩ => ⟨b', ns', c', w', v1, by rw [upd_ne pD]; exact v2, by rw [upd_ne fun z => v1 (.inr (.inr z))]; exact v3, v4⟩) _ _ both
        have ne : ∀ o, H6 a = some o → (∀ l, o ≠ .lst l) → a ≠ Dl := fun o ho hn z => by subst z; rw [hw6] at ho; cases ho; exact hn _ rfl
        rcases h1 with (h1 | ⟨o, h1⟩) | h1
        · exact .inl (.inl (by rw [upd_ne (ne _ h1 fun l z => by cases z)]; exact h1))
        · exact .inl (.inr ⟨o, by rw [upd_ne (ne _ h1 fun l z => by cases z)]; exact h1⟩)
        · exact .inr h1
      | false =>
        refine iteF ?_
        rw [if_neg Bool.false_ne_true] at q5
        exact ⟨acc, ws, e15, hw5, rs5, Nat.le_succ_of_le hl, q5⟩
    · rintro H' ⟨acc, ws, e2, hw, rs, hl, gl⟩
      refine k (.ref Dl) H' (.lst acc) (e1.trans e2) ⟨Dl, ws, rfl, n1.fresh hD, hw, Nat.le_trans hl hlim, reps_sub (fun a ha => ha.elim .inl fun z => .inr (.inl z)) rs⟩ (gd acc hl gl)
theorem tn_yes {R : Bool → Prop} (q : R true) : TsN K tYes δ R := fun p X0 C H σ Q n k => k true H (Ext.refl H) q
/-- [f x for x in xs]: each element alone -/
theorem en_lc_map {wi : TI} {g : TG} {te : TE} {vs : List Nat} {R : D → Prop} (f : D → D) (h : ItN K wi δ fun l => l.length ≤ lim ∧
    (∀ (i : Nat) d, l[i]? = some d → GN K g vs d (wipeD δ vs) fun δ' => EvN K te δ' fun z => z = f d) ∧ R (.lst (l.map f))) : EvN K (tLc wi g tYes te vs) δ R := by
  refine en_lc fun p X0 C H σ Q n k => h p X0 C H σ Q n fun J H1 l e s ⟨hl, hs, hR⟩ => k J H1 l e s ⟨hl, fun i acc => acc = (l.take i).map f, rfl, fun i d acc hd _ ga => ?_, fun acc _ ga => ?_⟩
  · refine fun p X0 C H σ v Q n r k => hs i d hd p X0 C H σ v Q n r fun σ' H' δ' e n' w q => k σ' H' δ' e n' w (tn_yes ?_)
    rw [if_pos rfl]
    refine q.mono fun z hz => ?_
    have ga' : acc = (l.take i).map f := ga
    show acc ++ [z] = (l.take (i + 1)).map f
    rw [hz, ga', List.take_add_one, hd, Option.toList_some, List.map_append]
    rfl
  · rw [ga, List.take_length]
    exact hR
end
end Dv

namespace Dv
open PySem PySem.Spec PyProof.Rows L2

/-! ### operations for whatever kind their sides are of -/
def rStr2 (g : Str → Str → Bool) : R2 := fun x y H Q => ∃ i j, x = .str i ∧ y = .str j ∧ Q (.bl (g i j)) H
def rAddS : R2 := fun x y H Q => ∃ i j, x = .str i ∧ y = .str j ∧ i.length + j.length ≤ sizeLine ∧ Q (.str (i ++ j)) H
def rSgn (neg : Bool) : R2 := fun x y H Q => ∃ (c : Nat) (z : Str), x = .str ⟨#[c]⟩ ∧ y = .str z ∧ Q (.bl (if neg then !decide (c ∈ z.cps.toList) else decide (c ∈ z.cps.toList))) H
def rOr (r r' : R2) : R2 := fun x y H Q => r x y H Q ∨ r' x y H Q
def uAdd (K : PySem.W.Frag) : R2 := rOr (rI0 fun i j => .int (i + j)) (rOr rAddS (rOr (rCatA K) rCat))
def uLt : R2 := rOr (rI0 fun i j => .bl (decide (i < j))) (rStr2 fun i j => decide (i.cps.toList < j.cps.toList))
def uLe : R2 := rOr (rI0 fun i j => .bl (decide (i ≤ j))) (rStr2 fun i j => !decide (j.cps.toList < i.cps.toList))
def uGt : R2 := rOr (rI0 fun i j => .bl (decide (j < i))) (rStr2 fun i j => decide (j.cps.toList < i.cps.toList))
def uGe : R2 := rOr (rI0 fun i j => .bl (decide (j ≤ i))) (rStr2 fun i j => !decide (i.cps.toList < j.cps.toList))
def uIn (K : PySem.W.Frag) (neg : Bool) : R2 := rOr (rIn K neg) (rSgn neg)
def uIs : R2 := rOr rIsB fun x y H Q => y = .non ∧ Q (.bl (decide (x = .non))) H
def uIsNot : R2 := rOr rNotB fun x y H Q => y = .non ∧ Q (.bl (!decide (x = .non))) H
section
variable {X : Cx}
theorem OpR.or' {f : Value → Value → Sem Value} {r r' : R2} (h : OpR X f r) (h' : OpR X f r') : OpR X f (rOr r r') := OpR.or h h'
theorem u_add : OpR X (binaryOp .Add) (uAdd X.K) := Dv.OpR.or' op_add (Dv.OpR.or' op_add_str (Dv.OpR.or' op_catA op_cat))
theorem u_lt : OpR X (compareOp .Lt) uLt := Dv.OpR.or' op_lt op_lt_str
theorem u_le : OpR X (compareOp .LtE) uLe := Dv.OpR.or' op_le op_le_str
theorem u_gt : OpR X (compareOp .Gt) uGt := Dv.OpR.or' op_gt op_gt_str
theorem u_ge : OpR X (compareOp .GtE) uGe := Dv.OpR.or' op_ge op_ge_str
theorem u_in : OpR X (compareOp .In) (uIn X.K false) := Dv.OpR.or' op_in_seq op_in_sign
theorem u_notIn : OpR X (compareOp .NotIn) (uIn X.K true) := Dv.OpR.or' op_notIn_seq op_notIn_sign
theorem u_is : OpR X (compareOp .Is) uIs := Dv.OpR.or' op_isBl op_isN
theorem u_isNot : OpR X (compareOp .IsNot) uIsNot := Dv.OpR.or' op_notBl op_notN
def uSl (K : PySem.W.Frag) : V → Option Int → Option Int → Hp → VK → Prop := fun x lo hi H Q => rSlA K x lo hi H Q ∨ (rSlL K x lo hi H Q ∨ rSlS x lo hi H Q)
theorem u_sl : SlR X (uSl X.K) := sl_tupA.or (sl_list.or sl_str)
end

/-! ### their answers on data -/
section
variable {K : PySem.W.Frag} {R : D → Prop} {i j : Int} {s t : Str} {l m : List D}
theorem of_int {p : Addr} {X : Addr → Prop} {H : Hp} {v : V} (h : Rep K p X H (.int i) v) : v = .int i := h
theorem on_int {r : R2} {g : Int → Int → V} {d : D} (hr : ∀ i j H (Q : VK), Q (g i j) H → r (.int i) (.int j) H Q) (hd : ∀ p X H, Rep K p X H d (g i j)) (q : R d) : OpN K r (.int i) (.int j) R := fun p X H v w Q _ _ hv hw k => by
  cases (show v = .int i from hv)
  cases (show w = .int j from hw)
  exact hr i j H Q (k _ H d (Ext.refl H) (hd p X H) q)
theorem on_add (q : R (.int (i + j))) : OpN K (uAdd K) (.int i) (.int j) R := on_int (d := .int (i + j)) (fun i j H Q h => .inl ⟨i, j, rfl, rfl, h⟩) (fun _ _ _ => rfl) q
theorem on_sub (q : R (.int (i - j))) : OpN K (rI0 fun i j => .int (i - j)) (.int i) (.int j) R := on_int (d := .int (i - j)) (g := fun i j => .int (i - j)) (fun i j H Q h => ⟨i, j, rfl, rfl, h⟩) (fun _ _ _ => rfl) q
theorem on_rI {C : Int → Int → Prop} {g : Int → Int → Int} (hc : C i j) (q : R (.int (g i j))) : OpN K (rI C fun i j => .int (g i j)) (.int i) (.int j) R := fun p X H v w Q _ _ hv hw k => by
  cases (show v = .int i from hv)
  cases (show w = .int j from hw)
  exact ⟨i, j, rfl, rfl, hc, k _ H (.int (g i j)) (Ext.refl H) rfl q⟩
theorem on_lt (q : R (.bl (decide (i < j)))) : OpN K uLt (.int i) (.int j) R := on_int (d := .bl (decide (i < j))) (g := fun i j => .bl (decide (i < j))) (fun i j H Q h => .inl ⟨i, j, rfl, rfl, h⟩) (fun _ _ _ => rfl) q
theorem on_le (q : R (.bl (decide (i ≤ j)))) : OpN K uLe (.int i) (.int j) R := on_int (d := .bl (decide (i ≤ j))) (g := fun i j => .bl (decide (i ≤ j))) (fun i j H Q h => .inl ⟨i, j, rfl, rfl, h⟩) (fun _ _ _ => rfl) q
theorem on_gt (q : R (.bl (decide (j < i)))) : OpN K uGt (.int i) (.int j) R := on_int (d := .bl (decide (j < i))) (g := fun i j => .bl (decide (j < i))) (fun i j H Q h => .inl ⟨i, j, rfl, rfl, h⟩) (fun _ _ _ => rfl) q
theorem on_ge (q : R (.bl (decide (j ≤ i)))) : OpN K uGe (.int i) (.int j) R := on_int (d := .bl (decide (j ≤ i))) (g := fun i j => .bl (decide (j ≤ i))) (fun i j H Q h => .inl ⟨i, j, rfl, rfl, h⟩) (fun _ _ _ => rfl) q
theorem on_str {r : R2} {g : Str → Str → Bool} (hr : ∀ i j H (Q : VK), Q (.bl (g i j)) H → r (.str i) (.str j) H Q) (q : R (.bl (g s t))) : OpN K r (.str s) (.str t) R := fun p X H v w Q _ _ hv hw k => by
  cases hv.1
  cases hw.1
  exact hr s t H Q (k _ H (.bl (g s t)) (Ext.refl H) rfl q)
theorem on_lt_s (q : R (.bl (decide (s.cps.toList < t.cps.toList)))) : OpN K uLt (.str s) (.str t) R := on_str (g := fun s t => decide (s.cps.toList < t.cps.toList)) (fun i j H Q h => .inr ⟨i, j, rfl, rfl, h⟩) q
theorem on_le_s (q : R (.bl (!decide (t.cps.toList < s.cps.toList)))) : OpN K uLe (.str s) (.str t) R := on_str (g := fun s t => !decide (t.cps.toList < s.cps.toList)) (fun i j H Q h => .inr ⟨i, j, rfl, rfl, h⟩) q
theorem on_eq (q : R (.bl (decide (i = j)))) : OpN K rEq (.int i) (.int j) R := on_int (d := .bl (decide (i = j))) (g := fun i j => .bl (decide (i = j))) (fun i j H Q h => ⟨rfl, by rw [dec_int, Bool.beq_eq_decide_eq]; exact h⟩) (fun _ _ _ => rfl) q
theorem on_ne (q : R (.bl (!decide (i = j)))) : OpN K rNe (.int i) (.int j) R := on_int (d := .bl (!decide (i = j))) (g := fun i j => .bl (!decide (i = j))) (fun i j H Q h => ⟨rfl, by rw [dec_int, Bool.beq_eq_decide_eq]; exact h⟩) (fun _ _ _ => rfl) q
theorem on_eq_s (q : R (.bl (decide (s = t)))) : OpN K rEq (.str s) (.str t) R := on_str (g := fun s t => decide (s = t)) (fun i j H Q h => ⟨rfl, by rw [dec_str, Bool.beq_eq_decide_eq]; exact h⟩) q
theorem on_ne_s (q : R (.bl (!decide (s = t)))) : OpN K rNe (.str s) (.str t) R := on_str (g := fun s t => !decide (s = t)) (fun i j H Q h => ⟨rfl, by rw [dec_str, Bool.beq_eq_decide_eq]; exact h⟩) q
theorem on_bl {r : R2} {g : Bool → Bool → Bool} {a b : Bool} (hr : ∀ i j H (Q : VK), Q (.bl (g i j)) H → r (.bl i) (.bl j) H Q) (q : R (.bl (g a b))) : OpN K r (.bl a) (.bl b) R := fun p X H v w Q _ _ hv hw k => by
  cases (show v = .bl a from hv)
  cases (show w = .bl b from hw)
  exact hr a b H Q (k _ H (.bl (g a b)) (Ext.refl H) rfl q)
theorem on_eq_b {a b : Bool} (q : R (.bl (a == b))) : OpN K rEq (.bl a) (.bl b) R := on_bl (g := fun a b => a == b) (fun i j H Q h => ⟨rfl, by rw [dec_bl]; exact h⟩) q
theorem on_ne_b {a b : Bool} (q : R (.bl (!(a == b)))) : OpN K rNe (.bl a) (.bl b) R := on_bl (g := fun a b => !(a == b)) (fun i j H Q h => ⟨rfl, by rw [dec_bl]; exact h⟩) q
theorem on_is_b {a b : Bool} (q : R (.bl (decide (a = b)))) : OpN K uIs (.bl a) (.bl b) R := on_bl (g := fun a b => decide (a = b)) (fun i j H Q h => .inl ⟨i, j, rfl, rfl, h⟩) q
theorem on_isNot_b {a b : Bool} (q : R (.bl (!decide (a = b)))) : OpN K uIsNot (.bl a) (.bl b) R := on_bl (g := fun a b => !decide (a = b)) (fun i j H Q h => .inl ⟨i, j, rfl, rfl, h⟩) q
theorem on_add_s (hl : s.length + t.length ≤ lim) (q : R (.str (s ++ t))) : OpN K (uAdd K) (.str s) (.str t) R := fun p X H v w Q _ _ hv hw k => by
  cases hv.1
  cases hw.1
  exact .inr (.inl ⟨s, t, rfl, rfl, lim_line (by omega), k _ H (.str (s ++ t)) (Ext.refl H) ⟨rfl, by rw [Str.length_append]; exact hl⟩ q⟩)
theorem on_add_t (hl : l.length + m.length ≤ lim) (q : R (.tup (l ++ m))) : OpN K (uAdd K) (.tup l) (.tup m) R := fun p X H v w Q px gd hv hw k => by
  obtain ⟨a, vs, rfl, ha, h1, rs⟩ := hv
  obtain ⟨b, ws, rfl, hb, h2, rt⟩ := hw
  have e1 := reps_len rs
  have e2 := reps_len rt
  refine .inr (.inr (.inl ⟨a, b, vs, ws, rfl, rfl, ha, hb, lim_line (by omega), fun z => ?_, fun z1 z2 => ?_, fun z1 z2 q' hq => ?_⟩))
  · have : l = [] := List.eq_nil_of_length_eq_zero (by rw [← e1, z]; rfl)
    subst this
    exact k _ H (.tup m) (Ext.refl H) ⟨b, ws, rfl, hb, h2, rt⟩ q
  · have : m = [] := List.eq_nil_of_length_eq_zero (by rw [← e2, z2]; rfl)
    subst this
    rw [List.append_nil] at q
    exact k _ H (.tup l) (Ext.refl H) ⟨a, vs, rfl, ha, h1, rs⟩ q
  · have e : Ext K p H (upd H q' (.tup (vs ++ ws))) := Ext.new hq
    exact k _ _ (.tup (l ++ m)) e ⟨q', _, rfl, SqT.of upd_same, by rw [List.length_append]; exact hl, reps_ext px e (reps_app rs rt)⟩ q
theorem un_neg' (q : R (.int (-i))) : UnN K (rU fun i => .int (-i)) (.int i) R := fun p X H v Q _ _ hv k => by
  cases (show v = .int i from hv)
  exact ⟨i, rfl, k _ H (.int (-i)) (Ext.refl H) rfl q⟩
theorem reps_strs {p : Addr} {X : Addr → Prop} {H : Hp} : ∀ {ss : List Str} {vs : List V}, Reps K p X H (ss.map .str) vs → vs = ss.map .str
  | [], _, h => h
  | x :: ss, _, h => by
    obtain ⟨v, vs', rfl, h1, h2⟩ := h
    rw [h1.1, reps_strs h2]
    rfl
theorem reps_bls {p : Addr} {X : Addr → Prop} {H : Hp} : ∀ {ss : List Bool} {vs : List V}, Reps K p X H (ss.map .bl) vs → vs = ss.map .bl
  | [], _, h => h
  | x :: ss, _, h => by
    obtain ⟨v, vs', rfl, h1, h2⟩ := h
    rw [show v = .bl x from h1, reps_bls h2]
    rfl
theorem inV_strs (x : Str) (ss : List Str) : inV (.str x) (ss.map .str) = decide (x ∈ ss) := by
  unfold inV
  rw [List.any_map, Bool.eq_iff_iff, List.any_eq_true, decide_eq_true_eq]
  constructor
  · rintro ⟨y, hy, e⟩
    have e' : (y == x) = true := e
    rw [beq_iff_eq] at e'
    exact e' ▸ hy
  · exact fun h => ⟨x, h, show (x == x) = true from beq_self_eq_true x⟩
theorem flat_strs (ss : List Str) : (ss.map V.str).all flatV = true := by
  rw [List.all_eq_true]
  intro v hv
  obtain ⟨s, _, rfl⟩ := List.mem_map.mp hv
  rfl
/-- a text in a list or tuple of texts -/
theorem on_in_ss {x : Str} {ss : List Str} {d : D} {neg : Bool} (hd : items? d = some (ss.map .str)) (q : R (.bl (if neg then !decide (x ∈ ss) else decide (x ∈ ss)))) : OpN K (uIn K neg) (.str x) d R := fun p X H v w Q _ _ hv hw k => by
  cases hv.1
  have key : ∀ a, (SqL K H a (ss.map .str) ∨ SqT K H a (ss.map .str)) → uIn K neg (.str x) (.ref a) H Q := fun a h =>
    .inl ⟨a, _, rfl, h, rfl, flat_strs ss, by rw [inV_strs]; exact k _ H (.bl _) (Ext.refl H) rfl q⟩
  cases d with
  | lst l =>
    cases (show some l = _ from hd)
    obtain ⟨a, vs, rfl, _, ha, _, rs⟩ := hw
    exact key a (.inl (SqL.of (by rw [← reps_strs rs]; exact ha)))
  | tup l =>
    cases (show some l = _ from hd)
    obtain ⟨a, vs, rfl, ha, _, rs⟩ := hw
    exact key a (.inr (by rw [← reps_strs rs]; exact ha))
  | _ => cases hd
theorem on_in_sign {c : Nat} {neg : Bool} (q : R (.bl (if neg then !decide (c ∈ t.cps.toList) else decide (c ∈ t.cps.toList)))) : OpN K (uIn K neg) (.str ⟨#[c]⟩) (.str t) R := fun p X H v w Q _ _ hv hw k => by
  cases hv.1
  cases hw.1
  exact .inr ⟨c, t, rfl, rfl, k _ H (.bl _) (Ext.refl H) rfl q⟩
/-- d[n] -/
theorem on_ix {d e : D} {n : Nat} (hd : items? d = some l) (hn : l[n]? = some e) (q : R e) : OpN K (rIx K) d (.int (n : Int)) R := fun p X H v w Q _ _ hv hw k => by
  cases (show w = .int n from hw)
  cases d with
  | lst l' =>
    cases (show some l' = _ from hd)
    obtain ⟨a, vs, rfl, _, ha, _, rs⟩ := hv
    obtain ⟨x, hx, rx⟩ := reps_get rs hn
    exact .inl ⟨a, vs, n, x, rfl, rfl, SqL.of ha, atI_nat hx, k x H e (Ext.refl H) rx q⟩
  | tup l' =>
    cases (show some l' = _ from hd)
    obtain ⟨a, vs, rfl, ha, _, rs⟩ := hv
    obtain ⟨x, hx, rx⟩ := reps_get rs hn
    exact .inr (.inl ⟨a, vs, n, x, rfl, rfl, ha, atI_nat hx, k x H e (Ext.refl H) rx q⟩)
  | _ => cases hd
theorem on_ix_s {n c : Nat} (hn : s.cps.toList[n]? = some c) (q : R (.str ⟨#[c]⟩)) : OpN K (rIx K) (.str s) (.int (n : Int)) R := fun p X H v w Q _ _ hv hw k => by
  cases (show w = .int n from hw)
  obtain ⟨rfl, hl⟩ := hv
  exact .inr (.inr ⟨s, n, c, rfl, rfl, lim_line (by omega), atI_nat hn, k _ H (.str ⟨#[c]⟩) (Ext.refl H) ⟨rfl, by show 1 ≤ lim; unfold lim; omega⟩ q⟩)
/-- slices -/
def cutD (l : List D) (lo hi : Option Int) : List D := (l.drop (HT.sIx l.length 0 lo)).take (HT.sIx l.length l.length hi - HT.sIx l.length 0 lo)
theorem cutD_len (l : List D) (lo hi : Option Int) : (cutD l lo hi).length ≤ l.length := by
  unfold cutD
  rw [List.length_take, List.length_drop]
  omega
theorem reps_cut {p : Addr} {X : Addr → Prop} {H : Hp} {vs : List V} {lo hi : Option Int} (h : Reps K p X H l vs) : Reps K p X H (cutD l lo hi) (cutV vs lo hi) := by
  unfold cutD cutV
  rw [reps_len h]
  exact reps_take _ (reps_drop _ h)
theorem sl_t {lo hi : Option Int} (q : R (.tup (cutD l lo hi))) : SlN K (uSl K) (.tup l) lo hi R := fun p X H v Q px gd hv k => by
  obtain ⟨a, vs, rfl, ha, h1, rs⟩ := hv
  have e := reps_len rs
  refine .inl ⟨a, vs, rfl, ha, fun z => ?_, fun z q' hq => ?_⟩
  · have : cutD l lo hi = l := by
      unfold cutD
      rw [e] at z
      rw [z.1, z.2, List.drop_zero, Nat.sub_zero, List.take_length]
    rw [this] at q
    exact k _ H (.tup l) (Ext.refl H) ⟨a, vs, rfl, ha, h1, rs⟩ q
  · have e' : Ext K p H (upd H q' (.tup (cutV vs lo hi))) := Ext.new hq
    exact k _ _ (.tup (cutD l lo hi)) e' ⟨q', _, rfl, SqT.of upd_same, Nat.le_trans (cutD_len l lo hi) h1, reps_ext px e' (reps_cut rs)⟩ q
theorem sl_s {lo hi : Option Int} (q : R (.str (cutS s lo hi))) : SlN K (uSl K) (.str s) lo hi R := fun p X H v Q px gd hv k => by
  obtain ⟨rfl, hl⟩ := hv
  exact .inr (.inr ⟨s, rfl, lim_line (by omega), k _ H (.str (cutS s lo hi)) (Ext.refl H) ⟨rfl, Nat.le_trans (cutS_length s lo hi) hl⟩ q⟩)
theorem sl_l {lo hi : Option Int} (q : R (.lst (cutD l lo hi))) : SlN K (uSl K) (.lst l) lo hi R := fun p X H v Q px gd hv k => by
  obtain ⟨a, vs, rfl, hx, ha, h1, rs⟩ := hv
  refine .inr (.inl ⟨a, vs, rfl, SqL.of ha, fun q' hq => ?_⟩)
  have e' : Ext K p H (upd H q' (.lst (cutV vs lo hi))) := Ext.new hq
  exact k _ _ (.lst (cutD l lo hi)) e' ⟨q', _, rfl, fun z => gd q' z hq, upd_same, Nat.le_trans (cutD_len l lo hi) h1, reps_ext px e' (reps_cut rs)⟩ q
end

/-! ### built-in functions -/
section
variable {K : PySem.W.Frag} {R : D → Prop} {i j : Int} {s t : Str} {l m : List D} {δ : List Sl} {te ta : TE}
/-- as isinstance has it -/
def isTy : String → D → Bool
  | "int", .int _ => true
  | "int", .bl _ => true
  | "bool", .bl _ => true
  | "str", .str _ => true
  | "tuple", .tup _ => true
  | "list", .lst _ => true
  | "list", .stm => true
  | _, _ => false
def tyName : D → String
  | .non => "NoneType"
  | .bl _ => "bool"
  | .int _ => "int"
  | .str _ => "str"
  | .tup _ => "tuple"
  | .lst _ => "list"
  | .stm => "list"
theorem rep_ty {p : Addr} {X : Addr → Prop} {H : Hp} {d : D} {v : V} (h : Rep K p X H d v) : TyX K H v (.type (tyName d)) := by
  cases d with
  | non => cases (show v = .non from h); exact .base .non
  | bl b => cases (show v = .bl b from h); exact .base (.bl b)
  | int i => cases (show v = .int i from h); exact .base (.int i)
  | str s => cases h.1; exact .base (.str s)
  | tup l =>
    obtain ⟨a, vs, rfl, ha, _⟩ := h
    rcases ha with (ha | ⟨o, ha⟩) | ⟨o, its, n, h1, h2, _⟩
    · exact .base (.tup ha)
    · exact .fTuple ha
    · exact .kTuple h1 h2
  | lst l =>
    obtain ⟨a, vs, rfl, _, ha, _⟩ := h
    exact .base (.lst ha)
  | stm =>
    obtain ⟨rfl, a, ns, c, k, _, ha, _⟩ := h
    exact .base (.lst ha)
theorem en_isi {T : String} (hT : T ∈ ["int", "bool", "str", "tuple", "list"]) (h : EvN K te δ fun d => R (.bl (isTy T d))) : EvN K (tCB (rIsi K) (tCons te (tCons (tC (.ty T)) tNil))) δ R := fun p X0 C H σ Q n k =>
  h p X0 C H σ _ n fun v H1 d e1 r1 q => by
    refine ⟨v, .ty T, .type (tyName d), .type T, isTy T d, rfl, .ty T, rep_ty r1, kit_ty ?_, k _ H1 (.bl (isTy T d)) e1 rfl q⟩
    have e : kitB (tyName d) T = some (isTy T d) := by
      have tb : ∀ n ∈ ["NoneType", "bool", "int", "str", "tuple", "list"], ∀ T ∈ ["int", "bool", "str", "tuple", "list"], kitB n T = some (n == T || (n == "bool" && T == "int")) := by decide +kernel
      rw [tb (tyName d) (by cases d <;> simp [tyName]) T hT]
      simp only [List.mem_cons, List.not_mem_nil, or_false] at hT
      rcases hT with rfl | rfl | rfl | rfl | rfl <;> cases d <;> rfl
    exact e
/-- len -/
def sizeD : D → Option Nat
  | .str s => some s.length
  | .tup l => some l.length
  | .lst l => some l.length
  | _ => none
def rLenC (K : PySem.W.Frag) : List V → Hp → VK → Prop := fun xs H Q => ∃ x n, xs = [x] ∧ LenV K x H n ∧ Q (.int n) H
theorem cl_len {X : Cx} : CallR X (.builtin "len") (rLenC X.K) := call_len
theorem ca_len {d : D} {n : Nat} (hn : sizeD d = some n) (q : R (.int n)) : CaN K (rLenC K) [d] R := fun p X H vs Q px gd hv k => by
  obtain ⟨v, vs', rfl, h1, h2⟩ := hv
  cases (show vs' = [] from h2)
  refine ⟨v, n, rfl, ?_, k _ H (.int n) (Ext.refl H) rfl q⟩
  cases d with
  | str s =>
    cases (show some s.length = some n from hn)
    obtain ⟨rfl, hl⟩ := h1
    exact ⟨lim_line (by omega), rfl⟩
  | tup l =>
    cases (show some l.length = some n from hn)
    obtain ⟨a, ws, rfl, ha, _, rs⟩ := h1
    exact .inr ⟨ws, ha, (reps_len rs).symm⟩
  | lst l =>
    cases (show some l.length = some n from hn)
    obtain ⟨a, ws, rfl, _, ha, _, rs⟩ := h1
    exact .inl ⟨ws, SqL.of ha, (reps_len rs).symm⟩
  | _ => cases hn
theorem ca_all {bs : List Bool} (q : R (.bl (bs.all id))) : CaN K (rAll K) [.lst (bs.map .bl)] R := fun p X H vs Q px gd hv k => by
  obtain ⟨v, vs', rfl, ⟨a, ws, rfl, _, ha, _, rs⟩, h2⟩ := hv
  cases (show vs' = [] from h2)
  exact ⟨a, bs, rfl, SqL.of (by rw [← reps_bls rs]; exact ha), k _ H (.bl (bs.all id)) (Ext.refl H) rfl q⟩
theorem ca_any {bs : List Bool} (q : R (.bl (bs.any id))) : CaN K (rAny K) [.lst (bs.map .bl)] R := fun p X H vs Q px gd hv k => by
  obtain ⟨v, vs', rfl, ⟨a, ws, rfl, _, ha, _, rs⟩, h2⟩ := hv
  cases (show vs' = [] from h2)
  exact ⟨a, bs, rfl, SqL.of (by rw [← reps_bls rs]; exact ha), k _ H (.bl (bs.any id)) (Ext.refl H) rfl q⟩
def rListA (K : PySem.W.Frag) : List V → Hp → VK → Prop := fun xs H Q => ∃ p ys, xs = [.ref p] ∧ (SqL K H p ys ∨ SqT K H p ys) ∧ ∀ l, H l = none → Q (.ref l) (upd H l (.lst ys))
def rListC (K : PySem.W.Frag) : List V → Hp → VK → Prop := fun xs H Q => rListA K xs H Q ∨ rListD xs H Q
theorem cl_list {X : Cx} (hc : X.calm = true) : CallR X (.type "list") (rListC X.K) := CallR.or call_list_of (call_list_dK hc)
theorem ca_list {d : D} (hd : items? d = some l) (q : R (.lst l)) : CaN K (rListC K) [d] R := fun p X H vs Q px gd hv k => by
  obtain ⟨v, vs', rfl, h1, h2⟩ := hv
  cases (show vs' = [] from h2)
  have key : ∀ ws q', H q' = none → l.length ≤ lim → Reps K p X H l ws → Q (.ref q') (upd H q' (.lst ws)) := fun ws q' hq hl rs => by
    have e' : Ext K p H (upd H q' (.lst ws)) := Ext.new hq
    exact k _ _ (.lst l) e' ⟨q', _, rfl, fun z => gd q' z hq, upd_same, hl, reps_ext px e' rs⟩ q
  cases d with
  | lst l' =>
    cases (show some l' = _ from hd)
    obtain ⟨a, ws, rfl, _, ha, hl, rs⟩ := h1
    exact .inl ⟨a, ws, rfl, .inl (SqL.of ha), fun q' hq => key ws q' hq hl rs⟩
  | tup l' =>
    cases (show some l' = _ from hd)
    obtain ⟨a, ws, rfl, ha, hl, rs⟩ := h1
    exact .inl ⟨a, ws, rfl, .inr ha, fun q' hq => key ws q' hq hl rs⟩
  | _ => cases hd
def rTupC (K : PySem.W.Frag) : List V → Hp → VK → Prop := fun xs H Q => ∃ p ys, xs = [.ref p] ∧ ((SqL K H p ys ∧ ∀ l, H l = none → Q (.ref l) (upd H l (.tup ys))) ∨ (SqT K H p ys ∧ Q (.ref p) H))
theorem cl_tuple {X : Cx} : CallR X (.type "tuple") (rTupC X.K) := call_tuple_of
theorem ca_tuple {d : D} (hd : items? d = some l) (q : R (.tup l)) : CaN K (rTupC K) [d] R := fun p X H vs Q px gd hv k => by
  obtain ⟨v, vs', rfl, h1, h2⟩ := hv
  cases (show vs' = [] from h2)
  cases d with
  | lst l' =>
    cases (show some l' = _ from hd)
    obtain ⟨a, ws, rfl, _, ha, hl, rs⟩ := h1
    refine ⟨a, ws, rfl, .inl ⟨SqL.of ha, fun q' hq => ?_⟩⟩
    have e' : Ext K p H (upd H q' (.tup ws)) := Ext.new hq
    exact k _ _ (.tup l) e' ⟨q', _, rfl, SqT.of upd_same, hl, reps_ext px e' rs⟩ q
  | tup l' =>
    cases (show some l' = _ from hd)
    obtain ⟨a, ws, rfl, ha, hl, rs⟩ := h1
    exact ⟨a, ws, rfl, .inr ⟨ha, k _ H (.tup l) (Ext.refl H) ⟨a, ws, rfl, ha, hl, rs⟩ q⟩⟩
  | _ => cases hd
def rIntC : List V → Hp → VK → Prop := fun xs H Q => (∃ i, xs = [.int i] ∧ Q (.int i) H) ∨ ∃ k, xs = [.bl k] ∧ Q (.int (if k then 1 else 0)) H
theorem cl_int {X : Cx} : CallR X (.type "int") rIntC := call_int1
theorem ca_int (q : R (.int i)) : CaN K rIntC [.int i] R := fun p X H vs Q px gd hv k => by
  obtain ⟨v, vs', rfl, h1, h2⟩ := hv
  cases (show vs' = [] from h2)
  cases (show v = .int i from h1)
  exact .inl ⟨i, rfl, k _ H (.int i) (Ext.refl H) rfl q⟩
def rAbsC : List V → Hp → VK → Prop := fun xs H Q => ∃ i, xs = [.int i] ∧ Q (.int (if i < 0 then -i else i)) H
theorem cl_abs {X : Cx} : CallR X (.builtin "abs") rAbsC := call_abs
/-- sorted of texts -/
def rSrt (K : PySem.W.Frag) : List V → Hp → VK → Prop := fun xs H Q => rSortedS K xs H Q ∨ rSorted K xs H Q
theorem cl_sorted {X : Cx} : CallR X (.builtin "sorted") (rSrt X.K) := cr_sortedS.or cr_sorted
theorem reps_mk_strs {p : Addr} {X : Addr → Prop} {H : Hp} : ∀ {ss : List Str}, (∀ s ∈ ss, s.length ≤ lim) → Reps K p X H (ss.map .str) (ss.map .str)
  | [], _ => rfl
  | x :: ss, h => ⟨_, _, rfl, ⟨rfl, h x List.mem_cons_self⟩, reps_mk_strs fun s hs => h s (List.mem_cons_of_mem _ hs)⟩
theorem reps_strs_le {p : Addr} {X : Addr → Prop} {H : Hp} : ∀ {ss : List Str} {vs : List V}, Reps K p X H (ss.map .str) vs → ∀ s ∈ ss, s.length ≤ lim
  | [], _, _, s, hs => by cases hs
  | x :: ss, _, h, s, hs => by
    obtain ⟨v, vs', rfl, h1, h2⟩ := h
    rcases List.mem_cons.mp hs with rfl | hs
    · exact h1.2
    · exact reps_strs_le h2 s hs
theorem ca_sorted_s {d : D} {ss : List Str} (hd : d = .lst (ss.map .str)) (h64 : ss.length < 64) (q : ∀ ys : List Str, ys.Perm ss → sortedS ys = true → R (.lst (ys.map .str))) : CaN K (rSrt K) [d] R := fun p X H vs Q px gd hv k => by
  subst hd
  obtain ⟨v, vs', rfl, ⟨a, ws, rfl, _, ha, hl, rs⟩, h2⟩ := hv
  cases (show vs' = [] from h2)
  refine .inl ⟨a, ss, rfl, SqL.of (by rw [← reps_strs rs]; exact ha), h64, fun ys q' hp hs hq => ?_⟩
  have e' : Ext K p H (upd H q' (.lst (ys.map .str))) := Ext.new hq
  refine k _ _ (.lst (ys.map .str)) e' ⟨q', _, rfl, fun z => gd q' z hq, upd_same, ?_, reps_mk_strs fun s h => reps_strs_le rs s (hp.mem_iff.mp h)⟩ (q ys hp hs)
  rw [List.length_map, hp.length_eq]
  rw [List.length_map] at hl
  exact hl
/-- len and in of a list of the def's own -/
theorem en_len_own {n : Nat} (hi : δ[n]? = some (.own l)) (q : R (.int l.length)) : EvN K (tCB (rLenC K) (tCons (tVar n) tNil)) δ R := fun p X0 C H σ Q nv k => by
  obtain ⟨a, vs, h1, h2, h3, h4, h5, h6⟩ := nv.own hi
  exact ⟨_, h1, .ref a, l.length, rfl, .inl ⟨vs, SqL.of h4, (reps_len h6).symm⟩, k _ H (.int l.length) (Ext.refl H) rfl q⟩
theorem en_in_own {n : Nat} {neg : Bool} {ss : List Str} (hi : δ[n]? = some (.own (ss.map .str))) (h : EvN K te δ fun d => ∃ x, d = .str x ∧ R (.bl (if neg then !decide (x ∈ ss) else decide (x ∈ ss)))) : EvN K (tOp (uIn K neg) te (tVar n)) δ R := fun p X0 C H σ Q nv k =>
  h p X0 C H σ _ nv fun v H1 d e1 r1 ⟨x, hx, q⟩ => by
    subst hx
    obtain ⟨rfl, hl⟩ := r1
    obtain ⟨a, vs, h1, h2, h3, h4, h5, h6⟩ := (nv.ext e1).own hi
    refine ⟨_, h1, .inl ⟨a, _, rfl, .inl (SqL.of (by rw [← reps_strs h6]; exact h4)), rfl, flat_strs ss, ?_⟩⟩
    rw [inV_strs]
    exact k _ H1 (.bl _) e1 rfl q
/-- s.split(sep) -/
def tSplit (to te : TE) : TE := tM1 (fun x xs H Q => ∃ a b, x = .str a ∧ xs = [.str b] ∧ (b.length == 0) = false ∧ a.length + 2 ≤ sizeLine ∧ rNewStrs (Txt.split a b) H Q) to te
theorem en_split {to : TE} (h : EvN K to δ fun d => ∃ a, d = .str a ∧ EvN K te δ fun e => ∃ b, e = .str b ∧ (b.length == 0) = false ∧ (Txt.split a b).length ≤ lim ∧ (∀ s ∈ Txt.split a b, s.length ≤ lim) ∧ R (.lst ((Txt.split a b).map .str))) : EvN K (tSplit to te) δ R := fun p X0 C H σ Q n k =>
  h p X0 C H σ _ n fun v H1 d e1 r1 ⟨a, ha, h1⟩ => by
    subst ha
    obtain ⟨rfl, hl⟩ := r1
    refine ⟨⟨a, rfl⟩, h1 p X0 C H1 σ _ (n.ext e1) fun w H2 e e2 r2 ⟨b, hb, h0, h3, h4, q⟩ => ?_⟩
    subst hb
    obtain ⟨rfl, _⟩ := r2
    refine ⟨a, b, rfl, rfl, h0, lim_line (by unfold lim at *; omega), fun q' hq => ?_⟩
    have e' : Ext K p H2 (upd H2 q' (.lst ((Txt.split a b).map .str))) := Ext.new hq
    have rs : Reps K p (fun a => X0 a ∨ C a) (upd H2 q' (.lst ((Txt.split a b).map .str))) ((Txt.split a b).map .str) ((Txt.split a b).map .str) := reps_mk_strs h4
    exact k _ _ (.lst ((Txt.split a b).map .str)) ((e1.trans e2).trans e') ⟨q', _, rfl, ((n.ext e1).ext e2).fresh hq, upd_same, by rw [List.length_map]; exact h3, rs⟩ q
/-- t[::-1] of a tuple -/
def tRevT (K : PySem.W.Frag) (te : TE) : TE := fun σ H Q => te σ H fun x H1 => ∃ a xs, x = .ref a ∧ SqT K H1 a xs ∧ ∀ p, H1 p = none → Q (.ref p) (upd H1 p (.tup xs.reverse))
theorem en_revT (h : EvN K te δ fun d => ∃ l, d = .tup l ∧ R (.tup l.reverse)) : EvN K (tRevT K te) δ R := fun p X0 C H σ Q n k =>
  h p X0 C H σ _ n fun v H1 d e1 r1 ⟨l, hl, q⟩ => by
    subst hl
    obtain ⟨a, vs, rfl, ha, h1, rs⟩ := r1
    refine ⟨a, vs, rfl, ha, fun q' hq => ?_⟩
    have e' : Ext K p H1 (upd H1 q' (.tup vs.reverse)) := Ext.new hq
    exact k _ _ (.tup l.reverse) (e1.trans e') ⟨q', _, rfl, SqT.of upd_same, by rw [List.length_reverse]; exact h1, reps_ext n.xp e' (reps_rev rs)⟩ q
end
end Dv

namespace Dv
open PySem PySem.Spec PyProof.Rows L2

/-! ### t[::-1] of a tuple -/
section
variable {prog : Program} {w : World} {A : Around} {E : Value → Shared → Prop} {s : Shared}
theorem adjust_rev (n : Nat) : Builtin.Slice.sliceAdjust none none (-1) (n : Int) = ((n : Int) - 1, -1) := by
  have h1 : ((-1 : Int) < 0) := by omega
  unfold Builtin.Slice.sliceAdjust
  simp only [h1, if_true]
theorem places_rev (n : Nat) : Builtin.Slice.slicePlaces ((n : Int) - 1) (-1) (-1) = n := by
  unfold Builtin.Slice.slicePlaces
  have h1 : ¬ ((-1 : Int) > 0) := by omega
  simp only [h1, if_false]
  have e : (- -1 : Int) = 1 := by decide
  first
    | (simp only [e, Int.ediv_one]; split <;> omega)
    | (rw [e]; simp only [Int.ediv_one]; split <;> omega)
theorem applied_rev {sl : Addr} {vs : Value} {n : Nat} {Q : Int × Int × Nat → Shared → Prop} (hs : s.heap.IsSliceOf sl .none .none vs) (ps : IsPart vs (some (-1)))
    (h : Q ((n : Int) - 1, -1, n) s) : wpAny (model prog w) A (Builtin.Slice.sliceApplied (.ref sl) (pure (n : Int))) Q E s := by
  obtain ⟨os, hos, hcs, hds⟩ := id hs
  unfold Builtin.Slice.sliceApplied Builtin.Slice.sliceFields
  refine wpAny_bind (wpAny_bind (wpAny_field hos hds (x := .none) rfl (wpAny_bind (wpAny_field hos hds (x := .none) rfl (wpAny_bind (wpAny_field hos hds (x := vs) rfl (wpAny_pure ?_)))))))
  refine wpAny_bind (HT.slicePart_ ps ?_)
  show wpAny _ _ (if ((-1 : Int) == 0) = true then _ else _) _ _ s
  rw [if_neg (by decide)]
  refine wpAny_bind (HT.slicePart_ .none (wpAny_bind (HT.slicePart_ .none (wpAny_bind (wpAny_pure ?_)))))
  show wpAny _ _ (match Builtin.Slice.sliceAdjust none none (-1) (n : Int) with | (lo, hi) => pure (lo, (-1 : Int), Builtin.Slice.slicePlaces lo hi (-1))) _ _ s
  rw [adjust_rev n]
  show wpAny _ _ (pure ((n : Int) - 1, (-1 : Int), Builtin.Slice.slicePlaces ((n : Int) - 1) (-1) (-1))) _ _ s
  rw [places_rev]
  exact wpAny_pure h
theorem filterMap_cg {α β : Type} {f g : α → Option β} : ∀ {l : List α}, (∀ x ∈ l, f x = g x) → l.filterMap f = l.filterMap g
  | [], _ => rfl
  | x :: l, h => by
    rw [List.filterMap_cons, List.filterMap_cons, h x List.mem_cons_self, filterMap_cg fun y hy => h y (List.mem_cons_of_mem _ hy)]
theorem pick_rev (xs : Array Value) : ((List.range xs.size).filterMap fun (m : Nat) => xs[(((xs.size : Int) - 1) + (m : Int) * (-1)).toNat]?).toArray = xs.toList.reverse.toArray := by
  have e : (List.range xs.size).filterMap (fun (m : Nat) => xs[(((xs.size : Int) - 1) + (m : Int) * (-1)).toNat]?) = ((List.range xs.size).map fun k => xs.size - 1 - k).filterMap fun m => xs[m]? := by
    rw [List.filterMap_map]
    refine filterMap_cg fun m hm => ?_
    have := List.mem_range.mp hm
    show xs[(((xs.size : Int) - 1) + (m : Int) * (-1)).toNat]? = xs[xs.size - 1 - m]?
    have : (((xs.size : Int) - 1) + (m : Int) * (-1)).toNat = xs.size - 1 - m := by omega
    rw [this]
  rw [e, PySem.W.krv_range, List.filterMap_reverse, PySem.W.krv_all]
theorem getItem_tuple_rev {t sl : Addr} {items : Array Value} {vs : Value} {Q : Value → Shared → Prop} (ht : IsTup s.heap t items) (hs : s.heap.IsSliceOf sl .none .none vs) (ps : IsPart vs (some (-1)))
    (h : Q (.ref s.heap.objs.size) { s with heap := s.heap.push { cls := .type "tuple", data := .seq items.toList.reverse.toArray } })
    (hsz : items.size ≤ sizeLine) : wpAny (model prog w) A (getItem (.ref t) (.ref sl)) Q E s := by
  have htake : sizeOk (.seq items.toList.reverse.toArray) := by
    show items.toList.reverse.toArray.size ≤ sizeLine
    rw [List.size_toArray, List.length_reverse, Array.length_toList]
    exact hsz
  obtain ⟨os, hos, hcs, hds⟩ := id hs
  have hTs : s.TypeIs (.ref sl) "slice" := ⟨os, hos, hcs⟩
  unfold getItem
  try with_reducible refine wpAny_holding ?_
  first | refine wpAny_bind (wpAny_pure ?_) | skip
  refine wpAny_bind (wpAny_sequenceKey ht.typeIs (by decide) ?_)
  refine wpAny_bind (wpAny_callSpecial?_slot (name := Str.ofString "__getitem__") ht.typeIs PyProof.Rows.slot_tuple_getitem
    (wpAny_call_entry PyProof.Rows.slot_tuple_getitem ht.typeIs entry_tuple_getitem ?_ (args_tuple_getitem _ _)))
  show wpAny _ _ (Builtin.Tuple.tupleItemsOf (.ref t) >>= _) _ _ s
  refine wpAny_bind (tupleItemsOf_ ht ?_)
  refine wpAny_bind (wpAny_typeOf hTs ?_)
  rw [if_pos (by decide)]
  refine wpAny_bind (applied_rev hs ps ?_)
  have hno : ¬ ((((items.size : Int) - 1) == 0 && (-1 : Int) == 1 && items.size == items.size) = true) := by
    intro q
    rw [Bool.and_eq_true, Bool.and_eq_true] at q
    exact absurd q.1.2 (by decide)
  show wpAny _ _ (if (((items.size : Int) - 1) == 0 && (-1 : Int) == 1 && items.size == items.size) = true then _ else _) _ _ s
  rw [if_neg hno, pick_rev]
  first
    | exact wpAny_bind (m := Builtin.Tuple.tupleExact _) (wpAny_newObj_type (wpAny_pure ⟨_, rfl, wpAny_pure h⟩) htake)
    | exact wpAny_bind (m := Builtin.Tuple.tupleExact _) (wpAny_newObj_type (wpAny_bind (wpAny_pure (wpAny_pure ⟨_, rfl, wpAny_pure h⟩))) htake)
    | exact wpAny_bind (wpAny_bind (m := Builtin.Tuple.tupleExact _) (wpAny_newObj_type (wpAny_pure (wpAny_pure ⟨_, rfl, wpAny_pure h⟩)) htake))
    | exact wpAny_bind (wpAny_bind (m := Builtin.Tuple.tupleExact _) (wpAny_newObj_type (wpAny_pure ⟨_, rfl, wpAny_pure h⟩) htake))
end

/-! ### constants of the module -/
def tK (K : PySem.W.Frag) (d : D) : TE := fun _ H Q => ∀ v, (∀ p X H, Rep K p X H d v) → Q v H
/-- the module's name x holds data -/
structure Gk (K : PySem.W.Frag) (mg : Str → Option Value) (x : Str) (d : D) : Prop where
  ex : ∃ v u, mg x = some u ∧ RelV v u ∧ ∀ p X H, Rep K p X H d v
section
variable {X : Cx} {tg e l : Expr} {te tl : TE} {p1 p2 p3 pos : Pos}
theorem pe_gk {x : Str} {d : D} (h : Gk X.K X.mg x d) (hg : Gl X x := by rfl) (hd : (x == ("__debug__" : Str)) = false := by decide) : PE X (.Name x pos) (tK X.K d) := by
  obtain ⟨v, u, h1, h2, h3⟩ := h.ex
  exact ⟨fun pins s σ H Q I q => (pe_glob hg h1 h2 hd).run pins s σ H Q I (q v h3)⟩
/-! ### a list, a tuple, a text -/
def iAny (K : PySem.W.Frag) (tl : TE) : TI := fun σ H R => tl σ H fun x H1 => (∃ a, x = .ref a ∧ (((∃ xs, SqL K H1 a xs) ∧ R (Itl K a) H1) ∨ ((∃ xs, SqT K H1 a xs) ∧ R (Itt K a) H1))) ∨ ∃ z, x = .str z ∧ R (Its z) H1
theorem pi_any (hl : PE X l tl) : PI X tg l (iAny X.K tl) := by
  refine ⟨fun pins s σ H R I h => ?_⟩
  refine thn (hl.run pins s σ H _ I h) fun v s1 ⟨x, H1, I1, r1, q1⟩ => ?_
  rcases q1 with q1 | q1
  · have pl : PE X l (fun σ H Q => tl σ H Q) := hl
    obtain ⟨a, e, q⟩ := q1
    subst e
    cases r1
    rcases q with ⟨⟨xs, hq⟩, q⟩ | ⟨⟨xs, hq⟩, q⟩
    · obtain ⟨its, rv, p, hz⟩ := I1.list hq
      refine wpAny_pyIter_list p.isList ?_
      refine ⟨s1.heap.objs.size, [s1.heap.objs.size], _, _, H1, rfl, I1.kept (t' := s1.toks) fun b o e => Heap.get?_push_of_some _ e, turn_list a _, ⟨_, Heap.get?_push_size _ rfl, rfl, rfl⟩, fun b hb => ?_, q⟩
      have e : b = s1.heap.objs.size := by simpa using hb
      subst e
      exact I1.fpOk (Nat.le_refl _) (I1.hok.fresh (Nat.le_refl _))
    · obtain ⟨its, rv, p, hz⟩ := I1.tuple hq
      refine wpAny_pyIter_tuple (show s1.heap.IsTuple a its.toArray from p) ?_
      refine ⟨s1.heap.objs.size, [s1.heap.objs.size], _, _, H1, rfl, I1.kept (t' := s1.toks) fun b o e => Heap.get?_push_of_some _ e, turn_tuple a _, ⟨_, Heap.get?_push_size _ rfl, rfl, rfl⟩, fun b hb => ?_, q⟩
      have e : b = s1.heap.objs.size := by simpa using hb
      subst e
      exact I1.fpOk (Nat.le_refl _) (I1.hok.fresh (Nat.le_refl _))
  · obtain ⟨z, ez, q⟩ := q1
    subst ez
    obtain ⟨t, rfl⟩ := r1
    cases ha : z.cps.all (· < 128)
    · exact wpAny_pyIter_wide ha (pi_one (tk := s1.toks) I1 _ (turn_str _ z t "str_iterator" (.inr rfl)) ⟨_, Heap.get?_push_size _ rfl, rfl, rfl⟩ q)
    · exact wpAny_pyIter_ascii ha (pi_one (tk := s1.toks) I1 _ (turn_str _ z t "str_ascii_iterator" (.inl rfl)) ⟨_, Heap.get?_push_size _ rfl, rfl, rfl⟩ q)
/-! ### t[::-1] of a tuple -/
theorem pe_revT {k : Nat} (he : PE X e te) : PE X (.Subscript e (.Slice none none (some (.UnaryOp .USub (.Constant (.int 1) k p1) p2)) p3) pos) (tRevT X.K te) := by
  refine ⟨fun pins s σ H Q I h => ?_⟩
  refine Subscript_ (thn (he.run pins s σ H _ I h) fun v s1 ⟨x, H1, I1, r1, q1⟩ => ?_)
  obtain ⟨a, xs, ex, hx, q⟩ := q1
  subst ex
  cases r1
  have hst : PO X (some (.UnaryOp .USub (.Constant (.int 1) k p1) p2)) (tPart (tUn (rU fun i => .int (-i)) (tC (.int 1)))) := po_some (pe_un un_neg pe_int)
  refine wpAny_Slice (thn (po_none.run pins s1 σ H1 (fun o H2 => o = none ∧ H2 = H1) I1 ⟨rfl, rfl⟩) fun vl s2 ⟨l, H2, I2, pl, el, e2⟩ => ?_)
  subst el e2
  refine thn (po_none.run pins s2 σ H2 (fun o H3 => o = none ∧ H3 = H2) I2 ⟨rfl, rfl⟩) fun vu s3 ⟨u, H3, I3, pu, eu, e3⟩ => ?_
  subst eu e3
  refine thn (hst.run pins s3 σ H3 (fun o H4 => o = some (-1) ∧ H4 = H3) I3 ⟨1, rfl, -1, rfl, rfl, rfl⟩) fun vs s4 ⟨o, H4, I4, ps, eo, e4⟩ => ?_
  subst eo e4
  have I5 : Inv X pins σ H4 { s4 with heap := s4.heap.push { cls := .type "slice", data := .fields #[vl, vu, vs] } } := I4.kept (t' := s4.toks) fun b ob q => Heap.get?_push_of_some _ q
  obtain ⟨its, r, ht, hz⟩ := I5.tuple hx
  have hlen := r.length
  show wpAny (model X.prog X.w) X.A (subscriptTail e (.Slice none none (some (.UnaryOp .USub (.Constant (.int 1) k p1) p2)) p3) (.ref a) (.ref s4.heap.objs.size)) (EP X pins σ Q) X.xe { s4 with heap := s4.heap.push { cls := .type "slice", data := .fields #[vl, vu, vs] } }
  refine tail_any (ops := [.ref a, .ref s4.heap.objs.size]) ht.typeIs (PyProof.Rows.slot_tuple_getitem.lookup) ?_ (by with_unfolding_all rfl)
  cases pl
  cases pu
  refine getItem_tuple_rev ht (Heap.IsSliceOf.new _ .none .none vs) ps ?_ (by rw [List.size_toArray]; omega)
  refine ⟨.ref _, _, I5.laid (t' := s4.toks) (o := .tup xs.reverse) (fun b ob q => Heap.get?_push_of_some _ q) (Nat.le_refl _) ?_, rfl, q _ (I5.hok.fresh (Nat.le_refl _))⟩
  exact ⟨by rw [List.length_reverse]; exact hz, _, r.reverse, IsTup.new _ _⟩
end
section
variable {K : PySem.W.Frag} {δ : List Sl} {te : TE}
theorem en_gk {d : D} {R : D → Prop} (q : R d) : EvN K (tK K d) δ R := fun p X0 C H σ Q n k v h => k v H d (Ext.refl H) (h p _ H) q
/-- what a for gives of lists, tuples and texts -/
def itemsA : D → Option (List D)
  | .lst l => some l
  | .tup l => some l
  | .str s => some (signsD s)
  | _ => none
theorem in_any {R : List D → Prop} (h : EvN K te δ fun d => ∃ l, itemsA d = some l ∧ R l) : ItN K (iAny K te) δ R := fun p X0 C H σ Q n k =>
  h p X0 C H σ _ n fun v H1 d e1 r1 ⟨l, hl, q⟩ => by
    cases d with
    | lst l' =>
      cases (show some l' = some l from hl)
      obtain ⟨a, vs, rfl, hx, ha, hz, rs⟩ := r1
      refine .inl ⟨a, rfl, .inl ⟨⟨vs, SqL.of ha⟩, k _ H1 l e1 ⟨_, _, (reps_len rs) ▸ walk_list (K := K) (a := a) (xs := vs), fun C' H' z => ?_, fun i C' H2 x H3 hi z y => ?_⟩ q⟩⟩
      · exact SqL.of (z.lst (fun u => hx (.inr u)) ha).2
      · obtain ⟨e, y⟩ := y
        subst e
        obtain ⟨d, g1, g2⟩ := reps_get' rs y
        exact ⟨Same.refl _, d, g1, rep_stp n.px z g2⟩
    | tup l' =>
      cases (show some l' = some l from hl)
      obtain ⟨a, vs, rfl, ha, hz, rs⟩ := r1
      refine .inl ⟨a, rfl, .inr ⟨⟨vs, ha⟩, k _ H1 l e1 ⟨_, _, (reps_len rs) ▸ walk_tup (K := K) (a := a) (xs := vs), fun C' H' z => z.sqT ha, fun i C' H2 x H3 hi z y => ?_⟩ q⟩⟩
      obtain ⟨e, y⟩ := y
      subst e
      obtain ⟨d, g1, g2⟩ := reps_get' rs y
      exact ⟨Same.refl _, d, g1, rep_stp n.px z g2⟩
    | str s =>
      cases (show some (signsD s) = some l from hl)
      obtain ⟨rfl, hz⟩ := r1
      have hl' : (signsD s).length = s.cps.size := by unfold signsD; simp
      refine .inr ⟨s, rfl, k _ H1 _ e1 ⟨_, _, hl'.symm ▸ walk_str (z := s), fun _ _ _ => trivial, fun i C' H x H' hi z y => ?_⟩ q⟩
      obtain ⟨e, c, hc, y⟩ := y
      subst e y
      refine ⟨Same.refl _, .str ⟨#[c]⟩, ?_, rfl, by show 1 ≤ lim; unfold lim; omega⟩
      unfold signsD
      rw [List.getElem?_map, Array.getElem?_toList, hc]
      rfl
    | _ => cases hl
end
end Dv

/-! what each def gives, as plain functions of plain data -/
namespace Dv
open PySem PySem.Spec PyProof.Rows L2

def lowC (c : Nat) : Bool := decide (97 ≤ c) && decide (c ≤ 122)
def digC (c : Nat) : Bool := decide (48 ≤ c) && decide (c ≤ 57)
def headLow : List Nat → Bool
  | [] => false
  | c :: _ => lowC c
def nameL (l : List Nat) : Bool := decide (1 ≤ l.length) && decide (l.length ≤ 12) && headLow l && l.all fun c => lowC c || digC c
def nameD : D → Bool
  | .str s => nameL s.cps.toList
  | _ => false
def ltS (s t : Str) : Bool := decide (s.cps.toList < t.cps.toList)
def ascS : List Str → Bool
  | [] => true
  | [_] => true
  | s :: t :: r => ltS s t && ascS (t :: r)
/-- the texts among items -/
def strsOf : List D → List Str
  | [] => []
  | .str s :: r => s :: strsOf r
  | _ :: r => strsOf r
/-- an ascending tuple of names, least of them at least -/
def namesD (least : Int) : D → Bool
  | .tup l => decide (least ≤ l.length) && decide (l.length ≤ 40) && l.all nameD && ascS (strsOf l)
  | _ => false
def tupOf (d : D) (a b : Int) : Bool := match d with
  | .tup l => decide (a ≤ l.length) && decide ((l.length : Int) ≤ b)
  | _ => false
def fromTo (d : D) (a b : Int) : Bool := match d with
  | .int i => decide (a ≤ i) && decide (i ≤ b)
  | _ => false
def houses : List Str := ["and", "or", "most", "sum"]
def houseD : D → Bool
  | .str s => decide (s ∈ houses)
  | _ => false
def rowD (n : Nat) : D → Bool
  | .tup l => decide (l.length = n) && l.all (isTy "bool")
  | _ => false

abbrev c_HOUSES : D := .tup (houses.map .str)
abbrev c_MOST_SIGNS : D := .int 12
abbrev c_MOST_SOURCE : D := .int 5
abbrev c_MOST_NAMES : D := .int 40
abbrev c_MOST_ENTRIES : D := .int 150

abbrev Wt := List D → (D → Prop) → Prop
def W_is_integer : Wt := fun ds R => ∃ d, ds = [d] ∧ R (.bl (isTy "int" d && !isTy "bool" d))
def W_is_bit : Wt := fun ds R => ∃ d, ds = [d] ∧ R (.bl (isTy "bool" d))
def W_is_from_to : Wt := fun ds R => ∃ d a b, ds = [d, .int a, .int b] ∧ R (.bl (fromTo d a b))
def W_is_tuple_of : Wt := fun ds R => ∃ d a b, ds = [d, .int a, .int b] ∧ R (.bl (tupOf d a b))
def W_is_ascending : Wt := fun ds R => ∃ ss : List Str, ds = [.tup (ss.map .str)] ∧ ss.length ≤ 1000 ∧ R (.bl (ascS ss))
def W_without_doubles : Wt := fun ds R => ds = [.tup []] ∧ R (.lst [])
def W_is_name : Wt := fun ds R => ∃ d, ds = [d] ∧ R (.bl (nameD d))
def W_is_source : Wt := fun ds R => ∃ d, ds = [d] ∧ R (.bl (fromTo d 0 5))
def W_is_house : Wt := fun ds R => ∃ d, ds = [d] ∧ R (.bl (houseD d))
def W_is_name_row : Wt := fun ds R => ∃ d n, ds = [d, .int n] ∧ R (.bl (namesD n d))
def W_is_names : Wt := fun ds R => ∃ d, ds = [d] ∧ R (.bl (namesD 1 d))
def W_is_row_over : Wt := fun ds R => ∃ ns d, ds = [.tup ns, d] ∧ ns.length ≤ lim ∧ R (.bl (rowD ns.length d))
def W_check_names : Wt := fun ds R => ∃ d n, ds = [d, n] ∧ namesD 1 d = true ∧ R .non
def W_is_row : Wt := fun ds R => ∃ ns d, ds = [.tup ns, d] ∧ namesD 1 (.tup ns) = true ∧ R (.bl (rowD ns.length d))
def W_is_entry : Wt := fun _ _ => False
def W_is_book : Wt := fun ds R => ∃ h d, ds = [.tup [.str h, d, .tup []]] ∧ h ∈ houses ∧ R (.bl (namesD 1 d))
def W__law_next : Wt := fun ds R => ∃ m : Int, ds = [.stm, .int m] ∧ 0 < m ∧ m < 1073741824 ∧ ∀ i : Int, 0 ≤ i → i < m → R (.int i)
def W__law_pick : Wt := fun ds R => ∃ l, ds = [.stm, .lst l] ∧ l ≠ [] ∧ l.length ≤ 100000 ∧ ∀ d ∈ l, R d
def W__law_says : Wt := fun ds R => ∃ a b, ds = [.bl a, .bl b] ∧ R (.bl (a == b))
def W__law_name : Wt := fun ds R => ds = [.stm] ∧ ∀ s, nameD (.str s) = true → R (.str s)
def W__law_names : Wt := fun ds R => ∃ m : Int, ds = [.stm, .int m] ∧ 1 ≤ m ∧ m ≤ 41 ∧ ∀ ss : List Str, (ss.length : Int) = m → (∀ s ∈ ss, nameD (.str s) = true) → ascS ss = true → R (.tup (ss.map .str))
def W__law_bit : Wt := fun ds R => ds = [.stm] ∧ ∀ b, R (.bl b)
def W__law_row : Wt := fun ds R => ∃ m : Int, ds = [.stm, .int m] ∧ 0 ≤ m ∧ m ≤ 1000 ∧ ∀ bs : List Bool, (bs.length : Int) = m → R (.tup (bs.map .bl))
def W__law_text : Wt := fun ds R => ds = [.stm] ∧ ∀ s, s.length ≤ 14 → R (.str s)
def W__law_is_name : Wt := fun ds R => ∃ d, ds = [d] ∧ R (.bl (nameD d))
def W__law_are_names : Wt := fun ds R => ∃ d, ds = [d] ∧ R (.bl (namesD 1 d))
def W__law_kept : Wt := fun ds R => ∃ d, ds = [.stm, d] ∧ R (.bl true)
def W__law_bent : Wt := fun ds R => ∃ ss : List Str, ds = [.stm, .tup (ss.map .str)] ∧ ss ≠ [] ∧ ss.length ≤ 1000 ∧ (∀ s ∈ ss, s.length ≤ 1000) ∧ ∀ d, R d
def W__law_near_row : Wt := fun ds R => ∃ bs : List Bool, ds = [.stm, .tup (bs.map .bl)] ∧ bs ≠ [] ∧ bs.length ≤ 1000 ∧ ∀ d, R d
def W__law_is_row : Wt := fun ds R => ∃ ns d, ds = [.tup ns, d] ∧ ns.length ≤ lim ∧ R (.bl (rowD ns.length d))
abbrev dv_check_names : List V := [.str "names"]
def sp__law_stream (K : PySem.W.Frag) : Sp := fun vs H Q _ => ∃ (a : Addr) (ns : List Int), vs = [.ref a] ∧ SqL K H a (ns.map V.int) ∧ ns.length ≤ 63 ∧
  ∀ (b p : Addr) (H' : Hp), Same H H' → H b = none → H p = none → b ≠ p → H' b = some (.lst (ns.map V.int)) → H' p = some (.lst [.ref b, .int 0, .int 0]) → Q (.ref p) H'
def sp_law (K : PySem.W.Frag) : Sp := fun vs H Q _ => ∃ (a : Addr) (ns : List Int), vs = [.ref a] ∧ SqL K H a (ns.map V.int) ∧ ns.length ≤ 63 ∧ ∀ H', Q (.bl true) H'
abbrev dv_is_integer : List V := []
abbrev dv_is_bit : List V := []
abbrev dv_is_from_to : List V := []
abbrev dv_is_tuple_of : List V := []
abbrev dv_is_ascending : List V := []
abbrev dv_without_doubles : List V := []
abbrev dv_is_within : List V := []
abbrev dv_is_name : List V := []
abbrev dv_is_source : List V := []
abbrev dv_is_house : List V := []
abbrev dv_is_name_row : List V := []
abbrev dv_is_names : List V := []
abbrev dv_is_some_of : List V := []
abbrev dv_is_row_over : List V := []
abbrev dv_is_row : List V := []
abbrev dv_is_literal_over : List V := []
abbrev dv_is_clause_over : List V := []
abbrev dv_is_rule_over : List V := []
abbrev dv_is_clause_of : List V := []
abbrev dv_is_rule_in : List V := []
abbrev dv_is_entry : List V := []
abbrev dv_is_book : List V := []
abbrev dv__law_stream : List V := []
abbrev dv__law_next : List V := []
abbrev dv__law_pick : List V := []
abbrev dv__law_says : List V := []
abbrev dv__law_name : List V := []
abbrev dv__law_names : List V := []
abbrev dv__law_bit : List V := []
abbrev dv__law_row : List V := []
abbrev dv__law_text : List V := []
abbrev dv__law_is_name : List V := []
abbrev dv__law_are_names : List V := []
abbrev dv__law_kept : List V := []
abbrev dv__law_bent : List V := []
abbrev dv__law_near_row : List V := []
abbrev dv__law_is_row : List V := []
abbrev dv_law : List V := []
end Dv

namespace Dv
open PySem PySem.Spec PyProof.Rows L2
/- def is_integer(value) -/
def N_is_integer : List Str := ["value"]
def t_is_integer (K : PySem.W.Frag) : TS := (tRet (tAndV (tCB (rIsi K) (tCons (tVar 0) (tCons (tC (.ty "int")) tNil))) (tNotV (tCB (rIsi K) (tCons (tVar 0) (tCons (tC (.ty "bool")) tNil))))))
/- def is_bit(value) -/
def N_is_bit : List Str := ["value"]
def t_is_bit (K : PySem.W.Frag) : TS := (tRet (tCB (rIsi K) (tCons (tVar 0) (tCons (tC (.ty "bool")) tNil))))
/- def is_from_to(value, least, most) -/
def N_is_from_to : List Str := ["value", "least", "most"]
def t_is_from_to (K : PySem.W.Frag) : TS := (tRet (tAndV (tCall (spN K W_is_integer) dv_is_integer E0 (tCons (tVar 0) tNil)) (tChain uLe uLe (tVar 1) (tVar 0) (tVar 2))))
/- def is_tuple_of(value, least, most) -/
def N_is_tuple_of : List Str := ["value", "least", "most"]
def t_is_tuple_of (K : PySem.W.Frag) : TS := (tRet (tAndV (tCB (rIsi K) (tCons (tVar 0) (tCons (tC (.ty "tuple")) tNil))) (tChain uLe uLe (tVar 1) (tCB (rLenC K) (tCons (tVar 0) tNil)) (tVar 2))))
/- def is_ascending(rows) -/
def N_is_ascending : List Str := ["rows", "at"]
def t_is_ascending (K : PySem.W.Frag) : TS := (tRet (tCB (rAll K) (tCons (tLc (iRng1 (tCons (tOp (rI0 fun i j => .int (i - j)) (tCB (rLenC K) (tCons (tVar 0) tNil)) (tC (.int 1))) tNil)) (gName 1) tYes (tOp uLt (tOp (rIx K) (tVar 0) (tVar 1)) (tOp (rIx K) (tVar 0) (tOp (uAdd K) (tVar 1) (tC (.int 1))))) [1]) tNil)))
/- def without_doubles(rows) -/
def N_without_doubles : List Str := ["rows", "found", "row"]
def t_without_doubles (K : PySem.W.Frag) : TS := (tSeq (tAsg tDNewK (gName 1)) (tSeq (tFor (iAny K (tVar 0)) (gName 2) (tAsg (tC (.bl true)) (gSub (tVar 1) (tVar 2) rSetL))) (tRet (tCB (rListC K) (tCons (tVar 1) tNil)))))
/- def is_name(value) -/
def N_is_name : List Str := ["value", "sign"]
def t_is_name (K : PySem.W.Frag) : TS := (tSeq (tIfS (tOr (tNot (tB (tCB (rIsi K) (tCons (tVar 0) (tCons (tC (.ty "str")) tNil))))) (tNot (tTest (tChain uLe uLe (tC (.int 1)) (tCB (rLenC K) (tCons (tVar 0) tNil)) (tK K c_MOST_SIGNS))))) (tRet (tC (.bl false))) tNext) (tRet (tAndV (tChain uLe uLe (tC (.str "a")) (tOp (rIx K) (tVar 0) (tC (.int 0))) (tC (.str "z"))) (tCB (rAll K) (tCons (tLc (iAny K (tVar 0)) (gName 1) tYes (tOrV (tChain uLe uLe (tC (.str "a")) (tVar 1) (tC (.str "z"))) (tChain uLe uLe (tC (.str "0")) (tVar 1) (tC (.str "9")))) [1]) tNil)))))
/- def is_source(value) -/
def N_is_source : List Str := ["value"]
def t_is_source (K : PySem.W.Frag) : TS := (tRet (tCall (spN K W_is_from_to) dv_is_from_to E0 (tCons (tVar 0) (tCons (tC (.int 0)) (tCons (tK K c_MOST_SOURCE) tNil)))))
/- def is_house(value) -/
def N_is_house : List Str := ["value"]
def t_is_house (K : PySem.W.Frag) : TS := (tRet (tAndV (tCB (rIsi K) (tCons (tVar 0) (tCons (tC (.ty "str")) tNil))) (tOp (uIn K false) (tVar 0) (tK K c_HOUSES))))
/- def is_name_row(value, least) -/
def N_is_name_row : List Str := ["value", "least", "one"]
def t_is_name_row (K : PySem.W.Frag) : TS := (tRet (tAndV (tCall (spN K W_is_tuple_of) dv_is_tuple_of E0 (tCons (tVar 0) (tCons (tVar 1) (tCons (tK K c_MOST_NAMES) tNil)))) (tAndV (tCB (rAll K) (tCons (tLc (iAny K (tVar 0)) (gName 2) tYes (tCall (spN K W_is_name) dv_is_name E0 (tCons (tVar 2) tNil)) [2]) tNil)) (tCall (spN K W_is_ascending) dv_is_ascending E0 (tCons (tVar 0) tNil)))))
/- def is_names(value) -/
def N_is_names : List Str := ["value"]
def t_is_names (K : PySem.W.Frag) : TS := (tRet (tCall (spN K W_is_name_row) dv_is_name_row E0 (tCons (tVar 0) (tCons (tC (.int 1)) tNil))))
/- def is_row_over(names, value) -/
def N_is_row_over : List Str := ["names", "value", "one"]
def t_is_row_over (K : PySem.W.Frag) : TS := (tRet (tAndV (tCall (spN K W_is_tuple_of) dv_is_tuple_of E0 (tCons (tVar 1) (tCons (tCB (rLenC K) (tCons (tVar 0) tNil)) (tCons (tCB (rLenC K) (tCons (tVar 0) tNil)) tNil)))) (tCB (rAll K) (tCons (tLc (iAny K (tVar 1)) (gName 2) tYes (tCall (spN K W_is_bit) dv_is_bit E0 (tCons (tVar 2) tNil)) [2]) tNil))))
/- def check_names(names, name) -/
def N_check_names : List Str := ["names", "name"]
def t_check_names (K : PySem.W.Frag) : TS := (tIfS (tNot (tB (tCall (spN K W_is_names) dv_is_names E0 (tCons (tVar 0) tNil)))) tNever tNext)
/- def is_row(names, value) -/
def N_is_row : List Str := ["names", "value"]
def t_is_row (K : PySem.W.Frag) : TS := (tSeq (tDrop (tCall (spN K W_check_names) dv_check_names E0 (tCons (tVar 0) tNil))) (tRet (tCall (spN K W_is_row_over) dv_is_row_over E0 (tCons (tVar 0) (tCons (tVar 1) tNil)))))
/- def is_book(value) -/
def N_is_book : List Str := ["value", "house", "names", "entries", "entry"]
def t_is_book (K : PySem.W.Frag) : TS := (tSeq (tIfS (tOr (tNot (tB (tCall (spN K W_is_tuple_of) dv_is_tuple_of E0 (tCons (tVar 0) (tCons (tC (.int 3)) (tCons (tC (.int 3)) tNil)))))) (tOr (tNot (tB (tCall (spN K W_is_house) dv_is_house E0 (tCons (tOp (rIx K) (tVar 0) (tC (.int 0))) tNil)))) (tNot (tB (tCall (spN K W_is_names) dv_is_names E0 (tCons (tOp (rIx K) (tVar 0) (tC (.int 1))) tNil)))))) (tRet (tC (.bl false))) tNext) (tSeq (tAsg (tVar 0) (gTup K 3 (gCons (gName 1) (gCons (gName 2) (gCons (gName 3) gNil))))) (tSeq (tIfS (tOr (tNot (tB (tCall (spN K W_is_tuple_of) dv_is_tuple_of E0 (tCons (tVar 3) (tCons (tC (.int 0)) (tCons (tK K c_MOST_ENTRIES) tNil)))))) (tNot (tB (tCB (rAll K) (tCons (tLc (iAny K (tVar 3)) (gName 4) tYes (tCall (spN K W_is_entry) dv_is_entry E0 (tCons (tVar 1) (tCons (tVar 2) (tCons (tVar 4) tNil)))) [4]) tNil))))) (tRet (tC (.bl false))) tNext) (tRet (tOp rEq (tCB (rLenC K) (tCons (tCall (spN K W_without_doubles) dv_without_doubles E0 (tCons (tVar 3) tNil)) tNil)) (tCB (rLenC K) (tCons (tVar 3) tNil)))))))
/- def _law_stream(script) -/
def N__law_stream : List Str := ["script"]
def t__law_stream (K : PySem.W.Frag) : TS := (tRet (tLst (tCons (tCB (rListC K) (tCons (tVar 0) tNil)) (tCons (tC (.int 0)) (tCons (tC (.int 0)) tNil)))))
/- def _law_next(stream, many) -/
def N__law_next : List Str := ["stream", "many", "k", "cell", "digit"]
def t__law_next (K : PySem.W.Frag) : TS := (tSeq (tIfS (tTest (tOp rEq (tOp (rIx K) (tVar 0) (tC (.int 1))) (tC (.int 0)))) (tSeq (tAsg (tOp (rIx K) (tVar 0) (tC (.int 2))) (gName 2)) (tSeq (tAsg (tOp (uAdd K) (tC (.int 7)) (tVar 2)) (gName 3)) (tSeq (tIfS (tTest (tOp uLt (tVar 2) (tCB (rLenC K) (tCons (tOp (rIx K) (tVar 0) (tC (.int 0))) tNil)))) (tAsg (tCB rAbsC (tCons (tOp (rIx K) (tOp (rIx K) (tVar 0) (tC (.int 0))) (tVar 2)) tNil)) (gName 3)) tNext) (tSeq (tIfS (tTest (tOp uLt (tVar 3) (tOp (rI CPow fun i j => .int (i ^ j.toNat)) (tC (.int 10)) (tC (.int 18))))) (tSeq (tAsg (tOp (rI (fun _ j => 0 < j) fun i j => .int (i % j)) (tCB rIntC (tCons (tOp (uAdd K) (tOp (uAdd K) (tOp (rI CMul fun i j => .int (i * j)) (tVar 3) (tC (.int 48271))) (tOp (rI CMul fun i j => .int (i * j)) (tVar 2) (tC (.int 69621)))) (tC (.int 11))) tNil)) (tC (.int 2147483647))) (gName 3)) (tAsg (tOp (uAdd K) (tOp (rI CMul fun i j => .int (i * j)) (tOp (rI (fun _ j => 0 < j) fun i j => .int (i % j)) (tCB rIntC (tCons (tOp (uAdd K) (tOp (rI CMul fun i j => .int (i * j)) (tVar 3) (tC (.int 16807))) (tC (.int 13))) tNil)) (tC (.int 2147483647))) (tC (.int 65537))) (tVar 3)) (gName 3))) tNext) (tSeq (tAsg (tVar 3) (gSub (tVar 0) (tC (.int 1)) rSetL)) (tAsg (tOp (uAdd K) (tVar 2) (tC (.int 1))) (gSub (tVar 0) (tC (.int 2)) rSetL))))))) tNext) (tSeq (tAsg (tOp (rI (fun _ j => 0 < j) fun i j => .int (i % j)) (tCB rIntC (tCons (tOp (rIx K) (tVar 0) (tC (.int 1))) tNil)) (tVar 1)) (gName 4)) (tSeq (tAsg (tOp (rI CDiv fun i j => .int (i / j)) (tOp (rIx K) (tVar 0) (tC (.int 1))) (tVar 1)) (gSub (tVar 0) (tC (.int 1)) rSetL)) (tRet (tVar 4)))))
/- def _law_pick(stream, rows) -/
def N__law_pick : List Str := ["stream", "rows"]
def t__law_pick (K : PySem.W.Frag) : TS := (tRet (tOp (rIx K) (tVar 1) (tCall (spN K W__law_next) dv__law_next E0 (tCons (tVar 0) (tCons (tCB (rLenC K) (tCons (tVar 1) tNil)) tNil)))))
/- def _law_says(actual, due) -/
def N__law_says : List Str := ["actual", "due"]
def t__law_says (K : PySem.W.Frag) : TS := (tRet (tIf (tB (tVar 1)) (tOp uIs (tVar 0) (tC (.bl true))) (tOp uIs (tVar 0) (tC (.bl false)))))
/- def _law_name(stream) -/
def N__law_name : List Str := ["stream", "texts", "name", "turn"]
def t__law_name (K : PySem.W.Frag) : TS := (tSeq (tIfS (tTest (tOp rEq (tCall (spN K W__law_next) dv__law_next E0 (tCons (tVar 0) (tCons (tC (.int 5)) tNil))) (tC (.int 0)))) (tSeq (tAsg (tC (.str "or sum if unless settles and most in out always reason row names a b z a0 az")) (gName 1)) (tRet (tCall (spN K W__law_pick) dv__law_pick E0 (tCons (tVar 0) (tCons (tSplit (tVar 1) (tC (.str " "))) tNil))))) tNext) (tSeq (tAsg (tOp (rIx K) (tC (.str "abcdefghijklmnopqrstuvwxyz")) (tCall (spN K W__law_next) dv__law_next E0 (tCons (tVar 0) (tCons (tC (.int 26)) tNil)))) (gName 2)) (tSeq (tFor (iRng1 (tCons (tCall (spN K W__law_pick) dv__law_pick E0 (tCons (tVar 0) (tCons (tLst (tCons (tC (.int 0)) (tCons (tC (.int 1)) (tCons (tC (.int 2)) (tCons (tC (.int 5)) (tCons (tC (.int 11)) tNil)))))) tNil))) tNil)) (gName 3) (tAsg (tOp (uAdd K) (tVar 2) (tOp (rIx K) (tC (.str "abcdefghijklmnopqrstuvwxyz0123456789")) (tCall (spN K W__law_next) dv__law_next E0 (tCons (tVar 0) (tCons (tC (.int 36)) tNil))))) (gName 2))) (tRet (tVar 2)))))
/- def _law_names(stream, many) -/
def N__law_names : List Str := ["stream", "many", "found", "stem", "at", "first", "alike", "k", "name", "number"]
def t__law_names (K : PySem.W.Frag) : TS := (tSeq (tAsg (tLst tNil) (gName 2)) (tSeq (tAsg (tSl (uSl K) (tCall (spN K W__law_name) dv__law_name E0 (tCons (tVar 0) tNil)) tNoPart (tPart (tC (.int 10)))) (gName 3)) (tSeq (tAsg (tCall (spN K W__law_next) dv__law_next E0 (tCons (tVar 0) (tCons (tOp (uAdd K) (tCB (rLenC K) (tCons (tVar 3) tNil)) (tC (.int 1))) tNil))) (gName 4)) (tSeq (tAsg (tCall (spN K W__law_next) dv__law_next E0 (tCons (tVar 0) (tCons (tC (.int 936)) tNil))) (gName 5)) (tSeq (tAsg (tCall (spN K W__law_next) dv__law_next E0 (tCons (tVar 0) (tCons (tC (.int 2)) tNil))) (gName 6)) (tSeq (tFor (iRng1 (tCons (tC (.int 2000)) tNil)) (gName 7) (tSeq (tIfS (tTest (tOp rEq (tCB (rLenC K) (tCons (tVar 2) tNil)) (tVar 1))) tBreak tNext) (tSeq (tAsg (tIf (tAnd (tTest (tOp rEq (tVar 6) (tC (.int 0)))) (tTest (tOp uLt (tVar 7) (tOp (rI CMul fun i j => .int (i * j)) (tC (.int 3)) (tVar 1))))) (tCall (spN K W__law_name) dv__law_name E0 (tCons (tVar 0) tNil)) (tC (.str "a"))) (gName 8)) (tSeq (tIfS (tOr (tTest (tOp rEq (tVar 6) (tC (.int 1)))) (tTest (tOp uGe (tVar 7) (tOp (rI CMul fun i j => .int (i * j)) (tC (.int 3)) (tVar 1))))) (tSeq (tAsg (tOp (rI (fun _ j => 0 < j) fun i j => .int (i % j)) (tCB rIntC (tCons (tOp (uAdd K) (tVar 5) (tOp (rI CMul fun i j => .int (i * j)) (tVar 7) (tC (.int 7)))) tNil)) (tC (.int 936))) (gName 9)) (tAsg (tOp (uAdd K) (tOp (uAdd K) (tOp (uAdd K) (tSl (uSl K) (tVar 3) tNoPart (tPart (tVar 4))) (tOp (rIx K) (tC (.str "abcdefghijklmnopqrstuvwxyz")) (tOp (rI CDiv fun i j => .int (i / j)) (tVar 9) (tC (.int 36))))) (tOp (rIx K) (tC (.str "abcdefghijklmnopqrstuvwxyz0123456789")) (tOp (rI (fun _ j => 0 < j) fun i j => .int (i % j)) (tCB rIntC (tCons (tVar 9) tNil)) (tC (.int 36))))) (tSl (uSl K) (tVar 3) (tPart (tVar 4)) tNoPart)) (gName 8))) tNext) (tIfS (tTest (tOp (uIn K true) (tVar 8) (tVar 2))) (tDrop (tBM K "list" rAppend (tVar 2) (tCons (tVar 8) tNil))) tNext))))) (tRet (tCB (rTupC K) (tCons (tCB (rSrt K) (tCons (tVar 2) tNil)) tNil)))))))))
/- def _law_bit(stream) -/
def N__law_bit : List Str := ["stream"]
def t__law_bit (K : PySem.W.Frag) : TS := (tRet (tOp rEq (tCall (spN K W__law_next) dv__law_next E0 (tCons (tVar 0) (tCons (tC (.int 2)) tNil))) (tC (.int 1))))
/- def _law_row(stream, many) -/
def N__law_row : List Str := ["stream", "many", "share", "turn", "at"]
def t__law_row (K : PySem.W.Frag) : TS := (tSeq (tAsg (tCall (spN K W__law_pick) dv__law_pick E0 (tCons (tVar 0) (tCons (tLst (tCons (tC (.int 2)) (tCons (tC (.int 2)) (tCons (tC (.int 6)) tNil)))) tNil))) (gName 2)) (tSeq (tAsg (tCall (spN K W__law_bit) dv__law_bit E0 (tCons (tVar 0) tNil)) (gName 3)) (tRet (tCB (rTupC K) (tCons (tLc (iRng1 (tCons (tVar 1) tNil)) (gName 4) tYes (tOp rNe (tOp rEq (tCall (spN K W__law_next) dv__law_next E0 (tCons (tVar 0) (tCons (tVar 2) tNil))) (tC (.int 0))) (tVar 3)) [4]) tNil)))))
/- def _law_text(stream) -/
def N__law_text : List Str := ["stream", "text", "signs", "turn"]
def t__law_text (K : PySem.W.Frag) : TS := (tSeq (tIfS (tTest (tOp rEq (tCall (spN K W__law_next) dv__law_next E0 (tCons (tVar 0) (tCons (tC (.int 3)) tNil))) (tC (.int 0)))) (tRet (tCall (spN K W__law_name) dv__law_name E0 (tCons (tVar 0) tNil))) tNext) (tSeq (tAsg (tCall (spN K W__law_pick) dv__law_pick E0 (tCons (tVar 0) (tCons (tLst (tCons (tC (.str "")) (tCons (tC (.str "a")) (tCons (tC (.str "z")) (tCons (tC (.str "m")) (tCons (tC (.str "_")) (tCons (tC (.str "A")) (tCons (tC (.str "Z")) (tCons (tC (.str "0")) (tCons (tC (.str "9")) (tCons (tC (.str "-")) (tCons (tC (.str " ")) (tCons (tC (.str "{")) (tCons (tC (.str "`")) (tCons (tC (.str "~")) tNil))))))))))))))) tNil))) (gName 1)) (tSeq (tAsg (tC (.str "abcxyz019AZ_- {`~")) (gName 2)) (tSeq (tFor (iRng1 (tCons (tCall (spN K W__law_pick) dv__law_pick E0 (tCons (tVar 0) (tCons (tLst (tCons (tC (.int 0)) (tCons (tC (.int 1)) (tCons (tC (.int 10)) (tCons (tC (.int 11)) (tCons (tC (.int 12)) (tCons (tC (.int 13)) tNil))))))) tNil))) tNil)) (gName 3) (tAsg (tOp (uAdd K) (tVar 1) (tIf (tTest (tOp rEq (tCall (spN K W__law_next) dv__law_next E0 (tCons (tVar 0) (tCons (tC (.int 9)) tNil))) (tC (.int 0)))) (tOp (rIx K) (tVar 2) (tCall (spN K W__law_next) dv__law_next E0 (tCons (tVar 0) (tCons (tCB (rLenC K) (tCons (tVar 2) tNil)) tNil)))) (tOp (rIx K) (tC (.str "abcz09")) (tCall (spN K W__law_next) dv__law_next E0 (tCons (tVar 0) (tCons (tC (.int 6)) tNil)))))) (gName 1))) (tRet (tVar 1))))))
/- def _law_is_name(value) -/
def N__law_is_name : List Str := ["value", "signs", "sign"]
def t__law_is_name (K : PySem.W.Frag) : TS := (tSeq (tIfS (tOr (tNot (tB (tCB (rIsi K) (tCons (tVar 0) (tCons (tC (.ty "str")) tNil))))) (tOr (tTest (tOp uLt (tCB (rLenC K) (tCons (tVar 0) tNil)) (tC (.int 1)))) (tTest (tOp uGt (tCB (rLenC K) (tCons (tVar 0) tNil)) (tC (.int 12)))))) (tRet (tC (.bl false))) tNext) (tSeq (tAsg (tC (.str "abcdefghijklmnopqrstuvwxyz0123456789")) (gName 1)) (tRet (tAndV (tOp (uIn K false) (tOp (rIx K) (tVar 0) (tC (.int 0))) (tSl (uSl K) (tVar 1) tNoPart (tPart (tC (.int 26))))) (tCB (rAll K) (tCons (tLc (iAny K (tVar 0)) (gName 2) tYes (tOp (uIn K false) (tVar 2) (tVar 1)) [2]) tNil))))))
/- def _law_are_names(value) -/
def N__law_are_names : List Str := ["value", "one", "at"]
def t__law_are_names (K : PySem.W.Frag) : TS := (tSeq (tIfS (tOr (tNot (tB (tCB (rIsi K) (tCons (tVar 0) (tCons (tC (.ty "tuple")) tNil))))) (tOr (tNot (tTest (tChain uLe uLe (tC (.int 1)) (tCB (rLenC K) (tCons (tVar 0) tNil)) (tC (.int 40))))) (tNot (tB (tCB (rAll K) (tCons (tLc (iAny K (tVar 0)) (gName 1) tYes (tCall (spN K W__law_is_name) dv__law_is_name E0 (tCons (tVar 1) tNil)) [1]) tNil)))))) (tRet (tC (.bl false))) tNext) (tRet (tCB (rAll K) (tCons (tLc (iRng1 (tCons (tOp (rI0 fun i j => .int (i - j)) (tCB (rLenC K) (tCons (tVar 0) tNil)) (tC (.int 1))) tNil)) (gName 2) tYes (tOp uLt (tOp (rIx K) (tVar 0) (tVar 2)) (tOp (rIx K) (tVar 0) (tOp (uAdd K) (tVar 2) (tC (.int 1))))) [2]) tNil))))
/- def _law_kept(stream, value) -/
def N__law_kept : List Str := ["stream", "value", "good", "house"]
def t__law_kept (K : PySem.W.Frag) : TS := (tSeq (tAsg (tCall (spN K W__law_are_names) dv__law_are_names E0 (tCons (tVar 1) tNil)) (gName 2)) (tSeq (tAsg (tCall (spN K W__law_pick) dv__law_pick E0 (tCons (tVar 0) (tCons (tLst (tCons (tC (.str "and")) (tCons (tC (.str "or")) (tCons (tC (.str "most")) (tCons (tC (.str "sum")) tNil))))) tNil))) (gName 3)) (tRet (tAndV (tCall (spN K W__law_says) dv__law_says E0 (tCons (tCall (spN K W_is_names) dv_is_names E0 (tCons (tVar 1) tNil)) (tCons (tVar 2) tNil))) (tCall (spN K W__law_says) dv__law_says E0 (tCons (tCall (spN K W_is_book) dv_is_book E0 (tCons (tTup (tCons (tVar 3) (tCons (tVar 1) (tCons (tTup tNil) tNil)))) tNil)) (tCons (tVar 2) tNil)))))))
/- def _law_bent(stream, names) -/
def N__law_bent : List Str := ["stream", "names", "at", "way", "wrong"]
def t__law_bent (K : PySem.W.Frag) : TS := (tSeq (tAsg (tCall (spN K W__law_next) dv__law_next E0 (tCons (tVar 0) (tCons (tCB (rLenC K) (tCons (tVar 1) tNil)) tNil))) (gName 2)) (tSeq (tAsg (tCall (spN K W__law_next) dv__law_next E0 (tCons (tVar 0) (tCons (tC (.int 8)) tNil))) (gName 3)) (tSeq (tIfS (tTest (tOp rEq (tVar 3) (tC (.int 0)))) (tRet (tOp (uAdd K) (tSl (uSl K) (tVar 1) tNoPart (tPart (tVar 2))) (tSl (uSl K) (tVar 1) (tPart (tOp (uAdd K) (tVar 2) (tC (.int 1)))) tNoPart))) tNext) (tSeq (tIfS (tTest (tOp rEq (tVar 3) (tC (.int 1)))) (tRet (tOp (uAdd K) (tSl (uSl K) (tVar 1) tNoPart (tPart (tOp (uAdd K) (tVar 2) (tC (.int 1))))) (tSl (uSl K) (tVar 1) (tPart (tVar 2)) tNoPart))) tNext) (tSeq (tIfS (tTest (tOp rEq (tVar 3) (tC (.int 2)))) (tRet (tOp (uAdd K) (tOp (uAdd K) (tSl (uSl K) (tVar 1) tNoPart (tPart (tVar 2))) (tRevT K (tSl (uSl K) (tSl (uSl K) (tVar 1) (tPart (tVar 2)) tNoPart) tNoPart (tPart (tC (.int 2)))))) (tSl (uSl K) (tVar 1) (tPart (tOp (uAdd K) (tVar 2) (tC (.int 2)))) tNoPart))) tNext) (tSeq (tIfS (tTest (tOp rEq (tVar 3) (tC (.int 3)))) (tRet (tCB (rListC K) (tCons (tVar 1) tNil))) tNext) (tSeq (tIfS (tTest (tOp rEq (tVar 3) (tC (.int 4)))) (tRet (tOp (rIx K) (tVar 1) (tC (.int 0)))) tNext) (tSeq (tAsg (tLst (tCons (tC .non) (tCons (tC (.int 3)) (tCons (tC (.bl true)) (tCons (tC (.str "")) (tCons (tTup (tCons (tC (.str "a")) tNil)) (tCons (tC (.str "A")) (tCons (tC (.str "a_")) (tCons (tC (.str "abcdefghijklm")) (tCons (tC (.str "a ")) (tCons (tOp (rIx K) (tVar 1) (tC (.int 0))) tNil))))))))))) (gName 4)) (tRet (tOp (uAdd K) (tOp (uAdd K) (tSl (uSl K) (tVar 1) tNoPart (tPart (tVar 2))) (tTup (tCons (tIf (tTest (tOp rEq (tVar 3) (tC (.int 5)))) (tCall (spN K W__law_text) dv__law_text E0 (tCons (tVar 0) tNil)) (tCall (spN K W__law_pick) dv__law_pick E0 (tCons (tVar 0) (tCons (tVar 4) tNil)))) tNil))) (tSl (uSl K) (tVar 1) (tPart (tOp (uAdd K) (tVar 2) (tC (.int 1)))) tNoPart)))))))))))
/- def _law_near_row(stream, row) -/
def N__law_near_row : List Str := ["stream", "row", "at", "way"]
def t__law_near_row (K : PySem.W.Frag) : TS := (tSeq (tAsg (tCall (spN K W__law_next) dv__law_next E0 (tCons (tVar 0) (tCons (tCB (rLenC K) (tCons (tVar 1) tNil)) tNil))) (gName 2)) (tSeq (tAsg (tCall (spN K W__law_next) dv__law_next E0 (tCons (tVar 0) (tCons (tC (.int 7)) tNil))) (gName 3)) (tSeq (tIfS (tTest (tOp rEq (tVar 3) (tC (.int 0)))) (tRet (tSl (uSl K) (tVar 1) (tPart (tC (.int 1))) tNoPart)) tNext) (tSeq (tIfS (tTest (tOp rEq (tVar 3) (tC (.int 1)))) (tRet (tOp (uAdd K) (tVar 1) (tTup (tCons (tCall (spN K W__law_bit) dv__law_bit E0 (tCons (tVar 0) tNil)) tNil)))) tNext) (tSeq (tIfS (tTest (tOp rEq (tVar 3) (tC (.int 2)))) (tRet (tCB (rListC K) (tCons (tVar 1) tNil))) tNext) (tSeq (tIfS (tTest (tOp rEq (tVar 3) (tC (.int 3)))) (tRet (tOp (uAdd K) (tOp (uAdd K) (tSl (uSl K) (tVar 1) tNoPart (tPart (tVar 2))) (tTup (tCons (tIf (tB (tOp (rIx K) (tVar 1) (tVar 2))) (tC (.int 1)) (tC (.int 0))) tNil))) (tSl (uSl K) (tVar 1) (tPart (tOp (uAdd K) (tVar 2) (tC (.int 1)))) tNoPart))) tNext) (tSeq (tIfS (tTest (tOp rEq (tVar 3) (tC (.int 4)))) (tRet (tCall (spN K W__law_pick) dv__law_pick E0 (tCons (tVar 0) (tCons (tLst (tCons (tC .non) (tCons (tC (.bl true)) (tCons (tC (.str "")) (tCons (tTup tNil) (tCons (tTup (tCons (tVar 1) tNil)) (tCons (tC (.int 0)) (tCons (tOp (rIx K) (tVar 1) (tC (.int 0))) tNil)))))))) tNil)))) tNext) (tRet (tOp (uAdd K) (tOp (uAdd K) (tSl (uSl K) (tVar 1) tNoPart (tPart (tVar 2))) (tTup (tCons (tCall (spN K W__law_pick) dv__law_pick E0 (tCons (tVar 0) (tCons (tLst (tCons (tC .non) (tCons (tC (.str "True")) (tCons (tC (.int 2)) (tCons (tTup tNil) (tCons (tC (.str "")) (tCons (tUn (rU fun i => .int (-i)) (tC (.int 1))) (tCons (tTup (tCons (tC (.bl true)) tNil)) tNil)))))))) tNil))) tNil))) (tSl (uSl K) (tVar 1) (tPart (tOp (uAdd K) (tVar 2) (tC (.int 1)))) tNoPart))))))))))
/- def _law_is_row(names, value) -/
def N__law_is_row : List Str := ["names", "value", "one"]
def t__law_is_row (K : PySem.W.Frag) : TS := (tRet (tAndV (tCB (rIsi K) (tCons (tVar 1) (tCons (tC (.ty "tuple")) tNil))) (tAndV (tOp rEq (tCB (rLenC K) (tCons (tVar 1) tNil)) (tCB (rLenC K) (tCons (tVar 0) tNil))) (tCB (rAll K) (tCons (tLc (iAny K (tVar 1)) (gName 2) tYes (tCB (rIsi K) (tCons (tVar 2) (tCons (tC (.ty "bool")) tNil))) [2]) tNil)))))
/- def law(script) -/
def N_law : List Str := ["script", "stream", "turn", "text", "number", "many", "names", "row", "other", "wrong", "one"]
def t_law (K : PySem.W.Frag) : TS := (tSeq (tAsg (tCall (sp__law_stream K) dv__law_stream E0 (tCons (tVar 0) tNil)) (gName 1)) (tSeq (tFor (iRng1 (tCons (tC (.int 6)) tNil)) (gName 2) (tSeq (tAsg (tCall (spN K W__law_text) dv__law_text E0 (tCons (tVar 1) tNil)) (gName 3)) (tSeq (tIfS (tOr (tNot (tB (tCall (spN K W__law_says) dv__law_says E0 (tCons (tCall (spN K W_is_name) dv_is_name E0 (tCons (tVar 3) tNil)) (tCons (tCall (spN K W__law_is_name) dv__law_is_name E0 (tCons (tVar 3) tNil)) tNil))))) (tTest (tOp uIsNot (tCall (spN K W_is_name) dv_is_name E0 (tCons (tCall (spN K W__law_name) dv__law_name E0 (tCons (tVar 1) tNil)) tNil)) (tC (.bl true))))) (tRet (tC (.bl false))) tNext) (tIfS (tNot (tB (tCall (spN K W__law_kept) dv__law_kept E0 (tCons (tVar 1) (tCons (tTup (tCons (tVar 3) tNil)) tNil))))) (tRet (tC (.bl false))) tNext)))) (tSeq (tAsg (tOp (rI0 fun i j => .int (i - j)) (tCall (spN K W__law_next) dv__law_next E0 (tCons (tVar 1) (tCons (tC (.int 12)) tNil))) (tC (.int 3))) (gName 4)) (tSeq (tIfS (tOr (tNot (tB (tCall (spN K W__law_says) dv__law_says E0 (tCons (tCall (spN K W_is_source) dv_is_source E0 (tCons (tVar 4) tNil)) (tCons (tChain uLe uLe (tC (.int 0)) (tVar 4) (tC (.int 5))) tNil))))) (tTest (tOp uIsNot (tCall (spN K W_is_source) dv_is_source E0 (tCons (tCall (spN K W__law_pick) dv__law_pick E0 (tCons (tVar 1) (tCons (tLst (tCons (tC (.bl true)) (tCons (tC (.bl false)) (tCons (tC .non) (tCons (tC (.str "3")) (tCons (tTup (tCons (tC (.int 3)) tNil)) (tCons (tOp (rI CPow fun i j => .int (i ^ j.toNat)) (tC (.int 10)) (tC (.int 20))) (tCons (tUn (rU fun i => .int (-i)) (tC (.int 1))) (tCons (tC (.int 6)) tNil))))))))) tNil))) tNil)) (tC (.bl false))))) (tRet (tC (.bl false))) tNext) (tSeq (tIfS (tNot (tB (tCB (rAll K) (tCons (tLc (iAny K (tLst (tCons (tC (.str "and")) (tCons (tC (.str "or")) (tCons (tC (.str "most")) (tCons (tC (.str "sum")) tNil)))))) (gName 10) tYes (tOp uIs (tCall (spN K W_is_house) dv_is_house E0 (tCons (tVar 10) tNil)) (tC (.bl true))) [10]) tNil)))) (tRet (tC (.bl false))) tNext) (tSeq (tIfS (tTest (tOp uIsNot (tCall (spN K W_is_house) dv_is_house E0 (tCons (tCall (spN K W__law_pick) dv__law_pick E0 (tCons (tVar 1) (tCons (tLst (tCons (tC (.str "And")) (tCons (tC (.str "")) (tCons (tC (.str "not")) (tCons (tC (.str "if")) (tCons (tC (.str "unless")) (tCons (tC (.str "sums")) (tCons (tC (.str "mos")) (tCons (tC (.str "and ")) (tCons (tC .non) (tCons (tC (.int 0)) (tCons (tC (.bl true)) (tCons (tTup (tCons (tC (.str "and")) tNil)) (tCons (tC (.str "settles")) (tCons (tC (.str "xor")) (tCons (tLst (tCons (tC (.str "or")) tNil)) tNil)))))))))))))))) tNil))) tNil)) (tC (.bl false)))) (tRet (tC (.bl false))) tNext) (tSeq (tFor (iAny K (tLst (tCons (tC (.int 1)) (tCons (tCall (spN K W__law_pick) dv__law_pick E0 (tCons (tVar 1) (tCons (tLst (tCons (tC (.int 2)) (tCons (tC (.int 3)) (tCons (tC (.int 12)) (tCons (tC (.int 39)) tNil))))) tNil))) (tCons (tC (.int 40)) (tCons (tC (.int 41)) tNil)))))) (gName 5) (tSeq (tAsg (tCall (spN K W__law_names) dv__law_names E0 (tCons (tVar 1) (tCons (tVar 5) tNil))) (gName 6)) (tSeq (tIfS (tOr (tNot (tB (tCall (spN K W__law_kept) dv__law_kept E0 (tCons (tVar 1) (tCons (tVar 6) tNil))))) (tNot (tB (tCall (spN K W__law_kept) dv__law_kept E0 (tCons (tVar 1) (tCons (tCall (spN K W__law_bent) dv__law_bent E0 (tCons (tVar 1) (tCons (tVar 6) tNil))) tNil)))))) (tRet (tC (.bl false))) tNext) (tIfS (tTest (tOp uLe (tVar 5) (tC (.int 40)))) (tSeq (tAsg (tCall (spN K W__law_row) dv__law_row E0 (tCons (tVar 1) (tCons (tVar 5) tNil))) (gName 7)) (tSeq (tAsg (tCall (spN K W__law_near_row) dv__law_near_row E0 (tCons (tVar 1) (tCons (tVar 7) tNil))) (gName 8)) (tIfS (tOr (tTest (tOp uIsNot (tCall (spN K W_is_row) dv_is_row E0 (tCons (tVar 6) (tCons (tVar 7) tNil))) (tC (.bl true)))) (tNot (tB (tCall (spN K W__law_says) dv__law_says E0 (tCons (tCall (spN K W_is_row) dv_is_row E0 (tCons (tVar 6) (tCons (tVar 8) tNil))) (tCons (tCall (spN K W__law_is_row) dv__law_is_row E0 (tCons (tVar 6) (tCons (tVar 8) tNil))) tNil)))))) (tRet (tC (.bl false))) tNext))) tNext)))) (tSeq (tAsg (tCall (spN K W__law_pick) dv__law_pick E0 (tCons (tVar 1) (tCons (tLst (tCons (tC .non) (tCons (tC (.int 1)) (tCons (tC (.bl true)) (tCons (tUn (rU fun i => .int (-i)) (tC (.int 2))) (tCons (tC (.str "")) (tCons (tC (.str "a")) (tCons (tTup tNil) (tCons (tLst tNil) (tCons (tLst (tCons (tC (.str "a")) tNil)) (tCons (tTup (tCons (tC (.str "a")) (tCons (tC (.str "a")) tNil))) (tCons (tTup (tCons (tC (.str "b")) (tCons (tC (.str "a")) tNil))) tNil)))))))))))) tNil))) (gName 9)) (tRet (tAndV (tOp uIs (tCall (spN K W_is_names) dv_is_names E0 (tCons (tVar 9) tNil)) (tC (.bl false))) (tAndV (tOp uIs (tCall (spN K W_is_name) dv_is_name E0 (tCons (tCall (spN K W__law_pick) dv__law_pick E0 (tCons (tVar 1) (tCons (tLst (tCons (tC .non) (tCons (tC (.int 1)) (tCons (tC (.bl true)) (tCons (tTup (tCons (tC (.str "a")) tNil)) (tCons (tLst tNil) (tCons (tOp (rI CPow fun i j => .int (i ^ j.toNat)) (tC (.int 10)) (tC (.int 30))) tNil))))))) tNil))) tNil)) (tC (.bl false))) (tCall (spN K W__law_kept) dv__law_kept E0 (tCons (tVar 1) (tCons (tTup tNil) tNil))))))))))))))
end Dv

namespace Dv
open PySem PySem.Spec PyProof.Rows L2
section
theorem ex_bl {x : Bool} {P : Bool → Prop} (h : P x) : ∃ b, D.bl x = D.bl b ∧ P b := ⟨x, rfl, h⟩
theorem ex_int {x : Int} {P : Int → Prop} (h : P x) : ∃ i, D.int x = D.int i ∧ P i := ⟨x, rfl, h⟩
theorem iteT' {x : Bool} {A B : Prop} (h : x = true) (a : A) : if x = true then A else B := by rw [if_pos h]; exact a
theorem iteF' {x : Bool} {A B : Prop} (h : x = false) (a : B) : if x = true then A else B := by rw [h]; exact iteF a
theorem ite_b {x : Bool} {A B : Prop} (h1 : x = true → A) (h2 : x = false → B) : if x = true then A else B := by
  cases x with
  | true => exact iteT (h1 rfl)
  | false => exact iteF (h2 rfl)
end
section
variable {K : PySem.W.Frag} {δ : List Sl}
theorem ItN.mono {wi : TI} {R R' : List D → Prop} (h : ItN K wi δ R) (i : ∀ l, R l → R' l) : ItN K wi δ R' := fun p X0 C H σ Q n k => h p X0 C H σ Q n fun J H1 l e s q => k J H1 l e s (i l q)
/-- all([f x for x in xs]) -/
theorem en_all {wi : TI} {g : TG} {te : TE} {vs : List Nat} {R : D → Prop} (f : D → Bool) (h : ItN K wi δ fun l => l.length ≤ lim ∧ (∀ (i : Nat) d, l[i]? = some d → GN K g vs d (wipeD δ vs) fun δ' => EvN K te δ' fun z => z = .bl (f d)) ∧ R (.bl (l.all f))) :
    EvN K (tCB (rAll K) (tCons (tLc wi g tYes te vs) tNil)) δ R := by
  refine en_cb (an_cons (en_lc_map (fun d => .bl (f d)) (h.mono fun l ⟨h1, h2, h3⟩ => ⟨h1, h2, an_nil ?_⟩)))
  have e : l.map (fun d => D.bl (f d)) = (l.map f).map .bl := by rw [List.map_map]; rfl
  rw [e]
  refine ca_all ?_
  have e2 : (l.map f).all id = l.all f := by rw [List.all_map]; rfl
  rw [e2]
  exact h3
end


theorem w_is_integer {d : D} {R : D → Prop} (q : R (.bl (isTy "int" d && !isTy "bool" d))) : W_is_integer [d] R := ⟨d, rfl, q⟩
theorem w_is_bit {d : D} {R : D → Prop} (q : R (.bl (isTy "bool" d))) : W_is_bit [d] R := ⟨d, rfl, q⟩
theorem w_is_from_to {d : D} {a b : Int} {R : D → Prop} (q : R (.bl (fromTo d a b))) : W_is_from_to [d, .int a, .int b] R := ⟨d, a, b, rfl, q⟩
theorem w_is_tuple_of {d : D} {a b : Int} {R : D → Prop} (q : R (.bl (tupOf d a b))) : W_is_tuple_of [d, .int a, .int b] R := ⟨d, a, b, rfl, q⟩
theorem w_is_ascending {ss : List Str} {R : D → Prop} (hs : ss.length ≤ 1000) (q : R (.bl (ascS ss))) : W_is_ascending [.tup (ss.map .str)] R := ⟨ss, rfl, hs, q⟩
theorem w_is_name {d : D} {R : D → Prop} (q : R (.bl (nameD d))) : W_is_name [d] R := ⟨d, rfl, q⟩
theorem w_is_source {d : D} {R : D → Prop} (q : R (.bl (fromTo d 0 5))) : W_is_source [d] R := ⟨d, rfl, q⟩
theorem w_is_house {d : D} {R : D → Prop} (q : R (.bl (houseD d))) : W_is_house [d] R := ⟨d, rfl, q⟩
theorem w_is_name_row {d : D} {n : Int} {R : D → Prop} (q : R (.bl (namesD n d))) : W_is_name_row [d, .int n] R := ⟨d, n, rfl, q⟩
theorem w_is_names {d : D} {R : D → Prop} (q : R (.bl (namesD 1 d))) : W_is_names [d] R := ⟨d, rfl, q⟩
theorem w_is_row_over {ns : List D} {d : D} {R : D → Prop} (hn : ns.length ≤ lim) (q : R (.bl (rowD ns.length d))) : W_is_row_over [.tup ns, d] R := ⟨ns, d, rfl, hn, q⟩
/-! #### ascending -/
def ltAt (ss : List Str) (i : Nat) : Bool := match ss[i]?, ss[i + 1]? with
  | some s, some t => ltS s t
  | _, _ => false
theorem ascS_all : ∀ ss : List Str, (List.range (ss.length - 1)).all (ltAt ss) = ascS ss
  | [] => rfl
  | [_] => rfl
  | s :: t :: r => by
    have e : (s :: t :: r).length - 1 = (t :: r).length - 1 + 1 := by simp
    rw [e, List.range_succ_eq_map, List.all_cons, List.all_map]
    show (ltS s t && _) = (ltS s t && ascS (t :: r))
    rw [← ascS_all (t :: r)]
    rfl
def intNat : D → Nat
  | .int i => i.toNat
  | _ => 0
theorem range_all (f : Nat → Bool) (n : Nat) : (rangeD 0 n).all (fun d => f (intNat d)) = (List.range n).all f := by
  unfold rangeD
  rw [List.all_map]
  congr 1
  funext i
  show f (0 + (i : Int)).toNat = f i
  congr 1
  omega
/-- all([rows[at] < rows[at + 1] for at in range(len(rows) - 1)]), rows in slot 0, at in slot j -/
theorem en_asc {K : PySem.W.Frag} {δ : List Sl} {R : D → Prop} {ss : List Str} {j : Nat} (h0 : δ[0]? = some (.val (.tup (ss.map .str)))) (hj : j < δ.length) (hj0 : j ≠ 0) (hs : ss.length ≤ 1000000) (q : R (.bl (ascS ss))) :
    EvN K (tCB (rAll K) (tCons (tLc (iRng1 (tCons (tOp (rI0 fun i j => .int (i - j)) (tCB (rLenC K) (tCons (tVar 0) tNil)) (tC (.int 1))) tNil)) (gName j) tYes (tOp uLt (tOp (rIx K) (tVar 0) (tVar j)) (tOp (rIx K) (tVar 0) (tOp (uAdd K) (tVar j) (tC (.int 1))))) [j]) tNil)) δ R := by
  refine en_all (fun d => ltAt ss (intNat d)) (in_R1 (an_cons (en_op (en_cb (an_cons (en_var h0 (an_nil (ca_len rfl (en_int (on_sub (an_nil ⟨_, rfl, ?_, ?_, fun i d hd => ?_, ?_⟩)))))))))))
  · rw [List.length_map]; omega
  · rw [rangeD_len, List.length_map]; unfold lim; omega
  · obtain ⟨hi, rfl⟩ := rangeD_at hd
    rw [List.length_map] at hi
    have h1 : i + 1 < ss.length := by omega
    refine gn_name ?_
    have δ0 : ((wipeD δ [j]).set j (.val (.int (0 + (i : Nat)))))[0]? = some (.val (.tup (ss.map .str))) := by
      show (((δ.set j .no)).set j _)[0]? = _
      rw [List.getElem?_set_ne hj0, List.getElem?_set_ne hj0]
      exact h0
    have δj : ((wipeD δ [j]).set j (.val (.int (0 + (i : Nat)))))[j]? = some (.val (.int (i : Nat))) := by
      show (((δ.set j .no)).set j _)[j]? = _
      rw [List.getElem?_set_self (by rw [List.length_set]; exact hj), Int.zero_add]
    refine en_op (en_op (en_var δ0 (en_var δj (on_ix (n := i) rfl (show (ss.map D.str)[i]? = some (.str (ss[i]'(by omega))) by rw [List.getElem?_map, List.getElem?_eq_getElem (by omega)]; rfl) (en_op (en_var δ0 (en_op (en_var δj (en_int (on_add ?_))))))))))
    have e : (i : Int) + 1 = ((i + 1 : Nat) : Int) := by omega
    rw [e]
    refine on_ix (n := i + 1) rfl (show (ss.map D.str)[i + 1]? = some (.str (ss[i + 1]'(by omega))) by rw [List.getElem?_map, List.getElem?_eq_getElem (by omega)]; rfl) (on_lt_s ?_)
    have e2 : intNat (.int (0 + (i : Nat))) = i := by show (0 + (i : Int)).toNat = i; omega
    rw [e2]
    unfold ltAt
    rw [List.getElem?_eq_getElem (by omega : i < ss.length), List.getElem?_eq_getElem h1]
    rfl
  · have e : (((List.map D.str ss).length : Int) - 1).toNat = ss.length - 1 := by rw [List.length_map]; omega
    rw [e, range_all, ascS_all]
    exact q
/-! #### names -/
theorem sign_le (c d : Nat) : (!decide (([c] : List Nat) < [d])) = decide (d ≤ c) := by
  have e : (([c] : List Nat) < [d]) ↔ c < d := by
    constructor
    · intro h
      cases h with
      | rel h => exact h
      | cons h => cases h
    · exact fun h => List.Lex.rel h
  rw [Bool.eq_iff_iff]
  simp only [Bool.not_eq_true', decide_eq_false_iff_not, decide_eq_true_eq, e]
  omega
theorem cps_a : ("a" : Str).cps.toList = [97] := by decide +kernel
theorem cps_z : ("z" : Str).cps.toList = [122] := by decide +kernel
theorem cps_0 : ("0" : Str).cps.toList = [48] := by decide +kernel
theorem cps_9 : ("9" : Str).cps.toList = [57] := by decide +kernel
/-- of a text of one sign -/
def signS (f : Nat → Bool) : D → Bool
  | .str s => s.cps.toList.all f
  | _ => false
theorem signs_all (f : Nat → Bool) (s : Str) : (signsD s).all (signS f) = s.cps.toList.all f := by
  unfold signsD
  rw [List.all_map]
  congr 1
  funext c
  show ([c].all f) = f c
  simp
theorem signs_at {s : Str} {i : Nat} {d : D} (h : (signsD s)[i]? = some d) : ∃ c, s.cps.toList[i]? = some c ∧ d = .str ⟨#[c]⟩ := by
  unfold signsD at h
  rw [List.getElem?_map] at h
  cases e : s.cps.toList[i]? with
  | none => rw [e] at h; cases h
  | some c => rw [e] at h; cases h; exact ⟨c, rfl, rfl⟩
theorem signsD_len (s : Str) : (signsD s).length = s.length := by unfold signsD; simp [Str.length]
/-! #### tuples of names -/
theorem strs_of_names : ∀ {l : List D}, l.all nameD = true → l = (strsOf l).map .str
  | [], _ => rfl
  | d :: l, h => by
    rw [List.all_cons, Bool.and_eq_true] at h
    cases d with
    | str s =>
      show D.str s :: l = .str s :: (strsOf l).map .str
      rw [← strs_of_names h.2]
    | _ => exact absurd h.1 (by simp [nameD])
/-- the three tests of a tuple of names agree with namesD -/
theorem namesD_of {n : Int} {l : List D} : namesD n (.tup l) = (tupOf (.tup l) n 40 && (l.all nameD && ascS (strsOf l))) := by
  have e : decide (l.length ≤ 40) = decide ((l.length : Int) ≤ 40) := by rw [Bool.eq_iff_iff]; simp; omega
  show (decide (n ≤ (l.length : Int)) && decide (l.length ≤ 40) && l.all nameD && ascS (strsOf l)) = (decide (n ≤ (l.length : Int)) && decide ((l.length : Int) ≤ 40) && (l.all nameD && ascS (strsOf l)))
  rw [e, Bool.and_assoc]
/- the law's own defs -/
theorem w__law_next {m : Int} {R : D → Prop} (h : 0 < m ∧ m < 1073741824) (q : ∀ i : Int, 0 ≤ i → i < m → R (.int i)) : W__law_next [.stm, .int m] R := ⟨m, rfl, h.1, h.2, q⟩
theorem w__law_pick {l : List D} {R : D → Prop} (h : l.isEmpty = false ∧ l.length ≤ 100000) (q : ∀ d ∈ l, R d) : W__law_pick [.stm, .lst l] R := ⟨l, rfl, (fun z => by rw [z] at h; exact absurd h.1 (by decide)), h.2, q⟩
theorem w__law_says {a b : Bool} {R : D → Prop} (q : R (.bl (a == b))) : W__law_says [.bl a, .bl b] R := ⟨a, b, rfl, q⟩
theorem w__law_name {R : D → Prop} (q : ∀ s, nameD (.str s) = true → R (.str s)) : W__law_name [.stm] R := ⟨rfl, q⟩
theorem w__law_bit {R : D → Prop} (q : ∀ b, R (.bl b)) : W__law_bit [.stm] R := ⟨rfl, q⟩
theorem w__law_text {R : D → Prop} (q : ∀ s, s.length ≤ 14 → R (.str s)) : W__law_text [.stm] R := ⟨rfl, q⟩
theorem w__law_is_name {d : D} {R : D → Prop} (q : R (.bl (nameD d))) : W__law_is_name [d] R := ⟨d, rfl, q⟩
theorem w__law_are_names {d : D} {R : D → Prop} (q : R (.bl (namesD 1 d))) : W__law_are_names [d] R := ⟨d, rfl, q⟩
theorem w__law_kept {d : D} {R : D → Prop} (q : R (.bl true)) : W__law_kept [.stm, d] R := ⟨d, rfl, q⟩
/-- an item at a place that lies within -/
theorem on_ixI {K : PySem.W.Frag} {d : D} {l : List D} {i : Int} {R : D → Prop} (hd : items? d = some l) (h : 0 ≤ i ∧ i < l.length) (q : ∀ e ∈ l, R e) : OpN K (rIx K) d (.int i) R := by
  have e : ((i.toNat : Nat) : Int) = i := by omega
  rw [← e]
  exact on_ix hd (List.getElem?_eq_getElem (by omega : i.toNat < l.length)) (q _ (List.getElem_mem _))
theorem on_ix_sI {K : PySem.W.Frag} {s : Str} {i : Int} {R : D → Prop} (n : Nat) (hs : s.length = n) (h : 0 ≤ i ∧ i < n) (q : ∀ c, s.cps.toList[i.toNat]? = some c → R (.str ⟨#[c]⟩)) : OpN K (rIx K) (.str s) (.int i) R := by
  have e : ((i.toNat : Nat) : Int) = i := by omega
  have hl : s.cps.toList.length = n := by rw [← hs]; simp [Str.length]
  rw [← e]
  have hx : s.cps.toList[i.toNat]? = some s.cps.toList[i.toNat] := List.getElem?_eq_getElem (by omega)
  exact on_ix_s hx (q _ hx)
def lowS : Str := "abcdefghijklmnopqrstuvwxyz"
def alnS : Str := "abcdefghijklmnopqrstuvwxyz0123456789"
theorem lowS_list : lowS.cps.toList = (List.range 26).map (· + 97) := by decide +kernel
theorem alnS_list : alnS.cps.toList = (List.range 26).map (· + 97) ++ (List.range 10).map (· + 48) := by decide +kernel
theorem lowS_mem (c : Nat) : decide (c ∈ lowS.cps.toList) = lowC c := by
  rw [lowS_list, Bool.eq_iff_iff, decide_eq_true_eq, List.mem_map]
  unfold lowC
  simp only [List.mem_range, Bool.and_eq_true, decide_eq_true_eq]
  constructor
  · rintro ⟨a, h, rfl⟩; omega
  · intro h; exact ⟨c - 97, by omega, by omega⟩
theorem alnS_mem (c : Nat) : decide (c ∈ alnS.cps.toList) = (lowC c || digC c) := by
  rw [alnS_list, Bool.eq_iff_iff, decide_eq_true_eq, List.mem_append, List.mem_map, List.mem_map]
  unfold lowC digC
  simp only [List.mem_range, Bool.and_eq_true, Bool.or_eq_true, decide_eq_true_eq]
  constructor
  · rintro (⟨a, h, rfl⟩ | ⟨a, h, rfl⟩) <;> omega
  · rintro (h | h)
    · exact .inl ⟨c - 97, by omega, by omega⟩
    · exact .inr ⟨c - 48, by omega, by omega⟩
theorem aln26 : cutS alnS none (some 26) = lowS := by decide +kernel
theorem lowS_at {i c : Nat} (h : lowS.cps.toList[i]? = some c) : c = i + 97 ∧ i < 26 := by
  rw [lowS_list] at h
  rw [List.getElem?_map] at h
  cases e : (List.range 26)[i]? with
  | none => rw [e] at h; cases h
  | some x =>
    rw [e] at h
    have hi := (List.getElem?_eq_some_iff.mp e).1
    rw [List.length_range] at hi
    rw [List.getElem?_range hi] at e
    cases e
    cases h
    exact ⟨rfl, hi⟩
theorem alnS_ok {i c : Nat} (h : alnS.cps.toList[i]? = some c) : (lowC c || digC c) = true := by
  rw [← alnS_mem, decide_eq_true_eq]
  exact List.mem_of_getElem? h
theorem lowS_ok {i c : Nat} (h : lowS.cps.toList[i]? = some c) : lowC c = true := by
  rw [← lowS_mem, decide_eq_true_eq]
  exact List.mem_of_getElem? h
theorem lowS_len : lowS.length = 26 := by decide +kernel
theorem alnS_len : alnS.length = 36 := by decide +kernel
/-- an item at a written place of written items -/
def pick? (d : D) (i : Int) : Option D := if 0 ≤ i then (items? d).bind fun l => l[i.toNat]? else none
theorem on_ixC {K : PySem.W.Frag} {d e : D} {i : Int} {R : D → Prop} (h : pick? d i = some e) (q : R e) : OpN K (rIx K) d (.int i) R := by
  unfold pick? at h
  by_cases h0 : 0 ≤ i
  · rw [if_pos h0] at h
    cases hd : items? d with
    | none => rw [hd] at h; cases h
    | some l =>
      rw [hd] at h
      have e' : ((i.toNat : Nat) : Int) = i := by omega
      rw [← e']
      exact on_ix hd h q
  · rw [if_neg h0] at h; cases h
theorem w_without_doubles {R : D → Prop} (q : R (.lst [])) : W_without_doubles [.tup []] R := ⟨rfl, q⟩
theorem w_is_book {h : Str} {d : D} {R : D → Prop} (hh : h ∈ houses) (q : R (.bl (namesD 1 d))) : W_is_book [.tup [.str h, d, .tup []]] R := ⟨h, d, rfl, hh, q⟩
/-- a statement, then the rest, with a word between them -/
theorem sn_seqM {K : PySem.W.Frag} {δ : List Sl} {ts tu : TS} {k : Ks} (M : List Sl → Prop) (h1 : StN K ts δ { k with nx := M }) (h2 : ∀ δ', M δ' → StN K tu δ' k) : StN K (tSeq ts tu) δ k :=
  sn_seq (h1.mono (fun δ' h => h2 δ' h) (fun _ h => h) (fun _ h => h) (fun _ h => h))
theorem w__law_names {i : Int} {R : D → Prop} (h : 1 ≤ i ∧ i ≤ 41) (q : ∀ ss : List Str, (ss.length : Int) = i → (∀ s ∈ ss, nameD (.str s) = true) → ascS ss = true → R (.tup (ss.map .str))) : W__law_names [.stm, .int i] R := ⟨i, rfl, h.1, h.2, q⟩
theorem w__law_row {i : Int} {R : D → Prop} (h : 0 ≤ i ∧ i ≤ 1000) (q : ∀ bs : List Bool, (bs.length : Int) = i → R (.tup (bs.map .bl))) : W__law_row [.stm, .int i] R := ⟨i, rfl, h.1, h.2, q⟩
theorem w__law_near_row {bs : List Bool} {R : D → Prop} (h : bs ≠ [] ∧ bs.length ≤ 1000) (q : ∀ d, R d) : W__law_near_row [.stm, .tup (bs.map .bl)] R := ⟨bs, rfl, h.1, h.2, q⟩
theorem w__law_bent {ss : List Str} {R : D → Prop} (h : ss ≠ [] ∧ ss.length ≤ 1000 ∧ ∀ s ∈ ss, s.length ≤ 1000) (q : ∀ d, R d) : W__law_bent [.stm, .tup (ss.map .str)] R := ⟨ss, rfl, h.1, h.2.1, h.2.2, q⟩
theorem w__law_is_row {ns : List D} {d : D} {R : D → Prop} (h : ns.length ≤ lim) (q : R (.bl (rowD ns.length d))) : W__law_is_row [.tup ns, d] R := ⟨ns, d, rfl, h, q⟩
theorem w_is_row {ns : List D} {d : D} {R : D → Prop} (h : namesD 1 (.tup ns) = true) (q : R (.bl (rowD ns.length d))) : W_is_row [.tup ns, d] R := ⟨ns, d, rfl, h, q⟩
theorem names_of_strs : ∀ ss : List Str, strsOf (ss.map .str) = ss
  | [] => rfl
  | s :: ss => by
    show s :: strsOf (ss.map .str) = s :: ss
    rw [names_of_strs ss]
end Dv

namespace Dv
open PySem PySem.Spec PyProof.Rows L2
local macro_rules | `(tactic| walk_at "d1") => `(tactic| (first
  | (with_reducible refine sn_seq ?_)
  | (with_reducible refine sn_if ?_)
  | (with_reducible refine sn_ret ?_)
  | (with_reducible refine sn_asg ?_)
  | (with_reducible refine sn_next ?_)
  | (with_reducible refine sn_break ?_)
  | (with_reducible refine sn_cont ?_)
  | (with_reducible refine sn_drop ?_)
  | (with_reducible refine tn_test ?_)
  | (with_reducible refine tn_B ?_)
  | (with_reducible refine tn_not ?_)
  | (with_reducible refine tn_and ?_)
  | (with_reducible refine tn_or ?_)
  | (with_reducible refine en_var (by with_unfolding_all exact rfl) ?_)
  | (with_reducible refine en_int ?_)
  | (with_reducible refine en_bl ?_)
  | (with_reducible refine en_non ?_)
  | (with_reducible refine en_str (by decide +kernel) ?_)
  | (with_reducible refine en_gk ?_)
  | (with_reducible refine en_chain ?_)
  | (with_reducible refine en_isi (by decide) ?_)
  | (with_reducible refine en_op ?_)
  | (with_reducible refine en_un ?_)
  | (with_reducible refine en_and ?_)
  | (with_reducible refine en_or ?_)
  | (with_reducible refine en_not ?_)
  | (with_reducible refine en_if ?_)
  | (with_reducible refine en_call0 ?_)
  | (with_reducible refine en_cb (r := rLenC _) ?_)
  | (with_reducible refine en_cb (r := rIntC) ?_)
  | (with_reducible refine en_cb (r := rAbsC) ?_)
  | (with_reducible refine en_cb (r := rTupC _) ?_)
  | (with_reducible refine en_cb (r := rListC _) ?_)
  | (with_reducible refine en_cb (r := rSrt _) ?_)
  | (with_reducible refine en_tup ?_)
  | (with_reducible refine en_lst ?_)
  | (with_reducible refine en_sl ?_)
  | (with_reducible refine en_revT ?_)
  | (with_reducible refine pon_none ?_)
  | (with_reducible refine pon_some ?_)
  | (with_reducible refine an_cons ?_)
  | (with_reducible refine an_nil ?_)
  | (with_reducible refine on_le ?_)
  | (with_reducible refine on_lt ?_)
  | (with_reducible refine on_ge ?_)
  | (with_reducible refine on_gt ?_)
  | (with_reducible refine on_eq ?_)
  | (with_reducible refine on_ne ?_)
  | (with_reducible refine on_add ?_)
  | (with_reducible refine on_sub ?_)
  | (with_reducible refine on_le_s ?_)
  | (with_reducible refine on_lt_s ?_)
  | (with_reducible refine on_eq_s ?_)
  | (with_reducible refine on_ne_s ?_)
  | (with_reducible refine on_eq_b ?_)
  | (with_reducible refine on_ne_b ?_)
  | (with_reducible refine on_is_b ?_)
  | (with_reducible refine on_isNot_b ?_)
  | (with_reducible refine un_neg' ?_)
  | (with_reducible refine ca_int ?_)
  | (with_reducible refine ca_len (by with_unfolding_all exact rfl) ?_)
  | (with_reducible refine ca_tuple (by with_unfolding_all exact rfl) ?_)
  | (with_reducible refine ca_list (by with_unfolding_all exact rfl) ?_)
  | (with_reducible refine on_add_t ?_ ?_)
  | (with_reducible refine sl_t ?_)
  | (with_reducible refine sl_s ?_)
  | (with_reducible refine And.intro (by first | with_unfolding_all decide | with_unfolding_all exact Nat.le_of_ble_eq_true rfl) ?_)
  | (with_reducible refine ex_bl ?_)
  | (with_reducible refine ex_int ?_)
  | (with_reducible refine iteT' (by with_unfolding_all exact rfl) ?_)
  | (with_reducible refine iteF' (by with_unfolding_all exact rfl) ?_)
  | (with_reducible refine ite_b (fun _ => ?_) (fun _ => ?_))))
local macro_rules | `(tactic| walk_at "d") => `(tactic| repeat' walk_at "d1")
local macro_rules | `(tactic| walk_at "d1") => `(tactic| (with_reducible refine w_is_integer ?_))
local macro_rules | `(tactic| walk_at "d1") => `(tactic| (with_reducible refine w_is_bit ?_))
local macro_rules | `(tactic| walk_at "d1") => `(tactic| (with_reducible refine w_is_from_to ?_))
local macro_rules | `(tactic| walk_at "d1") => `(tactic| (with_reducible refine w_is_tuple_of ?_))
local macro_rules | `(tactic| walk_at "d1") => `(tactic| (with_reducible refine w_is_name ?_))
local macro_rules | `(tactic| walk_at "d1") => `(tactic| (with_reducible refine w_is_source ?_))
local macro_rules | `(tactic| walk_at "d1") => `(tactic| (with_reducible refine w_is_house ?_))
local macro_rules | `(tactic| walk_at "d1") => `(tactic| (with_reducible refine w_is_name_row ?_))
local macro_rules | `(tactic| walk_at "d1") => `(tactic| (with_reducible refine w_is_names ?_))
local macro_rules | `(tactic| walk_at "d1") => `(tactic| (first
  | (with_reducible refine w__law_says ?_)
  | (with_reducible refine sn_append (by with_unfolding_all exact rfl) ?_ ?_)
  | (with_reducible refine en_len_own (by with_unfolding_all exact rfl) ?_)
  | (with_reducible refine en_in_own (by with_unfolding_all exact rfl) ?_)
  | (with_reducible refine on_rI (C := fun _ j => 0 < j) (by show (0 : Int) < _; decide) ?_)
  | (with_reducible refine on_rI (C := CDiv) (by with_unfolding_all exact ⟨by decide, by decide⟩) ?_)
  | (with_reducible refine on_rI (C := CMul) (by with_unfolding_all exact .inr ⟨by decide, by decide⟩) ?_)
  | (with_reducible refine on_rI (C := CMul) (by with_unfolding_all exact .inl ⟨by decide, by decide⟩) ?_)
  | (with_reducible refine on_rI (C := CPow) (by with_unfolding_all decide) ?_)
  | (with_reducible refine on_ixC (by with_unfolding_all exact rfl) ?_)
  | (with_reducible refine w_without_doubles ?_)
  | (with_reducible refine w__law_is_name ?_)
  | (with_reducible refine w__law_are_names ?_)
  | (with_reducible refine w__law_kept ?_)
  | (with_reducible refine w__law_next ⟨by with_unfolding_all decide, by with_unfolding_all decide⟩ (fun _ _ _ => ?_))
  | (with_reducible refine w__law_pick ⟨by with_unfolding_all exact rfl, by with_unfolding_all exact Nat.le_of_ble_eq_true rfl⟩ (fun _ _ => ?_))
  | (with_reducible refine w__law_name (fun _ _ => ?_))
  | (with_reducible refine w__law_bit (fun _ => ?_))
  | (with_reducible refine w__law_text (fun _ _ => ?_))))

theorem pf_is_integer {K : PySem.W.Frag} : ∀ ds R, W_is_integer ds R → StN K (t_is_integer K) (startD N_is_integer ds) { nx := fun _ => R .non, rt := R } := by
  rintro _ R ⟨d, rfl, q⟩
  unfold t_is_integer
  walk_at "d"
  · rename_i h
    rw [h] at q
    exact q
  · rename_i h
    rw [h] at q
    exact q

theorem pf_is_bit {K : PySem.W.Frag} : ∀ ds R, W_is_bit ds R → StN K (t_is_bit K) (startD N_is_bit ds) { nx := fun _ => R .non, rt := R } := by
  rintro _ R ⟨d, rfl, q⟩
  unfold t_is_bit
  walk_at "d"
  exact q

theorem pf_is_from_to {K : PySem.W.Frag} : ∀ ds R, W_is_from_to ds R → StN K (t_is_from_to K) (startD N_is_from_to ds) { nx := fun _ => R .non, rt := R } := by
  rintro _ R ⟨d, a, b, rfl, q⟩
  unfold t_is_from_to
  cases d with
  | int i =>
    walk_at "d"
    · rename_i h2
      simp only [fromTo, h2, Bool.true_and] at q
      exact q
    · rename_i h2
      simp only [fromTo, h2, Bool.false_and] at q
      exact q
  | _ =>
    walk_at "d"
    exact q

theorem pf_is_tuple_of {K : PySem.W.Frag} : ∀ ds R, W_is_tuple_of ds R → StN K (t_is_tuple_of K) (startD N_is_tuple_of ds) { nx := fun _ => R .non, rt := R } := by
  rintro _ R ⟨d, a, b, rfl, q⟩
  unfold t_is_tuple_of
  cases d with
  | tup l =>
    walk_at "d"
    · rename_i h2
      simp only [tupOf, h2, Bool.true_and] at q
      exact q
    · rename_i h2
      simp only [tupOf, h2, Bool.false_and] at q
      exact q
  | _ =>
    walk_at "d"
    exact q

theorem pf_is_ascending {K : PySem.W.Frag} : ∀ ds R, W_is_ascending ds R → StN K (t_is_ascending K) (startD N_is_ascending ds) { nx := fun _ => R .non, rt := R } := by
  rintro _ R ⟨ss, rfl, hs, q⟩
  exact sn_ret (en_asc rfl (by show 1 < 2; decide) (by decide) (by omega) q)

theorem pf_is_name {K : PySem.W.Frag} : ∀ ds R, W_is_name ds R → StN K (t_is_name K) (startD N_is_name ds) { nx := fun _ => R .non, rt := R } := by
  rintro _ R ⟨d, rfl, q⟩
  unfold t_is_name
  cases d with
  | str s =>
    have hL : s.cps.toList.length = s.length := by simp [Str.length]
    have key : nameD (.str s) = nameL s.cps.toList := rfl
    rw [key] at q
    unfold nameL at q
    walk_at "d"
    · -- too long
      rename_i h1 h2
      have e : decide (s.cps.toList.length ≤ 12) = false := by rw [hL]; simp at h2 ⊢; omega
      rw [e, Bool.and_false, Bool.false_and, Bool.false_and] at q
      exact q
    · rename_i h1 h2
      simp at h1 h2
      cases hs : s.cps.toList with
      | nil => rw [hs] at hL; simp at hL; omega
      | cons c r =>
        have e1 : decide (1 ≤ s.cps.toList.length) = true := by rw [hL]; simp; omega
        have e2 : decide (s.cps.toList.length ≤ 12) = true := by rw [hL]; simp; omega
        rw [e1, e2, Bool.true_and, Bool.true_and, hs] at q
        have q' : R (.bl (lowC c && (c :: r).all fun c => lowC c || digC c)) := q
        refine on_ix_s (n := 0) (c := c) (by rw [hs]; rfl) ?_
        have ea : (!decide ((⟨#[c]⟩ : Str).cps.toList < ("a" : Str).cps.toList)) = decide (97 ≤ c) := by rw [cps_a]; exact sign_le c 97
        have ez : (!decide (("z" : Str).cps.toList < (⟨#[c]⟩ : Str).cps.toList)) = decide (c ≤ 122) := by rw [cps_z]; exact sign_le 122 c
        walk_at "d"
        · rename_i h3 h4
          rw [ea] at h3
          rw [ez] at h4
          have e3 : lowC c = true := by unfold lowC; rw [h3, h4]; rfl
          rw [e3, Bool.true_and, ← hs, ← signs_all] at q'
          refine en_all (signS fun c => lowC c || digC c) ?_
          refine in_any ?_
          refine en_var (d := .str s) rfl ⟨_, rfl, by rw [signsD_len]; unfold lim; omega, fun i d hd => ?_, q'⟩
          obtain ⟨x, _, rfl⟩ := signs_at hd
          refine gn_name ?_
          have xa : (!decide ((⟨#[x]⟩ : Str).cps.toList < ("a" : Str).cps.toList)) = decide (97 ≤ x) := by rw [cps_a]; exact sign_le x 97
          have xz : (!decide (("z" : Str).cps.toList < (⟨#[x]⟩ : Str).cps.toList)) = decide (x ≤ 122) := by rw [cps_z]; exact sign_le 122 x
          have x0 : (!decide ((⟨#[x]⟩ : Str).cps.toList < ("0" : Str).cps.toList)) = decide (48 ≤ x) := by rw [cps_0]; exact sign_le x 48
          have x9 : (!decide (("9" : Str).cps.toList < (⟨#[x]⟩ : Str).cps.toList)) = decide (x ≤ 57) := by rw [cps_9]; exact sign_le 57 x
          have ex : signS (fun c => lowC c || digC c) (.str ⟨#[x]⟩) = (lowC x || digC x) := by show (List.all [x] fun c => lowC c || digC c) = _; simp
          rw [ex]
          unfold lowC digC
          walk_at "d"
          all_goals simp only [xa, xz, x0, x9] at *
          all_goals first | (simp_all; done) | (simp_all; omega)
        · rename_i h3 h4
          rw [ez] at h4
          have e3 : lowC c = false := by unfold lowC; rw [h4, Bool.and_false]
          rw [e3, Bool.false_and] at q'
          exact q'
        · rename_i h3
          rw [ea] at h3
          have e3 : lowC c = false := by unfold lowC; rw [h3, Bool.false_and]
          rw [e3, Bool.false_and] at q'
          exact q'
    · -- empty
      rename_i h1
      have e : decide (1 ≤ s.cps.toList.length) = false := by rw [hL]; simp at h1 ⊢; omega
      rw [e, Bool.false_and, Bool.false_and, Bool.false_and] at q
      exact q
  | _ =>
    walk_at "d"
    exact q

theorem pf_is_source {K : PySem.W.Frag} : ∀ ds R, W_is_source ds R → StN K (t_is_source K) (startD N_is_source ds) { nx := fun _ => R .non, rt := R } := by
  rintro _ R ⟨d, rfl, q⟩
  unfold t_is_source
  walk_at "d"
  exact q

theorem pf_is_house {K : PySem.W.Frag} : ∀ ds R, W_is_house ds R → StN K (t_is_house K) (startD N_is_house ds) { nx := fun _ => R .non, rt := R } := by
  rintro _ R ⟨d, rfl, q⟩
  unfold t_is_house
  cases d with
  | str s =>
    walk_at "d"
    exact on_in_ss (ss := houses) rfl q
  | _ =>
    walk_at "d"
    exact q

theorem pf_is_name_row {K : PySem.W.Frag} : ∀ ds R, W_is_name_row ds R → StN K (t_is_name_row K) (startD N_is_name_row ds) { nx := fun _ => R .non, rt := R } := by
  rintro _ R ⟨d, n, rfl, q⟩
  unfold t_is_name_row
  cases d with
  | tup l =>
    rw [namesD_of] at q
    walk_at "d"
    · rename_i h1
      have hl : l.length ≤ 40 := by
        unfold tupOf at h1
        rw [Bool.and_eq_true, decide_eq_true_eq, decide_eq_true_eq] at h1
        omega
      rw [h1, Bool.true_and] at q
      refine en_all nameD ?_
      refine in_any ?_
      refine en_var (d := .tup l) rfl ⟨_, rfl, by unfold lim; omega, fun i d hd => ?_, ?_⟩
      · refine gn_name ?_
        walk_at "d"
        rfl
      · walk_at "d"
        · rename_i h2
          rw [h2, Bool.true_and] at q
          refine ⟨strsOf l, by rw [← strs_of_names h2], ?_, q⟩
          have e := congrArg List.length (strs_of_names h2)
          rw [List.length_map] at e
          omega
        · rename_i h2
          rw [h2, Bool.false_and] at q
          exact q
    · rename_i h1
      rw [h1, Bool.false_and] at q
      exact q
  | _ =>
    walk_at "d"
    exact q

theorem pf_is_names {K : PySem.W.Frag} : ∀ ds R, W_is_names ds R → StN K (t_is_names K) (startD N_is_names ds) { nx := fun _ => R .non, rt := R } := by
  rintro _ R ⟨d, rfl, q⟩
  unfold t_is_names
  walk_at "d"
  exact q

theorem pf_is_row_over {K : PySem.W.Frag} : ∀ ds R, W_is_row_over ds R → StN K (t_is_row_over K) (startD N_is_row_over ds) { nx := fun _ => R .non, rt := R } := by
  rintro _ R ⟨ns, d, rfl, hn, q⟩
  unfold t_is_row_over
  cases d with
  | tup l =>
    have e : rowD ns.length (.tup l) = (tupOf (.tup l) ns.length ns.length && l.all (isTy "bool")) := by
      show (decide (l.length = ns.length) && _) = (decide ((ns.length : Int) ≤ l.length) && decide ((l.length : Int) ≤ ns.length) && _)
      congr 1
      rw [Bool.eq_iff_iff]
      simp
      omega
    rw [e] at q
    walk_at "d"
    · rename_i h1
      have hl : l.length ≤ lim := by
        unfold tupOf at h1
        rw [Bool.and_eq_true, decide_eq_true_eq, decide_eq_true_eq] at h1
        omega
      rw [h1, Bool.true_and] at q
      refine en_all (isTy "bool") ?_
      refine in_any ?_
      refine en_var (d := .tup l) rfl ⟨_, rfl, hl, fun i d hd => ?_, ?_⟩
      · refine gn_name ?_
        walk_at "d"
        rfl
      · exact q
    · rename_i h1
      rw [h1, Bool.false_and] at q
      exact q
  | _ =>
    walk_at "d"
    exact q

theorem pf_check_names {K : PySem.W.Frag} : ∀ ds R, W_check_names ds R → StN K (t_check_names K) (startD N_check_names ds) { nx := fun _ => R .non, rt := R } := by
  rintro _ R ⟨d, n, rfl, h, q⟩
  unfold t_check_names
  walk_at "d"
  · rename_i h1
    rw [h] at h1
    cases h1
  · exact q

theorem pf_is_row {K : PySem.W.Frag} : ∀ ds R, W_is_row ds R → StN K (t_is_row K) (startD N_is_row ds) { nx := fun _ => R .non, rt := R } := by
  rintro _ R ⟨ns, d, rfl, h, q⟩
  unfold t_is_row
  have hl : ns.length ≤ 40 := by
    unfold namesD at h
    simp only [Bool.and_eq_true, decide_eq_true_eq] at h
    exact h.1.1.2
  refine sn_seq (sn_drop ?_)
  refine en_call (dd := [.str "names"]) ?_ (fun p X H => ⟨_, _, rfl, ⟨rfl, by decide +kernel⟩, rfl⟩)
  walk_at "d"
  refine ⟨_, _, rfl, h, ?_⟩
  walk_at "d"
  exact ⟨ns, d, rfl, by unfold lim; omega, q⟩
end Dv

namespace Dv
open PySem PySem.Spec PyProof.Rows L2
local macro_rules | `(tactic| walk_at "d1") => `(tactic| (first
  | (with_reducible refine sn_seq ?_)
  | (with_reducible refine sn_if ?_)
  | (with_reducible refine sn_ret ?_)
  | (with_reducible refine sn_asg ?_)
  | (with_reducible refine sn_next ?_)
  | (with_reducible refine sn_break ?_)
  | (with_reducible refine sn_cont ?_)
  | (with_reducible refine sn_drop ?_)
  | (with_reducible refine tn_test ?_)
  | (with_reducible refine tn_B ?_)
  | (with_reducible refine tn_not ?_)
  | (with_reducible refine tn_and ?_)
  | (with_reducible refine tn_or ?_)
  | (with_reducible refine en_var (by with_unfolding_all exact rfl) ?_)
  | (with_reducible refine en_int ?_)
  | (with_reducible refine en_bl ?_)
  | (with_reducible refine en_non ?_)
  | (with_reducible refine en_str (by decide +kernel) ?_)
  | (with_reducible refine en_gk ?_)
  | (with_reducible refine en_chain ?_)
  | (with_reducible refine en_isi (by decide) ?_)
  | (with_reducible refine en_op ?_)
  | (with_reducible refine en_un ?_)
  | (with_reducible refine en_and ?_)
  | (with_reducible refine en_or ?_)
  | (with_reducible refine en_not ?_)
  | (with_reducible refine en_if ?_)
  | (with_reducible refine en_call0 ?_)
  | (with_reducible refine en_cb (r := rLenC _) ?_)
  | (with_reducible refine en_cb (r := rIntC) ?_)
  | (with_reducible refine en_cb (r := rAbsC) ?_)
  | (with_reducible refine en_cb (r := rTupC _) ?_)
  | (with_reducible refine en_cb (r := rListC _) ?_)
  | (with_reducible refine en_cb (r := rSrt _) ?_)
  | (with_reducible refine en_tup ?_)
  | (with_reducible refine en_lst ?_)
  | (with_reducible refine en_sl ?_)
  | (with_reducible refine en_revT ?_)
  | (with_reducible refine pon_none ?_)
  | (with_reducible refine pon_some ?_)
  | (with_reducible refine an_cons ?_)
  | (with_reducible refine an_nil ?_)
  | (with_reducible refine on_le ?_)
  | (with_reducible refine on_lt ?_)
  | (with_reducible refine on_ge ?_)
  | (with_reducible refine on_gt ?_)
  | (with_reducible refine on_eq ?_)
  | (with_reducible refine on_ne ?_)
  | (with_reducible refine on_add ?_)
  | (with_reducible refine on_sub ?_)
  | (with_reducible refine on_le_s ?_)
  | (with_reducible refine on_lt_s ?_)
  | (with_reducible refine on_eq_s ?_)
  | (with_reducible refine on_ne_s ?_)
  | (with_reducible refine on_eq_b ?_)
  | (with_reducible refine on_ne_b ?_)
  | (with_reducible refine on_is_b ?_)
  | (with_reducible refine on_isNot_b ?_)
  | (with_reducible refine un_neg' ?_)
  | (with_reducible refine ca_int ?_)
  | (with_reducible refine ca_len (by with_unfolding_all exact rfl) ?_)
  | (with_reducible refine ca_tuple (by with_unfolding_all exact rfl) ?_)
  | (with_reducible refine ca_list (by with_unfolding_all exact rfl) ?_)
  | (with_reducible refine on_add_t ?_ ?_)
  | (with_reducible refine sl_t ?_)
  | (with_reducible refine sl_s ?_)
  | (with_reducible refine And.intro (by first | with_unfolding_all decide | with_unfolding_all exact Nat.le_of_ble_eq_true rfl) ?_)
  | (with_reducible refine ex_bl ?_)
  | (with_reducible refine ex_int ?_)
  | (with_reducible refine iteT' (by with_unfolding_all exact rfl) ?_)
  | (with_reducible refine iteF' (by with_unfolding_all exact rfl) ?_)
  | (with_reducible refine ite_b (fun _ => ?_) (fun _ => ?_))))
local macro_rules | `(tactic| walk_at "d") => `(tactic| repeat' walk_at "d1")
local macro_rules | `(tactic| walk_at "d1") => `(tactic| (with_reducible refine w_is_integer ?_))
local macro_rules | `(tactic| walk_at "d1") => `(tactic| (with_reducible refine w_is_bit ?_))
local macro_rules | `(tactic| walk_at "d1") => `(tactic| (with_reducible refine w_is_from_to ?_))
local macro_rules | `(tactic| walk_at "d1") => `(tactic| (with_reducible refine w_is_tuple_of ?_))
local macro_rules | `(tactic| walk_at "d1") => `(tactic| (with_reducible refine w_is_name ?_))
local macro_rules | `(tactic| walk_at "d1") => `(tactic| (with_reducible refine w_is_source ?_))
local macro_rules | `(tactic| walk_at "d1") => `(tactic| (with_reducible refine w_is_house ?_))
local macro_rules | `(tactic| walk_at "d1") => `(tactic| (with_reducible refine w_is_name_row ?_))
local macro_rules | `(tactic| walk_at "d1") => `(tactic| (with_reducible refine w_is_names ?_))
local macro_rules | `(tactic| walk_at "d1") => `(tactic| (first
  | (with_reducible refine w__law_says ?_)
  | (with_reducible refine sn_append (by with_unfolding_all exact rfl) ?_ ?_)
  | (with_reducible refine en_len_own (by with_unfolding_all exact rfl) ?_)
  | (with_reducible refine en_in_own (by with_unfolding_all exact rfl) ?_)
  | (with_reducible refine on_rI (C := fun _ j => 0 < j) (by show (0 : Int) < _; decide) ?_)
  | (with_reducible refine on_rI (C := CDiv) (by with_unfolding_all exact ⟨by decide, by decide⟩) ?_)
  | (with_reducible refine on_rI (C := CMul) (by with_unfolding_all exact .inr ⟨by decide, by decide⟩) ?_)
  | (with_reducible refine on_rI (C := CMul) (by with_unfolding_all exact .inl ⟨by decide, by decide⟩) ?_)
  | (with_reducible refine on_rI (C := CPow) (by with_unfolding_all decide) ?_)
  | (with_reducible refine on_ixC (by with_unfolding_all exact rfl) ?_)
  | (with_reducible refine w_without_doubles ?_)
  | (with_reducible refine w__law_is_name ?_)
  | (with_reducible refine w__law_are_names ?_)
  | (with_reducible refine w__law_kept ?_)
  | (with_reducible refine w__law_next ⟨by with_unfolding_all decide, by with_unfolding_all decide⟩ (fun _ _ _ => ?_))
  | (with_reducible refine w__law_pick ⟨by with_unfolding_all exact rfl, by with_unfolding_all exact Nat.le_of_ble_eq_true rfl⟩ (fun _ _ => ?_))
  | (with_reducible refine w__law_name (fun _ _ => ?_))
  | (with_reducible refine w__law_bit (fun _ => ?_))
  | (with_reducible refine w__law_text (fun _ _ => ?_))))
/-! ### the law's defs -/
theorem pf__law_says {K : PySem.W.Frag} : ∀ ds R, W__law_says ds R → StN K (t__law_says K) (startD N__law_says ds) { nx := fun _ => R .non, rt := R } := by
  rintro _ R ⟨a, b, rfl, q⟩
  unfold t__law_says
  cases a <;> cases b <;> (walk_at "d"; exact q)
theorem pf__law_bit {K : PySem.W.Frag} : ∀ ds R, W__law_bit ds R → StN K (t__law_bit K) (startD N__law_bit ds) { nx := fun _ => R .non, rt := R } := by
  rintro _ R ⟨rfl, q⟩
  unfold t__law_bit
  walk_at "d"
  exact q _
theorem pf__law_is_row {K : PySem.W.Frag} : ∀ ds R, W__law_is_row ds R → StN K (t__law_is_row K) (startD N__law_is_row ds) { nx := fun _ => R .non, rt := R } := by
  rintro _ R ⟨ns, d, rfl, hn, q⟩
  unfold t__law_is_row
  cases d with
  | tup l =>
    have e : rowD ns.length (.tup l) = (decide ((l.length : Int) = ns.length) && l.all (isTy "bool")) := by
      show (decide (l.length = ns.length) && _) = _
      congr 1
      rw [Bool.eq_iff_iff]
      simp
      omega
    rw [e] at q
    walk_at "d"
    · rename_i h1
      rw [h1, Bool.true_and] at q
      have hl : l.length ≤ lim := by rw [decide_eq_true_eq] at h1; omega
      refine en_all (isTy "bool") ?_
      refine in_any ?_
      refine en_var (d := .tup l) rfl ⟨_, rfl, hl, fun i d hd => ?_, q⟩
      refine gn_name ?_
      walk_at "d"
      rfl
    · rename_i h1
      rw [h1, Bool.false_and] at q
      exact q
  | _ =>
    walk_at "d"
    exact q
theorem pf__law_is_name {K : PySem.W.Frag} : ∀ ds R, W__law_is_name ds R → StN K (t__law_is_name K) (startD N__law_is_name ds) { nx := fun _ => R .non, rt := R } := by
  rintro _ R ⟨d, rfl, q⟩
  unfold t__law_is_name
  cases d with
  | str s =>
    have hL : s.cps.toList.length = s.length := by simp [Str.length]
    have key : nameD (.str s) = nameL s.cps.toList := rfl
    rw [key] at q
    unfold nameL at q
    walk_at "d"
    · rename_i h1
      have e : decide (1 ≤ s.cps.toList.length) = false := by rw [hL]; simp at h1 ⊢; omega
      rw [e, Bool.false_and, Bool.false_and, Bool.false_and] at q
      exact q
    · rename_i h1 h2
      have e : decide (s.cps.toList.length ≤ 12) = false := by rw [hL]; simp at h2 ⊢; omega
      rw [e, Bool.and_false, Bool.false_and, Bool.false_and] at q
      exact q
    · rename_i h1 h2
      simp at h1 h2
      cases hs : s.cps.toList with
      | nil => rw [hs] at hL; simp at hL; omega
      | cons c r =>
        have e1 : decide (1 ≤ s.cps.toList.length) = true := by rw [hL]; simp; omega
        have e2 : decide (s.cps.toList.length ≤ 12) = true := by rw [hL]; simp; omega
        rw [e1, e2, Bool.true_and, Bool.true_and, hs] at q
        have q' : R (.bl (lowC c && (c :: r).all fun c => lowC c || digC c)) := q
        refine on_ix_s (n := 0) (c := c) (by rw [hs]; rfl) ?_
        walk_at "d"
        refine on_in_sign ?_
        rw [if_neg Bool.false_ne_true]
        have ec : decide (c ∈ (cutS (Str.ofString "abcdefghijklmnopqrstuvwxyz0123456789") none (some 26)).cps.toList) = lowC c := by
          rw [show cutS (Str.ofString "abcdefghijklmnopqrstuvwxyz0123456789") none (some 26) = lowS from aln26]
          exact lowS_mem c
        rw [ec]
        walk_at "d"
        · rename_i h3
          rw [h3, Bool.true_and, ← hs, ← signs_all] at q'
          refine en_all (signS fun c => lowC c || digC c) ?_
          refine in_any ?_
          refine en_var (d := .str s) rfl ⟨_, rfl, by rw [signsD_len]; unfold lim; omega, fun i d hd => ?_, q'⟩
          obtain ⟨x, _, rfl⟩ := signs_at hd
          refine gn_name ?_
          walk_at "d"
          refine on_in_sign ?_
          rw [if_neg Bool.false_ne_true]
          rw [show decide (x ∈ (Str.ofString "abcdefghijklmnopqrstuvwxyz0123456789").cps.toList) = (lowC x || digC x) from alnS_mem x]
          show D.bl (lowC x || digC x) = .bl (List.all [x] fun c => lowC c || digC c)
          simp
        · rename_i h3
          rw [h3, Bool.false_and] at q'
          exact q'
  | _ =>
    walk_at "d"
    exact q
theorem pf__law_are_names {K : PySem.W.Frag} : ∀ ds R, W__law_are_names ds R → StN K (t__law_are_names K) (startD N__law_are_names ds) { nx := fun _ => R .non, rt := R } := by
  rintro _ R ⟨d, rfl, q⟩
  unfold t__law_are_names
  cases d with
  | tup l =>
    rw [namesD_of] at q
    have tl : tupOf (.tup l) 1 40 = (decide (1 ≤ (l.length : Int)) && decide ((l.length : Int) ≤ 40)) := rfl
    rw [tl] at q
    walk_at "d"
    · rename_i h1 h2
      have h2' : decide ((l.length : Int) ≤ 40) = false := by simpa using h2
      rw [h2', Bool.and_false, Bool.false_and] at q
      exact q
    · rename_i h1 h2
      have h2' : decide ((l.length : Int) ≤ 40) = true := by simpa using h2
      rw [h1, h2', Bool.and_self, Bool.true_and] at q
      have hl : l.length ≤ 40 := by simp at h2'; omega
      refine en_all nameD ?_
      refine in_any ?_
      refine en_var (d := .tup l) rfl ⟨_, rfl, by unfold lim; omega, fun i d hd => ?_, ?_⟩
      · refine gn_name ?_
        walk_at "d"
        rfl
      · walk_at "d"
        · rename_i h3
          have h3' : l.all nameD = false := by simpa using h3
          rw [h3', Bool.false_and] at q
          exact q
        · rename_i h3
          have h3' : l.all nameD = true := by simpa using h3
          rw [h3', Bool.true_and] at q
          have e := congrArg List.length (strs_of_names h3')
          rw [List.length_map] at e
          refine en_asc (ss := strsOf l) ?_ (by show 2 < 3; decide) (by decide) (by omega) q
          rw [← strs_of_names h3']
          rfl
    · rename_i h1
      rw [h1, Bool.false_and, Bool.false_and] at q
      exact q
  | _ =>
    walk_at "d"
    exact q
theorem pf__law_pick {K : PySem.W.Frag} : ∀ ds R, W__law_pick ds R → StN K (t__law_pick K) (startD N__law_pick ds) { nx := fun _ => R .non, rt := R } := by
  rintro _ R ⟨l, rfl, h0, h1, q⟩
  unfold t__law_pick
  walk_at "d"
  have : 0 < l.length := List.length_pos_iff.mpr h0
  refine ⟨_, rfl, by omega, by omega, fun i hi1 hi2 => ?_⟩
  exact on_ixI rfl ⟨hi1, hi2⟩ q

/-! ### names and texts -/
theorem nameL_one {c : Nat} (h : lowC c = true) : nameL [c] = true := by
  unfold nameL headLow
  simp [h]
theorem nameL_more {l : List Nat} {c : Nat} (h : nameL l = true) (hl : l.length < 12) (hc : (lowC c || digC c) = true) : nameL (l ++ [c]) = true := by
  unfold nameL at h ⊢
  simp only [Bool.and_eq_true, decide_eq_true_eq, List.length_append, List.length_cons, List.length_nil, List.all_append, List.all_cons, List.all_nil, Bool.and_true] at h ⊢
  obtain ⟨⟨⟨h1, h2⟩, h3⟩, h4⟩ := h
  refine ⟨⟨⟨by omega, by omega⟩, ?_⟩, h4, hc⟩
  cases l with
  | nil => simp at h1
  | cons a l => exact h3
theorem name_len {s : Str} (h : nameD (.str s) = true) : s.length ≤ 12 := by
  have h' : nameL s.cps.toList = true := h
  unfold nameL at h'
  simp only [Bool.and_eq_true, decide_eq_true_eq] at h'
  have := h'.1.1.2
  simp [Str.length] at this ⊢
  exact this
theorem cps_app (s t : Str) : (s ++ t).cps.toList = s.cps.toList ++ t.cps.toList := by
  show (s.cps ++ t.cps).toList = _
  simp
theorem words_ok : (Txt.split "or sum if unless settles and most in out always reason row names a b z a0 az" " ").length ≤ 1000 ∧ (Txt.split "or sum if unless settles and most in out always reason row names a b z a0 az" " ").isEmpty = false ∧
    (Txt.split "or sum if unless settles and most in out always reason row names a b z a0 az" " ").all (fun s => nameL s.cps.toList) = true := by decide +kernel
theorem pf__law_name {K : PySem.W.Frag} : ∀ ds R, W__law_name ds R → StN K (t__law_name K) (startD N__law_name ds) { nx := fun _ => R .non, rt := R } := by
  rintro _ R ⟨rfl, q⟩
  unfold t__law_name
  walk_at "d"
  · refine en_split ?_
    walk_at "d"
    refine ⟨_, rfl, ?_⟩
    walk_at "d"
    obtain ⟨h1, h2, h3⟩ := words_ok
    rw [List.all_eq_true] at h3
    refine ⟨_, rfl, by decide +kernel, Nat.le_trans h1 (by unfold lim; omega), fun s hs => ?_, ?_⟩
    · have := name_len (s := s) (h3 s hs)
      unfold lim; omega
    · walk_at "d"
      rename_i d hd
      obtain ⟨s, hs, rfl⟩ := List.mem_map.mp hd
      exact q s (h3 s hs)
  · rename_i i0 _ _ _ i h1 h2
    refine on_ix_sI 26 lowS_len ⟨h1, h2⟩ fun c hc => ?_
    have hc := lowS_ok hc
    walk_at "d"
    refine sn_for [3] ?_
    refine in_R1 ?_
    walk_at "d"
    rename_i e he
    obtain ⟨n, rfl, hn0, hn⟩ : ∃ n : Int, e = .int n ∧ 0 ≤ n ∧ n ≤ 11 := by
      simp only [List.mem_cons, List.not_mem_nil, or_false] at he
      rcases he with rfl | rfl | rfl | rfl | rfl <;> exact ⟨_, rfl, by decide, by decide⟩
    refine ⟨n, rfl, ⟨by omega, by omega⟩, fun k δ' => ∃ (s : Str) (t : Sl), δ' = [.val .stm, .no, .val (.str s), t] ∧ nameL s.cps.toList = true ∧ s.length = k + 1, ⟨⟨#[c]⟩, .no, rfl, nameL_one hc, rfl⟩, ?_, ?_⟩
    · rintro k d δ' hd ⟨s, t, rfl, hs, hl⟩
      obtain ⟨hk, rfl⟩ := rangeD_at hd
      refine gn_name ?_
      walk_at "d"
      rename_i j hj1 hj2
      refine on_ix_sI 36 alnS_len ⟨hj1, hj2⟩ fun x hx => ?_
      have hx := alnS_ok hx
      refine on_add_s (by show s.length + 1 ≤ lim; unfold lim; omega) ?_
      have hc2 : s.cps.toList.length = s.length := by simp [Str.length]
      refine ⟨_, _, rfl, ?_, ?_⟩
      · rw [cps_app]
        exact nameL_more hs (by omega) hx
      · rw [Str.length_append]
        show s.length + 1 = k + 1 + 1
        omega
    · rintro δ' ⟨s, t, rfl, hs, hl⟩
      walk_at "d"
      exact q s hs
theorem pf__law_text {K : PySem.W.Frag} : ∀ ds R, W__law_text ds R → StN K (t__law_text K) (startD N__law_text ds) { nx := fun _ => R .non, rt := R } := by
  rintro _ R ⟨rfl, q⟩
  unfold t__law_text
  walk_at "d"
  · rename_i s hs
    exact q s (Nat.le_trans (name_len hs) (by decide))
  · rename_i i0 _ _ _ d0 hd0
    obtain ⟨s0, rfl, hl0⟩ : ∃ s : Str, d0 = .str s ∧ s.length ≤ 1 := by
      simp only [List.mem_cons, List.not_mem_nil, or_false] at hd0
      rcases hd0 with rfl | rfl | rfl | rfl | rfl | rfl | rfl | rfl | rfl | rfl | rfl | rfl | rfl | rfl <;> exact ⟨_, rfl, by decide +kernel⟩
    refine sn_for [3] ?_
    refine in_R1 ?_
    walk_at "d"
    rename_i e he
    obtain ⟨n, rfl, hn0, hn⟩ : ∃ n : Int, e = .int n ∧ 0 ≤ n ∧ n ≤ 13 := by
      simp only [List.mem_cons, List.not_mem_nil, or_false] at he
      rcases he with rfl | rfl | rfl | rfl | rfl | rfl <;> exact ⟨_, rfl, by decide, by decide⟩
    refine ⟨n, rfl, ⟨by omega, by omega⟩, fun k δ' => ∃ (s : Str) (t : Sl), δ' = [.val .stm, .val (.str s), .val (.str "abcxyz019AZ_- {`~"), t] ∧ s.length ≤ k + 1, ⟨s0, .no, rfl, hl0⟩, ?_, ?_⟩
    · rintro k d δ' hd ⟨s, t, rfl, hl⟩
      obtain ⟨hk, rfl⟩ := rangeD_at hd
      refine gn_name ?_
      walk_at "d"
      · rename_i j hj1 hj2
        refine on_ix_sI _ rfl ⟨hj1, hj2⟩ fun x hx => ?_
        refine on_add_s (by show s.length + 1 ≤ lim; unfold lim; omega) ?_
        exact ⟨_, _, rfl, by rw [Str.length_append]; show s.length + 1 ≤ k + 1 + 1; omega⟩
      · rename_i j hj1 hj2
        refine on_ix_sI 6 (by decide +kernel) ⟨hj1, hj2⟩ fun x hx => ?_
        refine on_add_s (by show s.length + 1 ≤ lim; unfold lim; omega) ?_
        exact ⟨_, _, rfl, by rw [Str.length_append]; show s.length + 1 ≤ k + 1 + 1; omega⟩
    · rintro δ' ⟨s, t, rfl, hl⟩
      walk_at "d"
      refine q s ?_
      rw [rangeD_len] at hl
      omega
end Dv

namespace Dv
open PySem PySem.Spec PyProof.Rows L2
local macro_rules | `(tactic| walk_at "d1") => `(tactic| (first
  | (with_reducible refine sn_seq ?_)
  | (with_reducible refine sn_if ?_)
  | (with_reducible refine sn_ret ?_)
  | (with_reducible refine sn_asg ?_)
  | (with_reducible refine sn_next ?_)
  | (with_reducible refine sn_break ?_)
  | (with_reducible refine sn_cont ?_)
  | (with_reducible refine sn_drop ?_)
  | (with_reducible refine tn_test ?_)
  | (with_reducible refine tn_B ?_)
  | (with_reducible refine tn_not ?_)
  | (with_reducible refine tn_and ?_)
  | (with_reducible refine tn_or ?_)
  | (with_reducible refine en_var (by with_unfolding_all exact rfl) ?_)
  | (with_reducible refine en_int ?_)
  | (with_reducible refine en_bl ?_)
  | (with_reducible refine en_non ?_)
  | (with_reducible refine en_str (by decide +kernel) ?_)
  | (with_reducible refine en_gk ?_)
  | (with_reducible refine en_chain ?_)
  | (with_reducible refine en_isi (by decide) ?_)
  | (with_reducible refine en_op ?_)
  | (with_reducible refine en_un ?_)
  | (with_reducible refine en_and ?_)
  | (with_reducible refine en_or ?_)
  | (with_reducible refine en_not ?_)
  | (with_reducible refine en_if ?_)
  | (with_reducible refine en_call0 ?_)
  | (with_reducible refine en_cb (r := rLenC _) ?_)
  | (with_reducible refine en_cb (r := rIntC) ?_)
  | (with_reducible refine en_cb (r := rAbsC) ?_)
  | (with_reducible refine en_cb (r := rTupC _) ?_)
  | (with_reducible refine en_cb (r := rListC _) ?_)
  | (with_reducible refine en_cb (r := rSrt _) ?_)
  | (with_reducible refine en_tup ?_)
  | (with_reducible refine en_lst ?_)
  | (with_reducible refine en_sl ?_)
  | (with_reducible refine en_revT ?_)
  | (with_reducible refine pon_none ?_)
  | (with_reducible refine pon_some ?_)
  | (with_reducible refine an_cons ?_)
  | (with_reducible refine an_nil ?_)
  | (with_reducible refine on_le ?_)
  | (with_reducible refine on_lt ?_)
  | (with_reducible refine on_ge ?_)
  | (with_reducible refine on_gt ?_)
  | (with_reducible refine on_eq ?_)
  | (with_reducible refine on_ne ?_)
  | (with_reducible refine on_add ?_)
  | (with_reducible refine on_sub ?_)
  | (with_reducible refine on_le_s ?_)
  | (with_reducible refine on_lt_s ?_)
  | (with_reducible refine on_eq_s ?_)
  | (with_reducible refine on_ne_s ?_)
  | (with_reducible refine on_eq_b ?_)
  | (with_reducible refine on_ne_b ?_)
  | (with_reducible refine on_is_b ?_)
  | (with_reducible refine on_isNot_b ?_)
  | (with_reducible refine un_neg' ?_)
  | (with_reducible refine ca_int ?_)
  | (with_reducible refine ca_len (by with_unfolding_all exact rfl) ?_)
  | (with_reducible refine ca_tuple (by with_unfolding_all exact rfl) ?_)
  | (with_reducible refine ca_list (by with_unfolding_all exact rfl) ?_)
  | (with_reducible refine on_add_t ?_ ?_)
  | (with_reducible refine sl_t ?_)
  | (with_reducible refine sl_s ?_)
  | (with_reducible refine And.intro (by first | with_unfolding_all decide | with_unfolding_all exact Nat.le_of_ble_eq_true rfl) ?_)
  | (with_reducible refine ex_bl ?_)
  | (with_reducible refine ex_int ?_)
  | (with_reducible refine iteT' (by with_unfolding_all exact rfl) ?_)
  | (with_reducible refine iteF' (by with_unfolding_all exact rfl) ?_)
  | (with_reducible refine ite_b (fun _ => ?_) (fun _ => ?_))))
local macro_rules | `(tactic| walk_at "d") => `(tactic| repeat' walk_at "d1")
local macro_rules | `(tactic| walk_at "d1") => `(tactic| (with_reducible refine w_is_integer ?_))
local macro_rules | `(tactic| walk_at "d1") => `(tactic| (with_reducible refine w_is_bit ?_))
local macro_rules | `(tactic| walk_at "d1") => `(tactic| (with_reducible refine w_is_from_to ?_))
local macro_rules | `(tactic| walk_at "d1") => `(tactic| (with_reducible refine w_is_tuple_of ?_))
local macro_rules | `(tactic| walk_at "d1") => `(tactic| (with_reducible refine w_is_name ?_))
local macro_rules | `(tactic| walk_at "d1") => `(tactic| (with_reducible refine w_is_source ?_))
local macro_rules | `(tactic| walk_at "d1") => `(tactic| (with_reducible refine w_is_house ?_))
local macro_rules | `(tactic| walk_at "d1") => `(tactic| (with_reducible refine w_is_name_row ?_))
local macro_rules | `(tactic| walk_at "d1") => `(tactic| (with_reducible refine w_is_names ?_))
local macro_rules | `(tactic| walk_at "d1") => `(tactic| (first
  | (with_reducible refine w__law_says ?_)
  | (with_reducible refine sn_append (by with_unfolding_all exact rfl) ?_ ?_)
  | (with_reducible refine en_len_own (by with_unfolding_all exact rfl) ?_)
  | (with_reducible refine en_in_own (by with_unfolding_all exact rfl) ?_)
  | (with_reducible refine on_rI (C := fun _ j => 0 < j) (by show (0 : Int) < _; decide) ?_)
  | (with_reducible refine on_rI (C := CDiv) (by with_unfolding_all exact ⟨by decide, by decide⟩) ?_)
  | (with_reducible refine on_rI (C := CMul) (by with_unfolding_all exact .inr ⟨by decide, by decide⟩) ?_)
  | (with_reducible refine on_rI (C := CMul) (by with_unfolding_all exact .inl ⟨by decide, by decide⟩) ?_)
  | (with_reducible refine on_rI (C := CPow) (by with_unfolding_all decide) ?_)
  | (with_reducible refine on_ixC (by with_unfolding_all exact rfl) ?_)
  | (with_reducible refine w_without_doubles ?_)
  | (with_reducible refine w__law_is_name ?_)
  | (with_reducible refine w__law_are_names ?_)
  | (with_reducible refine w__law_kept ?_)
  | (with_reducible refine w__law_next ⟨by with_unfolding_all decide, by with_unfolding_all decide⟩ (fun _ _ _ => ?_))
  | (with_reducible refine w__law_pick ⟨by with_unfolding_all exact rfl, by with_unfolding_all exact Nat.le_of_ble_eq_true rfl⟩ (fun _ _ => ?_))
  | (with_reducible refine w__law_name (fun _ _ => ?_))
  | (with_reducible refine w__law_bit (fun _ => ?_))
  | (with_reducible refine w__law_text (fun _ _ => ?_))))
/-! ### rows, bent values, books -/
theorem pf__law_row {K : PySem.W.Frag} : ∀ ds R, W__law_row ds R → StN K (t__law_row K) (startD N__law_row ds) { nx := fun _ => R .non, rt := R } := by
  rintro _ R ⟨m, rfl, h0, h1, q⟩
  unfold t__law_row
  walk_at "d"
  rename_i e he b
  obtain ⟨s, rfl, hs0, hs⟩ : ∃ n : Int, e = .int n ∧ 0 < n ∧ n ≤ 6 := by
    simp only [List.mem_cons, List.not_mem_nil, or_false] at he
    rcases he with rfl | rfl | rfl <;> exact ⟨_, rfl, by decide, by decide⟩
  refine en_lc ?_
  refine in_R1 ?_
  walk_at "d"
  refine ⟨m, rfl, ⟨by omega, by omega⟩, by rw [rangeD_len]; unfold lim; omega, fun k acc => ∃ bs : List Bool, acc = bs.map .bl ∧ bs.length = k, ⟨[], rfl, rfl⟩, ?_, ?_⟩
  · rintro k d acc hd - ⟨bs, rfl, hb⟩
    refine gn_name ?_
    refine tn_yes ?_
    walk_at "d"
    refine w__law_next ⟨hs0, by omega⟩ fun i _ _ => ?_
    walk_at "d"
    exact ⟨bs ++ [_], by rw [List.map_append]; rfl, by rw [List.length_append, hb]; rfl⟩
  · rintro acc - ⟨bs, rfl, hb⟩
    rw [rangeD_len] at hb
    walk_at "d"
    exact q bs (by omega)
theorem pf_without_doubles_raw {K : PySem.W.Frag} : ∀ ds R, W_without_doubles ds R → StN K (t_without_doubles K) (startD N_without_doubles ds) { nx := fun _ => R .non, rt := R } := by
  rintro _ R ⟨rfl, q⟩ p X0 C H σ N n qn qr qb qc
  obtain ⟨x0, e0, a, vs, rfl, ha, _, hvs⟩ := n.val (i := 0) (d := .tup []) rfl
  cases (show vs = [] from hvs)
  have hlen : σ.length = 3 := n.len.symm
  match σ, hlen, e0 with
  | [_, u1, u2], _, e0 =>
    cases e0
    intro d hd
    have e1 : Ext K p H (upd H d (.dK [])) := Ext.new hd
    refine ⟨_, rfl, .inl ⟨a, rfl, .inr ⟨⟨_, e1.sqT ha⟩, ?_⟩⟩⟩
    refine for_tup (K := K) (a := a) (xs := []) (fun i σ' H' => σ' = [some (.ref a), some (.ref d), u2] ∧ H' = upd H d (.dK [])) ⟨rfl, rfl⟩ (fun i σ' H' _ ⟨_, e⟩ => by rw [e]; exact e1.sqT ha) (fun i x σ' H' hx => by simp at hx) ?_
    rintro σ' H' ⟨rfl, rfl⟩
    refine ⟨_, rfl, .inr ⟨d, [], rfl, upd_same, fun l hl => ?_⟩⟩
    have e2 : Ext K p H (upd (upd H d (.dK [])) l (.lst [])) := e1.trans (Ext.new hl)
    have hl0 : H l = none := e1.free hl
    exact qr C _ _ (.lst []) (Stp.of_ext n.pc e2) ⟨l, [], rfl, fun z => n.gd l (.inl z) hl0, upd_same, by decide, rfl⟩ q
theorem pf_is_book {K : PySem.W.Frag} : ∀ ds R, W_is_book ds R → StN K (t_is_book K) (startD N_is_book ds) { nx := fun _ => R .non, rt := R } := by
  rintro _ R ⟨h, d, rfl, hh, q⟩
  unfold t_is_book
  have hH : houseD (.str h) = true := by show decide (h ∈ houses) = true; rw [decide_eq_true_eq]; exact hh
  walk_at "d"
  · -- not a house
    rename_i h1
    rw [hH] at h1
    cases h1
  · -- not names
    rename_i h1 h2
    have h2' : namesD 1 d = false := by simpa using h2
    rw [h2'] at q
    exact q
  · rename_i h1 h2
    have h2' : namesD 1 d = true := by simpa using h2
    rw [h2'] at q
    refine sn_asgG [1, 2, 3] ?_
    walk_at "d"
    refine gn_tup rfl (gsn_cons (gn_name (gsn_cons (gn_name (gsn_cons (gn_name (gsn_nil ?_)))))))
    walk_at "d"
    · refine en_all (fun _ => true) ?_
      refine in_any ?_
      refine en_var (d := .tup []) rfl ⟨[], rfl, by decide, fun i d hd => by simp at hd, ?_⟩
      walk_at "d"
      exact q
theorem pf__law_kept {K : PySem.W.Frag} : ∀ ds R, W__law_kept ds R → StN K (t__law_kept K) (startD N__law_kept ds) { nx := fun _ => R .non, rt := R } := by
  rintro _ R ⟨d, rfl, q⟩
  unfold t__law_kept
  walk_at "d"
  · rename_i e he h1
    obtain ⟨h, rfl, hh⟩ : ∃ h : Str, e = .str h ∧ h ∈ houses := by
      simp only [List.mem_cons, List.not_mem_nil, or_false] at he
      rcases he with rfl | rfl | rfl | rfl <;> exact ⟨_, rfl, by decide +kernel⟩
    refine w_is_book hh ?_
    walk_at "d"
    rw [beq_self_eq_true]
    exact q
  · rename_i e he h1
    rw [beq_self_eq_true] at h1
    cases h1
theorem cut_le {l : List D} {lo hi : Option Int} {n : Nat} (h : l.length ≤ n) : (cutD l lo hi).length ≤ n := Nat.le_trans (cutD_len l lo hi) h
theorem add_le {l m : List D} {a b : Nat} (h1 : l.length ≤ a) (h2 : m.length ≤ b) (h : a + b ≤ 100000) : l.length + m.length ≤ lim := by unfold lim; omega
theorem pf__law_bent {K : PySem.W.Frag} : ∀ ds R, W__law_bent ds R → StN K (t__law_bent K) (startD N__law_bent ds) { nx := fun _ => R .non, rt := R } := by
  rintro _ R ⟨ss, rfl, h0, h1, h2, q⟩
  unfold t__law_bent
  have hp : 0 < ss.length := List.length_pos_iff.mpr h0
  have hm : (ss.map D.str).length ≤ 1000 := by rw [List.length_map]; exact h1
  have hc : ∀ lo hi, (cutD (ss.map D.str) lo hi).length ≤ 1000 := fun lo hi => cut_le hm
  have h00 : ∀ (R : D → Prop), (∀ d, R d) → OpN K (rIx K) (.tup (ss.map .str)) (.int 0) R := fun R hR => on_ixI rfl ⟨by omega, by rw [List.length_map]; omega⟩ fun e _ => hR e
  walk_at "d"
  refine w__law_next ⟨by rw [List.length_map]; omega, by rw [List.length_map]; omega⟩ fun a ha1 ha2 => ?_
  have hc1 : ∀ x lo hi, (cutD (ss.map D.str) lo hi ++ [x]).length ≤ 1001 := fun x lo hi => by rw [List.length_append]; have := hc lo hi; show _ + 1 ≤ _; omega
  have hcr : ∀ x y lo hi, (cutD (cutD (ss.map D.str) x y) lo hi).reverse.length ≤ 1000 := fun x y lo hi => by rw [List.length_reverse]; exact cut_le (hc x y)
  walk_at "d"
  · exact add_le (hc _ _) (hc _ _) (by decide)
  · exact q _
  · exact add_le (hc _ _) (hc _ _) (by decide)
  · exact q _
  · refine ⟨_, rfl, ?_⟩
    have e1 : (cutD (ss.map D.str) none (some a) ++ (cutD (cutD (ss.map D.str) (some a) none) none (some 2)).reverse).length ≤ 2000 := by
      rw [List.length_append]
      have := hc none (some a)
      have := hcr (some a) none none (some 2)
      omega
    walk_at "d"
    · exact add_le (hc _ _) (hcr _ _ _ _) (by decide)
    · exact add_le e1 (hc _ _) (by decide)
    · exact q _
  · exact q _
  · exact h00 _ q
  · refine h00 _ fun x => ?_
    walk_at "d"
    all_goals first | exact q _ | exact add_le (hc _ _) (Nat.le_of_ble_eq_true rfl : _ ≤ 1) (by decide) | exact add_le (hc1 _ _ _) (hc _ _) (by decide)
theorem pf__law_near_row {K : PySem.W.Frag} : ∀ ds R, W__law_near_row ds R → StN K (t__law_near_row K) (startD N__law_near_row ds) { nx := fun _ => R .non, rt := R } := by
  rintro _ R ⟨ss, rfl, h0, h1, q⟩
  unfold t__law_near_row
  have hp : 0 < ss.length := List.length_pos_iff.mpr h0
  have hm : (ss.map D.bl).length ≤ 1000 := by rw [List.length_map]; exact h1
  have hc : ∀ lo hi, (cutD (ss.map D.bl) lo hi).length ≤ 1000 := fun lo hi => cut_le hm
  have hc1 : ∀ x lo hi, (cutD (ss.map D.bl) lo hi ++ [x]).length ≤ 1001 := fun x lo hi => by rw [List.length_append]; have := hc lo hi; show _ + 1 ≤ _; omega
  have hix : ∀ (i : Int) (R : D → Prop), 0 ≤ i → i < (ss.map D.bl).length → (∀ b, R (.bl b)) → OpN K (rIx K) (.tup (ss.map .bl)) (.int i) R := fun i R h1 h2 hR => on_ixI rfl ⟨h1, h2⟩ fun e he => by
    obtain ⟨b, _, rfl⟩ := List.mem_map.mp he
    exact hR b
  walk_at "d"
  refine w__law_next ⟨by rw [List.length_map]; omega, by rw [List.length_map]; omega⟩ fun a ha1 ha2 => ?_
  walk_at "d"
  all_goals try exact q _
  all_goals try exact add_le (hc _ _) (Nat.le_of_ble_eq_true rfl : _ ≤ 1) (by decide)
  all_goals try exact add_le hm (Nat.le_of_ble_eq_true rfl : _ ≤ 1) (by decide)
  all_goals try exact add_le (hc1 _ _ _) (hc _ _) (by decide)
  · refine hix a _ ha1 ha2 fun b => ?_
    walk_at "d"
    all_goals try exact q _
    all_goals try exact add_le (hc _ _) (Nat.le_of_ble_eq_true rfl : _ ≤ 1) (by decide)
    all_goals try exact add_le (hc1 _ _ _) (hc _ _) (by decide)
  · refine hix 0 _ (by omega) (by rw [List.length_map]; omega) fun b => ?_
    walk_at "d"
    all_goals exact q _
end Dv

namespace Dv
open PySem PySem.Spec PyProof.Rows L2
local macro_rules | `(tactic| walk_at "d1") => `(tactic| (first
  | (with_reducible refine sn_seq ?_)
  | (with_reducible refine sn_if ?_)
  | (with_reducible refine sn_ret ?_)
  | (with_reducible refine sn_asg ?_)
  | (with_reducible refine sn_next ?_)
  | (with_reducible refine sn_break ?_)
  | (with_reducible refine sn_cont ?_)
  | (with_reducible refine sn_drop ?_)
  | (with_reducible refine tn_test ?_)
  | (with_reducible refine tn_B ?_)
  | (with_reducible refine tn_not ?_)
  | (with_reducible refine tn_and ?_)
  | (with_reducible refine tn_or ?_)
  | (with_reducible refine en_var (by with_unfolding_all exact rfl) ?_)
  | (with_reducible refine en_int ?_)
  | (with_reducible refine en_bl ?_)
  | (with_reducible refine en_non ?_)
  | (with_reducible refine en_str (by decide +kernel) ?_)
  | (with_reducible refine en_gk ?_)
  | (with_reducible refine en_chain ?_)
  | (with_reducible refine en_isi (by decide) ?_)
  | (with_reducible refine en_op ?_)
  | (with_reducible refine en_un ?_)
  | (with_reducible refine en_and ?_)
  | (with_reducible refine en_or ?_)
  | (with_reducible refine en_not ?_)
  | (with_reducible refine en_if ?_)
  | (with_reducible refine en_call0 ?_)
  | (with_reducible refine en_cb (r := rLenC _) ?_)
  | (with_reducible refine en_cb (r := rIntC) ?_)
  | (with_reducible refine en_cb (r := rAbsC) ?_)
  | (with_reducible refine en_cb (r := rTupC _) ?_)
  | (with_reducible refine en_cb (r := rListC _) ?_)
  | (with_reducible refine en_cb (r := rSrt _) ?_)
  | (with_reducible refine en_tup ?_)
  | (with_reducible refine en_lst ?_)
  | (with_reducible refine en_sl ?_)
  | (with_reducible refine en_revT ?_)
  | (with_reducible refine pon_none ?_)
  | (with_reducible refine pon_some ?_)
  | (with_reducible refine an_cons ?_)
  | (with_reducible refine an_nil ?_)
  | (with_reducible refine on_le ?_)
  | (with_reducible refine on_lt ?_)
  | (with_reducible refine on_ge ?_)
  | (with_reducible refine on_gt ?_)
  | (with_reducible refine on_eq ?_)
  | (with_reducible refine on_ne ?_)
  | (with_reducible refine on_add ?_)
  | (with_reducible refine on_sub ?_)
  | (with_reducible refine on_le_s ?_)
  | (with_reducible refine on_lt_s ?_)
  | (with_reducible refine on_eq_s ?_)
  | (with_reducible refine on_ne_s ?_)
  | (with_reducible refine on_eq_b ?_)
  | (with_reducible refine on_ne_b ?_)
  | (with_reducible refine on_is_b ?_)
  | (with_reducible refine on_isNot_b ?_)
  | (with_reducible refine un_neg' ?_)
  | (with_reducible refine ca_int ?_)
  | (with_reducible refine ca_len (by with_unfolding_all exact rfl) ?_)
  | (with_reducible refine ca_tuple (by with_unfolding_all exact rfl) ?_)
  | (with_reducible refine ca_list (by with_unfolding_all exact rfl) ?_)
  | (with_reducible refine on_add_t ?_ ?_)
  | (with_reducible refine sl_t ?_)
  | (with_reducible refine sl_s ?_)
  | (with_reducible refine And.intro (by first | with_unfolding_all decide | with_unfolding_all exact Nat.le_of_ble_eq_true rfl) ?_)
  | (with_reducible refine ex_bl ?_)
  | (with_reducible refine ex_int ?_)
  | (with_reducible refine iteT' (by with_unfolding_all exact rfl) ?_)
  | (with_reducible refine iteF' (by with_unfolding_all exact rfl) ?_)
  | (with_reducible refine ite_b (fun _ => ?_) (fun _ => ?_))))
local macro_rules | `(tactic| walk_at "d") => `(tactic| repeat' walk_at "d1")
local macro_rules | `(tactic| walk_at "d1") => `(tactic| (with_reducible refine w_is_integer ?_))
local macro_rules | `(tactic| walk_at "d1") => `(tactic| (with_reducible refine w_is_bit ?_))
local macro_rules | `(tactic| walk_at "d1") => `(tactic| (with_reducible refine w_is_from_to ?_))
local macro_rules | `(tactic| walk_at "d1") => `(tactic| (with_reducible refine w_is_tuple_of ?_))
local macro_rules | `(tactic| walk_at "d1") => `(tactic| (with_reducible refine w_is_name ?_))
local macro_rules | `(tactic| walk_at "d1") => `(tactic| (with_reducible refine w_is_source ?_))
local macro_rules | `(tactic| walk_at "d1") => `(tactic| (with_reducible refine w_is_house ?_))
local macro_rules | `(tactic| walk_at "d1") => `(tactic| (with_reducible refine w_is_name_row ?_))
local macro_rules | `(tactic| walk_at "d1") => `(tactic| (with_reducible refine w_is_names ?_))
local macro_rules | `(tactic| walk_at "d1") => `(tactic| (first
  | (with_reducible refine w__law_says ?_)
  | (with_reducible refine sn_append (by with_unfolding_all exact rfl) ?_ ?_)
  | (with_reducible refine en_len_own (by with_unfolding_all exact rfl) ?_)
  | (with_reducible refine en_in_own (by with_unfolding_all exact rfl) ?_)
  | (with_reducible refine on_rI (C := fun _ j => 0 < j) (by show (0 : Int) < _; decide) ?_)
  | (with_reducible refine on_rI (C := CDiv) (by with_unfolding_all exact ⟨by decide, by decide⟩) ?_)
  | (with_reducible refine on_rI (C := CMul) (by with_unfolding_all exact .inr ⟨by decide, by decide⟩) ?_)
  | (with_reducible refine on_rI (C := CMul) (by with_unfolding_all exact .inl ⟨by decide, by decide⟩) ?_)
  | (with_reducible refine on_rI (C := CPow) (by with_unfolding_all decide) ?_)
  | (with_reducible refine on_ixC (by with_unfolding_all exact rfl) ?_)
  | (with_reducible refine w_without_doubles ?_)
  | (with_reducible refine w__law_is_name ?_)
  | (with_reducible refine w__law_are_names ?_)
  | (with_reducible refine w__law_kept ?_)
  | (with_reducible refine w__law_next ⟨by with_unfolding_all decide, by with_unfolding_all decide⟩ (fun _ _ _ => ?_))
  | (with_reducible refine w__law_pick ⟨by with_unfolding_all exact rfl, by with_unfolding_all exact Nat.le_of_ble_eq_true rfl⟩ (fun _ _ => ?_))
  | (with_reducible refine w__law_name (fun _ _ => ?_))
  | (with_reducible refine w__law_bit (fun _ => ?_))
  | (with_reducible refine w__law_text (fun _ _ => ?_))))
/-! ### the stream: by hand -/
section
variable {K : PySem.W.Frag}
/-- what stands at the stream's place in the midst of _law_next -/
structure Zst (p a : Addr) (ns : List Int) (H H' : Hp) (c k : Int) : Prop where
  hp : H' p = some (.lst [.ref a, .int c, .int k])
  ha : H' a = some (.lst (ns.map V.int))
  old : ∀ b o, b ≠ p → H b = some o → H' b = some o
  pc : 0 ≤ c
  pk : 0 ≤ k
theorem Zst.set1 {p a : Addr} {ns : List Int} {H H' : Hp} {c k d : Int} (z : Zst p a ns H H' c k) (ap : a ≠ p) (hd : 0 ≤ d) : Zst p a ns H (upd H' p (.lst [.ref a, .int d, .int k])) d k :=
  ⟨upd_same, by rw [upd_ne ap]; exact z.ha, fun b o hb h => by rw [upd_ne hb]; exact z.old b o hb h, hd, z.pk⟩
theorem Zst.set2 {p a : Addr} {ns : List Int} {H H' : Hp} {c k d : Int} (z : Zst p a ns H H' c k) (ap : a ≠ p) (hd : 0 ≤ d) : Zst p a ns H (upd H' p (.lst [.ref a, .int c, .int d])) c d :=
  ⟨upd_same, by rw [upd_ne ap]; exact z.ha, fun b o hb h => by rw [upd_ne hb]; exact z.old b o hb h, z.pc, hd⟩
theorem ixL {xs : List V} {p : Addr} {H : Hp} {n : Nat} {v : V} {Q : VK} (hp : H p = some (.lst xs)) (hn : xs[n]? = some v) (q : Q v H) : rIx K (.ref p) (.int (n : Int)) H Q := .inl ⟨p, xs, n, v, rfl, rfl, SqL.of hp, atI_nat hn, q⟩
theorem setL {xs : List V} {p : Addr} {H : Hp} {n : Nat} {v : V} {Q : Hp → Prop} (hp : H p = some (.lst xs)) (hn : n < xs.length) (q : Q (upd H p (.lst (xs.set n v)))) : rSetL (.ref p) (.int (n : Int)) v H Q :=
  ⟨p, xs, n, n, rfl, rfl, hp, by unfold ixN; rw [if_pos (by omega), if_pos (by omega)]; simp, q⟩
theorem big18 : ((10 : Int) ^ (18 : Int).toNat) = 1000000000000000000 := by decide +kernel
theorem pf__law_next : ∀ ds R, W__law_next ds R → StN K (t__law_next K) (startD N__law_next ds) { nx := fun _ => R .non, rt := R } := by
  rintro _ R ⟨m, rfl, h0, h1, q⟩ p X0 C H σ N n qn qr qb qc
  obtain ⟨x0, e0, rfl, a, ns, c, k, xa, hp, ha, hc, hk, hl⟩ := n.val (i := 0) (d := .stm) rfl
  obtain ⟨x1, e1, hx1⟩ := n.val (i := 1) (d := .int m) rfl
  cases (show x1 = .int m from hx1)
  have ap : a ≠ p := fun z => xa (.inl (z ▸ n.px))
  have hlen : σ.length = 5 := n.len.symm
  match σ, hlen, e0, e1 with
  | [_, _, u2, u3, u4], _, e0, e1 =>
    cases e0
    cases e1
    have z0 : Zst p a ns H H c k := ⟨hp, ha, fun _ _ _ h => h, hc, hk⟩
    -- behind the if
    have rest : ∀ (H' : Hp) (c k : Int) (u2 u3 u4 : Option V), Zst p a ns H H' c k → (tSeq (tAsg (tOp (rI (fun _ j => 0 < j) fun i j => .int (i % j)) (tCB rIntC (tCons (tOp (rIx K) (tVar 0) (tC (.int 1))) tNil)) (tVar 1)) (gName 4)) (tSeq (tAsg (tOp (rI CDiv fun i j => .int (i / j)) (tOp (rIx K) (tVar 0) (tC (.int 1))) (tVar 1)) (gSub (tVar 0) (tC (.int 1)) rSetL)) (tRet (tVar 4)))) N [some (.ref p), some (.int m), u2, u3, u4] H' := by
      intro H' c k u2 u3 u4 z
      refine ⟨_, rfl, ixL (n := 1) z.hp rfl (.inl ⟨c, rfl, _, rfl, c, m, rfl, rfl, h0, ?_⟩)⟩
      refine ⟨_, rfl, ixL (n := 1) z.hp rfl ⟨_, rfl, c, m, rfl, rfl, ⟨h0, h1⟩, _, rfl, setL (n := 1) z.hp (by show 1 < 3; decide) ?_⟩⟩
      refine ⟨_, rfl, ?_⟩
      have z' := z.set1 ap (d := c / m) (Int.ediv_nonneg z.pc (by omega))
      refine qr C _ _ (.int (c % m)) ⟨fun b o hb => ?_, fun b hb => .inl hb, fun Y hY ⟨b, ns', c', k', w1, w2, w3⟩ => ?_, fun b hb => ?_⟩ rfl (q _ (Int.emod_nonneg c (by omega)) (Int.emod_lt_of_pos c h0))
      · by_cases e : b = p
        · subst e
          rw [hp] at hb
          cases hb
          exact .inr ⟨n.pc, _, rfl⟩
        · exact .inl (z'.old b o e hb)
      · rw [hp] at w2
        cases w2
        rw [ha] at w3
        exact ⟨a, ns, c / m, k, w1, z'.hp, z'.ha, z'.pc, z'.pk, hl⟩
      · by_cases e : b = p
        · subst e
          show upd H' b _ b ≠ none
          rw [upd_same]
          exact fun z => by cases z
        · cases hb' : H b with
          | none => exact absurd hb' hb
          | some o =>
            show upd H' p (.lst [.ref a, .int (c / m), .int k]) b ≠ none
            rw [z'.old b o e hb']
            exact fun z => by cases z
    -- if stream[1] == 0
    refine ⟨_, rfl, ixL (n := 1) hp rfl ⟨rfl, _, rfl, ?_⟩⟩
    refine ite2 (fun _ => ?_) (fun _ => rest H c k u2 u3 u4 z0)
    refine ⟨_, rfl, ixL (n := 2) hp rfl ?_⟩
    refine ⟨_, rfl, .inl ⟨7, k, rfl, rfl, ?_⟩⟩
    -- the end of the if: stream[1] = cell; stream[2] = k + 1
    have last : ∀ (cell : Int) (u4 : Option V), 0 ≤ cell → (tSeq (tAsg (tVar 3) (gSub (tVar 0) (tC (.int 1)) rSetL)) (tAsg (tOp (uAdd K) (tVar 2) (tC (.int 1))) (gSub (tVar 0) (tC (.int 2)) rSetL))) { N with nx := (tSeq (tAsg (tOp (rI (fun _ j => 0 < j) fun i j => .int (i % j)) (tCB rIntC (tCons (tOp (rIx K) (tVar 0) (tC (.int 1))) tNil)) (tVar 1)) (gName 4)) (tSeq (tAsg (tOp (rI CDiv fun i j => .int (i / j)) (tOp (rIx K) (tVar 0) (tC (.int 1))) (tVar 1)) (gSub (tVar 0) (tC (.int 1)) rSetL)) (tRet (tVar 4)))) N } [some (.ref p), some (.int m), some (.int k), some (.int cell), u4] H := by
      intro cell u4 hcell
      refine ⟨_, rfl, _, rfl, setL (n := 1) hp (by show 1 < 3; decide) ?_⟩
      have z1 := z0.set1 ap hcell
      refine ⟨_, rfl, .inl ⟨k, 1, rfl, rfl, _, rfl, setL (n := 2) z1.hp (by show 2 < 3; decide) ?_⟩⟩
      exact rest _ cell (k + 1) _ _ _ (z1.set2 ap (by omega))
    -- if cell < 10 ** 18
    have mid : ∀ (cell : Int) (u4 : Option V), 0 ≤ cell → (tSeq (tIfS (tTest (tOp uLt (tVar 3) (tOp (rI CPow fun i j => .int (i ^ j.toNat)) (tC (.int 10)) (tC (.int 18))))) (tSeq (tAsg (tOp (rI (fun _ j => 0 < j) fun i j => .int (i % j)) (tCB rIntC (tCons (tOp (uAdd K) (tOp (uAdd K) (tOp (rI CMul fun i j => .int (i * j)) (tVar 3) (tC (.int 48271))) (tOp (rI CMul fun i j => .int (i * j)) (tVar 2) (tC (.int 69621)))) (tC (.int 11))) tNil)) (tC (.int 2147483647))) (gName 3)) (tAsg (tOp (uAdd K) (tOp (rI CMul fun i j => .int (i * j)) (tOp (rI (fun _ j => 0 < j) fun i j => .int (i % j)) (tCB rIntC (tCons (tOp (uAdd K) (tOp (rI CMul fun i j => .int (i * j)) (tVar 3) (tC (.int 16807))) (tC (.int 13))) tNil)) (tC (.int 2147483647))) (tC (.int 65537))) (tVar 3)) (gName 3))) tNext) (tSeq (tAsg (tVar 3) (gSub (tVar 0) (tC (.int 1)) rSetL)) (tAsg (tOp (uAdd K) (tVar 2) (tC (.int 1))) (gSub (tVar 0) (tC (.int 2)) rSetL)))) { N with nx := (tSeq (tAsg (tOp (rI (fun _ j => 0 < j) fun i j => .int (i % j)) (tCB rIntC (tCons (tOp (rIx K) (tVar 0) (tC (.int 1))) tNil)) (tVar 1)) (gName 4)) (tSeq (tAsg (tOp (rI CDiv fun i j => .int (i / j)) (tOp (rIx K) (tVar 0) (tC (.int 1))) (tVar 1)) (gSub (tVar 0) (tC (.int 1)) rSetL)) (tRet (tVar 4)))) N } [some (.ref p), some (.int m), some (.int k), some (.int cell), u4] H := by
      intro cell u4 hcell
      refine ⟨_, rfl, 10, 18, rfl, rfl, by unfold CPow; decide +kernel, .inl ⟨cell, _, rfl, rfl, _, rfl, ?_⟩⟩
      refine ite2 (fun _ => ?_) (fun _ => last cell u4 hcell)
      refine ⟨_, rfl, cell, 48271, rfl, rfl, .inr (by decide), _, rfl, k, 69621, rfl, rfl, .inr (by decide), .inl ⟨_, _, rfl, rfl, .inl ⟨_, 11, rfl, rfl, .inl ⟨_, rfl, _, 2147483647, rfl, rfl, (by show (0 : Int) < 2147483647; decide), ?_⟩⟩⟩⟩
      have b1 : 0 ≤ (cell * 48271 + k * 69621 + 11) % 2147483647 := Int.emod_nonneg _ (by decide)
      refine ⟨_, rfl, _, 16807, rfl, rfl, .inr (by decide), .inl ⟨_, 13, rfl, rfl, .inl ⟨_, rfl, _, 2147483647, rfl, rfl, (by show (0 : Int) < 2147483647; decide), ?_⟩⟩⟩
      refine ⟨_, 65537, rfl, rfl, .inr (by decide), _, rfl, .inl ⟨_, _, rfl, rfl, ?_⟩⟩
      refine last _ u4 ?_
      have b2 : 0 ≤ ((cell * 48271 + k * 69621 + 11) % 2147483647 * 16807 + 13) % 2147483647 := Int.emod_nonneg _ (by decide)
      omega
    -- if k < len(stream[0])
    refine ⟨_, rfl, _, rfl, ixL (n := 0) hp rfl ⟨.ref a, ns.length, rfl, .inl ⟨_, SqL.of ha, by rw [List.length_map]⟩, .inl ⟨k, ns.length, rfl, rfl, _, rfl, ?_⟩⟩⟩
    refine ite2 (fun hk2 => ?_) (fun _ => mid (7 + k) _ (by omega))
    rw [decide_eq_true_eq] at hk2
    have hkn : (k.toNat : Int) = k := by omega
    have hlt : k.toNat < ns.length := by omega
    refine ⟨_, rfl, ixL (n := 0) hp rfl ⟨_, rfl, ?_⟩⟩
    show rIx K (.ref a) (.int k) H _
    rw [← hkn]
    refine ixL (n := k.toNat) ha (show (ns.map V.int)[k.toNat]? = some (.int ns[k.toNat]) by rw [List.getElem?_map, List.getElem?_eq_getElem hlt]; rfl) ⟨_, rfl, ?_⟩
    rw [hkn]
    refine mid _ _ ?_
    split <;> omega
theorem pf__law_stream_raw {vs : List V} {H : Hp} {Q : VK} {E : XK} (h : sp__law_stream K vs H Q E) : t__law_stream K { nx := fun _ H' => Q .non H', rt := Q } (L2.start N__law_stream vs) H := by
  obtain ⟨a, ns, rfl, hs, hl, q⟩ := h
  refine ⟨_, rfl, .inl ⟨a, _, rfl, .inl hs, fun b hb => ?_⟩⟩
  refine ⟨by show 3 ≤ sizeLine; decide, fun p hp => ?_⟩
  have hpb : p ≠ b := fun z => by subst z; rw [upd_same] at hp; cases hp
  have hp0 : H p = none := by rw [upd_ne hpb] at hp; exact hp
  refine q b p _ (fun c o hc => ?_) hb hp0 hpb.symm (by rw [upd_ne hpb.symm, upd_same]) upd_same
  rw [upd_ne (ne_of_none hc hp0), upd_ne (ne_of_none hc hb)]
  exact hc
end
end Dv

namespace Dv
open PySem PySem.Spec PyProof.Rows L2
local macro_rules | `(tactic| walk_at "d1") => `(tactic| (first
  | (with_reducible refine sn_seq ?_)
  | (with_reducible refine sn_if ?_)
  | (with_reducible refine sn_ret ?_)
  | (with_reducible refine sn_asg ?_)
  | (with_reducible refine sn_next ?_)
  | (with_reducible refine sn_break ?_)
  | (with_reducible refine sn_cont ?_)
  | (with_reducible refine sn_drop ?_)
  | (with_reducible refine tn_test ?_)
  | (with_reducible refine tn_B ?_)
  | (with_reducible refine tn_not ?_)
  | (with_reducible refine tn_and ?_)
  | (with_reducible refine tn_or ?_)
  | (with_reducible refine en_var (by with_unfolding_all exact rfl) ?_)
  | (with_reducible refine en_int ?_)
  | (with_reducible refine en_bl ?_)
  | (with_reducible refine en_non ?_)
  | (with_reducible refine en_str (by decide +kernel) ?_)
  | (with_reducible refine en_gk ?_)
  | (with_reducible refine en_chain ?_)
  | (with_reducible refine en_isi (by decide) ?_)
  | (with_reducible refine en_op ?_)
  | (with_reducible refine en_un ?_)
  | (with_reducible refine en_and ?_)
  | (with_reducible refine en_or ?_)
  | (with_reducible refine en_not ?_)
  | (with_reducible refine en_if ?_)
  | (with_reducible refine en_call0 ?_)
  | (with_reducible refine en_cb (r := rLenC _) ?_)
  | (with_reducible refine en_cb (r := rIntC) ?_)
  | (with_reducible refine en_cb (r := rAbsC) ?_)
  | (with_reducible refine en_cb (r := rTupC _) ?_)
  | (with_reducible refine en_cb (r := rListC _) ?_)
  | (with_reducible refine en_cb (r := rSrt _) ?_)
  | (with_reducible refine en_tup ?_)
  | (with_reducible refine en_lst ?_)
  | (with_reducible refine en_sl ?_)
  | (with_reducible refine en_revT ?_)
  | (with_reducible refine pon_none ?_)
  | (with_reducible refine pon_some ?_)
  | (with_reducible refine an_cons ?_)
  | (with_reducible refine an_nil ?_)
  | (with_reducible refine on_le ?_)
  | (with_reducible refine on_lt ?_)
  | (with_reducible refine on_ge ?_)
  | (with_reducible refine on_gt ?_)
  | (with_reducible refine on_eq ?_)
  | (with_reducible refine on_ne ?_)
  | (with_reducible refine on_add ?_)
  | (with_reducible refine on_sub ?_)
  | (with_reducible refine on_le_s ?_)
  | (with_reducible refine on_lt_s ?_)
  | (with_reducible refine on_eq_s ?_)
  | (with_reducible refine on_ne_s ?_)
  | (with_reducible refine on_eq_b ?_)
  | (with_reducible refine on_ne_b ?_)
  | (with_reducible refine on_is_b ?_)
  | (with_reducible refine on_isNot_b ?_)
  | (with_reducible refine un_neg' ?_)
  | (with_reducible refine ca_int ?_)
  | (with_reducible refine ca_len (by with_unfolding_all exact rfl) ?_)
  | (with_reducible refine ca_tuple (by with_unfolding_all exact rfl) ?_)
  | (with_reducible refine ca_list (by with_unfolding_all exact rfl) ?_)
  | (with_reducible refine on_add_t ?_ ?_)
  | (with_reducible refine sl_t ?_)
  | (with_reducible refine sl_s ?_)
  | (with_reducible refine And.intro (by first | with_unfolding_all decide | with_unfolding_all exact Nat.le_of_ble_eq_true rfl) ?_)
  | (with_reducible refine ex_bl ?_)
  | (with_reducible refine ex_int ?_)
  | (with_reducible refine iteT' (by with_unfolding_all exact rfl) ?_)
  | (with_reducible refine iteF' (by with_unfolding_all exact rfl) ?_)
  | (with_reducible refine ite_b (fun _ => ?_) (fun _ => ?_))))
local macro_rules | `(tactic| walk_at "d") => `(tactic| repeat' walk_at "d1")
local macro_rules | `(tactic| walk_at "d1") => `(tactic| (with_reducible refine w_is_integer ?_))
local macro_rules | `(tactic| walk_at "d1") => `(tactic| (with_reducible refine w_is_bit ?_))
local macro_rules | `(tactic| walk_at "d1") => `(tactic| (with_reducible refine w_is_from_to ?_))
local macro_rules | `(tactic| walk_at "d1") => `(tactic| (with_reducible refine w_is_tuple_of ?_))
local macro_rules | `(tactic| walk_at "d1") => `(tactic| (with_reducible refine w_is_name ?_))
local macro_rules | `(tactic| walk_at "d1") => `(tactic| (with_reducible refine w_is_source ?_))
local macro_rules | `(tactic| walk_at "d1") => `(tactic| (with_reducible refine w_is_house ?_))
local macro_rules | `(tactic| walk_at "d1") => `(tactic| (with_reducible refine w_is_name_row ?_))
local macro_rules | `(tactic| walk_at "d1") => `(tactic| (with_reducible refine w_is_names ?_))
local macro_rules | `(tactic| walk_at "d1") => `(tactic| (first
  | (with_reducible refine w__law_says ?_)
  | (with_reducible refine sn_append (by with_unfolding_all exact rfl) ?_ ?_)
  | (with_reducible refine en_len_own (by with_unfolding_all exact rfl) ?_)
  | (with_reducible refine en_in_own (by with_unfolding_all exact rfl) ?_)
  | (with_reducible refine on_rI (C := fun _ j => 0 < j) (by show (0 : Int) < _; decide) ?_)
  | (with_reducible refine on_rI (C := CDiv) (by with_unfolding_all exact ⟨by decide, by decide⟩) ?_)
  | (with_reducible refine on_rI (C := CMul) (by with_unfolding_all exact .inr ⟨by decide, by decide⟩) ?_)
  | (with_reducible refine on_rI (C := CMul) (by with_unfolding_all exact .inl ⟨by decide, by decide⟩) ?_)
  | (with_reducible refine on_rI (C := CPow) (by with_unfolding_all decide) ?_)
  | (with_reducible refine on_ixC (by with_unfolding_all exact rfl) ?_)
  | (with_reducible refine w_without_doubles ?_)
  | (with_reducible refine w__law_is_name ?_)
  | (with_reducible refine w__law_are_names ?_)
  | (with_reducible refine w__law_kept ?_)
  | (with_reducible refine w__law_next ⟨by with_unfolding_all decide, by with_unfolding_all decide⟩ (fun _ _ _ => ?_))
  | (with_reducible refine w__law_pick ⟨by with_unfolding_all exact rfl, by with_unfolding_all exact Nat.le_of_ble_eq_true rfl⟩ (fun _ _ => ?_))
  | (with_reducible refine w__law_name (fun _ _ => ?_))
  | (with_reducible refine w__law_bit (fun _ => ?_))
  | (with_reducible refine w__law_text (fun _ _ => ?_))))
/-! ### _law_names -/
def alnC (n : Nat) : Nat := alnS.cps.toList.getD n 0
/-- the k-th name of the second kind -/
def numN (f : Int) (k : Nat) : Int := (f + (k : Int) * 7) % 936
def nmS (stem : Str) (a f : Int) (k : Nat) : Str := cutS stem none (some a) ++ ⟨#[(numN f k / 36).toNat + 97]⟩ ++ ⟨#[alnC (numN f k % 36).toNat]⟩ ++ cutS stem (some a) none
theorem cut_pre (s : Str) (a : Nat) : (cutS s none (some (a : Int))).cps.toList = s.cps.toList.take a := by
  unfold cutS
  rw [HT.sIx_nat, HT.sIx_none, List.drop_zero, Nat.sub_zero]
  show (s.cps.toList.take (min a s.length)) = _
  have e : s.length = s.cps.toList.length := by simp [Str.length]
  rw [e]
  exact List.take_eq_take_iff.mpr (by omega)
theorem cut_suf (s : Str) (a : Nat) (ha : a ≤ s.length) : (cutS s (some (a : Int)) none).cps.toList = s.cps.toList.drop a := by
  unfold cutS
  rw [HT.sIx_nat, HT.sIx_none]
  have e : s.length = s.cps.toList.length := by simp [Str.length]
  show ((s.cps.toList.drop (min a s.length)).take (s.length - min a s.length)) = _
  rw [Nat.min_eq_left ha, e]
  exact List.take_of_length_le (by rw [List.length_drop]; exact Nat.le_refl _)
theorem nmS_list {stem : Str} {a : Nat} {f : Int} {k : Nat} (ha : a ≤ stem.length) : (nmS stem a f k).cps.toList = stem.cps.toList.take a ++ [(numN f k / 36).toNat + 97] ++ [alnC (numN f k % 36).toNat] ++ stem.cps.toList.drop a := by
  unfold nmS
  rw [cps_app, cps_app, cps_app, cut_pre, cut_suf stem a ha]
theorem numN_lt (f : Int) (k : Nat) : 0 ≤ numN f k ∧ numN f k < 936 := ⟨Int.emod_nonneg _ (by decide), Int.emod_lt_of_pos _ (by decide)⟩
theorem alnC_ok {n : Nat} (h : n < 36) : (lowC (alnC n) || digC (alnC n)) = true := by
  unfold alnC
  have hl : n < alnS.cps.toList.length := by have : alnS.cps.toList.length = 36 := by decide +kernel
                                             omega
  rw [List.getD_eq_getElem?_getD, List.getElem?_eq_getElem hl]
  exact alnS_ok (List.getElem?_eq_getElem hl)
theorem alnC_inj : ∀ n, n < 36 → ∀ m, m < 36 → alnC n = alnC m → n = m := by decide +kernel
theorem nmS_name {stem : Str} {a : Nat} {f : Int} {k : Nat} (hs : nameL stem.cps.toList = true) (hl : stem.length ≤ 10) (ha : a ≤ stem.length) : nameD (.str (nmS stem a f k)) = true := by
  show nameL (nmS stem a f k).cps.toList = true
  rw [nmS_list ha]
  have hn := numN_lt f k
  have hL : stem.cps.toList.length = stem.length := by simp [Str.length]
  have hA : alnC (numN f k % 36).toNat |> fun c => (lowC c || digC c) = true := alnC_ok (by omega)
  have hB : lowC ((numN f k / 36).toNat + 97) = true := by unfold lowC; simp; omega
  unfold nameL at hs ⊢
  simp only [Bool.and_eq_true, decide_eq_true_eq, List.length_append, List.length_take, List.length_drop, List.length_cons, List.length_nil, List.all_append, List.all_cons, List.all_nil, Bool.and_true] at hs ⊢
  obtain ⟨⟨⟨h1, h2⟩, h3⟩, h4⟩ := hs
  refine ⟨⟨⟨by omega, by omega⟩, ?_⟩, ⟨⟨?_, by rw [hB]; rfl⟩, hA⟩, ?_⟩
  · cases e : stem.cps.toList with
    | nil => rw [e] at h1; simp at h1
    | cons c r =>
      rw [e] at h3
      cases a with
      | zero => exact hB
      | succ a => exact h3
  · rw [List.all_eq_true] at h4 ⊢
    exact fun x hx => h4 x (List.mem_of_mem_take hx)
  · rw [List.all_eq_true] at h4 ⊢
    exact fun x hx => h4 x (List.mem_of_mem_drop hx)
theorem nmS_len {stem : Str} {a : Nat} {f : Int} {k : Nat} (hl : stem.length ≤ 10) (ha : a ≤ stem.length) : (nmS stem a f k).length ≤ 12 := by
  have e : (nmS stem a f k).length = (nmS stem a f k).cps.toList.length := by simp [Str.length]
  have hL : stem.cps.toList.length = stem.length := by simp [Str.length]
  rw [e, nmS_list ha]
  simp only [List.length_append, List.length_take, List.length_drop, List.length_cons, List.length_nil]
  omega
theorem nmS_inj {stem : Str} {a : Nat} {f : Int} {j k : Nat} (ha : a ≤ stem.length) (hjk : j < k) (hk : k < j + 100) : nmS stem a f j ≠ nmS stem a f k := by
  intro h
  have e := congrArg (fun s : Str => s.cps.toList) h
  simp only [nmS_list ha] at e
  rw [List.append_assoc, List.append_assoc, List.append_assoc, List.append_assoc] at e
  have e1 := List.append_cancel_left e
  have e2 := (List.cons.inj e1).1
  have e3 := (List.cons.inj (List.cons.inj e1).2).1
  have hj := numN_lt f j
  have hk' := numN_lt f k
  have e4 := alnC_inj _ (by omega) _ (by omega) e3
  have e5 : numN f j = numN f k := by omega
  unfold numN at e5
  omega
theorem nodup_le {α : Type} [BEq α] [LawfulBEq α] : ∀ {l m : List α}, l.Nodup → (∀ x ∈ l, x ∈ m) → l.length ≤ m.length
  | [], _, _, _ => Nat.zero_le _
  | x :: l, m, hn, hs => by
    have hx := hs x List.mem_cons_self
    have h1 := List.nodup_cons.mp hn
    have : l.length ≤ (m.erase x).length := nodup_le h1.2 fun y hy => by
      have hne : y ≠ x := fun z => h1.1 (z ▸ hy)
      exact (List.mem_erase_of_ne hne).mpr (hs y (List.mem_cons_of_mem _ hy))
    rw [List.length_erase_of_mem hx] at this
    have := List.length_pos_of_mem hx
    rw [List.length_cons]
    omega
theorem nms_count {stem : Str} {a : Nat} {f : Int} {st n : Nat} {ss : List Str} (ha : a ≤ stem.length) (hn : n ≤ 100) (h : ∀ j, st ≤ j → j < st + n → nmS stem a f j ∈ ss) : n ≤ ss.length := by
  have hnd : ((List.range n).map fun i => nmS stem a f (st + i)).Nodup := by
    rw [List.nodup_iff_pairwise_ne, List.pairwise_map]
    refine List.Pairwise.imp_of_mem (R := (· < ·)) (fun {i j} hi hj hlt => ?_) List.pairwise_lt_range
    rw [List.mem_range] at hi hj
    exact nmS_inj ha (by omega) (by omega)
  have := nodup_le hnd (m := ss) fun x hx => by
    obtain ⟨i, hi, rfl⟩ := List.mem_map.mp hx
    rw [List.mem_range] at hi
    exact h _ (by omega) (by omega)
  rw [List.length_map, List.length_range] at this
  exact this
/-- a sorted list of different texts ascends -/
theorem asc_sorted : ∀ {ss : List Str}, sortedS ss = true → ss.Nodup → ascS ss = true
  | [], _, _ => rfl
  | [_], _, _ => rfl
  | s :: t :: r, h, hn => by
    have h' : (!ltCps t.cps.toList s.cps.toList && risingS t r) = true := h
    rw [Bool.and_eq_true] at h'
    show (ltS s t && ascS (t :: r)) = true
    rw [asc_sorted (ss := t :: r) h'.2 (List.nodup_cons.mp hn).2, Bool.and_true]
    have hne : s ≠ t := fun z => (List.nodup_cons.mp hn).1 (z ▸ List.mem_cons_self)
    have h1 : ltCps t.cps.toList s.cps.toList = false := by simpa using h'.1
    rw [ltCps_eq, decide_eq_false_iff_not] at h1
    have h2 : s.cps.toList ≤ t.cps.toList := h1
    rw [List.le_iff_lt_or_eq] at h2
    rcases h2 with h2 | h2
    · exact decide_eq_true h2
    · exact absurd (by cases s; cases t; congr; exact Array.toList_inj.mp h2) hne

/-- found, when the names are enough -/
def FinN (m : Int) (stem : Str) (a f al : Int) (δ' : List Sl) : Prop := ∃ (ss : List Str) (t7 t8 t9 : Sl), δ' = [.val .stm, .val (.int m), .own (ss.map .str), .val (.str stem), .val (.int a), .val (.int f), .val (.int al), t7, t8, t9] ∧
  ss.Nodup ∧ (ss.length : Int) = m ∧ ∀ s ∈ ss, nameD (.str s) = true
def InvN (m : Int) (stem : Str) (a f al : Int) (k : Nat) (δ' : List Sl) : Prop := ∃ (ss : List Str) (t7 t8 t9 : Sl), δ' = [.val .stm, .val (.int m), .own (ss.map .str), .val (.str stem), .val (.int a), .val (.int f), .val (.int al), t7, t8, t9] ∧
  ss.Nodup ∧ (ss.length : Int) ≤ m ∧ (∀ s ∈ ss, nameD (.str s) = true) ∧ ∀ j : Nat, (if al = 1 then 0 else 3 * m) ≤ (j : Int) → j < k → nmS stem a f j ∈ ss
theorem inv_app {m : Int} {stem : Str} {a f al : Int} {k : Nat} {ss : List Str} {x : Str} {t7 t8 t9 : Sl} (hn : ss.Nodup) (hl : (ss.length : Int) ≤ m) (hne : decide ((ss.length : Int) = m) = false) (hs : ∀ s ∈ ss, nameD (.str s) = true)
    (hx : x ∉ ss) (hxn : nameD (.str x) = true) (h : ∀ j : Nat, (if al = 1 then 0 else 3 * m) ≤ (j : Int) → j < k → nmS stem a f j ∈ ss) (hk : (if al = 1 then 0 else 3 * m) ≤ (k : Int) → x = nmS stem a f k) :
    InvN m stem a f al (k + 1) [.val .stm, .val (.int m), .own (ss.map .str ++ [.str x]), .val (.str stem), .val (.int a), .val (.int f), .val (.int al), t7, t8, t9] := by
  rw [decide_eq_false_iff_not] at hne
  refine ⟨ss ++ [x], t7, t8, t9, by rw [List.map_append]; rfl, ?_, by rw [List.length_append]; show ((ss.length + 1 : Nat) : Int) ≤ m; omega, ?_, fun j h1 h2 => ?_⟩
  · rw [List.nodup_append]
    refine ⟨hn, by simp, fun y hy z hz => ?_⟩
    rw [List.mem_singleton] at hz
    subst hz
    exact fun e => hx (e ▸ hy)
  · intro s h
    rcases List.mem_append.mp h with h | h
    · exact hs s h
    · rw [List.mem_singleton] at h
      exact h ▸ hxn
  · by_cases e : j = k
    · subst e
      rw [hk h1]
      exact List.mem_append_right _ List.mem_cons_self
    · exact List.mem_append_left _ (h j h1 (by omega))
theorem inv_keep {m : Int} {stem : Str} {a f al : Int} {k : Nat} {ss : List Str} {t7 t8 t9 : Sl} (hn : ss.Nodup) (hl : (ss.length : Int) ≤ m) (hs : ∀ s ∈ ss, nameD (.str s) = true)
    (h : ∀ j : Nat, (if al = 1 then 0 else 3 * m) ≤ (j : Int) → j < k → nmS stem a f j ∈ ss) (hk : (if al = 1 then 0 else 3 * m) ≤ (k : Int) → nmS stem a f k ∈ ss) :
    InvN m stem a f al (k + 1) [.val .stm, .val (.int m), .own (ss.map .str), .val (.str stem), .val (.int a), .val (.int f), .val (.int al), t7, t8, t9] := by
  refine ⟨ss, t7, t8, t9, rfl, hn, hl, hs, fun j h1 h2 => ?_⟩
  by_cases e : j = k
  · subst e; exact hk h1
  · exact h j h1 (by omega)
theorem pf__law_names {K : PySem.W.Frag} : ∀ ds R, W__law_names ds R → StN K (t__law_names K) (startD N__law_names ds) { nx := fun _ => R .non, rt := R } := by
  rintro _ R ⟨m, rfl, hm1, hm2, q⟩
  unfold t__law_names
  refine sn_seq (sn_own (an_nil ⟨by decide, ?_⟩) (by show 2 < 10; decide))
  walk_at "d"
  rename_i s0 hs0
  have hs0' : nameL s0.cps.toList = true := hs0
  obtain ⟨stem, hst⟩ : ∃ stem, stem = cutS s0 none (some 10) := ⟨_, rfl⟩
  have hsl : stem.cps.toList = s0.cps.toList.take 10 := by rw [hst]; exact cut_pre s0 10
  have hL : stem.cps.toList.length = stem.length := by simp [Str.length]
  have hlen : stem.length ≤ 10 := by rw [← hL, hsl, List.length_take]; omega
  have hsn : nameL stem.cps.toList = true := by
    rw [hsl]
    unfold nameL at hs0' ⊢
    simp only [Bool.and_eq_true, decide_eq_true_eq, List.length_take] at hs0' ⊢
    obtain ⟨⟨⟨h1, h2⟩, h3⟩, h4⟩ := hs0'
    refine ⟨⟨⟨by omega, by omega⟩, ?_⟩, ?_⟩
    · cases e : s0.cps.toList with
      | nil => rw [e] at h1; simp at h1
      | cons c r => rw [e] at h3; exact h3
    · rw [List.all_eq_true] at h4 ⊢
      exact fun x hx => h4 x (List.mem_of_mem_take hx)
  rw [← hst]
  refine w__law_next ⟨by omega, by omega⟩ fun a ha1 ha2 => ?_
  obtain ⟨a', rfl⟩ : ∃ n : Nat, a = n := ⟨a.toNat, by omega⟩
  have ha : a' ≤ stem.length := by omega
  walk_at "d"
  rename_i f hf1 hf2 al hal1 hal2
  have fin : ∀ δ', FinN m stem a' f al δ' → StN K (tRet (tCB (rTupC K) (tCons (tCB (rSrt K) (tCons (tVar 2) tNil)) tNil))) δ' { nx := fun _ => R .non, rt := R } := by
    rintro δ' ⟨ss, t7, t8, t9, rfl, hn, hl, hs⟩
    refine sn_freeze (i := 2) (l := ss.map .str) rfl ?_
    walk_at "d"
    refine ca_sorted_s (ss := ss) rfl (by omega) fun ys hp hsr => ?_
    walk_at "d"
    exact q ys (by rw [hp.length_eq]; exact hl) (fun s h => hs s (hp.mem_iff.mp h)) (asc_sorted hsr (hp.nodup_iff.mpr hn))
  refine sn_for [7] ?_
  refine in_R1 ?_
  walk_at "d"
  refine ⟨2000, rfl, ⟨by decide, by decide⟩, InvN m stem a' f al, ⟨[], .no, .no, .no, rfl, List.nodup_nil, (by show (0 : Int) ≤ m; omega), (fun s h => absurd h List.not_mem_nil), fun j _ h => absurd h (Nat.not_lt_zero _)⟩, ?_, ?_⟩
  · rintro k d δ' hd ⟨ss, t7, t8, t9, rfl, hn, hl, hs, hj⟩
    obtain ⟨hk, rfl⟩ := rangeD_at hd
    rw [Int.zero_add]
    refine gn_name ?_
    refine StN.mono (k := { nx := InvN m stem a' f al (k + 1), ct := InvN m stem a' f al (k + 1), bk := FinN m stem a' f al, rt := R }) ?_ (fun _ h => h) (fun _ h => h) fin (fun _ h => h)
    refine sn_seqM (fun δ' => δ' = [.val .stm, .val (.int m), .own (ss.map .str), .val (.str stem), .val (.int a'), .val (.int f), .val (.int al), .val (.int k), t8, t9] ∧ decide ((ss.length : Int) = m) = false) ?_ ?_
    · walk_at "d"
      · rename_i h1
        rw [List.length_map, decide_eq_true_eq] at h1
        exact ⟨ss, _, t8, t9, rfl, hn, h1, hs⟩
      · rename_i h1
        rw [List.length_map] at h1
        exact ⟨rfl, h1⟩
    · rintro δ' ⟨rfl, hne⟩
      refine sn_seqM (fun δ' => ∃ x, δ' = [.val .stm, .val (.int m), .own (ss.map .str), .val (.str stem), .val (.int a'), .val (.int f), .val (.int al), .val (.int k), .val (.str x), t9] ∧ (al = 0 → (k : Int) < 3 * m → nameD (.str x) = true)) ?_ ?_
      · walk_at "d"
        all_goals rename_i h1
        · rename_i s h2 h3
          exact ⟨_, rfl, fun _ _ => h1⟩
        · exact ⟨_, rfl, fun _ h => by simp at h1; omega⟩
        · exact ⟨_, rfl, fun h _ => by simp at h1; omega⟩
      · rintro δ' ⟨x, rfl, hx⟩
        refine sn_seqM (fun δ' => ∃ x t9, δ' = [.val .stm, .val (.int m), .own (ss.map .str), .val (.str stem), .val (.int a'), .val (.int f), .val (.int al), .val (.int k), .val (.str x), t9] ∧ nameD (.str x) = true ∧ ((if al = 1 then 0 else 3 * m) ≤ (k : Int) → x = nmS stem a' f k)) ?_ ?_
        · have hnn := numN_lt f k
          have hc1 := cutS_length stem none (some (a' : Int))
          have hc2 := cutS_length stem (some (a' : Int)) none
          walk_at "d"
          · skip
            refine on_ix_sI 26 lowS_len ⟨(by show 0 ≤ numN f k / 36; omega), (by show numN f k / 36 < (26 : Nat); omega)⟩ fun c1 h1 => ?_
            obtain ⟨rfl, _⟩ := lowS_at h1
            refine on_add_s (by show _ + 1 ≤ lim; unfold lim; omega) ?_
            walk_at "d"
            refine on_ix_sI 36 alnS_len ⟨(by show 0 ≤ numN f k % 36; omega), (by show numN f k % 36 < (36 : Nat); omega)⟩ fun c2 h2 => ?_
            have e2 : c2 = alnC (numN f k % 36).toNat := by
              unfold alnC
              rw [List.getD_eq_getElem?_getD, show alnS.cps.toList[(numN f k % 36).toNat]? = some c2 from h2]
              rfl
            subst e2
            refine on_add_s (by rw [Str.length_append]; show _ + 1 + 1 ≤ lim; unfold lim; omega) ?_
            walk_at "d"
            refine on_add_s (by rw [Str.length_append, Str.length_append]; show _ + 1 + 1 + _ ≤ lim; unfold lim; omega) ?_
            exact ⟨nmS stem a' f k, _, rfl, nmS_name hsn hlen ha, fun _ => rfl⟩
          · skip
            refine on_ix_sI 26 lowS_len ⟨(by show 0 ≤ numN f k / 36; omega), (by show numN f k / 36 < (26 : Nat); omega)⟩ fun c1 h1 => ?_
            obtain ⟨rfl, _⟩ := lowS_at h1
            refine on_add_s (by show _ + 1 ≤ lim; unfold lim; omega) ?_
            walk_at "d"
            refine on_ix_sI 36 alnS_len ⟨(by show 0 ≤ numN f k % 36; omega), (by show numN f k % 36 < (36 : Nat); omega)⟩ fun c2 h2 => ?_
            have e2 : c2 = alnC (numN f k % 36).toNat := by
              unfold alnC
              rw [List.getD_eq_getElem?_getD, show alnS.cps.toList[(numN f k % 36).toNat]? = some c2 from h2]
              rfl
            subst e2
            refine on_add_s (by rw [Str.length_append]; show _ + 1 + 1 ≤ lim; unfold lim; omega) ?_
            walk_at "d"
            refine on_add_s (by rw [Str.length_append, Str.length_append]; show _ + 1 + 1 + _ ≤ lim; unfold lim; omega) ?_
            exact ⟨nmS stem a' f k, _, rfl, nmS_name hsn hlen ha, fun _ => rfl⟩
          · rename_i h1 h2
            rw [decide_eq_false_iff_not] at h1 h2
            refine ⟨x, t9, rfl, hx (by omega) (by omega), fun h => ?_⟩
            rw [if_neg h1] at h
            exact absurd h h2
        · rintro δ' ⟨x, t9, rfl, hxn, hxk⟩
          walk_at "d"
          refine ⟨x, rfl, ?_⟩
          rw [if_pos rfl]
          walk_at "d"
          · rename_i h1
            rw [Bool.not_eq_true', decide_eq_false_iff_not] at h1
            rw [List.length_map]; unfold lim; omega
          · rename_i h1
            rw [Bool.not_eq_true', decide_eq_false_iff_not] at h1
            exact inv_app hn hl hne hs h1 hxn hj hxk
          · rename_i h1
            have h1' : x ∈ ss := by simpa using h1
            exact inv_keep hn hl hs hj fun h => hxk h ▸ h1'
  · rintro δ' ⟨ss, t7, t8, t9, rfl, hn, hl, hs, hj⟩
    rw [rangeD_len] at hj
    refine fin _ ⟨ss, t7, t8, t9, rfl, hn, ?_, hs⟩
    have hc := nms_count (st := (if al = 1 then 0 else 3 * m).toNat) (n := m.toNat) (ss := ss) ha (by omega) fun j h1 h2 => hj j (by split at * <;> omega) (by show j < 2000; split at * <;> omega)
    omega
end Dv

namespace Dv
open PySem PySem.Spec PyProof.Rows L2
local macro_rules | `(tactic| walk_at "d1") => `(tactic| (first
  | (with_reducible refine sn_seq ?_)
  | (with_reducible refine sn_if ?_)
  | (with_reducible refine sn_ret ?_)
  | (with_reducible refine sn_asg ?_)
  | (with_reducible refine sn_next ?_)
  | (with_reducible refine sn_break ?_)
  | (with_reducible refine sn_cont ?_)
  | (with_reducible refine sn_drop ?_)
  | (with_reducible refine tn_test ?_)
  | (with_reducible refine tn_B ?_)
  | (with_reducible refine tn_not ?_)
  | (with_reducible refine tn_and ?_)
  | (with_reducible refine tn_or ?_)
  | (with_reducible refine en_var (by with_unfolding_all exact rfl) ?_)
  | (with_reducible refine en_int ?_)
  | (with_reducible refine en_bl ?_)
  | (with_reducible refine en_non ?_)
  | (with_reducible refine en_str (by decide +kernel) ?_)
  | (with_reducible refine en_gk ?_)
  | (with_reducible refine en_chain ?_)
  | (with_reducible refine en_isi (by decide) ?_)
  | (with_reducible refine en_op ?_)
  | (with_reducible refine en_un ?_)
  | (with_reducible refine en_and ?_)
  | (with_reducible refine en_or ?_)
  | (with_reducible refine en_not ?_)
  | (with_reducible refine en_if ?_)
  | (with_reducible refine en_call0 ?_)
  | (with_reducible refine en_cb (r := rLenC _) ?_)
  | (with_reducible refine en_cb (r := rIntC) ?_)
  | (with_reducible refine en_cb (r := rAbsC) ?_)
  | (with_reducible refine en_cb (r := rTupC _) ?_)
  | (with_reducible refine en_cb (r := rListC _) ?_)
  | (with_reducible refine en_cb (r := rSrt _) ?_)
  | (with_reducible refine en_tup ?_)
  | (with_reducible refine en_lst ?_)
  | (with_reducible refine en_sl ?_)
  | (with_reducible refine en_revT ?_)
  | (with_reducible refine pon_none ?_)
  | (with_reducible refine pon_some ?_)
  | (with_reducible refine an_cons ?_)
  | (with_reducible refine an_nil ?_)
  | (with_reducible refine on_le ?_)
  | (with_reducible refine on_lt ?_)
  | (with_reducible refine on_ge ?_)
  | (with_reducible refine on_gt ?_)
  | (with_reducible refine on_eq ?_)
  | (with_reducible refine on_ne ?_)
  | (with_reducible refine on_add ?_)
  | (with_reducible refine on_sub ?_)
  | (with_reducible refine on_le_s ?_)
  | (with_reducible refine on_lt_s ?_)
  | (with_reducible refine on_eq_s ?_)
  | (with_reducible refine on_ne_s ?_)
  | (with_reducible refine on_eq_b ?_)
  | (with_reducible refine on_ne_b ?_)
  | (with_reducible refine on_is_b ?_)
  | (with_reducible refine on_isNot_b ?_)
  | (with_reducible refine un_neg' ?_)
  | (with_reducible refine ca_int ?_)
  | (with_reducible refine ca_len (by with_unfolding_all exact rfl) ?_)
  | (with_reducible refine ca_tuple (by with_unfolding_all exact rfl) ?_)
  | (with_reducible refine ca_list (by with_unfolding_all exact rfl) ?_)
  | (with_reducible refine on_add_t ?_ ?_)
  | (with_reducible refine sl_t ?_)
  | (with_reducible refine sl_s ?_)
  | (with_reducible refine And.intro (by first | with_unfolding_all decide | with_unfolding_all exact Nat.le_of_ble_eq_true rfl) ?_)
  | (with_reducible refine ex_bl ?_)
  | (with_reducible refine ex_int ?_)
  | (with_reducible refine iteT' (by with_unfolding_all exact rfl) ?_)
  | (with_reducible refine iteF' (by with_unfolding_all exact rfl) ?_)
  | (with_reducible refine ite_b (fun _ => ?_) (fun _ => ?_))))
local macro_rules | `(tactic| walk_at "d") => `(tactic| repeat' walk_at "d1")
local macro_rules | `(tactic| walk_at "d1") => `(tactic| (with_reducible refine w_is_integer ?_))
local macro_rules | `(tactic| walk_at "d1") => `(tactic| (with_reducible refine w_is_bit ?_))
local macro_rules | `(tactic| walk_at "d1") => `(tactic| (with_reducible refine w_is_from_to ?_))
local macro_rules | `(tactic| walk_at "d1") => `(tactic| (with_reducible refine w_is_tuple_of ?_))
local macro_rules | `(tactic| walk_at "d1") => `(tactic| (with_reducible refine w_is_name ?_))
local macro_rules | `(tactic| walk_at "d1") => `(tactic| (with_reducible refine w_is_source ?_))
local macro_rules | `(tactic| walk_at "d1") => `(tactic| (with_reducible refine w_is_house ?_))
local macro_rules | `(tactic| walk_at "d1") => `(tactic| (with_reducible refine w_is_name_row ?_))
local macro_rules | `(tactic| walk_at "d1") => `(tactic| (with_reducible refine w_is_names ?_))
local macro_rules | `(tactic| walk_at "d1") => `(tactic| (first
  | (with_reducible refine w__law_says ?_)
  | (with_reducible refine sn_append (by with_unfolding_all exact rfl) ?_ ?_)
  | (with_reducible refine en_len_own (by with_unfolding_all exact rfl) ?_)
  | (with_reducible refine en_in_own (by with_unfolding_all exact rfl) ?_)
  | (with_reducible refine on_rI (C := fun _ j => 0 < j) (by show (0 : Int) < _; decide) ?_)
  | (with_reducible refine on_rI (C := CDiv) (by with_unfolding_all exact ⟨by decide, by decide⟩) ?_)
  | (with_reducible refine on_rI (C := CMul) (by with_unfolding_all exact .inr ⟨by decide, by decide⟩) ?_)
  | (with_reducible refine on_rI (C := CMul) (by with_unfolding_all exact .inl ⟨by decide, by decide⟩) ?_)
  | (with_reducible refine on_rI (C := CPow) (by with_unfolding_all decide) ?_)
  | (with_reducible refine on_ixC (by with_unfolding_all exact rfl) ?_)
  | (with_reducible refine w_without_doubles ?_)
  | (with_reducible refine w__law_is_name ?_)
  | (with_reducible refine w__law_are_names ?_)
  | (with_reducible refine w__law_kept ?_)
  | (with_reducible refine w__law_next ⟨by with_unfolding_all decide, by with_unfolding_all decide⟩ (fun _ _ _ => ?_))
  | (with_reducible refine w__law_pick ⟨by with_unfolding_all exact rfl, by with_unfolding_all exact Nat.le_of_ble_eq_true rfl⟩ (fun _ _ => ?_))
  | (with_reducible refine w__law_name (fun _ _ => ?_))
  | (with_reducible refine w__law_bit (fun _ => ?_))
  | (with_reducible refine w__law_text (fun _ _ => ?_))))
/-! ### the law -/
theorem nameD_len {s : Str} (h : nameD (.str s) = true) : s.length ≤ 12 := by
  have h : nameL s.cps.toList = true := h
  unfold nameL at h
  simp only [Bool.and_eq_true, decide_eq_true_eq] at h
  have := h.1.1.2
  rw [Array.length_toList] at this
  exact this
theorem pick_all {l : List D} {d : D} (f : D → Bool) (h : d ∈ l) (e : l.all (fun d => !f d) = true) : f d = false := by
  have := List.all_eq_true.mp e d h
  simpa using this
theorem namesD_strs {ss : List Str} (h1 : ss ≠ []) (h2 : ss.length ≤ 40) (h3 : ∀ s ∈ ss, nameD (.str s) = true) (h4 : ascS ss = true) : namesD 1 (.tup (ss.map .str)) = true := by
  show (decide (1 ≤ ((ss.map D.str).length : Int)) && decide ((ss.map D.str).length ≤ 40) && (ss.map D.str).all nameD && ascS (strsOf (ss.map .str))) = true
  rw [names_of_strs, h4, List.length_map]
  have : ss.length ≠ 0 := fun z => h1 (List.length_eq_zero_iff.mp z)
  have e : (ss.map D.str).all nameD = true := by
    rw [List.all_eq_true]
    intro d hd
    obtain ⟨s, hs, rfl⟩ := List.mem_map.mp hd
    exact h3 s hs
  rw [e]
  simp
  omega
theorem rowD_bits {n : Nat} {bs : List Bool} (h : bs.length = n) : rowD n (.tup (bs.map .bl)) = true := by
  show (decide ((bs.map D.bl).length = n) && (bs.map D.bl).all (isTy "bool")) = true
  have e : (bs.map D.bl).all (isTy "bool") = true := by
    rw [List.all_eq_true]
    intro d hd
    obtain ⟨b, _, rfl⟩ := List.mem_map.mp hd
    rfl
  rw [e, List.length_map, h]
  simp
theorem law_raw {K : PySem.W.Frag} {rest : TS} {m : Nat} {vs : List V} {H : Hp} {Q : VK} {E : XK} {N : List Str} (hN : N.length = m + 2) (h : sp_law K vs H Q E)
    (hr : StN K rest ([.no, .val .stm] ++ List.replicate m .no) { nx := fun _ => False, rt := fun d => d = .bl true }) :
    tSeq (tAsg (tCall (sp__law_stream K) [] E0 (tCons (tVar 0) tNil)) (gName 1)) rest { nx := fun _ H' => Q .non H', rt := Q } (L2.start N vs) H := by
  obtain ⟨a, ns, rfl, hs, hl, q⟩ := h
  have e : L2.start N [.ref a] = some (.ref a) :: none :: List.replicate m none := by
    unfold L2.start
    rw [hN]
    rfl
  rw [e]
  refine ⟨_, rfl, ?_⟩
  refine ⟨a, ns, rfl, hs, hl, fun b p H' sm hb hp bp hb' hp' => ?_⟩
  refine hr p (fun c => c = p) (fun c => c = p) H' _ _ ⟨rfl, rfl, fun c hc => ?_, ?_, fun i s hi => ?_, fun i j c l l' h1 _ _ _ => ?_⟩ (fun _ _ _ _ _ _ z => z.elim) (fun C' H'' v d _ r z => ?_) (fun _ _ _ _ _ _ z => z.elim) (fun _ _ _ _ _ _ z => z.elim)
  · rw [hc.elim id id, hp']
    exact fun z => by cases z
  · simp
  · match i, hi with
    | 0, hi =>
      cases hi
      trivial
    | 1, hi =>
      cases hi
      exact ⟨.ref p, rfl, rfl, b, ns, 0, 0, fun z => bp (z.elim id id), hp', hb', by decide, by decide, hl⟩
    | i + 2, hi =>
      have : (List.replicate m Sl.no)[i]? = some s := hi
      have := List.mem_of_getElem? this
      rw [List.mem_replicate] at this
      rw [this.2]
      trivial
  · match i, h1 with
    | 0, h1 => cases h1
    | 1, h1 => cases h1
    | i + 2, h1 =>
      have : (List.replicate m Sl.no)[i]? = some (.own l) := h1
      have := List.mem_of_getElem? this
      rw [List.mem_replicate] at this
      cases this.2
  · subst z
    cases (show v = .bl true from r)
    exact q H''
theorem pf_law_raw {K : PySem.W.Frag} {vs : List V} {H : Hp} {Q : VK} {E : XK} (h : sp_law K vs H Q E) : t_law K { nx := fun _ H' => Q .non H', rt := Q } (L2.start N_law vs) H := by
  unfold t_law
  refine law_raw (m := 9) rfl h ?_
  show StN K _ [.no, .val .stm, .no, .no, .no, .no, .no, .no, .no, .no, .no] _
  refine sn_seqM (fun δ' => ∃ t2 t3, δ' = [.no, .val .stm, t2, t3, .no, .no, .no, .no, .no, .no, .no]) ?_ ?_
  · refine sn_for [2] (in_R1 (an_cons (en_int (an_nil ⟨6, rfl, by decide, ?_⟩))))
    refine ⟨fun i δ' => ∃ t2 t3, δ' = [.no, .val .stm, t2, t3, .no, .no, .no, .no, .no, .no, .no], ⟨_, _, rfl⟩, ?_, fun δ' h => h⟩
    rintro i d δ' hd ⟨t2, t3, rfl⟩
    refine gn_name ?_
    refine sn_seqM (fun δ' => ∃ t2 s, δ' = [.no, .val .stm, t2, .val (.str s), .no, .no, .no, .no, .no, .no, .no]) ?_ ?_
    · walk_at "d"
      exact ⟨_, _, rfl⟩
    · rintro δ' ⟨t2, s, rfl⟩
      refine sn_seqM (fun δ' => ∃ t2, δ' = [.no, .val .stm, t2, .val (.str s), .no, .no, .no, .no, .no, .no, .no]) ?_ ?_
      · walk_at "d"
        · rename_i x
          rw [beq_self_eq_true] at x
          cases x
        · rename_i h x
          rw [h] at x
          cases x
        · exact ⟨_, rfl⟩
      · clear t2
        rintro δ' ⟨t2, rfl⟩
        walk_at "d"
        exact ⟨_, _, rfl⟩
  · rintro δ' ⟨t2, t3, rfl⟩
    refine sn_seqM (fun δ' => ∃ t2 t3 n, δ' = [.no, .val .stm, t2, t3, .val (.int n), .no, .no, .no, .no, .no, .no]) ?_ ?_
    · walk_at "d"
      exact ⟨_, _, _, rfl⟩
    rintro δ' ⟨t2, t3, n, rfl⟩
    refine sn_seqM (fun δ' => ∃ t2 t3, δ' = [.no, .val .stm, t2, t3, .val (.int n), .no, .no, .no, .no, .no, .no]) ?_ ?_
    · walk_at "d"
      · rename_i h x
        have : fromTo (.int n) 0 5 = decide (n ≤ 5) := by
          show (decide (0 ≤ n) && decide (n ≤ 5)) = _
          rw [h]
          rfl
        rw [this, beq_self_eq_true] at x
        cases x
      · refine on_rI (C := CPow) (by unfold CPow; decide +kernel) ?_
        walk_at "d"
        · rename_i x m h
          have e : fromTo x 0 5 = false := pick_all (fun d => fromTo d 0 5) m (by decide +kernel)
          rw [e] at h
          cases h
        · exact ⟨_, _, rfl⟩
      · rename_i h x
        have : fromTo (.int n) 0 5 = false := by
          show (decide (0 ≤ n) && decide (n ≤ 5)) = _
          rw [h]
          rfl
        rw [this] at x
        cases x
      · refine on_rI (C := CPow) (by unfold CPow; decide +kernel) ?_
        walk_at "d"
        · rename_i x m h
          have e : fromTo x 0 5 = false := pick_all (fun d => fromTo d 0 5) m (by decide +kernel)
          rw [e] at h
          cases h
        · exact ⟨_, _, rfl⟩
    · clear t2 t3
      rintro δ' ⟨t2, t3, rfl⟩
      refine sn_seqM (fun δ' => ∃ t2 t3, δ' = [.no, .val .stm, t2, t3, .val (.int n), .no, .no, .no, .no, .no, .no]) ?_ ?_
      · refine sn_if (tn_not (tn_B ?_))
        refine en_all (fun d => houseD d) ?_
        refine in_any ?_
        walk_at "d"
        refine ⟨_, rfl, by decide, fun i d hd => gn_name ?_, ?_⟩
        · walk_at "d"
          rw [Bool.decide_eq_true]
        · have e : ([.str "and", .str "or", .str "most", .str "sum"] : List D).all houseD = true := by decide +kernel
          rw [show (([D.str "and", .str "or", .str "most", .str "sum"] : List D).all fun d => houseD d) = true from e]
          walk_at "d"
          exact ⟨_, _, rfl⟩
      · clear t2 t3
        rintro δ' ⟨t2, t3, rfl⟩
        refine sn_seqM (fun δ' => ∃ t2 t3, δ' = [.no, .val .stm, t2, t3, .val (.int n), .no, .no, .no, .no, .no, .no]) ?_ ?_
        · walk_at "d"
          · rename_i x m h
            have e : houseD x = false := pick_all (fun d => houseD d) m (by decide +kernel)
            rw [e] at h
            cases h
          · exact ⟨_, _, rfl⟩
        clear t2 t3
        rintro δ' ⟨t2, t3, rfl⟩
        refine sn_seqM (fun δ' => ∃ t2 t3 t5 t6 t7 t8, δ' = [.no, .val .stm, t2, t3, .val (.int n), t5, t6, t7, t8, .no, .no]) ?_ ?_
        · refine sn_for [5] (in_any ?_)
          walk_at "d"
          rename_i dd hdd
          refine ⟨_, rfl, fun i δ' => ∃ t2 t3 t5 t6 t7 t8, δ' = [.no, .val .stm, t2, t3, .val (.int n), t5, t6, t7, t8, .no, .no], ⟨_, _, _, _, _, _, rfl⟩, ?_, fun δ' h => h⟩
          rintro i d δ' hd ⟨t2, t3, t5, t6, t7, t8, rfl⟩
          have hk : ∃ k : Int, d = .int k ∧ 1 ≤ k ∧ k ≤ 41 := by
            have := List.mem_of_getElem? hd
            simp only [List.mem_cons, List.not_mem_nil, or_false] at this hdd
            rcases this with rfl | rfl | rfl | rfl
            · exact ⟨_, rfl, by decide, by decide⟩
            · rcases hdd with rfl | rfl | rfl | rfl <;> exact ⟨_, rfl, by decide, by decide⟩
            · exact ⟨_, rfl, by decide, by decide⟩
            · exact ⟨_, rfl, by decide, by decide⟩
          obtain ⟨k, rfl, hk1, hk2⟩ := hk
          refine gn_name ?_
          refine sn_seqM (fun δ' => ∃ ss : List Str, δ' = [.no, .val .stm, t2, t3, .val (.int n), .val (.int k), .val (.tup (ss.map .str)), t7, t8, .no, .no] ∧ (ss.length : Int) = k ∧ (∀ s ∈ ss, nameD (.str s) = true) ∧ ascS ss = true) ?_ ?_
          · walk_at "d"
            refine w__law_names ⟨hk1, hk2⟩ fun ss a b c => ?_
            exact ⟨ss, rfl, a, b, c⟩
          rintro δ' ⟨ss, rfl, hl, hn, ha⟩
          have hne : ss ≠ [] := fun z => by rw [z] at hl; simp at hl; omega
          have hz : ∀ s ∈ ss, s.length ≤ 1000 := fun s hs => by have := nameD_len (hn s hs); omega
          refine sn_seqM (fun δ' => δ' = [.no, .val .stm, t2, t3, .val (.int n), .val (.int k), .val (.tup (ss.map .str)), t7, t8, .no, .no]) ?_ ?_
          · walk_at "d"
            refine w__law_bent ⟨hne, by omega, hz⟩ fun d => ?_
            walk_at "d"
            rfl
          rintro δ' rfl
          refine sn_if ?_
          walk_at "d"
          · rename_i h40
            rw [decide_eq_true_eq] at h40
            refine w__law_row ⟨by omega, by omega⟩ fun bs hb => ?_
            have hbe : bs ≠ [] := fun z => by rw [z] at hb; simp at hb; omega
            have hnm : namesD 1 (.tup (ss.map .str)) = true := namesD_strs hne (by omega) hn ha
            have hrow : rowD (ss.map D.str).length (.tup (bs.map .bl)) = true := rowD_bits (by rw [List.length_map]; omega)
            walk_at "d"
            refine w__law_near_row ⟨hbe, by omega⟩ fun d => ?_
            walk_at "d"
            refine w_is_row hnm ?_
            rw [hrow]
            walk_at "d"
            refine w_is_row hnm ?_
            walk_at "d"
            refine w__law_is_row (by rw [List.length_map]; unfold lim; omega) ?_
            walk_at "d"
            · rename_i x
              rw [beq_self_eq_true] at x
              cases x
            · exact ⟨_, _, _, _, _, _, rfl⟩
          exact ⟨_, _, _, _, _, _, rfl⟩
        clear t2 t3
        rintro δ' ⟨t2, t3, t5, t6, t7, t8, rfl⟩
        refine sn_seqM (fun δ' => ∃ t2 t3 t5 t6 t7 t8 d, d ∈ ([.non, .int 1, .bl true, .int (-2), .str "", .str "a", .tup [], .lst [], .lst [.str "a"], .tup [.str "a", .str "a"], .tup [.str "b", .str "a"]] : List D) ∧ δ' = [.no, .val .stm, t2, t3, .val (.int n), t5, t6, t7, t8, .val d, .no]) ?_ ?_
        · walk_at "d"
          exact ⟨_, _, _, _, _, _, _, by assumption, rfl⟩
        clear t2 t3 t5 t6 t7 t8
        rintro δ' ⟨t2, t3, t5, t6, t7, t8, d, hd, rfl⟩
        walk_at "d"
        · refine on_rI (C := CPow) (by unfold CPow; decide +kernel) ?_
          walk_at "d"
          · rfl
          · rename_i m h
            rw [decide_eq_false_iff_not] at h
            exact absurd (pick_all nameD m (by decide +kernel)) h
        · rename_i h
          rw [decide_eq_false_iff_not] at h
          exact absurd (pick_all (namesD 1) hd (by decide +kernel)) h
end Dv

namespace Dv
open PySem PySem.Spec PyProof.Rows L2
def top (i : Nat) : Stmt := PySem.Challenge.pw_fourclosed_k01_names_sources_houses_and.main.body.getD i (.Pass ⟨0, 0, 0, 0⟩)
structure Tx (K : PySem.W.Frag) (mg : Str → Option Value) : Prop where
  b_abs : mg "abs" = none
  b_all : mg "all" = none
  b_bool : mg "bool" = none
  b_int : mg "int" = none
  b_isinstance : mg "isinstance" = none
  b_len : mg "len" = none
  b_list : mg "list" = none
  b_range : mg "range" = none
  b_sorted : mg "sorted" = none
  b_str : mg "str" = none
  b_tuple : mg "tuple" = none
  g_HOUSES : Gk K mg "HOUSES" c_HOUSES
  g_MOST_ENTRIES : Gk K mg "MOST_ENTRIES" c_MOST_ENTRIES
  g_MOST_NAMES : Gk K mg "MOST_NAMES" c_MOST_NAMES
  g_MOST_SIGNS : Gk K mg "MOST_SIGNS" c_MOST_SIGNS
  g_MOST_SOURCE : Gk K mg "MOST_SOURCE" c_MOST_SOURCE
section
variable {P : Program} {w : World} {K : PySem.W.Frag} {mg : Str → Option Value} {base : Heap}
abbrev s_is_integer : Stmt := top 8
theorem sc_is_integer : FnScope N_is_integer ["value"] (defScope s_is_integer) := ⟨rfl, rfl, rfl, by decide +kernel, rfl, by decide +kernel, by decide +kernel⟩
theorem de_is_integer {cdv : Value} {A : Around} {outer : List Env} {s : Shared} {H : Hp} {E : XK} {f : Addr} (T : Tx K mg)  (hr : Room 0 (A.deeper (envOfC "is_integer" (defScope s_is_integer) s.heap.objs.size f cdv))) :
    PSs (cxOf CX0 P w K mg base N_is_integer "is_integer" (defScope s_is_integer) f cdv A outer s H E).nox (defBody s_is_integer) (t_is_integer K) :=
  (pss_one (ps_ret (pe_and (pe_callB call_isi (by rfl) T.b_isinstance (by decide +kernel) (pa_cons (pv 0) (pa_cons (pe_bltn (v := .ty "int") (by rfl) T.b_int (by decide +kernel) rfl) pa_nil))) (pe_one (pe_not (pe_callB call_isi (by rfl) T.b_isinstance (by decide +kernel) (pa_cons (pv 0) (pa_cons (pe_bltn (v := .ty "bool") (by rfl) T.b_bool (by decide +kernel) rfl) pa_nil))))))))
abbrev s_is_bit : Stmt := top 9
theorem sc_is_bit : FnScope N_is_bit ["value"] (defScope s_is_bit) := ⟨rfl, rfl, rfl, by decide +kernel, rfl, by decide +kernel, by decide +kernel⟩
theorem de_is_bit {cdv : Value} {A : Around} {outer : List Env} {s : Shared} {H : Hp} {E : XK} {f : Addr} (T : Tx K mg)  (hr : Room 0 (A.deeper (envOfC "is_bit" (defScope s_is_bit) s.heap.objs.size f cdv))) :
    PSs (cxOf CX0 P w K mg base N_is_bit "is_bit" (defScope s_is_bit) f cdv A outer s H E).nox (defBody s_is_bit) (t_is_bit K) :=
  (pss_one (ps_ret (pe_callB call_isi (by rfl) T.b_isinstance (by decide +kernel) (pa_cons (pv 0) (pa_cons (pe_bltn (v := .ty "bool") (by rfl) T.b_bool (by decide +kernel) rfl) pa_nil)))))
abbrev s_is_from_to : Stmt := top 10
theorem sc_is_from_to : FnScope N_is_from_to ["value", "least", "most"] (defScope s_is_from_to) := ⟨rfl, rfl, rfl, by decide +kernel, rfl, by decide +kernel, by decide +kernel⟩
theorem de_is_from_to {cdv : Value} {A : Around} {outer : List Env} {s : Shared} {H : Hp} {E : XK} {f : Addr} (T : Tx K mg) (k_is_integer : Kn P w K mg base "is_integer" 1 dv_is_integer (spN K W_is_integer)) (hr : Room 1 (A.deeper (envOfC "is_from_to" (defScope s_is_from_to) s.heap.objs.size f cdv))) :
    PSs (cxOf CX0 P w K mg base N_is_from_to "is_from_to" (defScope s_is_from_to) f cdv A outer s H E).nox (defBody s_is_from_to) (t_is_from_to K) :=
  (pss_one (ps_ret (pe_and (pe_kn k_is_integer hr (pa_cons (pv 0) pa_nil)) (pe_one (pe_chain u_le u_le (pv 1) (pv 0) (pv 2))))))
abbrev s_is_tuple_of : Stmt := top 11
theorem sc_is_tuple_of : FnScope N_is_tuple_of ["value", "least", "most"] (defScope s_is_tuple_of) := ⟨rfl, rfl, rfl, by decide +kernel, rfl, by decide +kernel, by decide +kernel⟩
theorem de_is_tuple_of {cdv : Value} {A : Around} {outer : List Env} {s : Shared} {H : Hp} {E : XK} {f : Addr} (T : Tx K mg)  (hr : Room 0 (A.deeper (envOfC "is_tuple_of" (defScope s_is_tuple_of) s.heap.objs.size f cdv))) :
    PSs (cxOf CX0 P w K mg base N_is_tuple_of "is_tuple_of" (defScope s_is_tuple_of) f cdv A outer s H E).nox (defBody s_is_tuple_of) (t_is_tuple_of K) :=
  (pss_one (ps_ret (pe_and (pe_callB call_isi (by rfl) T.b_isinstance (by decide +kernel) (pa_cons (pv 0) (pa_cons (pe_bltn (v := .ty "tuple") (by rfl) T.b_tuple (by decide +kernel) rfl) pa_nil))) (pe_one (pe_chain u_le u_le (pv 1) (pe_callB cl_len (by rfl) T.b_len (by decide +kernel) (pa_cons (pv 0) pa_nil)) (pv 2))))))
abbrev s_is_ascending : Stmt := top 12
theorem sc_is_ascending : FnScope N_is_ascending ["rows"] (defScope s_is_ascending) := ⟨rfl, rfl, rfl, by decide +kernel, rfl, by decide +kernel, by decide +kernel⟩
theorem de_is_ascending {cdv : Value} {A : Around} {outer : List Env} {s : Shared} {H : Hp} {E : XK} {f : Addr} (T : Tx K mg)  (hr : Room 0 (A.deeper (envOfC "is_ascending" (defScope s_is_ascending) s.heap.objs.size f cdv))) :
    PSs (cxOf CX0 P w K mg base N_is_ascending "is_ascending" (defScope s_is_ascending) f cdv A outer s H E).nox (defBody s_is_ascending) (t_is_ascending K) :=
  (pss_one (ps_ret (pe_callB (cr_all rfl) (by rfl) T.b_all (by decide +kernel) (pa_cons (pe_lc (own := [("at", 1)]) (g := (gName 1)) (tt := tYes) (te := (tOp uLt (tOp (rIx K) (tVar 0) (tVar 1)) (tOp (rIx K) (tVar 0) (tOp (uAdd K) (tVar 1) (tC (.int 1)))))) rfl sc_is_ascending.nd (pi_range1 rfl T.b_range (pa_cons (pe_op op_sub (pe_callB cl_len (by rfl) T.b_len (by decide +kernel) (pa_cons (pv 0) pa_nil)) pe_int) pa_nil)) (blkOk_by (N := N_is_ascending) (sc := defScope s_is_ascending) (by decide +kernel)) (fun _ _ _ _ _ => (pg_name (i := 1) sc_is_ascending.nd rfl (by first | exact Or.inl rfl | exact Or.inr rfl))) (fun _ _ _ _ _ => pts_nil) (fun _ _ _ _ _ => (pe_cmpR u_lt (pe_ix ix_seq (pv 0) (pv 1) (fun _ _ => rfl)) (pe_ix ix_seq (pv 0) (pe_op u_add (pv 1) pe_int) (fun _ _ => rfl)) (nomark _)))) pa_nil))))
abbrev s_without_doubles : Stmt := top 13
theorem sc_without_doubles : FnScope N_without_doubles ["rows"] (defScope s_without_doubles) := ⟨rfl, rfl, rfl, by decide +kernel, rfl, by decide +kernel, by decide +kernel⟩
theorem de_without_doubles {cdv : Value} {A : Around} {outer : List Env} {s : Shared} {H : Hp} {E : XK} {f : Addr} (T : Tx K mg)  (hr : Room 0 (A.deeper (envOfC "without_doubles" (defScope s_without_doubles) s.heap.objs.size f cdv))) :
    PSs (cxOf CX0 P w K mg base N_without_doubles "without_doubles" (defScope s_without_doubles) f cdv A outer s H E).nox (defBody s_without_doubles) (t_without_doubles K) :=
  (pss_cons (ps_set (i := 1) sc_without_doubles.nd rfl (by first | exact Or.inl rfl | exact Or.inr rfl) pe_dnewK) (pss_cons (ps_for PassesOwn.never rfl (pi_any (pv 0)) (pg_name (i := 2) sc_without_doubles.nd rfl (by first | exact Or.inl rfl | exact Or.inr rfl)) (pss_one (ps_asg pe_bl (pg_sub (pv 1) (pv 2) set_list)))) (pss_one (ps_ret (pe_callTy (cl_list rfl) (by rfl) T.b_list (by decide +kernel) (pa_cons (pv 1) pa_nil))))))
abbrev s_is_name : Stmt := top 15
theorem sc_is_name : FnScope N_is_name ["value"] (defScope s_is_name) := ⟨rfl, rfl, rfl, by decide +kernel, rfl, by decide +kernel, by decide +kernel⟩
theorem de_is_name {cdv : Value} {A : Around} {outer : List Env} {s : Shared} {H : Hp} {E : XK} {f : Addr} (T : Tx K mg)  (hr : Room 0 (A.deeper (envOfC "is_name" (defScope s_is_name) s.heap.objs.size f cdv))) :
    PSs (cxOf CX0 P w K mg base N_is_name "is_name" (defScope s_is_name) f cdv A outer s H E).nox (defBody s_is_name) (t_is_name K) :=
  (pss_cons (ps_if (PW.pt (pw_or (pt_not (pt_val (pe_callB call_isi (by rfl) T.b_isinstance (by decide +kernel) (pa_cons (pv 0) (pa_cons (pe_bltn (v := .ty "str") (by rfl) T.b_str (by decide +kernel) rfl) pa_nil))))) (pw_or1 (pt_not (pt_chain u_le u_le pe_int (pe_callB cl_len (by rfl) T.b_len (by decide +kernel) (pa_cons (pv 0) pa_nil)) (pe_gk T.g_MOST_SIGNS)))))) (pss_one (ps_ret pe_bl)) pss_nil) (pss_one (ps_ret (pe_and (pe_chain u_le u_le pe_str (pe_ix ix_seq (pv 0) pe_int (fun _ _ => rfl)) pe_str) (pe_one (pe_callB (cr_all rfl) (by rfl) T.b_all (by decide +kernel) (pa_cons (pe_lc (own := [("sign", 1)]) (g := (gName 1)) (tt := tYes) (te := (tOrV (tChain uLe uLe (tC (.str "a")) (tVar 1) (tC (.str "z"))) (tChain uLe uLe (tC (.str "0")) (tVar 1) (tC (.str "9"))))) rfl sc_is_name.nd (pi_any (pv 0)) (blkOk_by (N := N_is_name) (sc := defScope s_is_name) (by decide +kernel)) (fun _ _ _ _ _ => (pg_name (i := 1) sc_is_name.nd rfl (by first | exact Or.inl rfl | exact Or.inr rfl))) (fun _ _ _ _ _ => pts_nil) (fun _ _ _ _ _ => (pe_or (pe_chain u_le u_le pe_str (pv 1) pe_str) (pe_one (pe_chain u_le u_le pe_str (pv 1) pe_str))))) pa_nil)))))))
abbrev s_is_source : Stmt := top 16
theorem sc_is_source : FnScope N_is_source ["value"] (defScope s_is_source) := ⟨rfl, rfl, rfl, by decide +kernel, rfl, by decide +kernel, by decide +kernel⟩
theorem de_is_source {cdv : Value} {A : Around} {outer : List Env} {s : Shared} {H : Hp} {E : XK} {f : Addr} (T : Tx K mg) (k_is_from_to : Kn P w K mg base "is_from_to" 2 dv_is_from_to (spN K W_is_from_to)) (hr : Room 2 (A.deeper (envOfC "is_source" (defScope s_is_source) s.heap.objs.size f cdv))) :
    PSs (cxOf CX0 P w K mg base N_is_source "is_source" (defScope s_is_source) f cdv A outer s H E).nox (defBody s_is_source) (t_is_source K) :=
  (pss_one (ps_ret (pe_kn k_is_from_to hr (pa_cons (pv 0) (pa_cons pe_int (pa_cons (pe_gk T.g_MOST_SOURCE) pa_nil))))))
abbrev s_is_house : Stmt := top 17
theorem sc_is_house : FnScope N_is_house ["value"] (defScope s_is_house) := ⟨rfl, rfl, rfl, by decide +kernel, rfl, by decide +kernel, by decide +kernel⟩
theorem de_is_house {cdv : Value} {A : Around} {outer : List Env} {s : Shared} {H : Hp} {E : XK} {f : Addr} (T : Tx K mg)  (hr : Room 0 (A.deeper (envOfC "is_house" (defScope s_is_house) s.heap.objs.size f cdv))) :
    PSs (cxOf CX0 P w K mg base N_is_house "is_house" (defScope s_is_house) f cdv A outer s H E).nox (defBody s_is_house) (t_is_house K) :=
  (pss_one (ps_ret (pe_and (pe_callB call_isi (by rfl) T.b_isinstance (by decide +kernel) (pa_cons (pv 0) (pa_cons (pe_bltn (v := .ty "str") (by rfl) T.b_str (by decide +kernel) rfl) pa_nil))) (pe_one (pe_cmpR u_in (pv 0) (pe_gk T.g_HOUSES) (by rfl))))))
abbrev s_is_name_row : Stmt := top 18
theorem sc_is_name_row : FnScope N_is_name_row ["value", "least"] (defScope s_is_name_row) := ⟨rfl, rfl, rfl, by decide +kernel, rfl, by decide +kernel, by decide +kernel⟩
theorem de_is_name_row {cdv : Value} {A : Around} {outer : List Env} {s : Shared} {H : Hp} {E : XK} {f : Addr} (T : Tx K mg) (k_is_tuple_of : Kn P w K mg base "is_tuple_of" 1 dv_is_tuple_of (spN K W_is_tuple_of)) (k_is_ascending : Kn P w K mg base "is_ascending" 1 dv_is_ascending (spN K W_is_ascending)) (k_is_name : Kn P w K mg base "is_name" 1 dv_is_name (spN K W_is_name)) (hr : Room 1 (A.deeper (envOfC "is_name_row" (defScope s_is_name_row) s.heap.objs.size f cdv))) :
    PSs (cxOf CX0 P w K mg base N_is_name_row "is_name_row" (defScope s_is_name_row) f cdv A outer s H E).nox (defBody s_is_name_row) (t_is_name_row K) :=
  (pss_one (ps_ret (pe_and (pe_kn k_is_tuple_of hr (pa_cons (pv 0) (pa_cons (pv 1) (pa_cons (pe_gk T.g_MOST_NAMES) pa_nil)))) (pe_and (pe_callB (cr_all rfl) (by rfl) T.b_all (by decide +kernel) (pa_cons (pe_lc (own := [("one", 2)]) (g := (gName 2)) (tt := tYes) (te := (tCall (spN K W_is_name) dv_is_name E0 (tCons (tVar 2) tNil))) rfl sc_is_name_row.nd (pi_any (pv 0)) (blkOk_by (N := N_is_name_row) (sc := defScope s_is_name_row) (by decide +kernel)) (fun _ _ _ _ _ => (pg_name (i := 2) sc_is_name_row.nd rfl (by first | exact Or.inl rfl | exact Or.inr rfl))) (fun _ _ _ _ _ => pts_nil) (fun _ _ _ _ _ => (pe_kn k_is_name hr (pa_cons (pv 2) pa_nil)))) pa_nil)) (pe_one (pe_kn k_is_ascending hr (pa_cons (pv 0) pa_nil)))))))
abbrev s_is_names : Stmt := top 19
theorem sc_is_names : FnScope N_is_names ["value"] (defScope s_is_names) := ⟨rfl, rfl, rfl, by decide +kernel, rfl, by decide +kernel, by decide +kernel⟩
theorem de_is_names {cdv : Value} {A : Around} {outer : List Env} {s : Shared} {H : Hp} {E : XK} {f : Addr} (T : Tx K mg) (k_is_name_row : Kn P w K mg base "is_name_row" 2 dv_is_name_row (spN K W_is_name_row)) (hr : Room 2 (A.deeper (envOfC "is_names" (defScope s_is_names) s.heap.objs.size f cdv))) :
    PSs (cxOf CX0 P w K mg base N_is_names "is_names" (defScope s_is_names) f cdv A outer s H E).nox (defBody s_is_names) (t_is_names K) :=
  (pss_one (ps_ret (pe_kn k_is_name_row hr (pa_cons (pv 0) (pa_cons pe_int pa_nil)))))
abbrev s_is_row_over : Stmt := top 21
theorem sc_is_row_over : FnScope N_is_row_over ["names", "value"] (defScope s_is_row_over) := ⟨rfl, rfl, rfl, by decide +kernel, rfl, by decide +kernel, by decide +kernel⟩
theorem de_is_row_over {cdv : Value} {A : Around} {outer : List Env} {s : Shared} {H : Hp} {E : XK} {f : Addr} (T : Tx K mg) (k_is_bit : Kn P w K mg base "is_bit" 1 dv_is_bit (spN K W_is_bit)) (k_is_tuple_of : Kn P w K mg base "is_tuple_of" 1 dv_is_tuple_of (spN K W_is_tuple_of)) (hr : Room 1 (A.deeper (envOfC "is_row_over" (defScope s_is_row_over) s.heap.objs.size f cdv))) :
    PSs (cxOf CX0 P w K mg base N_is_row_over "is_row_over" (defScope s_is_row_over) f cdv A outer s H E).nox (defBody s_is_row_over) (t_is_row_over K) :=
  (pss_one (ps_ret (pe_and (pe_kn k_is_tuple_of hr (pa_cons (pv 1) (pa_cons (pe_callB cl_len (by rfl) T.b_len (by decide +kernel) (pa_cons (pv 0) pa_nil)) (pa_cons (pe_callB cl_len (by rfl) T.b_len (by decide +kernel) (pa_cons (pv 0) pa_nil)) pa_nil)))) (pe_one (pe_callB (cr_all rfl) (by rfl) T.b_all (by decide +kernel) (pa_cons (pe_lc (own := [("one", 2)]) (g := (gName 2)) (tt := tYes) (te := (tCall (spN K W_is_bit) dv_is_bit E0 (tCons (tVar 2) tNil))) rfl sc_is_row_over.nd (pi_any (pv 1)) (blkOk_by (N := N_is_row_over) (sc := defScope s_is_row_over) (by decide +kernel)) (fun _ _ _ _ _ => (pg_name (i := 2) sc_is_row_over.nd rfl (by first | exact Or.inl rfl | exact Or.inr rfl))) (fun _ _ _ _ _ => pts_nil) (fun _ _ _ _ _ => (pe_kn k_is_bit hr (pa_cons (pv 2) pa_nil)))) pa_nil))))))
abbrev s_check_names : Stmt := top 22
theorem sc_check_names : FnScope N_check_names ["names", "name"] (defScope s_check_names) := ⟨rfl, rfl, rfl, by decide +kernel, rfl, by decide +kernel, by decide +kernel⟩
theorem de_check_names {cdv : Value} {A : Around} {outer : List Env} {s : Shared} {H : Hp} {E : XK} {f : Addr} (T : Tx K mg) (k_is_names : Kn P w K mg base "is_names" 3 dv_is_names (spN K W_is_names)) (hr : Room 3 (A.deeper (envOfC "check_names" (defScope s_check_names) s.heap.objs.size f cdv))) :
    PSs (cxOf CX0 P w K mg base N_check_names "check_names" (defScope s_check_names) f cdv A outer s H E).nox (defBody s_check_names) (t_check_names K) :=
  (pss_one (ps_if (pt_not (pt_val (pe_kn k_is_names hr (pa_cons (pv 0) pa_nil)))) (pss_one ps_never) pss_nil))
abbrev s_is_row : Stmt := top 23
theorem sc_is_row : FnScope N_is_row ["names", "value"] (defScope s_is_row) := ⟨rfl, rfl, rfl, by decide +kernel, rfl, by decide +kernel, by decide +kernel⟩
theorem de_is_row {cdv : Value} {A : Around} {outer : List Env} {s : Shared} {H : Hp} {E : XK} {f : Addr} (T : Tx K mg) (k_is_row_over : Kn P w K mg base "is_row_over" 2 dv_is_row_over (spN K W_is_row_over)) (k_check_names : Kn P w K mg base "check_names" 4 dv_check_names (spN K W_check_names)) (hr : Room 4 (A.deeper (envOfC "is_row" (defScope s_is_row) s.heap.objs.size f cdv))) :
    PSs (cxOf CX0 P w K mg base N_is_row "is_row" (defScope s_is_row) f cdv A outer s H E).nox (defBody s_is_row) (t_is_row K) :=
  (pss_cons (ps_expr (pe_kn k_check_names hr (pa_cons (pv 0) pa_nil))) (pss_one (ps_ret (pe_kn k_is_row_over hr (pa_cons (pv 0) (pa_cons (pv 1) pa_nil))))))
abbrev s_is_book : Stmt := top 34
theorem sc_is_book : FnScope N_is_book ["value"] (defScope s_is_book) := ⟨rfl, rfl, rfl, by decide +kernel, rfl, by decide +kernel, by decide +kernel⟩
theorem de_is_book {cdv : Value} {A : Around} {outer : List Env} {s : Shared} {H : Hp} {E : XK} {f : Addr} (T : Tx K mg) (k_is_tuple_of : Kn P w K mg base "is_tuple_of" 1 dv_is_tuple_of (spN K W_is_tuple_of)) (k_without_doubles : Kn P w K mg base "without_doubles" 1 dv_without_doubles (spN K W_without_doubles)) (k_is_house : Kn P w K mg base "is_house" 1 dv_is_house (spN K W_is_house)) (k_is_names : Kn P w K mg base "is_names" 3 dv_is_names (spN K W_is_names)) (k_is_entry : Kn P w K mg base "is_entry" 6 dv_is_entry (spN K W_is_entry)) (hr : Room 6 (A.deeper (envOfC "is_book" (defScope s_is_book) s.heap.objs.size f cdv))) :
    PSs (cxOf CX0 P w K mg base N_is_book "is_book" (defScope s_is_book) f cdv A outer s H E).nox (defBody s_is_book) (t_is_book K) :=
  (pss_cons (ps_if (PW.pt (pw_or (pt_not (pt_val (pe_kn k_is_tuple_of hr (pa_cons (pv 0) (pa_cons pe_int (pa_cons pe_int pa_nil)))))) (pw_or (pt_not (pt_val (pe_kn k_is_house hr (pa_cons (pe_ix ix_seq (pv 0) pe_int (fun _ _ => rfl)) pa_nil)))) (pw_or1 (pt_not (pt_val (pe_kn k_is_names hr (pa_cons (pe_ix ix_seq (pv 0) pe_int (fun _ _ => rfl)) pa_nil)))))))) (pss_one (ps_ret pe_bl)) pss_nil) (pss_cons (ps_asg (pv 0) (pg_tup rfl (pgs_cons (pg_name (i := 1) sc_is_book.nd rfl (by first | exact Or.inl rfl | exact Or.inr rfl)) (pgs_cons (pg_name (i := 2) sc_is_book.nd rfl (by first | exact Or.inl rfl | exact Or.inr rfl)) (pgs_cons (pg_name (i := 3) sc_is_book.nd rfl (by first | exact Or.inl rfl | exact Or.inr rfl)) pgs_nil))))) (pss_cons (ps_if (PW.pt (pw_or (pt_not (pt_val (pe_kn k_is_tuple_of hr (pa_cons (pv 3) (pa_cons pe_int (pa_cons (pe_gk T.g_MOST_ENTRIES) pa_nil)))))) (pw_or1 (pt_not (pt_val (pe_callB (cr_all rfl) (by rfl) T.b_all (by decide +kernel) (pa_cons (pe_lc (own := [("entry", 4)]) (g := (gName 4)) (tt := tYes) (te := (tCall (spN K W_is_entry) dv_is_entry E0 (tCons (tVar 1) (tCons (tVar 2) (tCons (tVar 4) tNil))))) rfl sc_is_book.nd (pi_any (pv 3)) (blkOk_by (N := N_is_book) (sc := defScope s_is_book) (by decide +kernel)) (fun _ _ _ _ _ => (pg_name (i := 4) sc_is_book.nd rfl (by first | exact Or.inl rfl | exact Or.inr rfl))) (fun _ _ _ _ _ => pts_nil) (fun _ _ _ _ _ => (pe_kn k_is_entry hr (pa_cons (pv 1) (pa_cons (pv 2) (pa_cons (pv 4) pa_nil)))))) pa_nil))))))) (pss_one (ps_ret pe_bl)) pss_nil) (pss_one (ps_ret (pe_cmpR op_eq (pe_callB cl_len (by rfl) T.b_len (by decide +kernel) (pa_cons (pe_kn k_without_doubles hr (pa_cons (pv 3) pa_nil)) pa_nil)) (pe_callB cl_len (by rfl) T.b_len (by decide +kernel) (pa_cons (pv 3) pa_nil)) (nomark _)))))))
abbrev s__law_stream : Stmt := top 36
theorem sc__law_stream : FnScope N__law_stream ["script"] (defScope s__law_stream) := ⟨rfl, rfl, rfl, by decide +kernel, rfl, by decide +kernel, by decide +kernel⟩
theorem de__law_stream {cdv : Value} {A : Around} {outer : List Env} {s : Shared} {H : Hp} {E : XK} {f : Addr} (T : Tx K mg)  (hr : Room 0 (A.deeper (envOfC "_law_stream" (defScope s__law_stream) s.heap.objs.size f cdv))) :
    PSs (cxOf CX0 P w K mg base N__law_stream "_law_stream" (defScope s__law_stream) f cdv A outer s H E).nox (defBody s__law_stream) (t__law_stream K) :=
  (pss_one (ps_ret (pe_lst (pa_cons (pe_callTy (cl_list rfl) (by rfl) T.b_list (by decide +kernel) (pa_cons (pv 0) pa_nil)) (pa_cons pe_int (pa_cons pe_int pa_nil))))))
abbrev s__law_next : Stmt := top 37
theorem sc__law_next : FnScope N__law_next ["stream", "many"] (defScope s__law_next) := ⟨rfl, rfl, rfl, by decide +kernel, rfl, by decide +kernel, by decide +kernel⟩
theorem de__law_next {cdv : Value} {A : Around} {outer : List Env} {s : Shared} {H : Hp} {E : XK} {f : Addr} (T : Tx K mg)  (hr : Room 0 (A.deeper (envOfC "_law_next" (defScope s__law_next) s.heap.objs.size f cdv))) :
    PSs (cxOf CX0 P w K mg base N__law_next "_law_next" (defScope s__law_next) f cdv A outer s H E).nox (defBody s__law_next) (t__law_next K) :=
  (pss_cons (ps_if (pt_cmpR op_eq (pe_ix ix_seq (pv 0) pe_int (fun _ _ => rfl)) pe_int (nomark _)) (pss_cons (ps_set (i := 2) sc__law_next.nd rfl (by first | exact Or.inl rfl | exact Or.inr rfl) (pe_ix ix_seq (pv 0) pe_int (fun _ _ => rfl))) (pss_cons (ps_set (i := 3) sc__law_next.nd rfl (by first | exact Or.inl rfl | exact Or.inr rfl) (pe_op u_add pe_int (pv 2))) (pss_cons (ps_if (pt_cmpR u_lt (pv 2) (pe_callB cl_len (by rfl) T.b_len (by decide +kernel) (pa_cons (pe_ix ix_seq (pv 0) pe_int (fun _ _ => rfl)) pa_nil)) (nomark _)) (pss_one (ps_set (i := 3) sc__law_next.nd rfl (by first | exact Or.inl rfl | exact Or.inr rfl) (pe_callB cl_abs (by rfl) T.b_abs (by decide +kernel) (pa_cons (pe_ix ix_seq (pe_ix ix_seq (pv 0) pe_int (fun _ _ => rfl)) (pv 2) (fun _ _ => rfl)) pa_nil)))) pss_nil) (pss_cons (ps_if (pt_cmpR u_lt (pv 3) (pe_op op_pow pe_int pe_int) (nomark _)) (pss_cons (ps_set (i := 3) sc__law_next.nd rfl (by first | exact Or.inl rfl | exact Or.inr rfl) (pe_op op_mod (pe_callTy cl_int (by rfl) T.b_int (by decide +kernel) (pa_cons (pe_op u_add (pe_op u_add (pe_op op_mul (pv 3) pe_int) (pe_op op_mul (pv 2) pe_int)) pe_int) pa_nil)) pe_int)) (pss_one (ps_set (i := 3) sc__law_next.nd rfl (by first | exact Or.inl rfl | exact Or.inr rfl) (pe_op u_add (pe_op op_mul (pe_op op_mod (pe_callTy cl_int (by rfl) T.b_int (by decide +kernel) (pa_cons (pe_op u_add (pe_op op_mul (pv 3) pe_int) pe_int) pa_nil)) pe_int) pe_int) (pv 3))))) pss_nil) (pss_cons (ps_asg (pv 3) (pg_sub (pv 0) pe_int set_list)) (pss_one (ps_asg (pe_op u_add (pv 2) pe_int) (pg_sub (pv 0) pe_int set_list)))))))) pss_nil) (pss_cons (ps_set (i := 4) sc__law_next.nd rfl (by first | exact Or.inl rfl | exact Or.inr rfl) (pe_op op_mod (pe_callTy cl_int (by rfl) T.b_int (by decide +kernel) (pa_cons (pe_ix ix_seq (pv 0) pe_int (fun _ _ => rfl)) pa_nil)) (pv 1))) (pss_cons (ps_asg (pe_op op_fdiv (pe_ix ix_seq (pv 0) pe_int (fun _ _ => rfl)) (pv 1)) (pg_sub (pv 0) pe_int set_list)) (pss_one (ps_ret (pv 4))))))
abbrev s__law_pick : Stmt := top 38
theorem sc__law_pick : FnScope N__law_pick ["stream", "rows"] (defScope s__law_pick) := ⟨rfl, rfl, rfl, by decide +kernel, rfl, by decide +kernel, by decide +kernel⟩
theorem de__law_pick {cdv : Value} {A : Around} {outer : List Env} {s : Shared} {H : Hp} {E : XK} {f : Addr} (T : Tx K mg) (k__law_next : Kn P w K mg base "_law_next" 1 dv__law_next (spN K W__law_next)) (hr : Room 1 (A.deeper (envOfC "_law_pick" (defScope s__law_pick) s.heap.objs.size f cdv))) :
    PSs (cxOf CX0 P w K mg base N__law_pick "_law_pick" (defScope s__law_pick) f cdv A outer s H E).nox (defBody s__law_pick) (t__law_pick K) :=
  (pss_one (ps_ret (pe_ix ix_seq (pv 1) (pe_kn k__law_next hr (pa_cons (pv 0) (pa_cons (pe_callB cl_len (by rfl) T.b_len (by decide +kernel) (pa_cons (pv 1) pa_nil)) pa_nil))) (fun _ _ => rfl))))
abbrev s__law_says : Stmt := top 39
theorem sc__law_says : FnScope N__law_says ["actual", "due"] (defScope s__law_says) := ⟨rfl, rfl, rfl, by decide +kernel, rfl, by decide +kernel, by decide +kernel⟩
theorem de__law_says {cdv : Value} {A : Around} {outer : List Env} {s : Shared} {H : Hp} {E : XK} {f : Addr} (T : Tx K mg)  (hr : Room 0 (A.deeper (envOfC "_law_says" (defScope s__law_says) s.heap.objs.size f cdv))) :
    PSs (cxOf CX0 P w K mg base N__law_says "_law_says" (defScope s__law_says) f cdv A outer s H E).nox (defBody s__law_says) (t__law_says K) :=
  (pss_one (ps_ret (pe_ifExp (pt_val (pv 1)) (pe_cmpR u_is (pv 0) pe_bl (nomark _)) (pe_cmpR u_is (pv 0) pe_bl (nomark _)))))
abbrev s__law_name : Stmt := top 40
theorem sc__law_name : FnScope N__law_name ["stream"] (defScope s__law_name) := ⟨rfl, rfl, rfl, by decide +kernel, rfl, by decide +kernel, by decide +kernel⟩
theorem de__law_name {cdv : Value} {A : Around} {outer : List Env} {s : Shared} {H : Hp} {E : XK} {f : Addr} (T : Tx K mg) (k__law_next : Kn P w K mg base "_law_next" 1 dv__law_next (spN K W__law_next)) (k__law_pick : Kn P w K mg base "_law_pick" 2 dv__law_pick (spN K W__law_pick)) (hr : Room 2 (A.deeper (envOfC "_law_name" (defScope s__law_name) s.heap.objs.size f cdv))) :
    PSs (cxOf CX0 P w K mg base N__law_name "_law_name" (defScope s__law_name) f cdv A outer s H E).nox (defBody s__law_name) (t__law_name K) :=
  (pss_cons (ps_if (pt_cmpR op_eq (pe_kn k__law_next hr (pa_cons (pv 0) (pa_cons pe_int pa_nil))) pe_int (nomark _)) (pss_cons (ps_set (i := 1) sc__law_name.nd rfl (by first | exact Or.inl rfl | exact Or.inr rfl) pe_str) (pss_one (ps_ret (pe_kn k__law_pick hr (pa_cons (pv 0) (pa_cons (pe_split (pv 1) pe_str) pa_nil)))))) pss_nil) (pss_cons (ps_set (i := 2) sc__law_name.nd rfl (by first | exact Or.inl rfl | exact Or.inr rfl) (pe_ix ix_seq pe_str (pe_kn k__law_next hr (pa_cons (pv 0) (pa_cons pe_int pa_nil))) (fun _ _ => rfl))) (pss_cons (ps_for PassesOwn.never rfl (pi_range1 rfl T.b_range (pa_cons (pe_kn k__law_pick hr (pa_cons (pv 0) (pa_cons (pe_lst (pa_cons pe_int (pa_cons pe_int (pa_cons pe_int (pa_cons pe_int (pa_cons pe_int pa_nil)))))) pa_nil))) pa_nil)) (pg_name (i := 3) sc__law_name.nd rfl (by first | exact Or.inl rfl | exact Or.inr rfl)) (pss_one (ps_set (i := 2) sc__law_name.nd rfl (by first | exact Or.inl rfl | exact Or.inr rfl) (pe_op u_add (pv 2) (pe_ix ix_seq pe_str (pe_kn k__law_next hr (pa_cons (pv 0) (pa_cons pe_int pa_nil))) (fun _ _ => rfl)))))) (pss_one (ps_ret (pv 2))))))
abbrev s__law_names : Stmt := top 41
theorem sc__law_names : FnScope N__law_names ["stream", "many"] (defScope s__law_names) := ⟨rfl, rfl, rfl, by decide +kernel, rfl, by decide +kernel, by decide +kernel⟩
theorem de__law_names {cdv : Value} {A : Around} {outer : List Env} {s : Shared} {H : Hp} {E : XK} {f : Addr} (T : Tx K mg) (k__law_next : Kn P w K mg base "_law_next" 1 dv__law_next (spN K W__law_next)) (k__law_name : Kn P w K mg base "_law_name" 3 dv__law_name (spN K W__law_name)) (hr : Room 3 (A.deeper (envOfC "_law_names" (defScope s__law_names) s.heap.objs.size f cdv))) :
    PSs (cxOf CX0 P w K mg base N__law_names "_law_names" (defScope s__law_names) f cdv A outer s H E).nox (defBody s__law_names) (t__law_names K) :=
  (pss_cons (ps_set (i := 2) sc__law_names.nd rfl (by first | exact Or.inl rfl | exact Or.inr rfl) (pe_lst pa_nil)) (pss_cons (ps_set (i := 3) sc__law_names.nd rfl (by first | exact Or.inl rfl | exact Or.inr rfl) (pe_slice u_sl (pe_kn k__law_name hr (pa_cons (pv 0) pa_nil)) po_none (po_some pe_int))) (pss_cons (ps_set (i := 4) sc__law_names.nd rfl (by first | exact Or.inl rfl | exact Or.inr rfl) (pe_kn k__law_next hr (pa_cons (pv 0) (pa_cons (pe_op u_add (pe_callB cl_len (by rfl) T.b_len (by decide +kernel) (pa_cons (pv 3) pa_nil)) pe_int) pa_nil)))) (pss_cons (ps_set (i := 5) sc__law_names.nd rfl (by first | exact Or.inl rfl | exact Or.inr rfl) (pe_kn k__law_next hr (pa_cons (pv 0) (pa_cons pe_int pa_nil)))) (pss_cons (ps_set (i := 6) sc__law_names.nd rfl (by first | exact Or.inl rfl | exact Or.inr rfl) (pe_kn k__law_next hr (pa_cons (pv 0) (pa_cons pe_int pa_nil)))) (pss_cons (ps_for PassesOwn.never rfl (pi_range1 rfl T.b_range (pa_cons pe_int pa_nil)) (pg_name (i := 7) sc__law_names.nd rfl (by first | exact Or.inl rfl | exact Or.inr rfl)) (pss_cons (ps_if (pt_cmpR op_eq (pe_callB cl_len (by rfl) T.b_len (by decide +kernel) (pa_cons (pv 2) pa_nil)) (pv 1) (nomark _)) (pss_one ps_break) pss_nil) (pss_cons (ps_set (i := 8) sc__law_names.nd rfl (by first | exact Or.inl rfl | exact Or.inr rfl) (pe_ifExp (PW.pt (pw_and (pt_cmpR op_eq (pv 6) pe_int (nomark _)) (pw_and1 (pt_cmpR u_lt (pv 7) (pe_op op_mul pe_int (pv 1)) (nomark _))))) (pe_kn k__law_name hr (pa_cons (pv 0) pa_nil)) pe_str)) (pss_cons (ps_if (PW.pt (pw_or (pt_cmpR op_eq (pv 6) pe_int (nomark _)) (pw_or1 (pt_cmpR u_ge (pv 7) (pe_op op_mul pe_int (pv 1)) (nomark _))))) (pss_cons (ps_set (i := 9) sc__law_names.nd rfl (by first | exact Or.inl rfl | exact Or.inr rfl) (pe_op op_mod (pe_callTy cl_int (by rfl) T.b_int (by decide +kernel) (pa_cons (pe_op u_add (pv 5) (pe_op op_mul (pv 7) pe_int)) pa_nil)) pe_int)) (pss_one (ps_set (i := 8) sc__law_names.nd rfl (by first | exact Or.inl rfl | exact Or.inr rfl) (pe_op u_add (pe_op u_add (pe_op u_add (pe_slice u_sl (pv 3) po_none (po_some (pv 4))) (pe_ix ix_seq pe_str (pe_op op_fdiv (pv 9) pe_int) (fun _ _ => rfl))) (pe_ix ix_seq pe_str (pe_op op_mod (pe_callTy cl_int (by rfl) T.b_int (by decide +kernel) (pa_cons (pv 9) pa_nil)) pe_int) (fun _ _ => rfl))) (pe_slice u_sl (pv 3) (po_some (pv 4)) po_none))))) pss_nil) (pss_one (ps_if (pt_cmpR u_notIn (pv 8) (pv 2) (by rfl)) (pss_one (ps_expr (pe_bm PySem.F.plainAttrs_list PySem.F.slot_list_append PySem.F.type_list_append mt_append (pv 2) (pa_cons (pv 8) pa_nil)))) pss_nil)))))) (pss_one (ps_ret (pe_callTy cl_tuple (by rfl) T.b_tuple (by decide +kernel) (pa_cons (pe_callB cl_sorted (by rfl) T.b_sorted (by decide +kernel) (pa_cons (pv 2) pa_nil)) pa_nil))))))))))
abbrev s__law_bit : Stmt := top 42
theorem sc__law_bit : FnScope N__law_bit ["stream"] (defScope s__law_bit) := ⟨rfl, rfl, rfl, by decide +kernel, rfl, by decide +kernel, by decide +kernel⟩
theorem de__law_bit {cdv : Value} {A : Around} {outer : List Env} {s : Shared} {H : Hp} {E : XK} {f : Addr} (T : Tx K mg) (k__law_next : Kn P w K mg base "_law_next" 1 dv__law_next (spN K W__law_next)) (hr : Room 1 (A.deeper (envOfC "_law_bit" (defScope s__law_bit) s.heap.objs.size f cdv))) :
    PSs (cxOf CX0 P w K mg base N__law_bit "_law_bit" (defScope s__law_bit) f cdv A outer s H E).nox (defBody s__law_bit) (t__law_bit K) :=
  (pss_one (ps_ret (pe_cmpR op_eq (pe_kn k__law_next hr (pa_cons (pv 0) (pa_cons pe_int pa_nil))) pe_int (nomark _))))
abbrev s__law_row : Stmt := top 43
theorem sc__law_row : FnScope N__law_row ["stream", "many"] (defScope s__law_row) := ⟨rfl, rfl, rfl, by decide +kernel, rfl, by decide +kernel, by decide +kernel⟩
theorem de__law_row {cdv : Value} {A : Around} {outer : List Env} {s : Shared} {H : Hp} {E : XK} {f : Addr} (T : Tx K mg) (k__law_next : Kn P w K mg base "_law_next" 1 dv__law_next (spN K W__law_next)) (k__law_pick : Kn P w K mg base "_law_pick" 2 dv__law_pick (spN K W__law_pick)) (k__law_bit : Kn P w K mg base "_law_bit" 2 dv__law_bit (spN K W__law_bit)) (hr : Room 2 (A.deeper (envOfC "_law_row" (defScope s__law_row) s.heap.objs.size f cdv))) :
    PSs (cxOf CX0 P w K mg base N__law_row "_law_row" (defScope s__law_row) f cdv A outer s H E).nox (defBody s__law_row) (t__law_row K) :=
  (pss_cons (ps_set (i := 2) sc__law_row.nd rfl (by first | exact Or.inl rfl | exact Or.inr rfl) (pe_kn k__law_pick hr (pa_cons (pv 0) (pa_cons (pe_lst (pa_cons pe_int (pa_cons pe_int (pa_cons pe_int pa_nil)))) pa_nil)))) (pss_cons (ps_set (i := 3) sc__law_row.nd rfl (by first | exact Or.inl rfl | exact Or.inr rfl) (pe_kn k__law_bit hr (pa_cons (pv 0) pa_nil))) (pss_one (ps_ret (pe_callTy cl_tuple (by rfl) T.b_tuple (by decide +kernel) (pa_cons (pe_lc (own := [("at", 4)]) (g := (gName 4)) (tt := tYes) (te := (tOp rNe (tOp rEq (tCall (spN K W__law_next) dv__law_next E0 (tCons (tVar 0) (tCons (tVar 2) tNil))) (tC (.int 0))) (tVar 3))) rfl sc__law_row.nd (pi_range1 rfl T.b_range (pa_cons (pv 1) pa_nil)) (blkOk_by (N := N__law_row) (sc := defScope s__law_row) (by decide +kernel)) (fun _ _ _ _ _ => (pg_name (i := 4) sc__law_row.nd rfl (by first | exact Or.inl rfl | exact Or.inr rfl))) (fun _ _ _ _ _ => pts_nil) (fun _ _ _ _ _ => (pe_cmpR op_ne (pe_cmpR op_eq (pe_kn k__law_next hr (pa_cons (pv 0) (pa_cons (pv 2) pa_nil))) pe_int (nomark _)) (pv 3) (nomark _)))) pa_nil))))))
abbrev s__law_text : Stmt := top 44
theorem sc__law_text : FnScope N__law_text ["stream"] (defScope s__law_text) := ⟨rfl, rfl, rfl, by decide +kernel, rfl, by decide +kernel, by decide +kernel⟩
theorem de__law_text {cdv : Value} {A : Around} {outer : List Env} {s : Shared} {H : Hp} {E : XK} {f : Addr} (T : Tx K mg) (k__law_next : Kn P w K mg base "_law_next" 1 dv__law_next (spN K W__law_next)) (k__law_pick : Kn P w K mg base "_law_pick" 2 dv__law_pick (spN K W__law_pick)) (k__law_name : Kn P w K mg base "_law_name" 3 dv__law_name (spN K W__law_name)) (hr : Room 3 (A.deeper (envOfC "_law_text" (defScope s__law_text) s.heap.objs.size f cdv))) :
    PSs (cxOf CX0 P w K mg base N__law_text "_law_text" (defScope s__law_text) f cdv A outer s H E).nox (defBody s__law_text) (t__law_text K) :=
  (pss_cons (ps_if (pt_cmpR op_eq (pe_kn k__law_next hr (pa_cons (pv 0) (pa_cons pe_int pa_nil))) pe_int (nomark _)) (pss_one (ps_ret (pe_kn k__law_name hr (pa_cons (pv 0) pa_nil)))) pss_nil) (pss_cons (ps_set (i := 1) sc__law_text.nd rfl (by first | exact Or.inl rfl | exact Or.inr rfl) (pe_kn k__law_pick hr (pa_cons (pv 0) (pa_cons (pe_lst (pa_cons pe_str (pa_cons pe_str (pa_cons pe_str (pa_cons pe_str (pa_cons pe_str (pa_cons pe_str (pa_cons pe_str (pa_cons pe_str (pa_cons pe_str (pa_cons pe_str (pa_cons pe_str (pa_cons pe_str (pa_cons pe_str (pa_cons pe_str pa_nil))))))))))))))) pa_nil)))) (pss_cons (ps_set (i := 2) sc__law_text.nd rfl (by first | exact Or.inl rfl | exact Or.inr rfl) pe_str) (pss_cons (ps_for PassesOwn.never rfl (pi_range1 rfl T.b_range (pa_cons (pe_kn k__law_pick hr (pa_cons (pv 0) (pa_cons (pe_lst (pa_cons pe_int (pa_cons pe_int (pa_cons pe_int (pa_cons pe_int (pa_cons pe_int (pa_cons pe_int pa_nil))))))) pa_nil))) pa_nil)) (pg_name (i := 3) sc__law_text.nd rfl (by first | exact Or.inl rfl | exact Or.inr rfl)) (pss_one (ps_set (i := 1) sc__law_text.nd rfl (by first | exact Or.inl rfl | exact Or.inr rfl) (pe_op u_add (pv 1) (pe_ifExp (pt_cmpR op_eq (pe_kn k__law_next hr (pa_cons (pv 0) (pa_cons pe_int pa_nil))) pe_int (nomark _)) (pe_ix ix_seq (pv 2) (pe_kn k__law_next hr (pa_cons (pv 0) (pa_cons (pe_callB cl_len (by rfl) T.b_len (by decide +kernel) (pa_cons (pv 2) pa_nil)) pa_nil))) (fun _ _ => rfl)) (pe_ix ix_seq pe_str (pe_kn k__law_next hr (pa_cons (pv 0) (pa_cons pe_int pa_nil))) (fun _ _ => rfl))))))) (pss_one (ps_ret (pv 1)))))))
abbrev s__law_is_name : Stmt := top 45
theorem sc__law_is_name : FnScope N__law_is_name ["value"] (defScope s__law_is_name) := ⟨rfl, rfl, rfl, by decide +kernel, rfl, by decide +kernel, by decide +kernel⟩
theorem de__law_is_name {cdv : Value} {A : Around} {outer : List Env} {s : Shared} {H : Hp} {E : XK} {f : Addr} (T : Tx K mg)  (hr : Room 0 (A.deeper (envOfC "_law_is_name" (defScope s__law_is_name) s.heap.objs.size f cdv))) :
    PSs (cxOf CX0 P w K mg base N__law_is_name "_law_is_name" (defScope s__law_is_name) f cdv A outer s H E).nox (defBody s__law_is_name) (t__law_is_name K) :=
  (pss_cons (ps_if (PW.pt (pw_or (pt_not (pt_val (pe_callB call_isi (by rfl) T.b_isinstance (by decide +kernel) (pa_cons (pv 0) (pa_cons (pe_bltn (v := .ty "str") (by rfl) T.b_str (by decide +kernel) rfl) pa_nil))))) (pw_or (pt_cmpR u_lt (pe_callB cl_len (by rfl) T.b_len (by decide +kernel) (pa_cons (pv 0) pa_nil)) pe_int (nomark _)) (pw_or1 (pt_cmpR u_gt (pe_callB cl_len (by rfl) T.b_len (by decide +kernel) (pa_cons (pv 0) pa_nil)) pe_int (nomark _)))))) (pss_one (ps_ret pe_bl)) pss_nil) (pss_cons (ps_set (i := 1) sc__law_is_name.nd rfl (by first | exact Or.inl rfl | exact Or.inr rfl) pe_str) (pss_one (ps_ret (pe_and (pe_cmpR u_in (pe_ix ix_seq (pv 0) pe_int (fun _ _ => rfl)) (pe_slice u_sl (pv 1) po_none (po_some pe_int)) (by rfl)) (pe_one (pe_callB (cr_all rfl) (by rfl) T.b_all (by decide +kernel) (pa_cons (pe_lc (own := [("sign", 2)]) (g := (gName 2)) (tt := tYes) (te := (tOp (uIn K false) (tVar 2) (tVar 1))) rfl sc__law_is_name.nd (pi_any (pv 0)) (blkOk_by (N := N__law_is_name) (sc := defScope s__law_is_name) (by decide +kernel)) (fun _ _ _ _ _ => (pg_name (i := 2) sc__law_is_name.nd rfl (by first | exact Or.inl rfl | exact Or.inr rfl))) (fun _ _ _ _ _ => pts_nil) (fun _ _ _ _ _ => (pe_cmpR u_in (pv 2) (pv 1) (by rfl)))) pa_nil))))))))
abbrev s__law_are_names : Stmt := top 46
theorem sc__law_are_names : FnScope N__law_are_names ["value"] (defScope s__law_are_names) := ⟨rfl, rfl, rfl, by decide +kernel, rfl, by decide +kernel, by decide +kernel⟩
theorem de__law_are_names {cdv : Value} {A : Around} {outer : List Env} {s : Shared} {H : Hp} {E : XK} {f : Addr} (T : Tx K mg) (k__law_is_name : Kn P w K mg base "_law_is_name" 1 dv__law_is_name (spN K W__law_is_name)) (hr : Room 1 (A.deeper (envOfC "_law_are_names" (defScope s__law_are_names) s.heap.objs.size f cdv))) :
    PSs (cxOf CX0 P w K mg base N__law_are_names "_law_are_names" (defScope s__law_are_names) f cdv A outer s H E).nox (defBody s__law_are_names) (t__law_are_names K) :=
  (pss_cons (ps_if (PW.pt (pw_or (pt_not (pt_val (pe_callB call_isi (by rfl) T.b_isinstance (by decide +kernel) (pa_cons (pv 0) (pa_cons (pe_bltn (v := .ty "tuple") (by rfl) T.b_tuple (by decide +kernel) rfl) pa_nil))))) (pw_or (pt_not (pt_chain u_le u_le pe_int (pe_callB cl_len (by rfl) T.b_len (by decide +kernel) (pa_cons (pv 0) pa_nil)) pe_int)) (pw_or1 (pt_not (pt_val (pe_callB (cr_all rfl) (by rfl) T.b_all (by decide +kernel) (pa_cons (pe_lc (own := [("one", 1)]) (g := (gName 1)) (tt := tYes) (te := (tCall (spN K W__law_is_name) dv__law_is_name E0 (tCons (tVar 1) tNil))) rfl sc__law_are_names.nd (pi_any (pv 0)) (blkOk_by (N := N__law_are_names) (sc := defScope s__law_are_names) (by decide +kernel)) (fun _ _ _ _ _ => (pg_name (i := 1) sc__law_are_names.nd rfl (by first | exact Or.inl rfl | exact Or.inr rfl))) (fun _ _ _ _ _ => pts_nil) (fun _ _ _ _ _ => (pe_kn k__law_is_name hr (pa_cons (pv 1) pa_nil)))) pa_nil)))))))) (pss_one (ps_ret pe_bl)) pss_nil) (pss_one (ps_ret (pe_callB (cr_all rfl) (by rfl) T.b_all (by decide +kernel) (pa_cons (pe_lc (own := [("at", 2)]) (g := (gName 2)) (tt := tYes) (te := (tOp uLt (tOp (rIx K) (tVar 0) (tVar 2)) (tOp (rIx K) (tVar 0) (tOp (uAdd K) (tVar 2) (tC (.int 1)))))) rfl sc__law_are_names.nd (pi_range1 rfl T.b_range (pa_cons (pe_op op_sub (pe_callB cl_len (by rfl) T.b_len (by decide +kernel) (pa_cons (pv 0) pa_nil)) pe_int) pa_nil)) (blkOk_by (N := N__law_are_names) (sc := defScope s__law_are_names) (by decide +kernel)) (fun _ _ _ _ _ => (pg_name (i := 2) sc__law_are_names.nd rfl (by first | exact Or.inl rfl | exact Or.inr rfl))) (fun _ _ _ _ _ => pts_nil) (fun _ _ _ _ _ => (pe_cmpR u_lt (pe_ix ix_seq (pv 0) (pv 2) (fun _ _ => rfl)) (pe_ix ix_seq (pv 0) (pe_op u_add (pv 2) pe_int) (fun _ _ => rfl)) (nomark _)))) pa_nil)))))
abbrev s__law_kept : Stmt := top 47
theorem sc__law_kept : FnScope N__law_kept ["stream", "value"] (defScope s__law_kept) := ⟨rfl, rfl, rfl, by decide +kernel, rfl, by decide +kernel, by decide +kernel⟩
theorem de__law_kept {cdv : Value} {A : Around} {outer : List Env} {s : Shared} {H : Hp} {E : XK} {f : Addr} (T : Tx K mg) (k_is_names : Kn P w K mg base "is_names" 3 dv_is_names (spN K W_is_names)) (k_is_book : Kn P w K mg base "is_book" 7 dv_is_book (spN K W_is_book)) (k__law_pick : Kn P w K mg base "_law_pick" 2 dv__law_pick (spN K W__law_pick)) (k__law_says : Kn P w K mg base "_law_says" 1 dv__law_says (spN K W__law_says)) (k__law_are_names : Kn P w K mg base "_law_are_names" 2 dv__law_are_names (spN K W__law_are_names)) (hr : Room 7 (A.deeper (envOfC "_law_kept" (defScope s__law_kept) s.heap.objs.size f cdv))) :
    PSs (cxOf CX0 P w K mg base N__law_kept "_law_kept" (defScope s__law_kept) f cdv A outer s H E).nox (defBody s__law_kept) (t__law_kept K) :=
  (pss_cons (ps_set (i := 2) sc__law_kept.nd rfl (by first | exact Or.inl rfl | exact Or.inr rfl) (pe_kn k__law_are_names hr (pa_cons (pv 1) pa_nil))) (pss_cons (ps_set (i := 3) sc__law_kept.nd rfl (by first | exact Or.inl rfl | exact Or.inr rfl) (pe_kn k__law_pick hr (pa_cons (pv 0) (pa_cons (pe_lst (pa_cons pe_str (pa_cons pe_str (pa_cons pe_str (pa_cons pe_str pa_nil))))) pa_nil)))) (pss_one (ps_ret (pe_and (pe_kn k__law_says hr (pa_cons (pe_kn k_is_names hr (pa_cons (pv 1) pa_nil)) (pa_cons (pv 2) pa_nil))) (pe_one (pe_kn k__law_says hr (pa_cons (pe_kn k_is_book hr (pa_cons (pe_tup (pa_cons (pv 3) (pa_cons (pv 1) (pa_cons (pe_tup pa_nil) pa_nil)))) pa_nil)) (pa_cons (pv 2) pa_nil)))))))))
abbrev s__law_bent : Stmt := top 48
theorem sc__law_bent : FnScope N__law_bent ["stream", "names"] (defScope s__law_bent) := ⟨rfl, rfl, rfl, by decide +kernel, rfl, by decide +kernel, by decide +kernel⟩
theorem de__law_bent {cdv : Value} {A : Around} {outer : List Env} {s : Shared} {H : Hp} {E : XK} {f : Addr} (T : Tx K mg) (k__law_next : Kn P w K mg base "_law_next" 1 dv__law_next (spN K W__law_next)) (k__law_pick : Kn P w K mg base "_law_pick" 2 dv__law_pick (spN K W__law_pick)) (k__law_text : Kn P w K mg base "_law_text" 4 dv__law_text (spN K W__law_text)) (hr : Room 4 (A.deeper (envOfC "_law_bent" (defScope s__law_bent) s.heap.objs.size f cdv))) :
    PSs (cxOf CX0 P w K mg base N__law_bent "_law_bent" (defScope s__law_bent) f cdv A outer s H E).nox (defBody s__law_bent) (t__law_bent K) :=
  (pss_cons (ps_set (i := 2) sc__law_bent.nd rfl (by first | exact Or.inl rfl | exact Or.inr rfl) (pe_kn k__law_next hr (pa_cons (pv 0) (pa_cons (pe_callB cl_len (by rfl) T.b_len (by decide +kernel) (pa_cons (pv 1) pa_nil)) pa_nil)))) (pss_cons (ps_set (i := 3) sc__law_bent.nd rfl (by first | exact Or.inl rfl | exact Or.inr rfl) (pe_kn k__law_next hr (pa_cons (pv 0) (pa_cons pe_int pa_nil)))) (pss_cons (ps_if (pt_cmpR op_eq (pv 3) pe_int (nomark _)) (pss_one (ps_ret (pe_op u_add (pe_slice u_sl (pv 1) po_none (po_some (pv 2))) (pe_slice u_sl (pv 1) (po_some (pe_op u_add (pv 2) pe_int)) po_none)))) pss_nil) (pss_cons (ps_if (pt_cmpR op_eq (pv 3) pe_int (nomark _)) (pss_one (ps_ret (pe_op u_add (pe_slice u_sl (pv 1) po_none (po_some (pe_op u_add (pv 2) pe_int))) (pe_slice u_sl (pv 1) (po_some (pv 2)) po_none)))) pss_nil) (pss_cons (ps_if (pt_cmpR op_eq (pv 3) pe_int (nomark _)) (pss_one (ps_ret (pe_op u_add (pe_op u_add (pe_slice u_sl (pv 1) po_none (po_some (pv 2))) (pe_revT (pe_slice u_sl (pe_slice u_sl (pv 1) (po_some (pv 2)) po_none) po_none (po_some pe_int)))) (pe_slice u_sl (pv 1) (po_some (pe_op u_add (pv 2) pe_int)) po_none)))) pss_nil) (pss_cons (ps_if (pt_cmpR op_eq (pv 3) pe_int (nomark _)) (pss_one (ps_ret (pe_callTy (cl_list rfl) (by rfl) T.b_list (by decide +kernel) (pa_cons (pv 1) pa_nil)))) pss_nil) (pss_cons (ps_if (pt_cmpR op_eq (pv 3) pe_int (nomark _)) (pss_one (ps_ret (pe_ix ix_seq (pv 1) pe_int (fun _ _ => rfl)))) pss_nil) (pss_cons (ps_set (i := 4) sc__law_bent.nd rfl (by first | exact Or.inl rfl | exact Or.inr rfl) (pe_lst (pa_cons pe_non (pa_cons pe_int (pa_cons pe_bl (pa_cons pe_str (pa_cons (pe_tup (pa_cons pe_str pa_nil)) (pa_cons pe_str (pa_cons pe_str (pa_cons pe_str (pa_cons pe_str (pa_cons (pe_ix ix_seq (pv 1) pe_int (fun _ _ => rfl)) pa_nil)))))))))))) (pss_one (ps_ret (pe_op u_add (pe_op u_add (pe_slice u_sl (pv 1) po_none (po_some (pv 2))) (pe_tup (pa_cons (pe_ifExp (pt_cmpR op_eq (pv 3) pe_int (nomark _)) (pe_kn k__law_text hr (pa_cons (pv 0) pa_nil)) (pe_kn k__law_pick hr (pa_cons (pv 0) (pa_cons (pv 4) pa_nil)))) pa_nil))) (pe_slice u_sl (pv 1) (po_some (pe_op u_add (pv 2) pe_int)) po_none))))))))))))
abbrev s__law_near_row : Stmt := top 49
theorem sc__law_near_row : FnScope N__law_near_row ["stream", "row"] (defScope s__law_near_row) := ⟨rfl, rfl, rfl, by decide +kernel, rfl, by decide +kernel, by decide +kernel⟩
theorem de__law_near_row {cdv : Value} {A : Around} {outer : List Env} {s : Shared} {H : Hp} {E : XK} {f : Addr} (T : Tx K mg) (k__law_next : Kn P w K mg base "_law_next" 1 dv__law_next (spN K W__law_next)) (k__law_pick : Kn P w K mg base "_law_pick" 2 dv__law_pick (spN K W__law_pick)) (k__law_bit : Kn P w K mg base "_law_bit" 2 dv__law_bit (spN K W__law_bit)) (hr : Room 2 (A.deeper (envOfC "_law_near_row" (defScope s__law_near_row) s.heap.objs.size f cdv))) :
    PSs (cxOf CX0 P w K mg base N__law_near_row "_law_near_row" (defScope s__law_near_row) f cdv A outer s H E).nox (defBody s__law_near_row) (t__law_near_row K) :=
  (pss_cons (ps_set (i := 2) sc__law_near_row.nd rfl (by first | exact Or.inl rfl | exact Or.inr rfl) (pe_kn k__law_next hr (pa_cons (pv 0) (pa_cons (pe_callB cl_len (by rfl) T.b_len (by decide +kernel) (pa_cons (pv 1) pa_nil)) pa_nil)))) (pss_cons (ps_set (i := 3) sc__law_near_row.nd rfl (by first | exact Or.inl rfl | exact Or.inr rfl) (pe_kn k__law_next hr (pa_cons (pv 0) (pa_cons pe_int pa_nil)))) (pss_cons (ps_if (pt_cmpR op_eq (pv 3) pe_int (nomark _)) (pss_one (ps_ret (pe_slice u_sl (pv 1) (po_some pe_int) po_none))) pss_nil) (pss_cons (ps_if (pt_cmpR op_eq (pv 3) pe_int (nomark _)) (pss_one (ps_ret (pe_op u_add (pv 1) (pe_tup (pa_cons (pe_kn k__law_bit hr (pa_cons (pv 0) pa_nil)) pa_nil))))) pss_nil) (pss_cons (ps_if (pt_cmpR op_eq (pv 3) pe_int (nomark _)) (pss_one (ps_ret (pe_callTy (cl_list rfl) (by rfl) T.b_list (by decide +kernel) (pa_cons (pv 1) pa_nil)))) pss_nil) (pss_cons (ps_if (pt_cmpR op_eq (pv 3) pe_int (nomark _)) (pss_one (ps_ret (pe_op u_add (pe_op u_add (pe_slice u_sl (pv 1) po_none (po_some (pv 2))) (pe_tup (pa_cons (pe_ifExp (pt_val (pe_ix ix_seq (pv 1) (pv 2) (fun _ _ => rfl))) pe_int pe_int) pa_nil))) (pe_slice u_sl (pv 1) (po_some (pe_op u_add (pv 2) pe_int)) po_none)))) pss_nil) (pss_cons (ps_if (pt_cmpR op_eq (pv 3) pe_int (nomark _)) (pss_one (ps_ret (pe_kn k__law_pick hr (pa_cons (pv 0) (pa_cons (pe_lst (pa_cons pe_non (pa_cons pe_bl (pa_cons pe_str (pa_cons (pe_tup pa_nil) (pa_cons (pe_tup (pa_cons (pv 1) pa_nil)) (pa_cons pe_int (pa_cons (pe_ix ix_seq (pv 1) pe_int (fun _ _ => rfl)) pa_nil)))))))) pa_nil))))) pss_nil) (pss_one (ps_ret (pe_op u_add (pe_op u_add (pe_slice u_sl (pv 1) po_none (po_some (pv 2))) (pe_tup (pa_cons (pe_kn k__law_pick hr (pa_cons (pv 0) (pa_cons (pe_lst (pa_cons pe_non (pa_cons pe_str (pa_cons pe_int (pa_cons (pe_tup pa_nil) (pa_cons pe_str (pa_cons (pe_un un_neg pe_int) (pa_cons (pe_tup (pa_cons pe_bl pa_nil)) pa_nil)))))))) pa_nil))) pa_nil))) (pe_slice u_sl (pv 1) (po_some (pe_op u_add (pv 2) pe_int)) po_none)))))))))))
abbrev s__law_is_row : Stmt := top 50
theorem sc__law_is_row : FnScope N__law_is_row ["names", "value"] (defScope s__law_is_row) := ⟨rfl, rfl, rfl, by decide +kernel, rfl, by decide +kernel, by decide +kernel⟩
theorem de__law_is_row {cdv : Value} {A : Around} {outer : List Env} {s : Shared} {H : Hp} {E : XK} {f : Addr} (T : Tx K mg)  (hr : Room 0 (A.deeper (envOfC "_law_is_row" (defScope s__law_is_row) s.heap.objs.size f cdv))) :
    PSs (cxOf CX0 P w K mg base N__law_is_row "_law_is_row" (defScope s__law_is_row) f cdv A outer s H E).nox (defBody s__law_is_row) (t__law_is_row K) :=
  (pss_one (ps_ret (pe_and (pe_callB call_isi (by rfl) T.b_isinstance (by decide +kernel) (pa_cons (pv 1) (pa_cons (pe_bltn (v := .ty "tuple") (by rfl) T.b_tuple (by decide +kernel) rfl) pa_nil))) (pe_and (pe_cmpR op_eq (pe_callB cl_len (by rfl) T.b_len (by decide +kernel) (pa_cons (pv 1) pa_nil)) (pe_callB cl_len (by rfl) T.b_len (by decide +kernel) (pa_cons (pv 0) pa_nil)) (nomark _)) (pe_one (pe_callB (cr_all rfl) (by rfl) T.b_all (by decide +kernel) (pa_cons (pe_lc (own := [("one", 2)]) (g := (gName 2)) (tt := tYes) (te := (tCB (rIsi K) (tCons (tVar 2) (tCons (tC (.ty "bool")) tNil)))) rfl sc__law_is_row.nd (pi_any (pv 1)) (blkOk_by (N := N__law_is_row) (sc := defScope s__law_is_row) (by decide +kernel)) (fun _ _ _ _ _ => (pg_name (i := 2) sc__law_is_row.nd rfl (by first | exact Or.inl rfl | exact Or.inr rfl))) (fun _ _ _ _ _ => pts_nil) (fun _ _ _ _ _ => (pe_callB call_isi (by rfl) T.b_isinstance (by decide +kernel) (pa_cons (pv 2) (pa_cons (pe_bltn (v := .ty "bool") (by rfl) T.b_bool (by decide +kernel) rfl) pa_nil))))) pa_nil)))))))
abbrev s_law : Stmt := top 51
theorem sc_law : FnScope N_law ["script"] (defScope s_law) := ⟨rfl, rfl, rfl, by decide +kernel, rfl, by decide +kernel, by decide +kernel⟩
theorem de_law {cdv : Value} {A : Around} {outer : List Env} {s : Shared} {H : Hp} {E : XK} {f : Addr} (T : Tx K mg) (k_is_name : Kn P w K mg base "is_name" 1 dv_is_name (spN K W_is_name)) (k_is_source : Kn P w K mg base "is_source" 3 dv_is_source (spN K W_is_source)) (k_is_house : Kn P w K mg base "is_house" 1 dv_is_house (spN K W_is_house)) (k_is_names : Kn P w K mg base "is_names" 3 dv_is_names (spN K W_is_names)) (k_is_row : Kn P w K mg base "is_row" 5 dv_is_row (spN K W_is_row)) (k__law_stream : Kn P w K mg base "_law_stream" 1 dv__law_stream (sp__law_stream K)) (k__law_next : Kn P w K mg base "_law_next" 1 dv__law_next (spN K W__law_next)) (k__law_pick : Kn P w K mg base "_law_pick" 2 dv__law_pick (spN K W__law_pick)) (k__law_says : Kn P w K mg base "_law_says" 1 dv__law_says (spN K W__law_says)) (k__law_name : Kn P w K mg base "_law_name" 3 dv__law_name (spN K W__law_name)) (k__law_names : Kn P w K mg base "_law_names" 4 dv__law_names (spN K W__law_names)) (k__law_row : Kn P w K mg base "_law_row" 3 dv__law_row (spN K W__law_row)) (k__law_text : Kn P w K mg base "_law_text" 4 dv__law_text (spN K W__law_text)) (k__law_is_name : Kn P w K mg base "_law_is_name" 1 dv__law_is_name (spN K W__law_is_name)) (k__law_kept : Kn P w K mg base "_law_kept" 8 dv__law_kept (spN K W__law_kept)) (k__law_bent : Kn P w K mg base "_law_bent" 5 dv__law_bent (spN K W__law_bent)) (k__law_near_row : Kn P w K mg base "_law_near_row" 3 dv__law_near_row (spN K W__law_near_row)) (k__law_is_row : Kn P w K mg base "_law_is_row" 1 dv__law_is_row (spN K W__law_is_row)) (hr : Room 8 (A.deeper (envOfC "law" (defScope s_law) s.heap.objs.size f cdv))) :
    PSs (cxOf CX0 P w K mg base N_law "law" (defScope s_law) f cdv A outer s H E).nox (defBody s_law) (t_law K) :=
  (pss_cons (ps_set (i := 1) sc_law.nd rfl (by first | exact Or.inl rfl | exact Or.inr rfl) (pe_kn k__law_stream hr (pa_cons (pv 0) pa_nil))) (pss_cons (ps_for PassesOwn.never rfl (pi_range1 rfl T.b_range (pa_cons pe_int pa_nil)) (pg_name (i := 2) sc_law.nd rfl (by first | exact Or.inl rfl | exact Or.inr rfl)) (pss_cons (ps_set (i := 3) sc_law.nd rfl (by first | exact Or.inl rfl | exact Or.inr rfl) (pe_kn k__law_text hr (pa_cons (pv 1) pa_nil))) (pss_cons (ps_if (PW.pt (pw_or (pt_not (pt_val (pe_kn k__law_says hr (pa_cons (pe_kn k_is_name hr (pa_cons (pv 3) pa_nil)) (pa_cons (pe_kn k__law_is_name hr (pa_cons (pv 3) pa_nil)) pa_nil))))) (pw_or1 (pt_cmpR u_isNot (pe_kn k_is_name hr (pa_cons (pe_kn k__law_name hr (pa_cons (pv 1) pa_nil)) pa_nil)) pe_bl (nomark _))))) (pss_one (ps_ret pe_bl)) pss_nil) (pss_one (ps_if (pt_not (pt_val (pe_kn k__law_kept hr (pa_cons (pv 1) (pa_cons (pe_tup (pa_cons (pv 3) pa_nil)) pa_nil))))) (pss_one (ps_ret pe_bl)) pss_nil))))) (pss_cons (ps_set (i := 4) sc_law.nd rfl (by first | exact Or.inl rfl | exact Or.inr rfl) (pe_op op_sub (pe_kn k__law_next hr (pa_cons (pv 1) (pa_cons pe_int pa_nil))) pe_int)) (pss_cons (ps_if (PW.pt (pw_or (pt_not (pt_val (pe_kn k__law_says hr (pa_cons (pe_kn k_is_source hr (pa_cons (pv 4) pa_nil)) (pa_cons (pe_chain u_le u_le pe_int (pv 4) pe_int) pa_nil))))) (pw_or1 (pt_cmpR u_isNot (pe_kn k_is_source hr (pa_cons (pe_kn k__law_pick hr (pa_cons (pv 1) (pa_cons (pe_lst (pa_cons pe_bl (pa_cons pe_bl (pa_cons pe_non (pa_cons pe_str (pa_cons (pe_tup (pa_cons pe_int pa_nil)) (pa_cons (pe_op op_pow pe_int pe_int) (pa_cons (pe_un un_neg pe_int) (pa_cons pe_int pa_nil))))))))) pa_nil))) pa_nil)) pe_bl (nomark _))))) (pss_one (ps_ret pe_bl)) pss_nil) (pss_cons (ps_if (pt_not (pt_val (pe_callB (cr_all rfl) (by rfl) T.b_all (by decide +kernel) (pa_cons (pe_lc (own := [("one", 10)]) (g := (gName 10)) (tt := tYes) (te := (tOp uIs (tCall (spN K W_is_house) dv_is_house E0 (tCons (tVar 10) tNil)) (tC (.bl true)))) rfl sc_law.nd (pi_any (pe_lst (pa_cons pe_str (pa_cons pe_str (pa_cons pe_str (pa_cons pe_str pa_nil)))))) (blkOk_by (N := N_law) (sc := defScope s_law) (by decide +kernel)) (fun _ _ _ _ _ => (pg_name (i := 10) sc_law.nd rfl (by first | exact Or.inl rfl | exact Or.inr rfl))) (fun _ _ _ _ _ => pts_nil) (fun _ _ _ _ _ => (pe_cmpR u_is (pe_kn k_is_house hr (pa_cons (pv 10) pa_nil)) pe_bl (nomark _)))) pa_nil)))) (pss_one (ps_ret pe_bl)) pss_nil) (pss_cons (ps_if (pt_cmpR u_isNot (pe_kn k_is_house hr (pa_cons (pe_kn k__law_pick hr (pa_cons (pv 1) (pa_cons (pe_lst (pa_cons pe_str (pa_cons pe_str (pa_cons pe_str (pa_cons pe_str (pa_cons pe_str (pa_cons pe_str (pa_cons pe_str (pa_cons pe_str (pa_cons pe_non (pa_cons pe_int (pa_cons pe_bl (pa_cons (pe_tup (pa_cons pe_str pa_nil)) (pa_cons pe_str (pa_cons pe_str (pa_cons (pe_lst (pa_cons pe_str pa_nil)) pa_nil)))))))))))))))) pa_nil))) pa_nil)) pe_bl (nomark _)) (pss_one (ps_ret pe_bl)) pss_nil) (pss_cons (ps_for PassesOwn.never rfl (pi_any (pe_lst (pa_cons pe_int (pa_cons (pe_kn k__law_pick hr (pa_cons (pv 1) (pa_cons (pe_lst (pa_cons pe_int (pa_cons pe_int (pa_cons pe_int (pa_cons pe_int pa_nil))))) pa_nil))) (pa_cons pe_int (pa_cons pe_int pa_nil)))))) (pg_name (i := 5) sc_law.nd rfl (by first | exact Or.inl rfl | exact Or.inr rfl)) (pss_cons (ps_set (i := 6) sc_law.nd rfl (by first | exact Or.inl rfl | exact Or.inr rfl) (pe_kn k__law_names hr (pa_cons (pv 1) (pa_cons (pv 5) pa_nil)))) (pss_cons (ps_if (PW.pt (pw_or (pt_not (pt_val (pe_kn k__law_kept hr (pa_cons (pv 1) (pa_cons (pv 6) pa_nil))))) (pw_or1 (pt_not (pt_val (pe_kn k__law_kept hr (pa_cons (pv 1) (pa_cons (pe_kn k__law_bent hr (pa_cons (pv 1) (pa_cons (pv 6) pa_nil))) pa_nil)))))))) (pss_one (ps_ret pe_bl)) pss_nil) (pss_one (ps_if (pt_cmpR u_le (pv 5) pe_int (nomark _)) (pss_cons (ps_set (i := 7) sc_law.nd rfl (by first | exact Or.inl rfl | exact Or.inr rfl) (pe_kn k__law_row hr (pa_cons (pv 1) (pa_cons (pv 5) pa_nil)))) (pss_cons (ps_set (i := 8) sc_law.nd rfl (by first | exact Or.inl rfl | exact Or.inr rfl) (pe_kn k__law_near_row hr (pa_cons (pv 1) (pa_cons (pv 7) pa_nil)))) (pss_one (ps_if (PW.pt (pw_or (pt_cmpR u_isNot (pe_kn k_is_row hr (pa_cons (pv 6) (pa_cons (pv 7) pa_nil))) pe_bl (nomark _)) (pw_or1 (pt_not (pt_val (pe_kn k__law_says hr (pa_cons (pe_kn k_is_row hr (pa_cons (pv 6) (pa_cons (pv 8) pa_nil))) (pa_cons (pe_kn k__law_is_row hr (pa_cons (pv 6) (pa_cons (pv 8) pa_nil))) pa_nil)))))))) (pss_one (ps_ret pe_bl)) pss_nil)))) pss_nil))))) (pss_cons (ps_set (i := 9) sc_law.nd rfl (by first | exact Or.inl rfl | exact Or.inr rfl) (pe_kn k__law_pick hr (pa_cons (pv 1) (pa_cons (pe_lst (pa_cons pe_non (pa_cons pe_int (pa_cons pe_bl (pa_cons (pe_un un_neg pe_int) (pa_cons pe_str (pa_cons pe_str (pa_cons (pe_tup pa_nil) (pa_cons (pe_lst pa_nil) (pa_cons (pe_lst (pa_cons pe_str pa_nil)) (pa_cons (pe_tup (pa_cons pe_str (pa_cons pe_str pa_nil))) (pa_cons (pe_tup (pa_cons pe_str (pa_cons pe_str pa_nil))) pa_nil)))))))))))) pa_nil)))) (pss_one (ps_ret (pe_and (pe_cmpR u_is (pe_kn k_is_names hr (pa_cons (pv 9) pa_nil)) pe_bl (nomark _)) (pe_and (pe_cmpR u_is (pe_kn k_is_name hr (pa_cons (pe_kn k__law_pick hr (pa_cons (pv 1) (pa_cons (pe_lst (pa_cons pe_non (pa_cons pe_int (pa_cons pe_bl (pa_cons (pe_tup (pa_cons pe_str pa_nil)) (pa_cons (pe_lst pa_nil) (pa_cons (pe_op op_pow pe_int pe_int) pa_nil))))))) pa_nil))) pa_nil)) pe_bl (nomark _)) (pe_one (pe_kn k__law_kept hr (pa_cons (pv 1) (pa_cons (pe_tup pa_nil) pa_nil))))))))))))))))
end
end Dv

namespace Dv
open PySem PySem.Spec PyProof.Rows L2
/-! ### what the top has written -/
/-- a def without defaults stands behind the top -/
structure FnK (K : PySem.W.Frag) (x : Str) (st : Stmt) : Prop where
  ex : ∃ (f : Addr) (oc : Value) (od an : Option Addr) (osl : Array (Option Value)) (kV doc pm cdv ct : Value), PySem.W.nsIn K mainGlobals x = some (some (.ref f)) ∧
    K.lookup f = some ⟨oc, od, .func (PySem.W.fnOf x x (defArgs st) (defBody st) (defScope st) .none kV doc pm an cdv ct), osl⟩ ∧ PySem.W.codeIn K cdv x = true ∧ PySem.W.keepIn K (.ref f) = true
/-- .. with one default -/
structure FnKD (K : PySem.W.Frag) (x : Str) (st : Stmt) (dv : V) : Prop where
  ex : ∃ (f : Addr) (oc : Value) (od an : Option Addr) (osl : Array (Option Value)) (T : Addr) (kV doc pm cdv ct : Value) (o : Obj) (u : Value) (n : Nat), PySem.W.nsIn K mainGlobals x = some (some (.ref f)) ∧
    K.lookup f = some ⟨oc, od, .func (PySem.W.fnOf x x (defArgs st) (defBody st) (defScope st) (.ref T) kV doc pm an cdv ct), osl⟩ ∧ K.lookup T = some o ∧ o.data = .seq [u].toArray n ∧ RelV dv u ∧ PySem.W.codeIn K cdv x = true ∧ PySem.W.keepIn K (.ref f) = true
section
variable {K : PySem.W.Frag} {x : Str} {st : Stmt} {dv : V}
theorem FnK.of {f : Addr} {oc : Value} {od an : Option Addr} {osl : Array (Option Value)} {kV doc pm cdv ct : Value} (a : PySem.W.nsIn K mainGlobals x = some (some (.ref f)))
    (l : K.lookup f = some ⟨oc, od, .func (PySem.W.fnOf x x (defArgs st) (defBody st) (defScope st) .none kV doc pm an cdv ct), osl⟩) (c : PySem.W.codeIn K cdv x = true) (k : PySem.W.keepIn K (.ref f) = true) : FnK K x st :=
  ⟨f, oc, od, an, osl, kV, doc, pm, cdv, ct, a, l, c, k⟩
theorem FnKD.of {f : Addr} {oc : Value} {od an : Option Addr} {osl : Array (Option Value)} {T : Addr} {kV doc pm cdv ct : Value} {c1 : Value} {d1 : Option Addr} {s1 : Array (Option Value)} {u : Value} {n : Nat} (a : PySem.W.nsIn K mainGlobals x = some (some (.ref f)))
    (l : K.lookup f = some ⟨oc, od, .func (PySem.W.fnOf x x (defArgs st) (defBody st) (defScope st) (.ref T) kV doc pm an cdv ct), osl⟩) (t : K.lookup T = some ⟨c1, d1, .seq #[u] n, s1⟩) (v : RelV dv u) (c : PySem.W.codeIn K cdv x = true) (k : PySem.W.keepIn K (.ref f) = true) : FnKD K x st dv :=
  ⟨f, oc, od, an, osl, T, kV, doc, pm, cdv, ct, _, u, n, a, l, t, rfl, v, c, k⟩
theorem FnK.get {h : Heap} {mg : Str → Option Value} (F : FnK K x st) (X : K.In h) (G : h.Ns mainGlobals mg) : ∃ (f : Addr) (fd : FuncData), PySem.W.nsIn K mainGlobals x = some (some (.ref f)) ∧ Fun K x x st f fd ∧ mg x = some (.ref f) ∧ PySem.W.keepIn K (.ref f) = true := by
  obtain ⟨f, oc, od, an, osl, kV, doc, pm, cdv, ct, a, l, c, k⟩ := F.ex
  exact ⟨f, _, a, fun_mk l c k, PySem.W.mg_of X G a, k⟩
end
section
variable {P : Program} {w : World} {K : PySem.W.Frag} {mg : Str → Option Value} {base h : Heap} {x : Str} {st : Stmt} {N ps : List Str} {k : Nat}
theorem kn_sp {sp : Sp} (X : K.In h) (G : h.Ns mainGlobals mg) (F : FnK K x st) (hok : ∀ (f : Addr) (fd : FuncData), Fun K x x st f fd → FnOk P w K mg base CX0 (k + 1) f fd ps sp)
    (hb : ∀ (kV doc pm : Value) (an : Option Addr) (cdv ct : Value) (us : List Value), us.length = ps.length → bindArgs (PySem.W.fnOf x x (defArgs st) (defBody st) (defScope st) .none kV doc pm an cdv ct) ⟨us, []⟩ = pure (ps.zip us)) :
    Kn P w K mg base x (k + 1) [] sp := by
  obtain ⟨f, fd, _, F, hm, kp⟩ := F.get X G
  exact ⟨f, fd, ps, [], hok f fd F, hm, kp, F.binds hb, .nil⟩
theorem kn_of {W : List D → (D → Prop) → Prop} (X : K.In h) (G : h.Ns mainGlobals mg) (F : FnK K x st) (S : FnScope N ps (defScope st)) (ar : ∀ ds R, W ds R → ds.length = ps.length)
    (hok : ∀ {f : Addr} (cdv : Value) (A : Around) (outer : List Env) (s : Shared) (H : Hp) (E : XK), Room k (A.deeper (envOfC x (defScope st) s.heap.objs.size f cdv)) →
      ∃ t, PSs (cxOf CX0 P w K mg base N x (defScope st) f cdv A outer s H E).nox (defBody st) t ∧ ∀ ds R, W ds R → StN K t (startD N ds) { nx := fun _ => R .non, rt := R })
    (hb : ∀ (kV doc pm : Value) (an : Option Addr) (cdv ct : Value) (us : List Value), us.length = ps.length → bindArgs (PySem.W.fnOf x x (defArgs st) (defBody st) (defScope st) .none kV doc pm an cdv ct) ⟨us, []⟩ = pure (ps.zip us)) :
    Kn P w K mg base x (k + 1) [] (spN K W) :=
  kn_sp X G F (fun _ _ F => fn_N F S ar hok) hb
theorem kn_no {W : List D → (D → Prop) → Prop} (X : K.In h) (G : h.Ns mainGlobals mg) (F : FnK K x st) (S : FnScope N ps (defScope st)) (no : ∀ ds R, W ds R → False)
    (hb : ∀ (kV doc pm : Value) (an : Option Addr) (cdv ct : Value) (us : List Value), us.length = ps.length → bindArgs (PySem.W.fnOf x x (defArgs st) (defBody st) (defScope st) .none kV doc pm an cdv ct) ⟨us, []⟩ = pure (ps.zip us)) :
    Kn P w K mg base x (k + 1) [] (spN K W) :=
  kn_sp X G F (fun _ _ F => F.ok S (fun vs H Q E ⟨_, _, ds, R, _, _, _, z, _⟩ => (no ds R z).elim) fun _ _ _ _ _ _ _ _ _ ⟨_, _, ds, R, _, _, _, z, _⟩ => (no ds R z).elim) hb
theorem kn_raw {sp : Sp} (X : K.In h) (G : h.Ns mainGlobals mg) (F : FnK K x st) (S : FnScope N ps (defScope st)) (len : ∀ vs H Q E, sp vs H Q E → vs.length = ps.length)
    (hok : ∀ {f : Addr} {fd : FuncData} (_ : Fun K x x st f fd) (cdv : Value) (A : Around) (outer : List Env) (s : Shared) (H : Hp) (vs : List V) (Q : VK) (E : XK), Room k (A.deeper (envOfC x (defScope st) s.heap.objs.size f cdv)) → sp vs H Q E →
      ∃ t, PSs (cxOf CX0 P w K mg base N x (defScope st) f cdv A outer s H E).nox (defBody st) t ∧ t { nx := fun _ H' => Q .non H', rt := Q } (L2.start N vs) H)
    (hb : ∀ (kV doc pm : Value) (an : Option Addr) (cdv ct : Value) (us : List Value), us.length = ps.length → bindArgs (PySem.W.fnOf x x (defArgs st) (defBody st) (defScope st) .none kV doc pm an cdv ct) ⟨us, []⟩ = pure (ps.zip us)) :
    Kn P w K mg base x (k + 1) [] sp :=
  kn_sp X G F (fun _ _ F => F.ok S len (hok F)) hb
/-- a body's reading, from the values handed in -/
theorem stn_run {t : TS} {W : List D → (D → Prop) → Prop} {vs : List V} {H : Hp} {Q : VK} {E : XK} (h : spN K W vs H Q E) (h2 : ∀ ds R, W ds R → StN K t (startD N ds) { nx := fun _ => R .non, rt := R }) : t { nx := fun _ H' => Q .non H', rt := Q } (L2.start N vs) H := by
  obtain ⟨p, X, ds, R, px, gd, h3, h4, kq⟩ := h
  have hl := reps_len h3
  have n : Nv K p X (fun a => a = p) H (L2.start N vs) (startD N ds) := by
    refine ⟨px, rfl, fun a ha => ha.elim (gd a) fun z => gd a (z ▸ px), ?_, fun i s hs => ?_, fun i j a l m q1 q2 q3 q4 => ?_⟩
    · unfold L2.start startD
      rw [List.length_append, List.length_append, List.length_map, List.length_map, List.length_replicate, List.length_replicate, hl]
    · unfold startD at hs
      unfold L2.start
      by_cases hi : i < ds.length
      · rw [List.getElem?_append_left (by rw [List.length_map]; exact hi), List.getElem?_map] at hs
        rw [List.getElem?_append_left (by rw [List.length_map, hl]; exact hi), List.getElem?_map]
        obtain ⟨v, hv, rv⟩ := reps_get h3 (List.getElem?_eq_getElem hi)
        rw [List.getElem?_eq_getElem hi] at hs
        cases hs
        rw [hv]
        exact ⟨v, rfl, rep_to (fun a vs hx h => ⟨fun z => z.elim hx fun z => hx (z ▸ px), h⟩) (fun _ _ h => h) (fun ⟨a, ns, c, q, w1, w2⟩ => ⟨a, ns, c, q, fun z => z.elim w1 fun z => w1 (z ▸ px), w2⟩) _ _ rv⟩
      · rw [List.getElem?_append_right (by rw [List.length_map]; omega)] at hs
        have := List.mem_of_getElem? hs
        rw [List.mem_replicate] at this
        rw [this.2]
        trivial
    · unfold startD at q1
      have := List.mem_of_getElem? q1
      rw [List.mem_append, List.mem_map, List.mem_replicate] at this
      rcases this with ⟨d, _, e⟩ | ⟨_, e⟩ <;> cases e
  have toExt : ∀ {C' : Addr → Prop} {H' : Hp}, Stp K p (fun a => a = p) H C' H' → Ext K p H H' := fun {C' H'} z =>
    ⟨fun b o hb => (z.keep b o hb).elim .inl fun y => .inr y, fun Y hY ⟨a, ns, c, q, w1, w2⟩ => by
      obtain ⟨a', ns', c', q', v1, v2⟩ := z.strm Y hY ⟨a, ns, c, q, fun u => u.elim w1 fun u => w1 (u ▸ hY), w2⟩
      exact ⟨a', ns', c', q', fun u => v1 (.inl u), v2⟩, fun hb => z.dfn p hb⟩
  exact h2 ds R h4 p X _ H _ { nx := fun _ H' => Q .non H', rt := Q } n (fun C' H' σ' δ' z m y => kq .non H' .non (toExt z) rfl y) (fun C' H' v d z r y => kq v H' d (toExt z) r y)
    (fun _ _ _ _ _ _ z => z.elim) (fun _ _ _ _ _ _ z => z.elim)
theorem kn_dfl (m : Nat) {W : List D → (D → Prop) → Prop} {dv : V} (X : K.In h) (G : h.Ns mainGlobals mg) (F : FnKD K x st dv) (S : FnScope N ps (defScope st)) (hm : m + 1 = ps.length) (ar : ∀ ds R, W ds R → ds.length = ps.length)
    (hok : ∀ {f : Addr} (cdv : Value) (A : Around) (outer : List Env) (s : Shared) (H : Hp) (E : XK), Room k (A.deeper (envOfC x (defScope st) s.heap.objs.size f cdv)) →
      ∃ t, PSs (cxOf CX0 P w K mg base N x (defScope st) f cdv A outer s H E).nox (defBody st) t ∧ ∀ ds R, W ds R → StN K t (startD N ds) { nx := fun _ => R .non, rt := R })
    (hb : ∀ (T : Addr) (kV doc pm : Value) (an : Option Addr) (cdv ct : Value) (us its : List Value), us.length + 1 = ps.length → its.length = 1 →
      ∃ k, bindArgs (PySem.W.fnOf x x (defArgs st) (defBody st) (defScope st) (.ref T) kV doc pm an cdv ct) ⟨us, []⟩ = seqItems? (.ref T) >>= k ∧ k (some its.toArray) = pure (ps.zip (us ++ its))) :
    Kn P w K mg base x (k + 1) [dv] (spN K W) := by
  obtain ⟨f, oc, od, an, osl, T, kV, doc, pm, cdv, ct, o, u, n, a, l, lT, oT, rv, c, kp⟩ := F.ex
  have F0 : FunD K x x (defArgs st) (defBody st) (defScope st) [dv] [] f (PySem.W.fnOf x x (defArgs st) (defBody st) (defScope st) (.ref T) kV doc pm an cdv ct) :=
    ⟨⟨oc, od, .ref T, kV, doc, pm, an, cdv, ct, osl, rfl, l, c, .inr ⟨(fun z => by cases z), T, o, [u], n, rfl, lT, oT, .cons rv .nil⟩, .inl rfl⟩, kp⟩
  have ok : FnOk P w K mg base CX0 (k + 1) f (PySem.W.fnOf x x (defArgs st) (defBody st) (defScope st) (.ref T) kV doc pm an cdv ct) ps (spN K W) := by
    refine F0.ok S (fun vs H Q E ⟨_, _, ds, R, _, _, h3, h4, _⟩ => by rw [reps_len h3]; exact ar ds R h4) fun cdv A outer s H vs Q E hr h => ?_
    obtain ⟨t, h1, h2⟩ := hok (f := f) cdv A outer s H E hr
    exact ⟨t, h1.nox, stn_run h h2⟩
  obtain ⟨ds, v, b⟩ := F0.binds1 (ps := ps) m 0 (fun z => by cases z) (by show m + 1 = _; exact hm) fun T kV doc pm an cdv ct us its hu hi => hb T kV doc pm an cdv ct us its (hu ▸ hm) hi
  exact ⟨f, _, ps, ds, ok, PySem.W.mg_of X G a, kp, b, v⟩
end
section
variable {K : PySem.W.Frag} {mg : Str → Option Value} {h : Heap} {x : Str}
structure IntK (K : PySem.W.Frag) (x : Str) (n : Int) : Prop where
  ex : ∃ t, PySem.W.nsIn K mainGlobals x = some (some (.int n t))
theorem IntK.gk {n : Int} (I : IntK K x n) (X : K.In h) (G : h.Ns mainGlobals mg) : Gk K mg x (.int n) := by
  obtain ⟨t, a⟩ := I.ex
  exact ⟨.int n, _, PySem.W.mg_of X G a, ⟨_, rfl⟩, fun _ _ _ => rfl⟩
theorem IntK.of {n : Int} {t : Tok} (a : PySem.W.nsIn K mainGlobals x = some (some (.int n t))) : IntK K x n := ⟨t, a⟩
/-- a tuple of short texts that the top has made -/
structure TupK (K : PySem.W.Frag) (x : Str) (ss : List Str) : Prop where
  ex : ∃ (a : Addr) (d : Option Addr) (its : Array Value) (n : Nat) (sl : Array (Option Value)), PySem.W.nsIn K mainGlobals x = some (some (.ref a)) ∧ K.lookup a = some ⟨.type "tuple", d, .seq its n, sl⟩ ∧ its.size ≤ sizeLine ∧ Vals (ss.map V.str) its.toList
theorem TupK.of {a : Addr} {d : Option Addr} {its : Array Value} {n : Nat} {sl : Array (Option Value)} {ss : List Str} (e : PySem.W.nsIn K mainGlobals x = some (some (.ref a))) (l : K.lookup a = some ⟨.type "tuple", d, .seq its n, sl⟩) (v : Vals (ss.map V.str) its.toList) (z : its.size ≤ sizeLine) : TupK K x ss := ⟨a, d, its, n, sl, e, l, z, v⟩
theorem reps_strsV {p : Addr} {X : Addr → Prop} {H : Hp} : ∀ {ss : List Str}, (∀ s ∈ ss, s.length ≤ lim) → Reps K p X H (ss.map .str) (ss.map V.str)
  | [], _ => rfl
  | s :: ss, q => ⟨_, _, rfl, ⟨rfl, q s (List.mem_cons_self ..)⟩, reps_strsV fun t ht => q t (List.mem_cons_of_mem _ ht)⟩
theorem TupK.gk {ss : List Str} (I : TupK K x ss) (X : K.In h) (G : h.Ns mainGlobals mg) (q : ∀ s ∈ ss, s.length ≤ lim) (ql : ss.length ≤ lim) : Gk K mg x (.tup (ss.map .str)) := by
  obtain ⟨a, d, its, n, sl, e, l, z, v⟩ := I.ex
  exact ⟨.ref a, _, PySem.W.mg_of X G e, rfl, fun _ _ _ => ⟨a, ss.map V.str, rfl, .inr ⟨_, its, n, l, rfl, rfl, z, v⟩, (by rw [List.length_map]; exact ql), reps_strsV q⟩⟩
end
end Dv

namespace Dv
open PySem PySem.Spec PyProof.Rows L2
theorem ar_is_integer : ∀ ds R, W_is_integer ds R → ds.length = (["value"] : List Str).length := by
  rintro ds R ⟨_, rfl, _⟩
  rfl
theorem ar_is_bit : ∀ ds R, W_is_bit ds R → ds.length = (["value"] : List Str).length := by
  rintro ds R ⟨_, rfl, _⟩
  rfl
theorem ar_is_tuple_of : ∀ ds R, W_is_tuple_of ds R → ds.length = (["value", "least", "most"] : List Str).length := by
  rintro ds R ⟨_, _, _, rfl, _⟩
  rfl
theorem ar_is_ascending : ∀ ds R, W_is_ascending ds R → ds.length = (["rows"] : List Str).length := by
  rintro ds R ⟨_, rfl, _⟩
  rfl
theorem ar_without_doubles : ∀ ds R, W_without_doubles ds R → ds.length = (["rows"] : List Str).length := by
  rintro ds R ⟨rfl, _⟩
  rfl
theorem ar_is_name : ∀ ds R, W_is_name ds R → ds.length = (["value"] : List Str).length := by
  rintro ds R ⟨_, rfl, _⟩
  rfl
theorem ar_is_house : ∀ ds R, W_is_house ds R → ds.length = (["value"] : List Str).length := by
  rintro ds R ⟨_, rfl, _⟩
  rfl
theorem ar__law_next : ∀ ds R, W__law_next ds R → ds.length = (["stream", "many"] : List Str).length := by
  rintro ds R ⟨_, rfl, _⟩
  rfl
theorem ar__law_says : ∀ ds R, W__law_says ds R → ds.length = (["actual", "due"] : List Str).length := by
  rintro ds R ⟨_, _, rfl, _⟩
  rfl
theorem ar__law_is_name : ∀ ds R, W__law_is_name ds R → ds.length = (["value"] : List Str).length := by
  rintro ds R ⟨_, rfl, _⟩
  rfl
theorem ar__law_is_row : ∀ ds R, W__law_is_row ds R → ds.length = (["names", "value"] : List Str).length := by
  rintro ds R ⟨_, _, rfl, _⟩
  rfl
theorem ar_is_from_to : ∀ ds R, W_is_from_to ds R → ds.length = (["value", "least", "most"] : List Str).length := by
  rintro ds R ⟨_, _, _, rfl, _⟩
  rfl
theorem ar_is_name_row : ∀ ds R, W_is_name_row ds R → ds.length = (["value", "least"] : List Str).length := by
  rintro ds R ⟨_, _, rfl, _⟩
  rfl
theorem ar_is_row_over : ∀ ds R, W_is_row_over ds R → ds.length = (["names", "value"] : List Str).length := by
  rintro ds R ⟨_, _, rfl, _⟩
  rfl
theorem ar__law_pick : ∀ ds R, W__law_pick ds R → ds.length = (["stream", "rows"] : List Str).length := by
  rintro ds R ⟨_, rfl, _⟩
  rfl
theorem ar__law_bit : ∀ ds R, W__law_bit ds R → ds.length = (["stream"] : List Str).length := by
  rintro ds R ⟨rfl, _⟩
  rfl
theorem ar__law_are_names : ∀ ds R, W__law_are_names ds R → ds.length = (["value"] : List Str).length := by
  rintro ds R ⟨_, rfl, _⟩
  rfl
theorem ar_is_source : ∀ ds R, W_is_source ds R → ds.length = (["value"] : List Str).length := by
  rintro ds R ⟨_, rfl, _⟩
  rfl
theorem ar_is_names : ∀ ds R, W_is_names ds R → ds.length = (["value"] : List Str).length := by
  rintro ds R ⟨_, rfl, _⟩
  rfl
theorem ar__law_name : ∀ ds R, W__law_name ds R → ds.length = (["stream"] : List Str).length := by
  rintro ds R ⟨rfl, _⟩
  rfl
theorem ar__law_row : ∀ ds R, W__law_row ds R → ds.length = (["stream", "many"] : List Str).length := by
  rintro ds R ⟨_, rfl, _⟩
  rfl
theorem ar__law_near_row : ∀ ds R, W__law_near_row ds R → ds.length = (["stream", "row"] : List Str).length := by
  rintro ds R ⟨_, rfl, _⟩
  rfl
theorem ar_check_names : ∀ ds R, W_check_names ds R → ds.length = (["names", "name"] : List Str).length := by
  rintro ds R ⟨_, _, rfl, _⟩
  rfl
theorem ar__law_names : ∀ ds R, W__law_names ds R → ds.length = (["stream", "many"] : List Str).length := by
  rintro ds R ⟨_, rfl, _⟩
  rfl
theorem ar__law_text : ∀ ds R, W__law_text ds R → ds.length = (["stream"] : List Str).length := by
  rintro ds R ⟨rfl, _⟩
  rfl
theorem ar_is_row : ∀ ds R, W_is_row ds R → ds.length = (["names", "value"] : List Str).length := by
  rintro ds R ⟨_, _, rfl, _⟩
  rfl
theorem ar__law_bent : ∀ ds R, W__law_bent ds R → ds.length = (["stream", "names"] : List Str).length := by
  rintro ds R ⟨_, rfl, _⟩
  rfl
theorem ar_is_book : ∀ ds R, W_is_book ds R → ds.length = (["value"] : List Str).length := by
  rintro ds R ⟨_, _, rfl, _⟩
  rfl
theorem ar__law_kept : ∀ ds R, W__law_kept ds R → ds.length = (["stream", "value"] : List Str).length := by
  rintro ds R ⟨_, rfl, _⟩
  rfl
/-- what the top has written, by the Frag -/
structure Tops (K : PySem.W.Frag) : Prop where
  f_is_integer : FnK K "is_integer" (top 8)
  f_is_bit : FnK K "is_bit" (top 9)
  f_is_from_to : FnK K "is_from_to" (top 10)
  f_is_tuple_of : FnK K "is_tuple_of" (top 11)
  f_is_ascending : FnK K "is_ascending" (top 12)
  f_without_doubles : FnK K "without_doubles" (top 13)
  f_is_name : FnK K "is_name" (top 15)
  f_is_source : FnK K "is_source" (top 16)
  f_is_house : FnK K "is_house" (top 17)
  f_is_name_row : FnK K "is_name_row" (top 18)
  f_is_names : FnK K "is_names" (top 19)
  f_is_row_over : FnK K "is_row_over" (top 21)
  f_check_names : FnKD K "check_names" (top 22) (.str "names")
  f_is_row : FnK K "is_row" (top 23)
  f_is_entry : FnK K "is_entry" (top 33)
  f_is_book : FnK K "is_book" (top 34)
  f__law_stream : FnK K "_law_stream" (top 36)
  f__law_next : FnK K "_law_next" (top 37)
  f__law_pick : FnK K "_law_pick" (top 38)
  f__law_says : FnK K "_law_says" (top 39)
  f__law_name : FnK K "_law_name" (top 40)
  f__law_names : FnK K "_law_names" (top 41)
  f__law_bit : FnK K "_law_bit" (top 42)
  f__law_row : FnK K "_law_row" (top 43)
  f__law_text : FnK K "_law_text" (top 44)
  f__law_is_name : FnK K "_law_is_name" (top 45)
  f__law_are_names : FnK K "_law_are_names" (top 46)
  f__law_kept : FnK K "_law_kept" (top 47)
  f__law_bent : FnK K "_law_bent" (top 48)
  f__law_near_row : FnK K "_law_near_row" (top 49)
  f__law_is_row : FnK K "_law_is_row" (top 50)
  f_law : FnK K "law" (top 51)
  b_abs : PySem.W.nsIn K mainGlobals "abs" = some none
  b_all : PySem.W.nsIn K mainGlobals "all" = some none
  b_bool : PySem.W.nsIn K mainGlobals "bool" = some none
  b_int : PySem.W.nsIn K mainGlobals "int" = some none
  b_isinstance : PySem.W.nsIn K mainGlobals "isinstance" = some none
  b_len : PySem.W.nsIn K mainGlobals "len" = some none
  b_list : PySem.W.nsIn K mainGlobals "list" = some none
  b_range : PySem.W.nsIn K mainGlobals "range" = some none
  b_sorted : PySem.W.nsIn K mainGlobals "sorted" = some none
  b_str : PySem.W.nsIn K mainGlobals "str" = some none
  b_tuple : PySem.W.nsIn K mainGlobals "tuple" = some none
  g_HOUSES : TupK K "HOUSES" houses
  g_MOST_ENTRIES : IntK K "MOST_ENTRIES" 150
  g_MOST_NAMES : IntK K "MOST_NAMES" 40
  g_MOST_SIGNS : IntK K "MOST_SIGNS" 12
  g_MOST_SOURCE : IntK K "MOST_SOURCE" 5
theorem law_ok {K : PySem.W.Frag} {P : Program} {w : World} {mg : Str → Option Value} {base h : Heap} (X : K.In h) (G : h.Ns mainGlobals mg) (E : Tops K) :
    ∃ (f : Addr) (fd : FuncData), PySem.W.nsIn K mainGlobals "law" = some (some (.ref f)) ∧ Fun K "law" "law" (top 51) f fd ∧ FnOk P w K mg base CX0 9 f fd ["script"] (sp_law K) := by
  have T : Tx K mg := ⟨PySem.W.mg_none_of X G E.b_abs, PySem.W.mg_none_of X G E.b_all, PySem.W.mg_none_of X G E.b_bool, PySem.W.mg_none_of X G E.b_int, PySem.W.mg_none_of X G E.b_isinstance, PySem.W.mg_none_of X G E.b_len, PySem.W.mg_none_of X G E.b_list, PySem.W.mg_none_of X G E.b_range, PySem.W.mg_none_of X G E.b_sorted, PySem.W.mg_none_of X G E.b_str, PySem.W.mg_none_of X G E.b_tuple, (E.g_HOUSES.gk X G (by decide +kernel) (by decide +kernel)), (E.g_MOST_ENTRIES.gk X G), (E.g_MOST_NAMES.gk X G), (E.g_MOST_SIGNS.gk X G), (E.g_MOST_SOURCE.gk X G)⟩
  have k_is_integer : Kn P w K mg base "is_integer" 1 dv_is_integer (spN K W_is_integer) := kn_of X G E.f_is_integer sc_is_integer ar_is_integer (fun cdv A outer s H E hr => ⟨_, de_is_integer T  hr, pf_is_integer⟩) (fun _ _ _ _ _ _ us hl => match us, hl with | [_], _ => rfl)
  have k_is_bit : Kn P w K mg base "is_bit" 1 dv_is_bit (spN K W_is_bit) := kn_of X G E.f_is_bit sc_is_bit ar_is_bit (fun cdv A outer s H E hr => ⟨_, de_is_bit T  hr, pf_is_bit⟩) (fun _ _ _ _ _ _ us hl => match us, hl with | [_], _ => rfl)
  have k_is_tuple_of : Kn P w K mg base "is_tuple_of" 1 dv_is_tuple_of (spN K W_is_tuple_of) := kn_of X G E.f_is_tuple_of sc_is_tuple_of ar_is_tuple_of (fun cdv A outer s H E hr => ⟨_, de_is_tuple_of T  hr, pf_is_tuple_of⟩) (fun _ _ _ _ _ _ us hl => match us, hl with | [_, _, _], _ => rfl)
  have k_is_ascending : Kn P w K mg base "is_ascending" 1 dv_is_ascending (spN K W_is_ascending) := kn_of X G E.f_is_ascending sc_is_ascending ar_is_ascending (fun cdv A outer s H E hr => ⟨_, de_is_ascending T  hr, pf_is_ascending⟩) (fun _ _ _ _ _ _ us hl => match us, hl with | [_], _ => rfl)
  have k_without_doubles : Kn P w K mg base "without_doubles" 1 dv_without_doubles (spN K W_without_doubles) := kn_of X G E.f_without_doubles sc_without_doubles ar_without_doubles (fun cdv A outer s H E hr => ⟨_, de_without_doubles T  hr, pf_without_doubles_raw⟩) (fun _ _ _ _ _ _ us hl => match us, hl with | [_], _ => rfl)
  have k_is_name : Kn P w K mg base "is_name" 1 dv_is_name (spN K W_is_name) := kn_of X G E.f_is_name sc_is_name ar_is_name (fun cdv A outer s H E hr => ⟨_, de_is_name T  hr, pf_is_name⟩) (fun _ _ _ _ _ _ us hl => match us, hl with | [_], _ => rfl)
  have k_is_house : Kn P w K mg base "is_house" 1 dv_is_house (spN K W_is_house) := kn_of X G E.f_is_house sc_is_house ar_is_house (fun cdv A outer s H E hr => ⟨_, de_is_house T  hr, pf_is_house⟩) (fun _ _ _ _ _ _ us hl => match us, hl with | [_], _ => rfl)
  have k__law_stream : Kn P w K mg base "_law_stream" 1 dv__law_stream (sp__law_stream K) := kn_raw X G E.f__law_stream sc__law_stream (fun vs H Q E h => by obtain ⟨a, ns, rfl, _⟩ := h; rfl) (fun F cdv A outer s H vs Q E hr h => ⟨_, de__law_stream T  hr, pf__law_stream_raw h⟩) (fun _ _ _ _ _ _ us hl => match us, hl with | [_], _ => rfl)
  have k__law_next : Kn P w K mg base "_law_next" 1 dv__law_next (spN K W__law_next) := kn_of X G E.f__law_next sc__law_next ar__law_next (fun cdv A outer s H E hr => ⟨_, de__law_next T  hr, pf__law_next⟩) (fun _ _ _ _ _ _ us hl => match us, hl with | [_, _], _ => rfl)
  have k__law_says : Kn P w K mg base "_law_says" 1 dv__law_says (spN K W__law_says) := kn_of X G E.f__law_says sc__law_says ar__law_says (fun cdv A outer s H E hr => ⟨_, de__law_says T  hr, pf__law_says⟩) (fun _ _ _ _ _ _ us hl => match us, hl with | [_, _], _ => rfl)
  have k__law_is_name : Kn P w K mg base "_law_is_name" 1 dv__law_is_name (spN K W__law_is_name) := kn_of X G E.f__law_is_name sc__law_is_name ar__law_is_name (fun cdv A outer s H E hr => ⟨_, de__law_is_name T  hr, pf__law_is_name⟩) (fun _ _ _ _ _ _ us hl => match us, hl with | [_], _ => rfl)
  have k__law_is_row : Kn P w K mg base "_law_is_row" 1 dv__law_is_row (spN K W__law_is_row) := kn_of X G E.f__law_is_row sc__law_is_row ar__law_is_row (fun cdv A outer s H E hr => ⟨_, de__law_is_row T  hr, pf__law_is_row⟩) (fun _ _ _ _ _ _ us hl => match us, hl with | [_, _], _ => rfl)
  have k_is_from_to : Kn P w K mg base "is_from_to" 2 dv_is_from_to (spN K W_is_from_to) := kn_of X G E.f_is_from_to sc_is_from_to ar_is_from_to (fun cdv A outer s H E hr => ⟨_, de_is_from_to T k_is_integer hr, pf_is_from_to⟩) (fun _ _ _ _ _ _ us hl => match us, hl with | [_, _, _], _ => rfl)
  have k_is_name_row : Kn P w K mg base "is_name_row" 2 dv_is_name_row (spN K W_is_name_row) := kn_of X G E.f_is_name_row sc_is_name_row ar_is_name_row (fun cdv A outer s H E hr => ⟨_, de_is_name_row T k_is_tuple_of k_is_ascending k_is_name hr, pf_is_name_row⟩) (fun _ _ _ _ _ _ us hl => match us, hl with | [_, _], _ => rfl)
  have k_is_row_over : Kn P w K mg base "is_row_over" 2 dv_is_row_over (spN K W_is_row_over) := kn_of X G E.f_is_row_over sc_is_row_over ar_is_row_over (fun cdv A outer s H E hr => ⟨_, de_is_row_over T k_is_bit k_is_tuple_of hr, pf_is_row_over⟩) (fun _ _ _ _ _ _ us hl => match us, hl with | [_, _], _ => rfl)
  have k__law_pick : Kn P w K mg base "_law_pick" 2 dv__law_pick (spN K W__law_pick) := kn_of X G E.f__law_pick sc__law_pick ar__law_pick (fun cdv A outer s H E hr => ⟨_, de__law_pick T k__law_next hr, pf__law_pick⟩) (fun _ _ _ _ _ _ us hl => match us, hl with | [_, _], _ => rfl)
  have k__law_bit : Kn P w K mg base "_law_bit" 2 dv__law_bit (spN K W__law_bit) := kn_of X G E.f__law_bit sc__law_bit ar__law_bit (fun cdv A outer s H E hr => ⟨_, de__law_bit T k__law_next hr, pf__law_bit⟩) (fun _ _ _ _ _ _ us hl => match us, hl with | [_], _ => rfl)
  have k__law_are_names : Kn P w K mg base "_law_are_names" 2 dv__law_are_names (spN K W__law_are_names) := kn_of X G E.f__law_are_names sc__law_are_names ar__law_are_names (fun cdv A outer s H E hr => ⟨_, de__law_are_names T k__law_is_name hr, pf__law_are_names⟩) (fun _ _ _ _ _ _ us hl => match us, hl with | [_], _ => rfl)
  have k_is_source : Kn P w K mg base "is_source" 3 dv_is_source (spN K W_is_source) := kn_of X G E.f_is_source sc_is_source ar_is_source (fun cdv A outer s H E hr => ⟨_, de_is_source T k_is_from_to hr, pf_is_source⟩) (fun _ _ _ _ _ _ us hl => match us, hl with | [_], _ => rfl)
  have k_is_names : Kn P w K mg base "is_names" 3 dv_is_names (spN K W_is_names) := kn_of X G E.f_is_names sc_is_names ar_is_names (fun cdv A outer s H E hr => ⟨_, de_is_names T k_is_name_row hr, pf_is_names⟩) (fun _ _ _ _ _ _ us hl => match us, hl with | [_], _ => rfl)
  have k__law_name : Kn P w K mg base "_law_name" 3 dv__law_name (spN K W__law_name) := kn_of X G E.f__law_name sc__law_name ar__law_name (fun cdv A outer s H E hr => ⟨_, de__law_name T k__law_next k__law_pick hr, pf__law_name⟩) (fun _ _ _ _ _ _ us hl => match us, hl with | [_], _ => rfl)
  have k__law_row : Kn P w K mg base "_law_row" 3 dv__law_row (spN K W__law_row) := kn_of X G E.f__law_row sc__law_row ar__law_row (fun cdv A outer s H E hr => ⟨_, de__law_row T k__law_next k__law_pick k__law_bit hr, pf__law_row⟩) (fun _ _ _ _ _ _ us hl => match us, hl with | [_, _], _ => rfl)
  have k__law_near_row : Kn P w K mg base "_law_near_row" 3 dv__law_near_row (spN K W__law_near_row) := kn_of X G E.f__law_near_row sc__law_near_row ar__law_near_row (fun cdv A outer s H E hr => ⟨_, de__law_near_row T k__law_next k__law_pick k__law_bit hr, pf__law_near_row⟩) (fun _ _ _ _ _ _ us hl => match us, hl with | [_, _], _ => rfl)
  have k_check_names : Kn P w K mg base "check_names" 4 dv_check_names (spN K W_check_names) := kn_dfl 1 X G E.f_check_names sc_check_names rfl ar_check_names (fun cdv A outer s H E hr => ⟨_, de_check_names T k_is_names hr, pf_check_names⟩) (fun T kV doc pm an cdv ct us its hu hi => match us, hu, its, hi with | [_], _, [_], _ => ⟨_, rfl, rfl⟩)
  have k__law_names : Kn P w K mg base "_law_names" 4 dv__law_names (spN K W__law_names) := kn_of X G E.f__law_names sc__law_names ar__law_names (fun cdv A outer s H E hr => ⟨_, de__law_names T k__law_next k__law_name hr, pf__law_names⟩) (fun _ _ _ _ _ _ us hl => match us, hl with | [_, _], _ => rfl)
  have k__law_text : Kn P w K mg base "_law_text" 4 dv__law_text (spN K W__law_text) := kn_of X G E.f__law_text sc__law_text ar__law_text (fun cdv A outer s H E hr => ⟨_, de__law_text T k__law_next k__law_pick k__law_name hr, pf__law_text⟩) (fun _ _ _ _ _ _ us hl => match us, hl with | [_], _ => rfl)
  have k_is_row : Kn P w K mg base "is_row" 5 dv_is_row (spN K W_is_row) := kn_of X G E.f_is_row sc_is_row ar_is_row (fun cdv A outer s H E hr => ⟨_, de_is_row T k_is_row_over k_check_names hr, pf_is_row⟩) (fun _ _ _ _ _ _ us hl => match us, hl with | [_, _], _ => rfl)
  have k__law_bent : Kn P w K mg base "_law_bent" 5 dv__law_bent (spN K W__law_bent) := kn_of X G E.f__law_bent sc__law_bent ar__law_bent (fun cdv A outer s H E hr => ⟨_, de__law_bent T k__law_next k__law_pick k__law_text hr, pf__law_bent⟩) (fun _ _ _ _ _ _ us hl => match us, hl with | [_, _], _ => rfl)
  have k_is_entry : Kn P w K mg base "is_entry" 6 dv_is_entry (spN K W_is_entry) := kn_no X G E.f_is_entry (ps := ["house", "names", "value"]) ⟨rfl, rfl, rfl, by decide +kernel, rfl, by decide +kernel, by decide +kernel⟩ (N := ["house", "names", "value"]) (fun _ _ z => z) (fun _ _ _ _ _ _ us hl => match us, hl with | [_, _, _], _ => rfl)
  have k_is_book : Kn P w K mg base "is_book" 7 dv_is_book (spN K W_is_book) := kn_of X G E.f_is_book sc_is_book ar_is_book (fun cdv A outer s H E hr => ⟨_, de_is_book T k_is_tuple_of k_without_doubles k_is_house k_is_names k_is_entry hr, pf_is_book⟩) (fun _ _ _ _ _ _ us hl => match us, hl with | [_], _ => rfl)
  have k__law_kept : Kn P w K mg base "_law_kept" 8 dv__law_kept (spN K W__law_kept) := kn_of X G E.f__law_kept sc__law_kept ar__law_kept (fun cdv A outer s H E hr => ⟨_, de__law_kept T k_is_names k_is_book k__law_pick k__law_says k__law_are_names hr, pf__law_kept⟩) (fun _ _ _ _ _ _ us hl => match us, hl with | [_, _], _ => rfl)
  obtain ⟨f, fd, a, F, hm, kp⟩ := E.f_law.get X G
  exact ⟨f, fd, a, F, F.ok sc_law (fun vs H Q E h => by obtain ⟨a, ns, rfl, _⟩ := h; rfl) fun cdv A outer s H vs Q E hr h => ⟨_, de_law T k_is_name k_is_source k_is_house k_is_names k_is_row k__law_stream k__law_next k__law_pick k__law_says k__law_name k__law_names k__law_row k__law_text k__law_is_name k__law_kept k__law_bent k__law_near_row k__law_is_row hr, pf_law_raw h⟩⟩
theorem all_mk {l : PySem.W.OpenLaw} {w : World} {K : PySem.W.Frag} {h : Heap} {mg : Str → Option Value} {fa : Addr} (X : K.In h) (G : h.Ns mainGlobals mg) (hfa : mg "law" = some (.ref fa)) (E : Tops K) :
    ∃ fd : FuncData, (∀ (s : Shared) (v : Value), BindsTo s fd ⟨[v], []⟩ [("script", v)]) ∧ ∀ base : Heap, K.In base → base.Ns mainGlobals mg → FnOk l.prog w K mg base CX0 9 fa fd ["script"] (sp_law K) := by
  obtain ⟨f, fd, a, F, _, _⟩ := E.f_law.get X G
  have e := hfa.symm.trans (PySem.W.mg_of X G a)
  cases e
  refine ⟨fd, fun s v => ?_, fun base _ _ => ?_⟩
  · obtain ⟨oc, od, kV, doc, pm, an, cdv, ct, osl, rfl, lk, hcd⟩ := F.ex
    exact .of_eq rfl
  · obtain ⟨f', fd', a', F', ok⟩ := law_ok (P := l.prog) (w := w) (mg := mg) (base := base) X G E
    rw [a] at a'
    cases a'
    have : fd = fd' := by
      obtain ⟨oc, od, kV, doc, pm, an, cdv, ct, osl, e1, lk, hcd⟩ := F.ex
      obtain ⟨oc', od', kV', doc', pm', an', cdv', ct', osl', e1', lk', hcd'⟩ := F'.ex
      rw [lk] at lk'
      cases lk'
      rfl
    subst this
    exact ok
theorem walk {l : PySem.W.OpenLaw} {q : Program} {loose : List Str} {XP : (Str → Option Value) → Heap → Prop} {YP : World → Heap → Prop} {d : DefRec} {K : Params → PySem.W.Frag} (hn : l.most = some 63) (hdf : d.params.defaults = [])
    (hY : ∀ (w : World) (h : Heap), YP w h → (K w.params).In h)
    (F : ∀ (w : World) (mg : Str → Option Value) (fa : Addr) (h : Heap), (K w.params).In h → h.Ns mainGlobals mg → mg d.name = some (.ref fa) →
      ∃ fd : FuncData, (∀ (s : Shared) (u : Value), BindsTo s fd ⟨[u], []⟩ [("script", u)]) ∧ ∀ base : Heap, (K w.params).In base → base.Ns mainGlobals mg → FnOk l.prog w (K w.params) mg base CX0 9 fa fd ["script"] (sp_law (K w.params))) :
    PySem.W.WalkO q loose XP YP l.row.toRowW d [] (fun f vs => PySem.call f vs) :=
  L2.walk_of (n := 63) (k := 9) (x := "script") (CX := fun _ => CX0) (sp := fun w => sp_law (K w.params)) hn (by decide) hdf ⟨rfl, by decide, by decide⟩ hY F (fun _ _ a ns hl _ hS => ⟨a, ns, rfl, hS, hl, fun _ => rfl⟩) fun _ _ _ _ _ z => z
end Dv

open PySem PySem.W PyProof.Rows
set_option maxRecDepth 100000 in
set_option maxHeartbeats 0 in
theorem PySem.Challenge.cw_fourclosed_k01_names_sources_houses_and_holds : PySem.Challenge.rw_fourclosed_k01_names_sources_houses_and.Holds := by
  w_on; o_law; k_head; (case hw => w_witness2)
  k_fill
  refine Dv.walk (l := PySem.Challenge.rw_fourclosed_k01_names_sources_houses_and) rfl rfl (fun w h Y => PySem.W.kIn_of Y) ?F
  case F =>
    intro w mg fa h KX G hmg
    refine Dv.all_mk KX G hmg ?_
    constructor
    · refine' Dv.FnK.of ?a ?l ?c ?k
      (case a => k_is); (case l => k_is); (case c => k_is); (case k => k_is)
    · refine' Dv.FnK.of ?a ?l ?c ?k
      (case a => k_is); (case l => k_is); (case c => k_is); (case k => k_is)
    · refine' Dv.FnK.of ?a ?l ?c ?k
      (case a => k_is); (case l => k_is); (case c => k_is); (case k => k_is)
    · refine' Dv.FnK.of ?a ?l ?c ?k
      (case a => k_is); (case l => k_is); (case c => k_is); (case k => k_is)
    · refine' Dv.FnK.of ?a ?l ?c ?k
      (case a => k_is); (case l => k_is); (case c => k_is); (case k => k_is)
    · refine' Dv.FnK.of ?a ?l ?c ?k
      (case a => k_is); (case l => k_is); (case c => k_is); (case k => k_is)
    · refine' Dv.FnK.of ?a ?l ?c ?k
      (case a => k_is); (case l => k_is); (case c => k_is); (case k => k_is)
    · refine' Dv.FnK.of ?a ?l ?c ?k
      (case a => k_is); (case l => k_is); (case c => k_is); (case k => k_is)
    · refine' Dv.FnK.of ?a ?l ?c ?k
      (case a => k_is); (case l => k_is); (case c => k_is); (case k => k_is)
    · refine' Dv.FnK.of ?a ?l ?c ?k
      (case a => k_is); (case l => k_is); (case c => k_is); (case k => k_is)
    · refine' Dv.FnK.of ?a ?l ?c ?k
      (case a => k_is); (case l => k_is); (case c => k_is); (case k => k_is)
    · refine' Dv.FnK.of ?a ?l ?c ?k
      (case a => k_is); (case l => k_is); (case c => k_is); (case k => k_is)
    · refine' Dv.FnKD.of ?a ?l ?t ?v ?c ?k
      (case a => k_is); (case l => k_is); (case t => k_is); (case v => exact ⟨_, rfl⟩); (case c => k_is); (case k => k_is)
    · refine' Dv.FnK.of ?a ?l ?c ?k
      (case a => k_is); (case l => k_is); (case c => k_is); (case k => k_is)
    · refine' Dv.FnK.of ?a ?l ?c ?k
      (case a => k_is); (case l => k_is); (case c => k_is); (case k => k_is)
    · refine' Dv.FnK.of ?a ?l ?c ?k
      (case a => k_is); (case l => k_is); (case c => k_is); (case k => k_is)
    · refine' Dv.FnK.of ?a ?l ?c ?k
      (case a => k_is); (case l => k_is); (case c => k_is); (case k => k_is)
    · refine' Dv.FnK.of ?a ?l ?c ?k
      (case a => k_is); (case l => k_is); (case c => k_is); (case k => k_is)
    · refine' Dv.FnK.of ?a ?l ?c ?k
      (case a => k_is); (case l => k_is); (case c => k_is); (case k => k_is)
    · refine' Dv.FnK.of ?a ?l ?c ?k
      (case a => k_is); (case l => k_is); (case c => k_is); (case k => k_is)
    · refine' Dv.FnK.of ?a ?l ?c ?k
      (case a => k_is); (case l => k_is); (case c => k_is); (case k => k_is)
    · refine' Dv.FnK.of ?a ?l ?c ?k
      (case a => k_is); (case l => k_is); (case c => k_is); (case k => k_is)
    · refine' Dv.FnK.of ?a ?l ?c ?k
      (case a => k_is); (case l => k_is); (case c => k_is); (case k => k_is)
    · refine' Dv.FnK.of ?a ?l ?c ?k
      (case a => k_is); (case l => k_is); (case c => k_is); (case k => k_is)
    · refine' Dv.FnK.of ?a ?l ?c ?k
      (case a => k_is); (case l => k_is); (case c => k_is); (case k => k_is)
    · refine' Dv.FnK.of ?a ?l ?c ?k
      (case a => k_is); (case l => k_is); (case c => k_is); (case k => k_is)
    · refine' Dv.FnK.of ?a ?l ?c ?k
      (case a => k_is); (case l => k_is); (case c => k_is); (case k => k_is)
    · refine' Dv.FnK.of ?a ?l ?c ?k
      (case a => k_is); (case l => k_is); (case c => k_is); (case k => k_is)
    · refine' Dv.FnK.of ?a ?l ?c ?k
      (case a => k_is); (case l => k_is); (case c => k_is); (case k => k_is)
    · refine' Dv.FnK.of ?a ?l ?c ?k
      (case a => k_is); (case l => k_is); (case c => k_is); (case k => k_is)
    · refine' Dv.FnK.of ?a ?l ?c ?k
      (case a => k_is); (case l => k_is); (case c => k_is); (case k => k_is)
    · refine' Dv.FnK.of ?a ?l ?c ?k
      (case a => k_is); (case l => k_is); (case c => k_is); (case k => k_is)
    · k_is
    · k_is
    · k_is
    · k_is
    · k_is
    · k_is
    · k_is
    · k_is
    · k_is
    · k_is
    · k_is
    · refine' Dv.TupK.of ?a ?l ?v ?z
      (case a => k_is); (case l => k_is); (case v => exact .cons ⟨_, rfl⟩ (.cons ⟨_, rfl⟩ (.cons ⟨_, rfl⟩ (.cons ⟨_, rfl⟩ .nil)))); (case z => decide)
    · exact Dv.IntK.of (by k_is)
    · exact Dv.IntK.of (by k_is)
    · exact Dv.IntK.of (by k_is)
    · exact Dv.IntK.of (by k_is)
