import PyProof.Rows.All
import Wide.All
import OpenK.AllK
import Wide.FinOn
import HandS.ForMost
import HandS.ForExc
import HandS.IsInst
import HandS.TryMany
import HandS.Deep
import HandS.TupAny
import HandS.Conv
import HandS.More
import HandS.Style
import HandS.TupMul
import HandS.TupLe
import PySem.Challenge.RW_heapsworn_k53_programs_judged
set_option Elab.async false
set_option linter.all false
set_option maxRecDepth 100000
/-! The data layer: readings of the hand layer over plain data (PyData), with tuples as values, lists and dicts of one's own by slot, and a hidden ghost (the deck). -/
namespace DL
open PySem PySem.Spec PyProof.Rows L2

abbrev D := PyData
abbrev Frag := PySem.W.Frag
/-- what a value is known as: a datum; a list with stable items; a dict; the ghost. own: a fresh one, of one's own -/
inductive R where
  | s (d : D)
  | l (own : Bool) (xs : List D)
  | k (own : Bool) (kvs : List (Key × D))
  | t (own : Bool) (kvs : List (List Key × D))
  | g
abbrev Rho := List (Option R)

/-- the ghost: where it stands, what holds of it, the value that is handed about -/
structure Gh where
  at_ : List Addr
  ok : Hp → Prop
  val : V
  stay : ∀ H H' : Hp, (∀ a ∈ at_, H' a = H a) → ok H → ok H'
  here : ∀ H : Hp, ok H → ∀ a ∈ at_, H a ≠ none
def G0 : Gh := ⟨[], fun _ => True, .non, fun _ _ _ _ => trivial, fun _ _ _ h => nomatch h⟩
/-- the deck: [cells, what is left of a great cell, a mixed number] -/
def deckOk (a c : Addr) (H : Hp) : Prop := ∃ (cells : List Int) (s m : Int), H a = some (.lst [.ref c, .int s, .int m]) ∧ H c = some (.lst (cells.map V.int)) ∧ (∀ x ∈ cells, 0 ≤ x ∧ x < 10 ^ 60) ∧ 0 ≤ s ∧ s < 10 ^ 60 ∧ 0 ≤ m ∧ m < 2147483647 ∧ cells.length ≤ 1000
def deckG (a c : Addr) : Gh := ⟨[a, c], deckOk a c, .ref a, fun H H' h ⟨cells, s, m, h1, h2, h3⟩ => ⟨cells, s, m, by rw [h a (by simp)]; exact h1, by rw [h c (by simp)]; exact h2, h3⟩,
  fun H ⟨cells, s, m, h1, h2, h3⟩ b hb => by
    rcases List.mem_cons.mp hb with rfl | hb
    · rw [h1]; exact fun z => nomatch z
    · rcases List.mem_cons.mp hb with rfl | hb
      · rw [h2]; exact fun z => nomatch z
      · cases hb⟩
def hide (G : Gh) (H : Hp) : Hp := fun a => if a ∈ G.at_ then none else H a
section
variable {G : Gh} {H H' B : Hp} {a p : Addr} {o : HO}
theorem hide_in (h : a ∈ G.at_) : hide G H a = none := if_pos h
theorem hide_out (h : a ∉ G.at_) : hide G H a = H a := if_neg h
theorem hide_some (h : hide G H a = some o) : a ∉ G.at_ ∧ H a = some o := by
  by_cases q : a ∈ G.at_
  · rw [hide_in q] at h; cases h
  · rw [hide_out q] at h; exact ⟨q, h⟩
theorem hide_free (h : H a = none) : hide G H a = none := by
  by_cases q : a ∈ G.at_
  · exact hide_in q
  · rw [hide_out q]; exact h
theorem hide_upd (h : p ∉ G.at_) : hide G (upd H p o) = upd (hide G H) p o := by
  funext b
  by_cases q : b = p
  · subst q; rw [hide_out h, upd_same, upd_same]
  · by_cases z : b ∈ G.at_
    · rw [hide_in z, upd_ne q, hide_in z]
    · rw [hide_out z, upd_ne q, upd_ne q, hide_out z]
theorem ghost_upd (h : p ∉ G.at_) (q : G.ok H) : G.ok (upd H p o) := G.stay _ _ (fun b hb => upd_ne (fun e => h (e ▸ hb))) q
end

/-- lists of one key kind and their values -/
inductive KvP (K : Frag) (B : Hp) {κ : Type} : List (κ × V) → List (κ × D) → Prop
  | nil : KvP K B [] []
  | cons {k : κ} {x : V} {d : D} {xs : List (κ × V)} {ds : List (κ × D)} : Dp K B x d → KvP K B xs ds → KvP K B ((k, x) :: xs) ((k, d) :: ds)

end DL
namespace L2
open PySem PySem.Spec PyProof.Rows
section
variable {K : PySem.W.Frag} {H H' : Hp}
theorem Same.sqL (e : Same H H') {a : Addr} {xs : List V} (h : SqL K H a xs) : SqL K H' a xs := Same.seq e h
theorem Same.sqT (e : Same H H') {a : Addr} {xs : List V} (h : SqT K H a xs) : SqT K H' a xs := by
  rcases h with (h | ⟨o, h⟩) | h
  · exact .inl (.inl (e _ _ h))
  · exact .inl (.inr ⟨o, e _ _ h⟩)
  · exact .inr h
mutual
theorem Dp.mono (e : Same H H') : ∀ {x : V} {d : PyData}, Dp K H x d → Dp K H' x d
  | _, _, .non => .non
  | _, _, .bl b => .bl b
  | _, _, .int i => .int i
  | _, _, .str x => .str x
  | _, _, .lst h t => .lst (Same.sqL e h) (DpAll.mono e t)
  | _, _, .tup h t => .tup (Same.sqT e h) (DpAll.mono e t)
theorem DpAll.mono (e : Same H H') : ∀ {xs : List V} {ds : List PyData}, DpAll K H xs ds → DpAll K H' xs ds
  | _, _, .nil => .nil
  | _, _, .cons h t => .cons (Dp.mono e h) (DpAll.mono e t)
end
theorem DpAll.length : ∀ {xs : List V} {ds : List PyData}, DpAll K H xs ds → xs.length = ds.length
  | _, _, .nil => rfl
  | _, _, .cons _ t => congrArg (· + 1) (DpAll.length t)
theorem DpAll.append : ∀ {xs ys : List V} {ds es : List PyData}, DpAll K H xs ds → DpAll K H ys es → DpAll K H (xs ++ ys) (ds ++ es)
  | _, _, _, _, .nil, h => h
  | _, _, _, _, .cons h t, h' => .cons h (DpAll.append t h')
theorem DpAll.get : ∀ {xs : List V} {ds : List PyData} {i : Nat} {d : PyData}, DpAll K H xs ds → ds[i]? = some d → ∃ x, xs[i]? = some x ∧ Dp K H x d
  | _, _, _, _, .nil, e => by simp at e
  | _, _, 0, _, .cons h _, e => by simp at e; subst e; exact ⟨_, by simp, h⟩
  | _, _, i + 1, _, .cons _ t, e => by
    obtain ⟨x, h1, h2⟩ := DpAll.get (i := i) t (by simpa using e)
    exact ⟨x, by simpa using h1, h2⟩
theorem DpAll.get' : ∀ {xs : List V} {ds : List PyData} {i : Nat} {x : V}, DpAll K H xs ds → xs[i]? = some x → ∃ d, ds[i]? = some d ∧ Dp K H x d
  | _, _, _, _, .nil, e => by simp at e
  | _, _, 0, _, .cons h _, e => by simp at e; subst e; exact ⟨_, by simp, h⟩
  | _, _, i + 1, _, .cons _ t, e => by
    obtain ⟨x, h1, h2⟩ := DpAll.get' (i := i) t (by simpa using e)
    exact ⟨x, by simpa using h1, h2⟩
theorem DpAll.take : ∀ {xs : List V} {ds : List PyData} (n : Nat), DpAll K H xs ds → DpAll K H (xs.take n) (ds.take n)
  | _, _, 0, _ => .nil
  | _, _, _ + 1, .nil => .nil
  | _, _, n + 1, .cons h t => .cons h (DpAll.take n t)
theorem DpAll.drop : ∀ {xs : List V} {ds : List PyData} (n : Nat), DpAll K H xs ds → DpAll K H (xs.drop n) (ds.drop n)
  | _, _, 0, h => h
  | _, _, _ + 1, .nil => .nil
  | _, _, n + 1, .cons _ t => DpAll.drop n t
theorem DpAll.set : ∀ {xs : List V} {ds : List PyData} {x : V} {d : PyData} (n : Nat), DpAll K H xs ds → Dp K H x d → DpAll K H (xs.set n x) (ds.set n d)
  | _, _, _, _, _, .nil, _ => .nil
  | _, _, _, _, 0, .cons _ t, r => .cons r t
  | _, _, _, _, n + 1, .cons h t, r => .cons h (DpAll.set n t r)
theorem DpAll.reverse : ∀ {xs : List V} {ds : List PyData}, DpAll K H xs ds → DpAll K H xs.reverse ds.reverse
  | _, _, .nil => .nil
  | _, _, .cons h t => by rw [List.reverse_cons, List.reverse_cons]; exact DpAll.append (DpAll.reverse t) (.cons h .nil)
theorem DpAll.ints : ∀ (ns : List Int), DpAll K H (ns.map V.int) (ns.map PyData.int)
  | [] => .nil
  | n :: ns => .cons (.int n) (DpAll.ints ns)
theorem DpAll.ints' : ∀ {xs : List V} {ns : List Int}, DpAll K H xs (ns.map PyData.int) → xs = ns.map V.int
  | _, [], .nil => rfl
  | _, n :: ns, .cons h t => by cases h; rw [DpAll.ints' t]; rfl
theorem DpAll.bls' : ∀ {xs : List V} {bs : List Bool}, DpAll K H xs (bs.map PyData.bool) → xs = bs.map V.bl
  | _, [], .nil => rfl
  | _, n :: ns, .cons h t => by cases h; rw [DpAll.bls' t]; rfl
end

end L2
namespace DL
open PySem PySem.Spec PyProof.Rows L2
section
variable {K : Frag} {H H' : Hp}
theorem KvP.mono {κ : Type} (e : Same H H') : ∀ {xs : List (κ × V)} {ds : List (κ × D)}, KvP K H xs ds → KvP K H' xs ds
  | _, _, .nil => .nil
  | _, _, .cons h t => .cons (Dp.mono e h) (KvP.mono e t)
end
/-! ### steps and states -/
/-- from (B, H) to (B', H'): what was stable stays, what was tracked stays (but for the ghost), and what was not stable does not become so if it stood there -/
structure Stp (G : Gh) (B H B' H' : Hp) : Prop where
  bb : Same B B'
  hh : Same (hide G H) (hide G H')
  nw : ∀ a o, B a = none → hide G H a = some o → B' a = none
section
variable {G : Gh} {B H B1 H1 B2 H2 : Hp}
theorem Stp.refl (G : Gh) (B H : Hp) : Stp G B H B H := ⟨Same.refl _, Same.refl _, fun _ _ h _ => h⟩
theorem Stp.trans (s : Stp G B H B1 H1) (t : Stp G B1 H1 B2 H2) : Stp G B H B2 H2 :=
  ⟨s.bb.trans t.bb, s.hh.trans t.hh, fun a o h1 h2 => t.nw a o (s.nw a o h1 h2) (s.hh a o h2)⟩
/-- a new object, not stable -/
theorem Stp.new {p : Addr} {o : HO} (h : H p = none) : Stp G B H B (upd H p o) := ⟨Same.refl _, fun a u e => by
    obtain ⟨z, e⟩ := hide_some e
    rw [hide_out z, upd_ne (ne_of_none e h)]; exact e, fun _ _ h _ => h⟩
/-- a new object, stable at once -/
theorem Stp.newS {p : Addr} {o : HO} (h : H p = none) (hb : B p = none) : Stp G B H (upd B p o) (upd H p o) := ⟨fun a u e => by
    rw [upd_ne (ne_of_none e hb)]; exact e, (Stp.new (G := G) (B := B) h).hh, fun a u h1 h2 => by
    rw [upd_ne (ne_of_none (hide_some h2).2 h)]; exact h1⟩
end

/-- what a slot's value is -/
def SlotR (K : Frag) (G : Gh) (B0 H0 B H : Hp) (x : V) : R → Prop
  | .s d => Dp K B x d
  | .l false ds => ∃ p xs, x = .ref p ∧ hide G H0 p = some (.lst xs) ∧ DpAll K B xs ds
  | .l true ds => ∃ p xs, x = .ref p ∧ H p = some (.lst xs) ∧ DpAll K B xs ds ∧ B p = none ∧ p ∉ G.at_ ∧ hide G H0 p = none
  | .k false ds => ∃ p xs, x = .ref p ∧ hide G H0 p = some (.dK xs) ∧ KvP K B xs ds
  | .k true ds => ∃ p xs, x = .ref p ∧ H p = some (.dK xs) ∧ KvP K B xs ds ∧ B p = none ∧ p ∉ G.at_ ∧ hide G H0 p = none
  | .t false ds => ∃ p xs, x = .ref p ∧ hide G H0 p = some (.dT xs) ∧ KvP K B xs ds
  | .t true ds => ∃ p xs, x = .ref p ∧ H p = some (.dT xs) ∧ KvP K B xs ds ∧ B p = none ∧ p ∉ G.at_ ∧ hide G H0 p = none
  | .g => ∃ a c, x = .ref a ∧ G = deckG a c
def owns : R → Bool
  | .l true _ | .k true _ | .t true _ => true
  | _ => false
structure Stt (K : Frag) (G : Gh) (B0 H0 B H : Hp) (σ : L2.St) (ρ : Rho) : Prop where
  len : ρ.length = σ.length
  bh : Same B (hide G H)
  gok : G.ok H
  st : Stp G B0 H0 B H
  sl : ∀ (i : Nat) (r : R), ρ[i]? = some (some r) → ∃ x, σ[i]? = some (some x) ∧ SlotR K G B0 H0 B H x r
  dis : ∀ (i j : Nat) (r u : R) (x : V), i ≠ j → ρ[i]? = some (some r) → ρ[j]? = some (some u) → owns r = true → owns u = true → σ[i]? = some (some x) → σ[j]? = some (some x) → False

/-- what an expression's value is, from H on -/
def Rs (K : Frag) (G : Gh) (H B' H' : Hp) (x : V) : R → Prop
  | .s d => Dp K B' x d
  | .l own ds => ∃ p xs, x = .ref p ∧ hide G H' p = some (.lst xs) ∧ DpAll K B' xs ds ∧ (own = true → B' p = none ∧ hide G H p = none)
  | .k own ds => ∃ p xs, x = .ref p ∧ hide G H' p = some (.dK xs) ∧ KvP K B' xs ds ∧ (own = true → B' p = none ∧ hide G H p = none)
  | .t own ds => ∃ p xs, x = .ref p ∧ hide G H' p = some (.dT xs) ∧ KvP K B' xs ds ∧ (own = true → B' p = none ∧ hide G H p = none)
  | .g => ∃ a c, x = .ref a ∧ G = deckG a c

section
variable {K : Frag} {G : Gh} {B0 H0 B H B' H' B1 H1 : Hp} {σ : L2.St} {ρ : Rho} {x : V} {r : R}
theorem SlotR.step (h : SlotR K G B0 H0 B H x r) (s : Stp G B H B' H') : SlotR K G B0 H0 B' H' x r := by
  have up : ∀ {p : Addr} {o : HO}, H p = some o → p ∉ G.at_ → H' p = some o := fun {p o} e z => by
    have := s.hh p o (by rw [hide_out z]; exact e)
    exact (hide_some this).2
  match r, h with
  | .s d, h => exact Dp.mono s.bb h
  | .l false ds, ⟨p, xs, e, h1, h2⟩ => exact ⟨p, xs, e, h1, DpAll.mono s.bb h2⟩
  | .l true ds, ⟨p, xs, e, h1, h2, h3, h4, h5⟩ => exact ⟨p, xs, e, up h1 h4, DpAll.mono s.bb h2, s.nw p _ h3 (by rw [hide_out h4]; exact h1), h4, h5⟩
  | .k false ds, ⟨p, xs, e, h1, h2⟩ => exact ⟨p, xs, e, h1, KvP.mono s.bb h2⟩
  | .k true ds, ⟨p, xs, e, h1, h2, h3, h4, h5⟩ => exact ⟨p, xs, e, up h1 h4, KvP.mono s.bb h2, s.nw p _ h3 (by rw [hide_out h4]; exact h1), h4, h5⟩
  | .t false ds, ⟨p, xs, e, h1, h2⟩ => exact ⟨p, xs, e, h1, KvP.mono s.bb h2⟩
  | .t true ds, ⟨p, xs, e, h1, h2, h3, h4, h5⟩ => exact ⟨p, xs, e, up h1 h4, KvP.mono s.bb h2, s.nw p _ h3 (by rw [hide_out h4]; exact h1), h4, h5⟩
  | .g, h => exact h
theorem Stt.step (h : Stt K G B0 H0 B H σ ρ) (s : Stp G B H B' H') (bh : Same B' (hide G H')) (gok : G.ok H') : Stt K G B0 H0 B' H' σ ρ :=
  ⟨h.len, bh, gok, h.st.trans s, fun i r e => let ⟨x, e1, e2⟩ := h.sl i r e; ⟨x, e1, e2.step s⟩, h.dis⟩
theorem Rs.step (h : Rs K G H B1 H1 x r) (s : Stp G B1 H1 B' H') : Rs K G H B' H' x r := by
  match r, h with
  | .s d, h => exact Dp.mono s.bb h
  | .l own ds, ⟨p, xs, e, h1, h2, h3⟩ =>
    exact ⟨p, xs, e, s.hh _ _ h1, DpAll.mono s.bb h2, fun o => let ⟨a, b⟩ := h3 o; ⟨s.nw p _ a h1, b⟩⟩
  | .k own ds, ⟨p, xs, e, h1, h2, h3⟩ => exact ⟨p, xs, e, s.hh _ _ h1, KvP.mono s.bb h2, fun o => let ⟨a, b⟩ := h3 o; ⟨s.nw p _ a h1, b⟩⟩
  | .t own ds, ⟨p, xs, e, h1, h2, h3⟩ => exact ⟨p, xs, e, s.hh _ _ h1, KvP.mono s.bb h2, fun o => let ⟨a, b⟩ := h3 o; ⟨s.nw p _ a h1, b⟩⟩
  | .g, h => exact h
/-- from an earlier start -/
theorem Rs.from (h : Rs K G H1 B' H' x r) (s : Stp G B H B1 H1) : Rs K G H B' H' x r := by
  have fr : ∀ {p : Addr}, hide G H1 p = none → hide G H p = none := fun e => s.hh.free e
  match r, h with
  | .s d, h => exact h
  | .l own ds, ⟨p, xs, e, h1, h2, h3⟩ => exact ⟨p, xs, e, h1, h2, fun o => let ⟨a, b⟩ := h3 o; ⟨a, fr b⟩⟩
  | .k own ds, ⟨p, xs, e, h1, h2, h3⟩ => exact ⟨p, xs, e, h1, h2, fun o => let ⟨a, b⟩ := h3 o; ⟨a, fr b⟩⟩
  | .t own ds, ⟨p, xs, e, h1, h2, h3⟩ => exact ⟨p, xs, e, h1, h2, fun o => let ⟨a, b⟩ := h3 o; ⟨a, fr b⟩⟩
  | .g, h => exact h
theorem Stt.notG (h : Stt K G B0 H0 B H σ ρ) {p : Addr} (e : H p = none) : p ∉ G.at_ := fun z => G.here _ h.gok _ z e
theorem Stt.freeB (h : Stt K G B0 H0 B H σ ρ) {p : Addr} (e : H p = none) : B p = none := h.bh.free (hide_free e)
/-- a slot read: never as one's own -/
def peek : R → R
  | .l _ xs => .l false xs
  | .k _ xs => .k false xs
  | .t _ xs => .t false xs
  | r => r
theorem SlotR.rs (h : SlotR K G B0 H0 B H x r) (s : Stp G B0 H0 B H) : Rs K G H B H x (peek r) := by
  match r, h with
  | .s d, h => exact h
  | .l false ds, ⟨p, xs, e, h1, h2⟩ => exact ⟨p, xs, e, s.hh _ _ h1, h2, fun o => by cases o⟩
  | .l true ds, ⟨p, xs, e, h1, h2, h3, h4, h5⟩ => exact ⟨p, xs, e, by rw [hide_out h4]; exact h1, h2, fun o => by cases o⟩
  | .k false ds, ⟨p, xs, e, h1, h2⟩ => exact ⟨p, xs, e, s.hh _ _ h1, h2, fun o => by cases o⟩
  | .k true ds, ⟨p, xs, e, h1, h2, h3, h4, h5⟩ => exact ⟨p, xs, e, by rw [hide_out h4]; exact h1, h2, fun o => by cases o⟩
  | .t false ds, ⟨p, xs, e, h1, h2⟩ => exact ⟨p, xs, e, s.hh _ _ h1, h2, fun o => by cases o⟩
  | .t true ds, ⟨p, xs, e, h1, h2, h3, h4, h5⟩ => exact ⟨p, xs, e, by rw [hide_out h4]; exact h1, h2, fun o => by cases o⟩
  | .g, h => exact h
/-- the owner of an object is away from all that is stable or older -/
theorem SlotR.own (h : SlotR K G B0 H0 B H x r) (o : owns r = true) : ∃ p u, x = .ref p ∧ H p = some u ∧ B p = none ∧ p ∉ G.at_ ∧ hide G H0 p = none := by
  match r, h with
  | .l true ds, ⟨p, xs, e, h1, h2, h3, h4, h5⟩ => exact ⟨p, _, e, h1, h3, h4, h5⟩
  | .k true ds, ⟨p, xs, e, h1, h2, h3, h4, h5⟩ => exact ⟨p, _, e, h1, h3, h4, h5⟩
  | .t true ds, ⟨p, xs, e, h1, h2, h3, h4, h5⟩ => exact ⟨p, _, e, h1, h3, h4, h5⟩
  | .s d, _ => cases o
  | .l false ds, _ => cases o
  | .k false ds, _ => cases o
  | .t false ds, _ => cases o
  | .g, _ => cases o
/-- what may be kept in a slot: data, and what is fresh -/
def keeps : R → Bool
  | .s _ => true
  | .g => true
  | .l o _ | .k o _ | .t o _ => o
theorem Rs.own_new (h : Rs K G H B' H' x r) (o : owns r = true) : ∃ p, x = .ref p ∧ hide G H p = none := by
  match r, o, h with
  | .l true ds, _, ⟨p, xs, e, h1, h2, h3⟩ => exact ⟨p, e, (h3 rfl).2⟩
  | .k true ds, _, ⟨p, xs, e, h1, h2, h3⟩ => exact ⟨p, e, (h3 rfl).2⟩
  | .t true ds, _, ⟨p, xs, e, h1, h2, h3⟩ => exact ⟨p, e, (h3 rfl).2⟩
theorem Rs.own_at (h : Rs K G H B' H' x r) (o : owns r = true) : ∃ p u, x = .ref p ∧ hide G H' p = some u := by
  match r, o, h with
  | .l true ds, _, ⟨p, xs, e, h1, h2, h3⟩ => exact ⟨p, _, e, h1⟩
  | .k true ds, _, ⟨p, xs, e, h1, h2, h3⟩ => exact ⟨p, _, e, h1⟩
  | .t true ds, _, ⟨p, xs, e, h1, h2, h3⟩ => exact ⟨p, _, e, h1⟩
/-- a kept result as a slot's value -/
theorem Rs.slot (hr : Rs K G H B' H' x r) (k : keeps r = true) (s : Same (hide G H0) (hide G H)) : SlotR K G B0 H0 B' H' x r := by
  match r, k, hr with
  | .s d, _, hr => exact hr
  | .l true ds, _, ⟨p, xs, e, h1, h2, h3⟩ => obtain ⟨a, b⟩ := h3 rfl; obtain ⟨z, y⟩ := hide_some h1; exact ⟨p, xs, e, y, h2, a, z, s.free b⟩
  | .k true ds, _, ⟨p, xs, e, h1, h2, h3⟩ => obtain ⟨a, b⟩ := h3 rfl; obtain ⟨z, y⟩ := hide_some h1; exact ⟨p, xs, e, y, h2, a, z, s.free b⟩
  | .t true ds, _, ⟨p, xs, e, h1, h2, h3⟩ => obtain ⟨a, b⟩ := h3 rfl; obtain ⟨z, y⟩ := hide_some h1; exact ⟨p, xs, e, y, h2, a, z, s.free b⟩
  | .g, _, hr => exact hr
/-- a new object is away from the slots' own ones -/
theorem Stt.away (h : Stt K G B0 H0 B H σ ρ) (hr : Rs K G H B' H' x r) (o1 : owns r = true) (j : Nat) (u : R) (y : V) (e1 : ρ[j]? = some (some u)) (o2 : owns u = true) (e2 : σ[j]? = some (some y)) : y ≠ x := by
  intro e3
  obtain ⟨z, f1, f2⟩ := h.sl j u e1
  rw [f1] at e2; cases e2
  obtain ⟨p, ob, ep, f3, f4, f5, f6⟩ := f2.own o2
  obtain ⟨q, eq, hq⟩ := hr.own_new o1
  rw [ep, eq] at e3
  cases e3
  rw [hide_out f5, f3] at hq; cases hq
/-- a slot is filled, in general -/
theorem Stt.fillG (hn : Stt K G B0 H0 B' H' σ ρ) (base : SlotR K G B0 H0 B' H' x r) (i : Nat) (hi : i < σ.length)
    (apart : ∀ (j : Nat) (u : R) (y : V), j ≠ i → ρ[j]? = some (some u) → owns r = true → owns u = true → σ[j]? = some (some y) → y = x → False) :
    Stt K G B0 H0 B' H' (σ.set i (some x)) (ρ.set i (some r)) := by
  have hi' : i < ρ.length := by rw [hn.len]; exact hi
  refine ⟨by simp [hn.len], hn.bh, hn.gok, hn.st, fun j u e => ?_, fun j m u v y hjm e1 e2 o1 o2 e3 e4 => ?_⟩
  · by_cases q : j = i
    · subst q
      rw [List.getElem?_set_self hi'] at e; cases e
      exact ⟨x, List.getElem?_set_self hi, base⟩
    · rw [List.getElem?_set_ne (Ne.symm q)] at e ⊢
      exact hn.sl j u e
  · by_cases qj : j = i
    · subst qj
      rw [List.getElem?_set_self hi'] at e1; cases e1
      rw [List.getElem?_set_self hi] at e3; cases e3
      rw [List.getElem?_set_ne hjm] at e2 e4
      exact apart m v _ (Ne.symm hjm) e2 o1 o2 e4 rfl
    · rw [List.getElem?_set_ne (Ne.symm qj)] at e1 e3
      by_cases qm : m = i
      · subst qm
        rw [List.getElem?_set_self hi'] at e2; cases e2
        rw [List.getElem?_set_self hi] at e4; cases e4
        exact apart j u _ qj e1 o2 o1 e3 rfl
      · rw [List.getElem?_set_ne (Ne.symm qm)] at e2 e4
        exact hn.dis j m u v y hjm e1 e2 o1 o2 e3 e4
theorem Stt.fill (h : Stt K G B0 H0 B H σ ρ) (s : Stp G B H B' H') (hn : Stt K G B0 H0 B' H' σ ρ) (k : keeps r = true) (hr : Rs K G H B' H' x r) (i : Nat) (hi : i < σ.length) :
    Stt K G B0 H0 B' H' (σ.set i (some x)) (ρ.set i (some r)) :=
  hn.fillG (hr.slot k h.st.hh) i hi fun j u y _ e1 o1 o2 e2 e3 => h.away hr o1 j u y e1 o2 e2 e3
/-- what stands in a slot of one's own is written -/
theorem Stt.mut {i : Nat} {p : Addr} {o : HO} {r' : R} (h : Stt K G B0 H0 B H σ ρ) (e1 : ρ[i]? = some (some r)) (ho : owns r = true) (e2 : σ[i]? = some (some (.ref p))) (hr : SlotR K G B0 H0 B (upd H p o) (.ref p) r') :
    Stt K G B0 H0 B (upd H p o) σ (ρ.set i (some r')) := by
  obtain ⟨x, f1, f2⟩ := h.sl i r e1
  rw [e2] at f1; cases f1
  obtain ⟨q, u, eq, h1, h2, h3, h4⟩ := f2.own ho
  cases eq
  have hi : i < ρ.length := (List.getElem?_eq_some_iff.mp e1).1
  have hu : hide G (upd H p o) = upd (hide G H) p o := hide_upd h3
  refine ⟨by rw [List.length_set]; exact h.len, fun b v e => ?_, ghost_upd h3 h.gok, ⟨h.st.bb, fun b v e => ?_, h.st.nw⟩, fun j v e => ?_, fun j m v w y hjm z1 z2 o1 o2 z3 z4 => ?_⟩
  · rw [hu, upd_ne (ne_of_none e h2)]; exact h.bh _ _ e
  · rw [hu, upd_ne (ne_of_none e h4)]; exact h.st.hh _ _ e
  · by_cases qj : j = i
    · subst qj
      rw [List.getElem?_set_self hi] at e; cases e
      exact ⟨_, e2, hr⟩
    · rw [List.getElem?_set_ne (Ne.symm qj)] at e
      obtain ⟨y, g1, g2⟩ := h.sl j v e
      refine ⟨y, g1, ?_⟩
      have ne : ∀ q, y = .ref q → owns v = true → q ≠ p := fun q ey ov eqp => by
        subst ey; subst eqp
        exact h.dis j i v r _ qj e e1 ov ho g1 e2
      match v, g2, ne with
      | .s d, g2, _ => exact g2
      | .l false ds, g2, _ => exact g2
      | .l true ds, ⟨q, xs, e, k1, k2, k3, k4, k5⟩, ne => exact ⟨q, xs, e, by rw [upd_ne (ne q e rfl)]; exact k1, k2, k3, k4, k5⟩
      | .k false ds, g2, _ => exact g2
      | .k true ds, ⟨q, xs, e, k1, k2, k3, k4, k5⟩, ne => exact ⟨q, xs, e, by rw [upd_ne (ne q e rfl)]; exact k1, k2, k3, k4, k5⟩
      | .t false ds, g2, _ => exact g2
      | .t true ds, ⟨q, xs, e, k1, k2, k3, k4, k5⟩, ne => exact ⟨q, xs, e, by rw [upd_ne (ne q e rfl)]; exact k1, k2, k3, k4, k5⟩
      | .g, g2, _ => exact g2
  · by_cases qj : j = i
    · subst qj
      rw [List.getElem?_set_ne hjm] at z2
      exact h.dis j m r w y hjm e1 z2 ho o2 z3 z4
    · rw [List.getElem?_set_ne (Ne.symm qj)] at z1
      by_cases qm : m = i
      · subst qm
        exact h.dis j m v r y hjm z1 e1 o1 ho z3 z4
      · rw [List.getElem?_set_ne (Ne.symm qm)] at z2
        exact h.dis j m v w y hjm z1 z2 o1 o2 z3 z4
/-- a list of one's own is frozen: a datum from now on -/
theorem Stt.freeze {i : Nat} {ds : List D} (h : Stt K G B0 H0 B H σ ρ) (e1 : ρ[i]? = some (some (.l true ds))) : ∃ B', Stt K G B0 H0 B' H σ (ρ.set i (some (.s (.list ds)))) ∧ Same B B' := by
  obtain ⟨x, f1, ⟨p, xs, ex, h1, h2, h3, h4, h5⟩⟩ := h.sl i _ e1
  subst ex
  have hi : i < ρ.length := (List.getElem?_eq_some_iff.mp e1).1
  have bb : Same B (upd B p (.lst xs)) := fun b o e => by rw [upd_ne (ne_of_none e h3)]; exact e
  have bh : Same (upd B p (.lst xs)) (hide G H) := fun b o e => by
    by_cases z : b = p
    · subst z; rw [upd_same] at e; cases e; rw [hide_out h4]; exact h1
    · rw [upd_ne z] at e; exact h.bh _ _ e
  refine ⟨upd B p (.lst xs), ⟨by rw [List.length_set]; exact h.len, bh, h.gok, ⟨h.st.bb.trans bb, h.st.hh, fun b o z1 z2 => ?_⟩, fun j v e => ?_, fun j m v w y hjm z1 z2 o1 o2 z3 z4 => ?_⟩, bb⟩
  · rw [upd_ne (ne_of_none z2 h5)]; exact h.st.nw b o z1 z2
  · by_cases qj : j = i
    · subst qj
      rw [List.getElem?_set_self hi] at e; cases e
      exact ⟨_, f1, .lst (.inl (.inl upd_same)) (DpAll.mono bb h2)⟩
    · rw [List.getElem?_set_ne (Ne.symm qj)] at e
      obtain ⟨y, g1, g2⟩ := h.sl j v e
      refine ⟨y, g1, ?_⟩
      have ne : ∀ q, y = .ref q → owns v = true → q ≠ p := fun q ey ov eqp => by
        subst ey; subst eqp
        exact h.dis j i v _ _ qj e e1 ov rfl g1 f1
      match v, g2, ne with
      | .s d, g2, _ => exact Dp.mono bb g2
      | .l false ds, ⟨q, xs, e, k1, k2⟩, _ => exact ⟨q, xs, e, k1, DpAll.mono bb k2⟩
      | .l true ds, ⟨q, xs, e, k1, k2, k3, k4, k5⟩, ne => exact ⟨q, xs, e, k1, DpAll.mono bb k2, by rw [upd_ne (ne q e rfl)]; exact k3, k4, k5⟩
      | .k false ds, ⟨q, xs, e, k1, k2⟩, _ => exact ⟨q, xs, e, k1, KvP.mono bb k2⟩
      | .k true ds, ⟨q, xs, e, k1, k2, k3, k4, k5⟩, ne => exact ⟨q, xs, e, k1, KvP.mono bb k2, by rw [upd_ne (ne q e rfl)]; exact k3, k4, k5⟩
      | .t false ds, ⟨q, xs, e, k1, k2⟩, _ => exact ⟨q, xs, e, k1, KvP.mono bb k2⟩
      | .t true ds, ⟨q, xs, e, k1, k2, k3, k4, k5⟩, ne => exact ⟨q, xs, e, k1, KvP.mono bb k2, by rw [upd_ne (ne q e rfl)]; exact k3, k4, k5⟩
      | .g, g2, _ => exact g2
  · by_cases qj : j = i
    · subst qj
      rw [List.getElem?_set_self hi] at z1; cases z1; cases o1
    · rw [List.getElem?_set_ne (Ne.symm qj)] at z1
      by_cases qm : m = i
      · subst qm
        rw [List.getElem?_set_self hi] at z2; cases z2; cases o2
      · rw [List.getElem?_set_ne (Ne.symm qm)] at z2
        exact h.dis j m v w y hjm z1 z2 o1 o2 z3 z4
end
end DL

set_option Elab.async false
set_option linter.all false
set_option maxRecDepth 100000
/-! The data layer: expressions. -/
namespace DL
open PySem PySem.Spec PyProof.Rows L2

/-- a weakest precondition over data: of an expression, a test, an argument list -/
abbrev EW := Rho → (R → Prop) → (Value → Prop) → Prop
abbrev TW := Rho → (Bool → Prop) → (Value → Prop) → Prop
abbrev AW := Rho → (List R → Prop) → (Value → Prop) → Prop

inductive RsAll (K : Frag) (G : Gh) (H B' H' : Hp) : List V → List R → Prop
  | nil : RsAll K G H B' H' [] []
  | cons {x : V} {r : R} {xs : List V} {rs : List R} : Rs K G H B' H' x r → RsAll K G H B' H' xs rs → RsAll K G H B' H' (x :: xs) (r :: rs)

/-- results of one's own stand apart -/
def Apart : List V → List R → Prop
  | x :: xs, r :: rs => (owns r = true → ∀ (j : Nat) (u : R), rs[j]? = some u → owns u = true → xs[j]? ≠ some x) ∧ Apart xs rs
  | _, _ => True
theorem RsAll.get {K : Frag} {G : Gh} {H B' H' : Hp} : ∀ {xs : List V} {rs : List R} {j : Nat} {u : R}, RsAll K G H B' H' xs rs → rs[j]? = some u → ∃ y, xs[j]? = some y ∧ Rs K G H B' H' y u
  | _, _, _, _, .nil, e => by simp at e
  | _, _, 0, _, .cons h _, e => by simp at e; subst e; exact ⟨_, by simp, h⟩
  | _, _, j + 1, _, .cons _ t, e => by
    obtain ⟨y, h1, h2⟩ := RsAll.get (j := j) t (by simpa using e)
    exact ⟨y, by simpa using h1, h2⟩
/-- the readings that such words make -/
def TDe (K : Frag) (W : WX) (w : EW) : TE := fun σ H Q => ∃ (G : Gh) (B0 H0 B : Hp) (ρ : Rho) (Qd : R → Prop) (Qe : Value → Prop), Stt K G B0 H0 B H σ ρ ∧ w ρ Qd Qe ∧
  (∀ r x B' H', Stt K G B0 H0 B' H' σ ρ → Stp G B H B' H' → Rs K G H B' H' x r → Qd r → Q x H') ∧ (∀ cls d B' H', Qe cls → Stt K G B0 H0 B' H' σ ρ → Stp G B H B' H' → W cls d σ H')
def TDt (K : Frag) (W : WX) (w : TW) : TT := fun σ H Q => ∃ (G : Gh) (B0 H0 B : Hp) (ρ : Rho) (Qd : Bool → Prop) (Qe : Value → Prop), Stt K G B0 H0 B H σ ρ ∧ w ρ Qd Qe ∧
  (∀ b B' H', Stt K G B0 H0 B' H' σ ρ → Stp G B H B' H' → Qd b → Q b H') ∧ (∀ cls d B' H', Qe cls → Stt K G B0 H0 B' H' σ ρ → Stp G B H B' H' → W cls d σ H')
def TDa (K : Frag) (W : WX) (w : AW) : TA := fun σ H Q => ∃ (G : Gh) (B0 H0 B : Hp) (ρ : Rho) (Qd : List R → Prop) (Qe : Value → Prop), Stt K G B0 H0 B H σ ρ ∧ w ρ Qd Qe ∧
  (∀ rs xs B' H', Stt K G B0 H0 B' H' σ ρ → Stp G B H B' H' → RsAll K G H B' H' xs rs → Apart xs rs → Qd rs → Q xs H') ∧ (∀ cls d B' H', Qe cls → Stt K G B0 H0 B' H' σ ρ → Stp G B H B' H' → W cls d σ H')
abbrev PD (X : Cx) (W : WX) (e : Expr) (w : EW) : Prop := PE X e (TDe X.K W w)
abbrev PDt (X : Cx) (W : WX) (e : Expr) (w : TW) : Prop := PT X e (TDt X.K W w)
abbrev PDa (X : Cx) (W : WX) (es : List Expr) (w : AW) : Prop := PA X es (TDa X.K W w)

theorem pe_imp {X : Cx} {e : Expr} {t t' : TE} (h : PE X e t) (i : ∀ σ H Q, t' σ H Q → t σ H Q) : PE X e t' := ⟨fun pins s σ H Q I q => h.run pins s σ H Q I (i _ _ _ q)⟩
theorem pt_imp {X : Cx} {e : Expr} {t t' : TT} (h : PT X e t) (i : ∀ σ H Q, t' σ H Q → t σ H Q) : PT X e t' := ⟨fun pins s σ H Q I q => h.run pins s σ H Q I (i _ _ _ q)⟩
theorem pa_imp {X : Cx} {es : List Expr} {t t' : TA} (h : PA X es t) (i : ∀ σ H Q, t' σ H Q → t σ H Q) : PA X es t' := ⟨fun c pins s σ H Q I q => h.run c pins s σ H Q I (i _ _ _ q)⟩

section
variable {K : Frag} {G : Gh} {H B' H' B1 H1 B : Hp} {xs : List V} {rs : List R}
theorem RsAll.step (s : Stp G B1 H1 B' H') : ∀ {xs : List V} {rs : List R}, RsAll K G H B1 H1 xs rs → RsAll K G H B' H' xs rs
  | _, _, .nil => .nil
  | _, _, .cons h t => .cons (h.step s) (RsAll.step s t)
theorem RsAll.from (s : Stp G B H B1 H1) : ∀ {xs : List V} {rs : List R}, RsAll K G H1 B' H' xs rs → RsAll K G H B' H' xs rs
  | _, _, .nil => .nil
  | _, _, .cons h t => .cons (h.from s) (RsAll.from s t)
end

def erT {K : Frag} {W : WX} {G : Gh} {B0 H0 B H B1 H1 : Hp} {σ : L2.St} {ρ : Rho} {Qe : Value → Prop} (er : ∀ cls d B' H', Qe cls → Stt K G B0 H0 B' H' σ ρ → Stp G B H B' H' → W cls d σ H') (s1 : Stp G B H B1 H1) :
    ∀ cls d B' H', Qe cls → Stt K G B0 H0 B' H' σ ρ → Stp G B1 H1 B' H' → W cls d σ H' := fun cls d B' H' q S s => er cls d B' H' q S (s1.trans s)
/-! ### what a value is taken for -/
/-- a datum that may be stored -/
def R.dat : R → Option D
  | .s d => some d
  | _ => none
/-- a datum to be looked at -/
def R.look : R → Option D
  | .s d => some d
  | .l _ xs => some (.list xs)
  | _ => none
/-- the items of a list -/
def R.lst : R → Option (List D)
  | .l _ xs => some xs
  | _ => none
/-- the items of a list or a tuple -/
def R.seq : R → Option (List D)
  | .l _ xs => some xs
  | .s (.list xs) => some xs
  | .s (.tuple xs) => some xs
  | _ => none
def dats : List R → Option (List D)
  | [] => some []
  | r :: rs => match r.dat, dats rs with
    | some d, some ds => some (d :: ds)
    | _, _ => none
section
variable {K : Frag} {G : Gh} {H B' H' : Hp} {x : V} {r : R} {d : D}
theorem Rs.dat (h : Rs K G H B' H' x r) (e : r.dat = some d) : Dp K B' x d := by
  cases r with
  | s d' => cases e; exact h
  | _ => cases e
theorem hide_le (H : Hp) : Same (hide G H) H := fun a o e => (hide_some e).2
theorem Rs.look (h : Rs K G H B' H' x r) (e : r.look = some d) (bh : Same B' (hide G H')) : Dp K H' x d := by
  cases r with
  | s d' => cases e; exact Dp.mono (bh.trans (hide_le H')) h
  | l own xs =>
    cases e
    obtain ⟨p, vs, rfl, h1, h2, _⟩ := h
    exact .lst (.inl (.inl (hide_some h1).2)) (DpAll.mono (bh.trans (hide_le H')) h2)
  | _ => cases e
theorem dats_all : ∀ {xs : List V} {rs : List R} {ds : List D}, RsAll K G H B' H' xs rs → dats rs = some ds → DpAll K B' xs ds
  | _, _, _, .nil, e => by cases e; exact .nil
  | _, _, _, .cons (r := r) (rs := rs) h t, e => by
    unfold dats at e
    cases q : r.dat with
    | none => rw [q] at e; cases e
    | some d =>
      cases z : dats rs with
      | none => rw [q, z] at e; cases e
      | some ds =>
        rw [q, z] at e
        cases e
        exact .cons (h.dat q) (dats_all t z)
/-- the items of a list or tuple: where they stand, stable -/
theorem Rs.seq {ds : List D} (h : Rs K G H B' H' x r) (e : r.seq = some ds) (bh : Same B' (hide G H')) : ∃ p xs, x = .ref p ∧ DpAll K B' xs ds ∧ (SqL K H' p xs ∨ SqT K H' p xs) := by
  have up := bh.trans (hide_le H')
  cases r with
  | s d' =>
    cases d' with
    | list es =>
      cases e
      cases h with
      | lst h1 h2 => exact ⟨_, _, rfl, h2, .inl (Same.sqL up h1)⟩
    | tuple es =>
      cases e
      cases h with
      | tup h1 h2 => exact ⟨_, _, rfl, h2, .inr (Same.sqT up h1)⟩
    | _ => cases e
  | l own xs =>
    cases e
    obtain ⟨p, vs, rfl, h1, h2, _⟩ := h
    exact ⟨p, vs, rfl, h2, .inl (.inl (.inl (hide_some h1).2))⟩
  | _ => cases e
end

/-! ### names, constants -/
def wVar (i : Nat) : EW := fun ρ Q _ => ∃ r, ρ[i]? = some (some r) ∧ Q (peek r)
def wC (r : R) : EW := fun _ Q _ => Q r
section
variable {X : Cx} {W : WX} {e a b c : Expr} {es : List Expr} {wa wb wc w : EW} {ws : AW} {wt wt' : TW} {pos : Pos}
theorem pd_var {i : Nat} (h : PE X e (tVar i)) : PD X W e (wVar i) := pe_imp h fun σ H Q ⟨G, B0, H0, B, ρ, Qd, Qe, S, ⟨r, e1, q⟩, ok, _⟩ => by
  obtain ⟨x, e2, hr⟩ := S.sl i r e1
  exact ⟨x, e2, ok _ _ _ _ S (Stp.refl ..) (hr.rs S.st) q⟩
theorem pd_const {v : V} {d : D} (h : PE X e (tC v)) (hd : ∀ B, Dp X.K B v d) : PD X W e (wC (.s d)) := pe_imp h fun σ H Q ⟨G, B0, H0, B, ρ, Qd, Qe, S, q, ok, _⟩ =>
  ok (.s d) _ _ _ S (Stp.refl ..) (hd B) q
theorem pd_int {i : Int} {j pos} : PD X W (.Constant (.int i) j pos) (wC (.s (.int i))) := pd_const pe_int fun _ => .int i
theorem pd_bl {b : Bool} {j pos} : PD X W (.Constant (.bool b) j pos) (wC (.s (.bool b))) := pd_const pe_bl fun _ => .bl b
theorem pd_non {j pos} : PD X W (.Constant .none j pos) (wC (.s .none)) := pd_const pe_non fun _ => .non
theorem pd_str {z : Str} {j pos} : PD X W (.Constant (.str z) j pos) (wC (.s (.str z))) := pd_const pe_str fun _ => .str z
/-- an exception class of the module, or a type, is no datum: they stand only where they are named -/
theorem pd_weak {w w' : EW} (h : PD X W e w) (i : ∀ ρ Q E, w' ρ Q E → w ρ Q E) : PD X W e w' := pe_imp h fun σ H Q ⟨G, B0, H0, B, ρ, Qd, Qe, S, q, r⟩ => ⟨G, B0, H0, B, ρ, Qd, Qe, S, i _ _ _ q, r⟩

/-! ### arguments, displays -/
def wNil : AW := fun _ Q _ => Q []
def wCons (w : EW) (ws : AW) : AW := fun ρ Q E => w ρ (fun r => ws ρ (fun rs => Q (r :: rs)) E) E
theorem pda_nil : PDa X W [] wNil := pa_imp pa_nil fun σ H Q ⟨G, B0, H0, B, ρ, Qd, Qe, S, q, ok, _⟩ => ok _ _ _ _ S (Stp.refl ..) .nil trivial q
theorem pda_cons (ha : PD X W e w) (hr : PDa X W es ws) (hs : starEach (e :: es) X.env = (false, eval e X.env) :: starEach es X.env := by rfl) : PDa X W (e :: es) (wCons w ws) :=
  pa_imp (pa_cons ha hr hs) fun σ H Q ⟨G, B0, H0, B, ρ, Qd, Qe, S, q, ok, er⟩ => by
    refine ⟨G, B0, H0, B, ρ, _, Qe, S, q, fun r x B1 H1 S1 s1 r1 q1 => ?_, er⟩
    refine ⟨G, B0, H0, B1, ρ, _, Qe, S1, q1, fun rs xs B2 H2 S2 s2 r2 a2 q2 => ok _ _ _ _ S2 (s1.trans s2) (.cons (r1.step s2) (r2.from s1)) ⟨fun o1 j u e1 o2 e2 => ?_, a2⟩ q2, erT er s1⟩
    obtain ⟨y, f1, f2⟩ := r2.get e1
    rw [e2] at f1; cases f1
    obtain ⟨p, ep, hp⟩ := f2.own_new o2
    obtain ⟨q', v, eq, hq⟩ := r1.own_at o1
    rw [ep] at eq; cases eq
    rw [hp] at hq; cases hq
/-- a fresh list that is stored: from now on a datum -/
def frz : R → R
  | .l true xs => .s (.list xs)
  | r => r
def wFrz (w : EW) : EW := fun ρ Q E => w ρ (fun r => Q (frz r)) E
theorem pd_frz (h : PD X W e w) : PD X W e (wFrz w) := pe_imp h fun σ H Q ⟨G, B0, H0, B, ρ, Qd, Qe, S, q, ok, er⟩ => by
  refine ⟨G, B0, H0, B, ρ, _, Qe, S, q, fun r x B1 H1 S1 s1 r1 q1 => ?_, er⟩
  cases r with
  | l own ds =>
    cases own with
    | false => exact ok _ _ _ _ S1 s1 r1 q1
    | true =>
      obtain ⟨p, xs, rfl, h1, h2, h3⟩ := r1
      obtain ⟨hb, hn⟩ := h3 rfl
      have bb : Same B1 (upd B1 p (.lst xs)) := fun b o e => by rw [upd_ne (ne_of_none e hb)]; exact e
      have bh : Same (upd B1 p (.lst xs)) (hide G H1) := fun b o e => by
        by_cases z : b = p
        · subst z; rw [upd_same] at e; cases e; exact h1
        · rw [upd_ne z] at e; exact S1.bh _ _ e
      have s2 : Stp G B H (upd B1 p (.lst xs)) H1 := ⟨s1.bb.trans bb, s1.hh, fun b o e1 e2 => by
        rw [upd_ne (ne_of_none e2 hn)]; exact s1.nw b o e1 e2⟩
      exact ok (.s (.list ds)) _ _ _ (S.step s2 bh S1.gok) s2 (.lst (.inl (.inl upd_same)) (DpAll.mono bb h2)) q1
  | _ => exact ok _ _ _ _ S1 s1 r1 q1
def wTup (ws : AW) : EW := fun ρ Q E => ws ρ (fun rs => ∃ ds, dats rs = some ds ∧ ds.length ≤ 16777216 ∧ Q (.s (.tuple ds))) E
def wLst (ws : AW) : EW := fun ρ Q E => ws ρ (fun rs => ∃ ds, dats rs = some ds ∧ ds.length ≤ 16777216 ∧ Q (.l true ds)) E
theorem line_eq : sizeLine = 16777216 := sizeLine_eq
/-- a new object that nobody else has: the state behind it, stable or not -/
theorem Stt.new {K : Frag} {G : Gh} {B0 H0 B H : Hp} {σ : L2.St} {ρ : Rho} {p : Addr} {o : HO} (S : Stt K G B0 H0 B H σ ρ) (h : H p = none) : Stt K G B0 H0 B (upd H p o) σ ρ := have hg := S.notG h
  S.step (Stp.new h) (fun b u e => by rw [hide_upd hg, upd_ne (ne_of_none e (S.freeB h))]; exact S.bh _ _ e) (ghost_upd hg S.gok)
theorem Stt.newS {K : Frag} {G : Gh} {B0 H0 B H : Hp} {σ : L2.St} {ρ : Rho} {p : Addr} {o : HO} (S : Stt K G B0 H0 B H σ ρ) (h : H p = none) : Stt K G B0 H0 (upd B p o) (upd H p o) σ ρ := have hg := S.notG h
  S.step (Stp.newS h (S.freeB h)) (fun b u e => by
    rw [hide_upd hg]
    by_cases z : b = p
    · subst z; rw [upd_same] at e ⊢; exact e
    · rw [upd_ne z] at e ⊢; exact S.bh _ _ e) (ghost_upd hg S.gok)
end
end DL

set_option Elab.async false
set_option linter.all false
set_option maxRecDepth 100000
/-! The data layer: operators, comparisons, subscripts, built-ins. -/
namespace DL
open PySem PySem.Spec PyProof.Rows L2

abbrev F1 := R → (R → Prop) → Prop
abbrev F2 := R → R → (R → Prop) → Prop
abbrev FL := List R → (R → Prop) → Prop
/-- what an operation finds, and what it hands on -/
structure Ctx (K : Frag) (G : Gh) (B H : Hp) : Prop where
  bh : Same B (hide G H)
  ok : G.ok H
def Cont (K : Frag) (G : Gh) (B H : Hp) (Qd : R → Prop) (Q : VK) : Prop := ∀ r z B' H', Stp G B H B' H' → Same B' (hide G H') → G.ok H' → Rs K G H B' H' z r → Qd r → Q z H'
def lift1 (K : Frag) (f : F1) : V → Hp → VK → Prop := fun x H Q => ∃ G Hs B a Qd, Ctx K G B H ∧ Rs K G Hs B H x a ∧ f a Qd ∧ Cont K G B H Qd Q
def lift2 (K : Frag) (f : F2) : R2 := fun x y H Q => ∃ G Hs B a b Qd, Ctx K G B H ∧ Rs K G Hs B H x a ∧ Rs K G Hs B H y b ∧ f a b Qd ∧ Cont K G B H Qd Q
def liftL (K : Frag) (f : FL) : List V → Hp → VK → Prop := fun xs H Q => ∃ G Hs B rs Qd, Ctx K G B H ∧ RsAll K G Hs B H xs rs ∧ f rs Qd ∧ Cont K G B H Qd Q
section
variable {K : Frag} {G : Gh} {B H : Hp} {Qd : R → Prop} {Q : VK}
theorem Cont.here (c : Ctx K G B H) (k : Cont K G B H Qd Q) {z : V} {r : R} (h : Rs K G H B H z r) (q : Qd r) : Q z H := k r z B H (Stp.refl ..) c.bh c.ok h q
theorem Cont.dat (c : Ctx K G B H) (k : Cont K G B H Qd Q) {z : V} {d : D} (h : Dp K B z d) (q : Qd (.s d)) : Q z H := k (.s d) z B H (Stp.refl ..) c.bh c.ok h q
theorem Ctx.notG (c : Ctx K G B H) {p : Addr} (e : H p = none) : p ∉ G.at_ := fun z => G.here _ c.ok _ z e
theorem Ctx.free (c : Ctx K G B H) {p : Addr} (e : H p = none) : B p = none := c.bh.free (hide_free e)
/-- a new tuple -/
theorem Cont.tup (c : Ctx K G B H) (k : Cont K G B H Qd Q) {p : Addr} (hp : H p = none) {xs : List V} {ds : List D} (h : DpAll K B xs ds) (q : Qd (.s (.tuple ds))) : Q (.ref p) (upd H p (.tup xs)) := by
  have s : Stp G B H (upd B p (.tup xs)) (upd H p (.tup xs)) := Stp.newS hp (c.free hp)
  refine k (.s (.tuple ds)) _ _ _ s (fun b u e => ?_) (ghost_upd (c.notG hp) c.ok) (.tup (.inl (.inl upd_same)) (DpAll.mono s.bb h)) q
  rw [hide_upd (c.notG hp)]
  by_cases z : b = p
  · subst z; rw [upd_same] at e ⊢; exact e
  · rw [upd_ne z] at e ⊢; exact c.bh _ _ e
/-- a new list -/
theorem Cont.lst (c : Ctx K G B H) (k : Cont K G B H Qd Q) {p : Addr} (hp : H p = none) {xs : List V} {ds : List D} (h : DpAll K B xs ds) (q : Qd (.l true ds)) : Q (.ref p) (upd H p (.lst xs)) := by
  have g := c.notG hp
  refine k (.l true ds) _ B _ (Stp.new hp) (fun b u e => ?_) (ghost_upd g c.ok) ⟨p, xs, rfl, by rw [hide_out g, upd_same], h, fun _ => ⟨c.free hp, hide_free hp⟩⟩ q
  rw [hide_upd g, upd_ne (ne_of_none e (c.free hp))]; exact c.bh _ _ e
/-- a new dict -/
theorem Cont.dk (c : Ctx K G B H) (k : Cont K G B H Qd Q) {p : Addr} (hp : H p = none) {xs : List (Key × V)} {ds : List (Key × D)} (h : KvP K B xs ds) (q : Qd (.k true ds)) : Q (.ref p) (upd H p (.dK xs)) := by
  have g := c.notG hp
  refine k (.k true ds) _ B _ (Stp.new hp) (fun b u e => ?_) (ghost_upd g c.ok) ⟨p, xs, rfl, by rw [hide_out g, upd_same], h, fun _ => ⟨c.free hp, hide_free hp⟩⟩ q
  rw [hide_upd g, upd_ne (ne_of_none e (c.free hp))]; exact c.bh _ _ e
theorem Ctx.le (c : Ctx K G B H) : Same B H := c.bh.trans (hide_le H)
end

def wOp (f : F2) (wa wb : EW) : EW := fun ρ Q E => wa ρ (fun x => wb ρ (fun y => f x y Q) E) E
def wUn (f : F1) (wa : EW) : EW := fun ρ Q E => wa ρ (fun x => f x Q) E
def wCall1 (f : FL) (ws : AW) : EW := fun ρ Q E => ws ρ (fun rs => f rs Q) E
def wMeth (f : R → FL) (w : EW) (ws : AW) : EW := fun ρ Q E => w ρ (fun r => ws ρ (fun rs => f r rs Q) E) E

section
variable {X : Cx} {W : WX} {e a b c : Expr} {es : List Expr} {wa wb wc w : EW} {ws : AW} {wt wt' : TW} {pos : Pos}
/-- the end of two parts -/
theorem op_core {f : F2} {t : TE} (h : PE X e (tOp (lift2 X.K f) (TDe X.K W wa) (TDe X.K W wb))) : PD X W e (wOp f wa wb) :=
  pe_imp h fun σ H Q ⟨G, B0, H0, B, ρ, Qd, Qe, S, q, ok, er⟩ => by
    refine ⟨G, B0, H0, B, ρ, _, Qe, S, q, fun r x B1 H1 S1 s1 r1 q1 => ?_, er⟩
    refine ⟨G, B0, H0, B1, ρ, _, Qe, S1, q1, fun r' y B2 H2 S2 s2 r2 q2 => ?_, erT er s1⟩
    exact ⟨G, H, B2, r, r', _, ⟨S2.bh, S2.gok⟩, r1.step s2, r2.from s1, q2, fun r3 z B3 H3 s3 bh gk rz qz => ok _ _ _ _ (S2.step s3 bh gk) ((s1.trans s2).trans s3) (rz.from (s1.trans s2)) qz⟩
theorem pd_op {op : Operator} {f : F2} (ho : OpR X (binaryOp op) (lift2 X.K f)) (ha : PD X W a wa) (hb : PD X W b wb) : PD X W (.BinOp a op b pos) (wOp f wa wb) := op_core (t := fun _ _ _ => True) (pe_op ho ha hb)
theorem pd_cmp {op : CmpOp} {f : F2} (ho : OpR X (compareOp op) (lift2 X.K f)) (ha : PD X W a wa) (hb : PD X W b wb) (hm : behindInMarks op b = false) : PD X W (.Compare a [op] [b] pos) (wOp f wa wb) :=
  op_core (t := fun _ _ _ => True) (pe_cmpR ho ha hb hm)
theorem pd_ix {f : F2} (hr : IxR X (lift2 X.K f)) (ha : PD X W a wa) (hb : PD X W b wb) (hs : PlainIx b) : PD X W (.Subscript a b pos) (wOp f wa wb) := op_core (t := fun _ _ _ => True) (pe_ix hr ha hb hs)
theorem pd_un {op : UnaryOp} {f : F1} (ho : UnR X (unaryOp op) (lift1 X.K f)) (ha : PD X W a wa) : PD X W (.UnaryOp op a pos) (wUn f wa) :=
  pe_imp (pe_un ho ha) fun σ H Q ⟨G, B0, H0, B, ρ, Qd, Qe, S, q, ok, er⟩ => by
    refine ⟨G, B0, H0, B, ρ, _, Qe, S, q, fun r x B1 H1 S1 s1 r1 q1 => ?_, er⟩
    exact ⟨G, H, B1, r, _, ⟨S1.bh, S1.gok⟩, r1, q1, fun r3 z B3 H3 s3 bh gk rz qz => ok _ _ _ _ (S1.step s3 bh gk) (s1.trans s3) (rz.from s1) qz⟩
/-- a built-in called by its name -/
theorem call_core {f : FL} {t : TA} (h : PE X e (tCB (liftL X.K f) (TDa X.K W ws))) : PD X W e (wCall1 f ws) :=
  pe_imp h fun σ H Q ⟨G, B0, H0, B, ρ, Qd, Qe, S, q, ok, er⟩ => by
    refine ⟨G, B0, H0, B, ρ, _, Qe, S, q, fun rs xs B1 H1 S1 s1 r1 _ q1 => ?_, er⟩
    exact ⟨G, H, B1, rs, _, ⟨S1.bh, S1.gok⟩, r1, q1, fun r3 z B3 H3 s3 bh gk rz qz => ok _ _ _ _ (S1.step s3 bh gk) (s1.trans s3) (rz.from s1) qz⟩

/-! ### a test -/
def wTst (w : EW) : TW := fun ρ Q E => w ρ (fun r => ∃ b, r = .s (.bool b) ∧ Q b) E
theorem pdt_val (h : PD X W e w) (he : ∀ whole, isTrue e X.env whole = (do let v ← whole; standAt e.pos; holding [v] (truthy v)) := by intro _; rfl) : PDt X W e (wTst w) :=
  pt_imp (pt_val h he) fun σ H Q ⟨G, B0, H0, B, ρ, Qd, Qe, S, q, ok, er⟩ => by
    refine ⟨G, B0, H0, B, ρ, _, Qe, S, q, fun r x B1 H1 S1 s1 r1 q1 => ?_, er⟩
    obtain ⟨b, rfl, q1⟩ := q1
    cases (show Dp X.K B1 x (.bool b) from r1)
    exact ⟨b, rfl, ok _ _ _ S1 s1 q1⟩
theorem pdt_cmp {op : CmpOp} {f : F2} (ho : OpR X (compareOp op) (lift2 X.K f)) (ha : PD X W a wa) (hb : PD X W b wb) (hm : behindInMarks op b = false) : PDt X W (.Compare a [op] [b] pos) (wTst (wOp f wa wb)) :=
  pt_imp (pt_cmpR ho ha hb hm) fun σ H Q ⟨G, B0, H0, B, ρ, Qd, Qe, S, q, ok, er⟩ => by
    refine ⟨G, B0, H0, B, ρ, _, Qe, S, q, fun r x B1 H1 S1 s1 r1 q1 => ?_, er⟩
    refine ⟨G, B0, H0, B1, ρ, _, Qe, S1, q1, fun r' y B2 H2 S2 s2 r2 q2 => ?_, erT er s1⟩
    refine ⟨G, H, B2, r, r', _, ⟨S2.bh, S2.gok⟩, r1.step s2, r2.from s1, q2, fun r3 z B3 H3 s3 bh gk rz qz => ?_⟩
    obtain ⟨k, rfl, qz⟩ := qz
    cases (show Dp X.K B3 z (.bool k) from rz)
    exact ⟨k, rfl, ok _ _ _ (S2.step s3 bh gk) ((s1.trans s2).trans s3) qz⟩
def wAndT (t u : TW) : TW := fun ρ Q E => t ρ (fun b => if b = true then u ρ Q E else Q false) E
def wOrT (t u : TW) : TW := fun ρ Q E => t ρ (fun b => if b = true then Q true else u ρ Q E) E
def wNotT (t : TW) : TW := fun ρ Q E => t ρ (fun b => Q (!b)) E
/-- a chain of and, or: whatever its 'whole' is -/
abbrev PDw (X : Cx) (W : WX) (e : Expr) (w : TW) : Prop := PW X e (TDt X.K W w)
theorem pw_imp {X : Cx} {e : Expr} {t t' : TT} (h : PW X e t) (i : ∀ σ H Q, t' σ H Q → t σ H Q) : PW X e t' := ⟨fun c pins s σ H Q I q => h.run c pins s σ H Q I (i _ _ _ q)⟩
theorem pdw_and {rest : List Expr} (ha : PDt X W a wt) (hb : PDw X W (.BoolOp .And (b :: rest) pos) wt') : PDw X W (.BoolOp .And (a :: b :: rest) pos) (wAndT wt wt') :=
  pw_imp (pw_and ha hb) fun σ H Q ⟨G, B0, H0, B, ρ, Qd, Qe, S, q, ok, er⟩ => by
    refine ⟨G, B0, H0, B, ρ, _, Qe, S, q, fun k B1 H1 S1 s1 q1 => ?_, er⟩
    cases k with
    | true => exact iteT ⟨G, B0, H0, B1, ρ, _, Qe, S1, (if_pos rfl).mp q1, fun k B2 H2 S2 s2 q2 => ok _ _ _ S2 (s1.trans s2) q2, erT er s1⟩
    | false => exact iteF (ok _ _ _ S1 s1 ((if_neg Bool.false_ne_true).mp q1))
theorem pdw_or {rest : List Expr} (ha : PDt X W a wt) (hb : PDw X W (.BoolOp .Or (b :: rest) pos) wt') : PDw X W (.BoolOp .Or (a :: b :: rest) pos) (wOrT wt wt') :=
  pw_imp (pw_or ha hb) fun σ H Q ⟨G, B0, H0, B, ρ, Qd, Qe, S, q, ok, er⟩ => by
    refine ⟨G, B0, H0, B, ρ, _, Qe, S, q, fun k B1 H1 S1 s1 q1 => ?_, er⟩
    cases k with
    | true => exact iteT (ok _ _ _ S1 s1 ((if_pos rfl).mp q1))
    | false => exact iteF ⟨G, B0, H0, B1, ρ, _, Qe, S1, (if_neg Bool.false_ne_true).mp q1, fun k B2 H2 S2 s2 q2 => ok _ _ _ S2 (s1.trans s2) q2, erT er s1⟩
theorem pdw_and1 (ha : PDt X W a wt) : PDw X W (.BoolOp .And [a] pos) wt := pw_and1 ha
theorem pdw_or1 (ha : PDt X W a wt) : PDw X W (.BoolOp .Or [a] pos) wt := pw_or1 ha
theorem pdt_w (h : PDw X W e wt) : PDt X W e wt := h.pt
theorem pdt_not (ha : PDt X W a wt) : PDt X W (.UnaryOp .Not a pos) (wNotT wt) :=
  pt_imp (pt_not ha) fun σ H Q ⟨G, B0, H0, B, ρ, Qd, Qe, S, q, ok, er⟩ => ⟨G, B0, H0, B, ρ, _, Qe, S, q, fun k B1 H1 S1 s1 q1 => ok _ _ _ S1 s1 q1, er⟩

/-! ### and, or, not, if as values -/
def wAndV (wa wb : EW) : EW := fun ρ Q E => wa ρ (fun r => ∃ b, r = .s (.bool b) ∧ if b = true then wb ρ Q E else Q (.s (.bool false))) E
def wOrV (wa wb : EW) : EW := fun ρ Q E => wa ρ (fun r => ∃ b, r = .s (.bool b) ∧ if b = true then Q (.s (.bool true)) else wb ρ Q E) E
def wNotV (wa : EW) : EW := fun ρ Q E => wa ρ (fun r => ∃ b, r = .s (.bool b) ∧ Q (.s (.bool (!b)))) E
def wIf (t : TW) (wa wb : EW) : EW := fun ρ Q E => t ρ (fun b => if b = true then wa ρ Q E else wb ρ Q E) E
theorem pd_one {op} (h : PD X W a w) : PD X W (.BoolOp op [a] pos) w := pe_one h
theorem pd_and {rest : List Expr} (ha : PD X W a wa) (hb : PD X W (.BoolOp .And (b :: rest) pos) wb) : PD X W (.BoolOp .And (a :: b :: rest) pos) (wAndV wa wb) :=
  pe_imp (pe_and ha hb) fun σ H Q ⟨G, B0, H0, B, ρ, Qd, Qe, S, q, ok, er⟩ => by
    refine ⟨G, B0, H0, B, ρ, _, Qe, S, q, fun r x B1 H1 S1 s1 r1 q1 => ?_, er⟩
    obtain ⟨k, rfl, q1⟩ := q1
    cases (show Dp X.K B1 x (.bool k) from r1)
    refine ⟨k, rfl, ?_⟩
    cases k with
    | true => exact iteT ⟨G, B0, H0, B1, ρ, _, Qe, S1, (if_pos rfl).mp q1, fun r y B2 H2 S2 s2 r2 q2 => ok _ _ _ _ S2 (s1.trans s2) (r2.from s1) q2, erT er s1⟩
    | false => exact iteF (ok (.s (.bool false)) _ _ _ S1 s1 (.bl false) ((if_neg Bool.false_ne_true).mp q1))
theorem pd_or {rest : List Expr} (ha : PD X W a wa) (hb : PD X W (.BoolOp .Or (b :: rest) pos) wb) : PD X W (.BoolOp .Or (a :: b :: rest) pos) (wOrV wa wb) :=
  pe_imp (pe_or ha hb) fun σ H Q ⟨G, B0, H0, B, ρ, Qd, Qe, S, q, ok, er⟩ => by
    refine ⟨G, B0, H0, B, ρ, _, Qe, S, q, fun r x B1 H1 S1 s1 r1 q1 => ?_, er⟩
    obtain ⟨k, rfl, q1⟩ := q1
    cases (show Dp X.K B1 x (.bool k) from r1)
    refine ⟨k, rfl, ?_⟩
    cases k with
    | true => exact iteT (ok (.s (.bool true)) _ _ _ S1 s1 (.bl true) ((if_pos rfl).mp q1))
    | false => exact iteF ⟨G, B0, H0, B1, ρ, _, Qe, S1, (if_neg Bool.false_ne_true).mp q1, fun r y B2 H2 S2 s2 r2 q2 => ok _ _ _ _ S2 (s1.trans s2) (r2.from s1) q2, erT er s1⟩
theorem pd_not (ha : PD X W a wa) : PD X W (.UnaryOp .Not a pos) (wNotV wa) :=
  pe_imp (pe_not ha) fun σ H Q ⟨G, B0, H0, B, ρ, Qd, Qe, S, q, ok, er⟩ => by
    refine ⟨G, B0, H0, B, ρ, _, Qe, S, q, fun r x B1 H1 S1 s1 r1 q1 => ?_, er⟩
    obtain ⟨k, rfl, q1⟩ := q1
    cases (show Dp X.K B1 x (.bool k) from r1)
    exact ⟨k, rfl, ok (.s (.bool (!k))) _ _ _ S1 s1 (.bl _) q1⟩
theorem pd_if {t : Expr} (hc : PDt X W t wt) (ha : PD X W a wa) (hb : PD X W b wb) : PD X W (.IfExp t a b pos) (wIf wt wa wb) :=
  pe_imp (pe_ifExp hc ha hb) fun σ H Q ⟨G, B0, H0, B, ρ, Qd, Qe, S, q, ok, er⟩ => by
    refine ⟨G, B0, H0, B, ρ, _, Qe, S, q, fun k B1 H1 S1 s1 q1 => ?_, er⟩
    cases k with
    | true => exact iteT ⟨G, B0, H0, B1, ρ, _, Qe, S1, (if_pos rfl).mp q1, fun r y B2 H2 S2 s2 r2 q2 => ok _ _ _ _ S2 (s1.trans s2) (r2.from s1) q2, erT er s1⟩
    | false => exact iteF ⟨G, B0, H0, B1, ρ, _, Qe, S1, (if_neg Bool.false_ne_true).mp q1, fun r y B2 H2 S2 s2 r2 q2 => ok _ _ _ _ S2 (s1.trans s2) (r2.from s1) q2, erT er s1⟩
/-- a chain of two comparisons -/
def wChain (f f' : F2) (wa wb wc : EW) : EW := fun ρ Q E => wa ρ (fun x => wb ρ (fun y => f x y fun r => ∃ k, r = .s (.bool k) ∧ if k = true then wc ρ (fun z => f' y z Q) E else Q (.s (.bool false))) E) E
theorem pd_chain {f f' : F2} (h : PE X e (tChain (lift2 X.K f) (lift2 X.K f') (TDe X.K W wa) (TDe X.K W wb) (TDe X.K W wc))) : PD X W e (wChain f f' wa wb wc) :=
  pe_imp h fun σ H Q ⟨G, B0, H0, B, ρ, Qd, Qe, S, q, ok, er⟩ => by
    refine ⟨G, B0, H0, B, ρ, _, Qe, S, q, fun r x B1 H1 S1 s1 r1 q1 => ?_, er⟩
    refine ⟨G, B0, H0, B1, ρ, _, Qe, S1, q1, fun r' y B2 H2 S2 s2 r2 q2 => ?_, erT er s1⟩
    have s12 := s1.trans s2
    refine ⟨G, H, B2, r, r', _, ⟨S2.bh, S2.gok⟩, r1.step s2, r2.from s1, q2, fun r3 z B3 H3 s3 bh gk rz qz => ?_⟩
    obtain ⟨k, rfl, qz⟩ := qz
    cases (show Dp X.K B3 z (.bool k) from rz)
    have S3 := S2.step s3 bh gk
    have s13 := s12.trans s3
    refine ⟨k, rfl, ?_⟩
    cases k with
    | false => exact iteF (ok (.s (.bool false)) _ _ _ S3 s13 (.bl false) ((if_neg Bool.false_ne_true).mp qz))
    | true =>
      refine iteT ⟨G, B0, H0, B3, ρ, _, Qe, S3, (if_pos rfl).mp qz, fun r4 w4 B4 H4 S4 s4 r4' q4 => ?_, erT er s13⟩
      exact ⟨G, H, B4, r', r4, _, ⟨S4.bh, S4.gok⟩, (r2.from s1).step (s3.trans s4), r4'.from s13, q4, fun r5 z5 B5 H5 s5 bh5 gk5 rz5 qz5 =>
        ok _ _ _ _ (S4.step s5 bh5 gk5) ((s13.trans s4).trans s5) (rz5.from (s13.trans s4)) qz5⟩
theorem pdt_chain {f f' : F2} (h : PT X e (tTest (tChain (lift2 X.K f) (lift2 X.K f') (TDe X.K W wa) (TDe X.K W wb) (TDe X.K W wc)))) : PDt X W e (wTst (wChain f f' wa wb wc)) :=
  pt_imp h fun σ H Q ⟨G, B0, H0, B, ρ, Qd, Qe, S, q, ok, er⟩ => by
    refine ⟨G, B0, H0, B, ρ, _, Qe, S, q, fun r x B1 H1 S1 s1 r1 q1 => ?_, er⟩
    refine ⟨G, B0, H0, B1, ρ, _, Qe, S1, q1, fun r' y B2 H2 S2 s2 r2 q2 => ?_, erT er s1⟩
    have s12 := s1.trans s2
    refine ⟨G, H, B2, r, r', _, ⟨S2.bh, S2.gok⟩, r1.step s2, r2.from s1, q2, fun r3 z B3 H3 s3 bh gk rz qz => ?_⟩
    obtain ⟨k, rfl, qz⟩ := qz
    cases (show Dp X.K B3 z (.bool k) from rz)
    have S3 := S2.step s3 bh gk
    have s13 := s12.trans s3
    refine ⟨k, rfl, ?_⟩
    cases k with
    | false =>
      obtain ⟨b, e, q⟩ := (if_neg Bool.false_ne_true).mp qz
      cases e
      exact iteF ⟨false, rfl, ok _ _ _ S3 s13 q⟩
    | true =>
      refine iteT ⟨G, B0, H0, B3, ρ, _, Qe, S3, (if_pos rfl).mp qz, fun r4 w4 B4 H4 S4 s4 r4' q4 => ?_, erT er s13⟩
      refine ⟨G, H, B4, r', r4, _, ⟨S4.bh, S4.gok⟩, (r2.from s1).step (s3.trans s4), r4'.from s13, q4, fun r5 z5 B5 H5 s5 bh5 gk5 rz5 qz5 => ?_⟩
      obtain ⟨b, rfl, q⟩ := qz5
      cases (show Dp X.K B5 z5 (.bool b) from rz5)
      exact ⟨b, rfl, ok _ _ _ (S4.step s5 bh5 gk5) ((s13.trans s4).trans s5) q⟩
end
end DL

set_option Elab.async false
set_option linter.all false
set_option maxRecDepth 100000
/-! The data layer: what operators, comparisons and built-ins do with data. -/
namespace DL
open PySem PySem.Spec PyProof.Rows L2

def R.isS : R → Bool
  | .s _ => true
  | _ => false
section
variable {K : Frag} {G : Gh} {Hs B H : Hp} {x : V}
theorem Rs.int {i : Int} (h : Rs K G Hs B H x (.s (.int i))) : x = .int i := by cases (show Dp K B x (.int i) from h); rfl
theorem Rs.bool {i : Bool} (h : Rs K G Hs B H x (.s (.bool i))) : x = .bl i := by cases (show Dp K B x (.bool i) from h); rfl
theorem Rs.str {i : Str} (h : Rs K G Hs B H x (.s (.str i))) : x = .str i := by cases (show Dp K B x (.str i) from h); rfl
theorem Rs.none (h : Rs K G Hs B H x (.s .none)) : x = .non := by cases (show Dp K B x .none from h); rfl
theorem Rs.tup {ds : List D} (h : Rs K G Hs B H x (.s (.tuple ds))) : ∃ p xs, x = .ref p ∧ SqT K B p xs ∧ DpAll K B xs ds := by
  cases (show Dp K B x (.tuple ds) from h) with
  | tup h1 h2 => exact ⟨_, _, rfl, h1, h2⟩
theorem RsAll.one {xs : List V} {r : R} (h : RsAll K G Hs B H xs [r]) : ∃ x, xs = [x] ∧ Rs K G Hs B H x r := by
  cases h with
  | cons h1 h2 => cases h2; exact ⟨_, rfl, h1⟩
theorem RsAll.two {xs : List V} {r u : R} (h : RsAll K G Hs B H xs [r, u]) : ∃ x y, xs = [x, y] ∧ Rs K G Hs B H x r ∧ Rs K G Hs B H y u := by
  cases h with
  | cons h1 h2 => cases h2 with
    | cons h2 h3 => cases h3; exact ⟨_, _, rfl, h1, h2⟩
end

/-! ### + - * // % ** -/
def fAdd : F2 := fun a b Q => match a with
  | .s (.int i) => ∃ j, b = .s (.int j) ∧ Q (.s (.int (i + j)))
  | .s (.str x) => ∃ y, b = .s (.str y) ∧ x.length + y.length ≤ 16777216 ∧ Q (.s (.str (x ++ y)))
  | .s (.tuple xs) => ∃ ys, b = .s (.tuple ys) ∧ xs.length + ys.length ≤ 16777216 ∧ Q (.s (.tuple (xs ++ ys)))
  | .l _ xs => ∃ o ys, b = .l o ys ∧ xs.length + ys.length ≤ 16777216 ∧ Q (.l true (xs ++ ys))
  | _ => False
def fInt (C : Int → Int → Prop) (g : Int → Int → Int) : F2 := fun a b Q => ∃ i j, a = .s (.int i) ∧ b = .s (.int j) ∧ C i j ∧ Q (.s (.int (g i j)))
abbrev fSub : F2 := fInt (fun _ _ => True) (· - ·)
def fMul : F2 := fun a b Q => match a with
  | .s (.int i) => ∃ j, b = .s (.int j) ∧ CMul i j ∧ Q (.s (.int (i * j)))
  | .s (.tuple xs) => ∃ j, b = .s (.int j) ∧ xs ≠ [] ∧ 2 ≤ j ∧ j ≤ 1000 ∧ xs.length ≤ 1000 ∧ Q (.s (.tuple (List.replicate j.toNat xs).flatten))
  | _ => False
abbrev fDiv : F2 := fInt CDiv (· / ·)
abbrev fMod : F2 := fInt (fun _ j => 0 < j) (· % ·)
abbrev fPow : F2 := fInt CPow (fun i j => i ^ j.toNat)
def fNeg : F1 := fun a Q => ∃ i, a = .s (.int i) ∧ Q (.s (.int (-i)))
section
variable {X : Cx}
theorem _root_.L2.DpAll.flat {K : Frag} {H : Hp} {xs : List V} {ds : List D} (h : DpAll K H xs ds) (n : Nat) : DpAll K H (List.replicate n xs).flatten (List.replicate n ds).flatten := by
  induction n with
  | zero => exact .nil
  | succ n ih =>
    rw [List.replicate_succ, List.replicate_succ, List.flatten_cons, List.flatten_cons]
    exact h.append ih
theorem _root_.L2.DpAll.nil_of {K : Frag} {H : Hp} {xs : List V} (h : DpAll K H xs []) : xs = [] := by cases h; rfl
theorem o_add : OpR X (binaryOp .Add) (lift2 X.K fAdd) := by
  intro pins s σ H x y v u Q I rx ry hh
  obtain ⟨G, Hs, B, a, b, Qd, c, ra, rb, q, k⟩ := hh
  unfold fAdd at q
  split at q
  · obtain ⟨j, rfl, q⟩ := q
    cases ra.int; cases rb.int
    exact op_add pins s σ H _ _ v u Q I rx ry ⟨_, _, rfl, rfl, k.dat c (.int _) q⟩
  · obtain ⟨j, rfl, hz, q⟩ := q
    cases ra.str; cases rb.str
    exact op_add_str pins s σ H _ _ v u Q I rx ry ⟨_, _, rfl, rfl, by rw [line_eq]; exact hz, k.dat c (.str _) q⟩
  · obtain ⟨ys, rfl, hz, q⟩ := q
    obtain ⟨p1, xs1, rfl, h1, h2⟩ := ra.tup
    obtain ⟨p2, xs2, rfl, h3, h4⟩ := rb.tup
    refine op_catA pins s σ H _ _ v u Q I rx ry ⟨p1, p2, xs1, xs2, rfl, rfl, Same.sqT c.le h1, Same.sqT c.le h3, by rw [line_eq, h2.length, h4.length]; exact hz, fun e => ?_, fun _ e => ?_, fun _ _ p hp => ?_⟩
    · subst e
      have := h2.length
      rename_i xs0
      obtain rfl : xs0 = [] := List.eq_nil_of_length_eq_zero this.symm
      exact k.dat c (.tup h3 h4) q
    · subst e
      obtain rfl : ys = [] := List.eq_nil_of_length_eq_zero h4.length.symm
      rw [List.append_nil] at q
      exact k.dat c (.tup h1 h2) q
    · exact k.tup c hp (h2.append h4) q
  · obtain ⟨o, ys, rfl, hz, q⟩ := q
    obtain ⟨p1, xs1, rfl, h1, h2, _⟩ := ra
    obtain ⟨p2, xs2, rfl, h3, h4, _⟩ := rb
    exact op_cat pins s σ H _ _ v u Q I rx ry ⟨p1, p2, xs1, xs2, rfl, rfl, (hide_some h1).2, (hide_some h3).2, by rw [line_eq, h2.length, h4.length]; exact hz, fun p hp => k.lst c hp (h2.append h4) q⟩
  · exact q.elim
theorem o_int {f : Value → Value → Sem Value} {C : Int → Int → Prop} {g : Int → Int → Int} (h : OpR X f (rI C fun i j => .int (g i j))) : OpR X f (lift2 X.K (fInt C g)) := by
  intro pins s σ H x y v u Q I rx ry hh
  obtain ⟨G, Hs, B, a, b, Qd, c, ra, rb, ⟨i, j, rfl, rfl, hc, q⟩, k⟩ := hh
  cases ra.int; cases rb.int
  exact h pins s σ H _ _ v u Q I rx ry ⟨i, j, rfl, rfl, hc, k.dat c (.int _) q⟩
theorem o_sub : OpR X (binaryOp .Sub) (lift2 X.K fSub) := o_int fun pins s σ H x y v u Q I rx ry ⟨i, j, e1, e2, _, q⟩ => op_sub pins s σ H x y v u Q I rx ry ⟨i, j, e1, e2, q⟩
theorem o_div : OpR X (binaryOp .FloorDiv) (lift2 X.K fDiv) := o_int op_fdiv
theorem o_mod : OpR X (binaryOp .Mod) (lift2 X.K fMod) := o_int op_mod
theorem o_pow : OpR X (binaryOp .Pow) (lift2 X.K fPow) := o_int op_pow
theorem o_mul : OpR X (binaryOp .Mult) (lift2 X.K fMul) := by
  intro pins s σ H x y v u Q I rx ry hh
  obtain ⟨G, Hs, B, a, b, Qd, c, ra, rb, q, k⟩ := hh
  unfold fMul at q
  split at q
  · obtain ⟨j, rfl, hc, q⟩ := q
    cases ra.int; cases rb.int
    exact op_mul pins s σ H _ _ v u Q I rx ry ⟨_, _, rfl, rfl, hc, k.dat c (.int _) q⟩
  · obtain ⟨j, rfl, hn, h2, h3, h4, q⟩ := q
    obtain ⟨p1, xs1, rfl, h5, h6⟩ := ra.tup
    cases rb.int
    refine op_repT pins s σ H _ _ v u Q I rx ry ⟨p1, j, xs1, rfl, rfl, Same.sqT c.le h5, fun e => hn ?_, h2, h3, by rw [h6.length]; exact h4, fun p hp => k.tup c hp (h6.flat _) q⟩
    subst e
    exact List.eq_nil_of_length_eq_zero h6.length.symm
  · exact q.elim
theorem o_neg : UnR X (unaryOp .USub) (lift1 X.K fNeg) := by
  intro pins s σ H x v Q I rx hh
  obtain ⟨G, Hs, B, a, Qd, c, ra, ⟨i, rfl, q⟩, k⟩ := hh
  cases ra.int
  exact un_neg pins s σ H _ v Q I rx ⟨i, rfl, k.dat c (.int _) q⟩
end

/-! ### comparisons -/
def Sh (d : D) : Prop := SeqAt.shaped d = true
theorem sh_of {d : D} (h : SeqAt.shaped d = true) : Sh d := h
def fEq : F2 := fun a b Q => ∃ d e, a.look = some d ∧ b.look = some e ∧ Sh d ∧ Sh e ∧ Q (.s (.bool (PyData.eqv d e)))
def fNe : F2 := fun a b Q => ∃ d e, a.look = some d ∧ b.look = some e ∧ Sh d ∧ Sh e ∧ Q (.s (.bool (!PyData.eqv d e)))
def fCmp (g : Int → Int → Bool) : F2 := fun a b Q => ∃ i j, a = .s (.int i) ∧ b = .s (.int j) ∧ Q (.s (.bool (g i j)))
abbrev fLe : F2 := fCmp fun i j => decide (i ≤ j)
abbrev fGt : F2 := fCmp fun i j => decide (j < i)
abbrev fGe : F2 := fCmp fun i j => decide (j ≤ i)
def fLt : F2 := fun a b Q => match a with
  | .s (.int i) => ∃ j, b = .s (.int j) ∧ Q (.s (.bool (decide (i < j))))
  | .s (.tuple xs) => ∃ ns ms, xs = List.map PyData.int ns ∧ b = .s (.tuple (List.map PyData.int ms)) ∧ Q (.s (.bool (HT.lexLt ns ms)))
  | _ => False
def R.isN : R → Bool
  | .s .none => true
  | _ => false
/-- is None, is True, is False -/
def fIs (neg : Bool) : F2 := fun a b Q => match b with
  | .s .none => a.isS = true ∧ Q (.s (.bool (neg != a.isN)))
  | .s (.bool k) => ∃ j, a = .s (.bool j) ∧ Q (.s (.bool (neg != (j == k))))
  | _ => False
def flatD : D → Bool
  | .none | .bool _ | .int _ | .str _ => true
  | _ => false
def inD (d : D) (ds : List D) : Bool := ds.any fun z => PyData.eqv z d
/-- x in a list or tuple of flat items -/
def fIn (neg : Bool) : F2 := fun a b Q => ∃ d ds, a = .s d ∧ b.seq = some ds ∧ flatD d = true ∧ ds.all flatD = true ∧ Q (.s (.bool (neg != inD d ds)))
section
variable {X : Cx} {K : Frag} {H : Hp}
theorem flatV_of {x : V} {d : D} (h : Dp K H x d) (f : flatD d = true) : flatV x = true := by cases h <;> first | rfl | cases f
theorem eqV_of {x y : V} {d e : D} (h : Dp K H x d) (h' : Dp K H y e) (f : flatD d = true) (f' : flatD e = true) : eqV x y = PyData.eqv d e := by
  cases h <;> cases h' <;> first | rfl | cases f | cases f'
theorem flatAll_of : ∀ {xs : List V} {ds : List D}, DpAll K H xs ds → ds.all flatD = true → xs.all flatV = true
  | _, _, .nil, _ => rfl
  | _, _, .cons h t, f => by
    rw [List.all_cons, Bool.and_eq_true] at f ⊢
    exact ⟨flatV_of h f.1, flatAll_of t f.2⟩
theorem inV_of {x : V} {d : D} (h : Dp K H x d) (f : flatD d = true) : ∀ {xs : List V} {ds : List D}, DpAll K H xs ds → ds.all flatD = true → inV x xs = inD d ds
  | _, _, .nil, _ => rfl
  | _, _, .cons h1 t, g => by
    rw [List.all_cons, Bool.and_eq_true] at g
    unfold inV inD
    rw [List.any_cons, List.any_cons, eqV_of h1 h g.1 f]
    congr 1
    exact inV_of h f t g.2
theorem o_eq (hu : X.A.units + 64 < cLine) : OpR X (compareOp .Eq) (lift2 X.K fEq) := by
  intro pins s σ H x y v u Q I rx ry hh
  obtain ⟨G, Hs, B, a, b, Qd, c, ra, rb, ⟨d, e, h1, h2, h3, h4, q⟩, k⟩ := hh
  exact op_eqD hu pins s σ H _ _ v u Q I rx ry ⟨d, e, ra.look h1 c.bh, rb.look h2 c.bh, h3, h4, k.dat c (.bl _) q⟩
theorem o_ne (hu : X.A.units + 64 < cLine) : OpR X (compareOp .NotEq) (lift2 X.K fNe) := by
  intro pins s σ H x y v u Q I rx ry hh
  obtain ⟨G, Hs, B, a, b, Qd, c, ra, rb, ⟨d, e, h1, h2, h3, h4, q⟩, k⟩ := hh
  exact op_neD hu pins s σ H _ _ v u Q I rx ry ⟨d, e, ra.look h1 c.bh, rb.look h2 c.bh, h3, h4, k.dat c (.bl _) q⟩
theorem o_cmp {f : Value → Value → Sem Value} {g : Int → Int → Bool} (h : OpR X f (rI0 fun i j => .bl (g i j))) : OpR X f (lift2 X.K (fCmp g)) := by
  intro pins s σ H x y v u Q I rx ry hh
  obtain ⟨G, Hs, B, a, b, Qd, c, ra, rb, ⟨i, j, rfl, rfl, q⟩, k⟩ := hh
  cases ra.int; cases rb.int
  exact h pins s σ H _ _ v u Q I rx ry ⟨i, j, rfl, rfl, k.dat c (.bl _) q⟩
theorem o_le : OpR X (compareOp .LtE) (lift2 X.K fLe) := o_cmp op_le
theorem o_gt : OpR X (compareOp .Gt) (lift2 X.K fGt) := o_cmp op_gt
theorem o_ge : OpR X (compareOp .GtE) (lift2 X.K fGe) := o_cmp op_ge
theorem o_lt (hu : X.A.units < cLine) : OpR X (compareOp .Lt) (lift2 X.K fLt) := by
  intro pins s σ H x y v u Q I rx ry hh
  obtain ⟨G, Hs, B, a, b, Qd, c, ra, rb, q, k⟩ := hh
  unfold fLt at q
  split at q
  · obtain ⟨j, rfl, q⟩ := q
    cases ra.int; cases rb.int
    exact op_lt pins s σ H _ _ v u Q I rx ry ⟨_, _, rfl, rfl, k.dat c (.bl _) q⟩
  · obtain ⟨ns, ms, rfl, rfl, q⟩ := q
    obtain ⟨p1, xs1, rfl, h1, h2⟩ := ra.tup
    obtain ⟨p2, xs2, rfl, h3, h4⟩ := rb.tup
    cases h2.ints'; cases h4.ints'
    exact op_ltT hu pins s σ H _ _ v u Q I rx ry ⟨p1, p2, ns, ms, rfl, rfl, Same.sqT c.le h1, Same.sqT c.le h3, k.dat c (.bl _) q⟩
  · exact q.elim
theorem _root_.L2.Dp.none_iff {B : Hp} {x : V} {d : D} (h : Dp K B x d) : decide (x = V.non) = (R.s d).isN := by
  cases h <;> rfl
theorem o_is : OpR X (compareOp .Is) (lift2 X.K (fIs false)) := by
  intro pins s σ H x y v u Q I rx ry hh
  obtain ⟨G, Hs, B, a, b, Qd, c, ra, rb, q, k⟩ := hh
  unfold fIs at q
  split at q
  · obtain ⟨h, q⟩ := q
    cases rb.none
    cases a with
    | s d =>
      have e := Dp.none_iff (K := X.K) (B := B) (x := x) (d := d) ra
      refine op_isN pins s σ H _ _ v u Q I rx ry ⟨rfl, ?_⟩
      rw [e]
      exact k.dat c (.bl _) (by simpa using q)
    | _ => cases h
  · obtain ⟨j, rfl, q⟩ := q
    cases ra.bool; cases rb.bool
    refine op_is_bl pins s σ H _ _ v u Q I rx ry ⟨_, _, rfl, rfl, ?_⟩
    exact k.dat c (.bl _) (by simpa [Bool.beq_eq_decide_eq] using q)
  · exact q.elim
theorem o_isNot : OpR X (compareOp .IsNot) (lift2 X.K (fIs true)) := by
  intro pins s σ H x y v u Q I rx ry hh
  obtain ⟨G, Hs, B, a, b, Qd, c, ra, rb, q, k⟩ := hh
  unfold fIs at q
  split at q
  · obtain ⟨h, q⟩ := q
    cases rb.none
    cases a with
    | s d =>
      have e := Dp.none_iff (K := X.K) (B := B) (x := x) (d := d) ra
      refine op_notN pins s σ H _ _ v u Q I rx ry ⟨rfl, ?_⟩
      rw [e]
      exact k.dat c (.bl _) (by simpa using q)
    | _ => cases h
  · obtain ⟨j, rfl, q⟩ := q
    cases ra.bool; cases rb.bool
    refine op_isnot_bl pins s σ H _ _ v u Q I rx ry ⟨_, _, rfl, rfl, ?_⟩
    exact k.dat c (.bl _) (by simpa [Bool.beq_eq_decide_eq] using q)
  · exact q.elim
theorem o_in : OpR X (compareOp .In) (lift2 X.K (fIn false)) := by
  intro pins s σ H x y v u Q I rx ry hh
  obtain ⟨G, Hs, B, a, b, Qd, c, ra, rb, ⟨d, ds, rfl, h2, h3, h4, q⟩, k⟩ := hh
  obtain ⟨p, xs, rfl, h5, h6⟩ := rb.seq h2 c.bh
  refine op_in_seq pins s σ H _ _ v u Q I rx ry ⟨p, xs, rfl, h6, flatV_of (show Dp X.K B x d from ra) h3, flatAll_of h5 h4, ?_⟩
  rw [if_neg Bool.false_ne_true, inV_of (show Dp X.K B x d from ra) h3 h5 h4]
  exact k.dat c (.bl _) (by simpa using q)
theorem o_notIn : OpR X (compareOp .NotIn) (lift2 X.K (fIn true)) := by
  intro pins s σ H x y v u Q I rx ry hh
  obtain ⟨G, Hs, B, a, b, Qd, c, ra, rb, ⟨d, ds, rfl, h2, h3, h4, q⟩, k⟩ := hh
  obtain ⟨p, xs, rfl, h5, h6⟩ := rb.seq h2 c.bh
  refine op_notIn_seq pins s σ H _ _ v u Q I rx ry ⟨p, xs, rfl, h6, flatV_of (show Dp X.K B x d from ra) h3, flatAll_of h5 h4, ?_⟩
  rw [if_pos rfl, inV_of (show Dp X.K B x d from ra) h3 h5 h4]
  exact k.dat c (.bl _) (by simpa using q)
end

/-! ### subscripts, slices -/
def fIx : F2 := fun a b Q => ∃ ds i d, a.seq = some ds ∧ b = .s (.int i) ∧ atI ds i = some d ∧ Q (.s d)
section
variable {X : Cx} {K : Frag} {H : Hp}
theorem _root_.L2.DpAll.atI {xs : List V} {ds : List D} {i : Int} {d : D} (h : DpAll K H xs ds) (e : L2.atI ds i = some d) : ∃ x, L2.atI xs i = some x ∧ Dp K H x d := by
  unfold L2.atI at e ⊢
  rw [h.length]
  cases q : ixN ds.length i with
  | none => rw [q] at e; cases e
  | some j =>
    rw [q] at e
    obtain ⟨x, h1, h2⟩ := h.get e
    exact ⟨x, h1, h2⟩
theorem o_ix : IxR X (lift2 X.K fIx) := by
  intro value slice pins s σ H x y v u Q I rx ry hh hs
  obtain ⟨G, Hs, B, a, b, Qd, c, ra, rb, ⟨ds, i, d, h1, rfl, h2, q⟩, k⟩ := hh
  obtain ⟨p, xs, rfl, h3, h4⟩ := ra.seq h1 c.bh
  cases rb.int
  obtain ⟨z, h5, h6⟩ := h3.atI h2
  have fin : Q z H := k.dat c h6 q
  rcases h4 with h4 | h4
  · exact ix_list value slice pins s σ H _ _ v u Q I rx ry ⟨p, xs, i, z, rfl, rfl, h4, h5, fin⟩ hs
  · exact ix_tup value slice pins s σ H _ _ v u Q I rx ry ⟨p, xs, i, z, rfl, rfl, h4, h5, fin⟩ hs
end
end DL

set_option Elab.async false
set_option linter.all false
set_option maxRecDepth 100000
/-! The data layer: statements, defs, calls. -/
namespace DL
open PySem PySem.Spec PyProof.Rows L2

structure DEnds where
  nx : Rho → Prop
  rt : R → Prop
  bk : Rho → Prop := fun _ => False
  ct : Rho → Prop := fun _ => False
  er : Value → Rho → Prop := fun _ _ => False
abbrev SW := Rho → DEnds → Prop

/-- how data's ends are the layer's ends -/
structure Links (K : Frag) (W : WX) (G : Gh) (B0 H0 B : Hp) (E : DEnds) (D : Ends) : Prop where
  nx : ∀ ρ' σ' B' H', Stt K G B0 H0 B' H' σ' ρ' → Same B B' → E.nx ρ' → D.nx σ' H'
  bk : ∀ ρ' σ' B' H', Stt K G B0 H0 B' H' σ' ρ' → Same B B' → E.bk ρ' → D.bk σ' H'
  ct : ∀ ρ' σ' B' H', Stt K G B0 H0 B' H' σ' ρ' → Same B B' → E.ct ρ' → D.ct σ' H'
  rt : ∀ r x B' H', Stp G B0 H0 B' H' → Same B' (hide G H') → G.ok H' → Rs K G H0 B' H' x r → E.rt r → D.rt x H'
  er : ∀ cls d ρ' σ' B' H', Stt K G B0 H0 B' H' σ' ρ' → Same B B' → E.er cls ρ' → W cls d σ' H'
theorem Links.up {K : Frag} {W : WX} {G : Gh} {B0 H0 B B1 : Hp} {E : DEnds} {D : Ends} (l : Links K W G B0 H0 B E D) (s : Same B B1) : Links K W G B0 H0 B1 E D :=
  ⟨fun a b c d e f => l.nx a b c d e (s.trans f), fun a b c d e f => l.bk a b c d e (s.trans f), fun a b c d e f => l.ct a b c d e (s.trans f), l.rt, fun a b c d e f g h => l.er a b c d e f g (s.trans h)⟩
def TDs (K : Frag) (W : WX) (w : SW) : TS := fun D σ H => ∃ (G : Gh) (B0 H0 B : Hp) (ρ : Rho) (E : DEnds), Stt K G B0 H0 B H σ ρ ∧ w ρ E ∧ Links K W G B0 H0 B E D
abbrev PSD (X : Cx) (W : WX) (st : Stmt) (w : SW) : Prop := PS X st (TDs X.K W w)
abbrev PSDs (X : Cx) (W : WX) (st : List Stmt) (w : SW) : Prop := PSs X st (TDs X.K W w)
theorem ps_imp {X : Cx} {st : Stmt} {t t' : TS} (h : PS X st t) (i : ∀ D σ H, t' D σ H → t D σ H) : PS X st t' := ⟨fun pins s σ H D I q => h.run pins s σ H D I (i _ _ _ q)⟩
theorem pss_imp {X : Cx} {st : List Stmt} {t t' : TS} (h : PSs X st t) (i : ∀ D σ H, t' D σ H → t D σ H) : PSs X st t' := ⟨fun pins s σ H D I q => h.run pins s σ H D I (i _ _ _ q)⟩

def wNext : SW := fun ρ E => E.nx ρ
def wSeq (w u : SW) : SW := fun ρ E => w ρ { E with nx := fun ρ' => u ρ' E }
section
variable {X : Cx} {W : WX} {e a b c : Expr} {st : Stmt} {rest : List Stmt} {es : List Expr} {wa wb wc w : EW} {ws : AW} {wt wt' : TW} {v u : SW} {pos : Pos}
theorem pds_nil : PSDs X W [] wNext := pss_imp pss_nil fun D σ H ⟨G, B0, H0, B, ρ, E, S, q, l⟩ => l.nx _ _ _ _ S (Same.refl _) q
theorem pds_one (h : PSD X W st v) : PSDs X W [st] v := pss_one h
theorem pds_cons (h : PSD X W st v) (hr : PSDs X W rest u) : PSDs X W (st :: rest) (wSeq v u) := pss_imp (pss_cons h hr) fun D σ H ⟨G, B0, H0, B, ρ, E, S, q, l⟩ =>
  ⟨G, B0, H0, B, ρ, _, S, q, ⟨fun ρ' σ' B' H' S' s q' => ⟨G, B0, H0, B', ρ', E, S', q', l.up s⟩, l.bk, l.ct, l.rt, l.er⟩⟩
theorem pds_pass : PSD X W (.Pass pos) wNext := ps_imp ps_pass fun D σ H ⟨G, B0, H0, B, ρ, E, S, q, l⟩ => l.nx _ _ _ _ S (Same.refl _) q
def wBreak : SW := fun ρ E => E.bk ρ
def wCont : SW := fun ρ E => E.ct ρ
theorem pds_break : PSD X W (.Break pos) wBreak := ps_imp ps_break fun D σ H ⟨G, B0, H0, B, ρ, E, S, q, l⟩ => l.bk _ _ _ _ S (Same.refl _) q
theorem pds_continue : PSD X W (.Continue pos) wCont := ps_imp ps_continue fun D σ H ⟨G, B0, H0, B, ρ, E, S, q, l⟩ => l.ct _ _ _ _ S (Same.refl _) q
def wRet (w : EW) : SW := fun ρ E => w ρ E.rt (fun cls => E.er cls ρ)
theorem pds_ret (h : PD X W e w) : PSD X W (.Return (some e) pos) (wRet w) := ps_imp (ps_ret h) fun D σ H ⟨G, B0, H0, B, ρ, E, S, q, l⟩ =>
  ⟨G, B0, H0, B, ρ, _, _, S, q, fun r x B' H' S' s r' q' => l.rt r x B' H' S'.st S'.bh S'.gok (r'.from S.st) q', fun cls d B' H' q' S' s => l.er cls d ρ σ B' H' S' s.bb q'⟩

/-! ### targets -/
abbrev GW := D → Rho → (Rho → Prop) → Prop
abbrev GWs := List D → Rho → (Rho → Prop) → Prop
def TDg (K : Frag) (gw : GW) : TG := fun x σ H R => ∃ (G : Gh) (B0 H0 B : Hp) (ρ : Rho) (d : D) (k : Rho → Prop), Stt K G B0 H0 B H σ ρ ∧ Dp K B x d ∧ gw d ρ k ∧ ∀ ρ' σ' B' H', Stt K G B0 H0 B' H' σ' ρ' → Same B B' → k ρ' → R σ' H'
def TDgs (K : Frag) (gw : GWs) : TGs := fun xs σ H R => ∃ (G : Gh) (B0 H0 B : Hp) (ρ : Rho) (ds : List D) (k : Rho → Prop), Stt K G B0 H0 B H σ ρ ∧ DpAll K B xs ds ∧ gw ds ρ k ∧ ∀ ρ' σ' B' H', Stt K G B0 H0 B' H' σ' ρ' → Same B B' → k ρ' → R σ' H'
abbrev PGD (X : Cx) (tg : Expr) (gw : GW) : Prop := PG X tg (TDg X.K gw)
abbrev PGDs (X : Cx) (tg : List Expr) (gw : GWs) : Prop := PGs X tg (TDgs X.K gw)
theorem pg_imp {X : Cx} {tg : Expr} {t t' : TG} (h : PG X tg t) (i : ∀ x σ H R, t' x σ H R → t x σ H R) : PG X tg t' := ⟨fun pins s σ H v u Q I r q => h.run pins s σ H v u Q I r (i _ _ _ _ q)⟩
theorem pgs_imp {X : Cx} {tg : List Expr} {t t' : TGs} (h : PGs X tg t) (i : ∀ x σ H R, t' x σ H R → t x σ H R) : PGs X tg t' := ⟨fun pins s σ H v u Q I r q => h.run pins s σ H v u Q I r (i _ _ _ _ q)⟩
def gwName (i : Nat) : GW := fun d ρ k => i < ρ.length ∧ k (ρ.set i (some (.s d)))
def gwNil : GWs := fun ds ρ k => ds = [] ∧ k ρ
def gwCons (g : GW) (u : GWs) : GWs := fun ds ρ k => ∃ d r, ds = d :: r ∧ g d ρ fun ρ' => u r ρ' k
def gwTup (n : Nat) (u : GWs) : GW := fun d ρ k => ∃ ds, d = .tuple ds ∧ ds.length = n ∧ u ds ρ k
theorem Stt.put {K : Frag} {G : Gh} {B0 H0 B H : Hp} {σ : L2.St} {ρ : Rho} {x : V} {r : R} (S : Stt K G B0 H0 B H σ ρ) (k : keeps r = true) (hr : Rs K G H B H x r) (i : Nat) (hi : i < ρ.length) : Stt K G B0 H0 B H (σ.set i (some x)) (ρ.set i (some r)) :=
  S.fill (Stp.refl ..) S k hr i (by rw [← S.len]; exact hi)
theorem pgd_name {i : Nat} {x : Expr} (h : PG X x (gName i)) : PGD X x (gwName i) := pg_imp h fun x σ H R ⟨G, B0, H0, B, ρ, d, k, S, hd, ⟨hi, q⟩, l⟩ =>
  l _ _ _ _ (S.put (r := .s d) rfl hd i hi) (Same.refl _) q
theorem pgds_nil : PGDs X [] gwNil := pgs_imp pgs_nil fun xs σ H R ⟨G, B0, H0, B, ρ, ds, k, S, hd, ⟨e, q⟩, l⟩ => by
  subst e
  cases hd
  exact ⟨rfl, l _ _ _ _ S (Same.refl _) q⟩
theorem pgds_cons {g : GW} {gs : GWs} (h : PGs X (e :: es) (gCons (TDg X.K g) (TDgs X.K gs))) : PGDs X (e :: es) (gwCons g gs) :=
  pgs_imp h fun xs σ H R ⟨G, B0, H0, B, ρ, ds, k, S, hd, ⟨d, r, e, q⟩, l⟩ => by
    subst e
    cases hd with
    | cons hd1 hd2 =>
      exact ⟨_, _, rfl, G, B0, H0, B, ρ, d, _, S, hd1, q, fun ρ' σ' B' H' S' s q' => ⟨G, B0, H0, B', ρ', r, _, S', DpAll.mono s hd2, q', fun ρ2 σ2 B2 H2 S2 s2 q2 => l _ _ _ _ S2 (s.trans s2) q2⟩⟩
theorem pgd_tup {n : Nat} {gs : GWs} (h : PG X e (gTup X.K n (TDgs X.K gs))) : PGD X e (gwTup n gs) := pg_imp h fun x σ H R ⟨G, B0, H0, B, ρ, d, k, S, hd, ⟨ds, e, hn, q⟩, l⟩ => by
  subst e
  cases hd with
  | tup h1 h2 => exact ⟨_, _, rfl, Same.sqT (S.bh.trans (hide_le H)) h1, h2.length.trans hn, G, B0, H0, B, ρ, ds, k, S, h2, q, l⟩

/-! ### assignments -/
def wAsg (i : Nat) (w : EW) : SW := fun ρ E => w ρ (fun r => i < ρ.length ∧ keeps r = true ∧ E.nx (ρ.set i (some r))) (fun cls => E.er cls ρ)
def wAsgT (w : EW) (g : GW) : SW := fun ρ E => w ρ (fun r => ∃ d, r.dat = some d ∧ g d ρ E.nx) (fun cls => E.er cls ρ)
theorem pds_set {i : Nat} (h : PS X st (tAsg (TDe X.K W w) (gName i))) : PSD X W st (wAsg i w) := ps_imp h fun D σ H ⟨G, B0, H0, B, ρ, E, S, q, l⟩ =>
  ⟨G, B0, H0, B, ρ, _, _, S, q, fun r x B' H' S' s r' ⟨hi, k, q'⟩ => l.nx _ _ _ _ (S.fill s S' k r' i (by rw [← S.len]; exact hi)) s.bb q', fun cls d B' H' q' S' s => l.er cls d ρ σ B' H' S' s.bb q'⟩
theorem pds_asgT {g : GW} {tg : Expr} (h : PS X st (tAsg (TDe X.K W w) (TDg X.K g))) : PSD X W st (wAsgT w g) := ps_imp h fun D σ H ⟨G, B0, H0, B, ρ, E, S, q, l⟩ =>
  ⟨G, B0, H0, B, ρ, _, _, S, q, fun r x B' H' S' s r' ⟨d, e, q'⟩ => ⟨G, B0, H0, B', ρ, d, _, S', r'.dat e, q', fun ρ2 σ2 B2 H2 S2 s2 q2 => l.nx _ _ _ _ S2 (s.bb.trans s2) q2⟩, fun cls d B' H' q' S' s => l.er cls d ρ σ B' H' S' s.bb q'⟩
/-- two names at once, each side written -/
def wPar (i j : Nat) (wa wb : EW) : SW := fun ρ E => wa ρ (fun r => wb ρ (fun u => i < ρ.length ∧ j < ρ.length ∧ keeps r = true ∧ keeps u = true ∧ E.nx ((ρ.set i (some r)).set j (some u))) (fun cls => E.er cls ρ)) (fun cls => E.er cls ρ)
theorem pds_par {i j : Nat} (h : PS X st (tPar i j (TDa X.K W (wCons wa (wCons wb wNil))))) : PSD X W st (wPar i j wa wb) := ps_imp h fun D σ H ⟨G, B0, H0, B, ρ, E, S, q, l⟩ => by
  refine ⟨G, B0, H0, B, ρ, (fun rs => ∃ r u, rs = [r, u] ∧ (i < ρ.length ∧ j < ρ.length ∧ keeps r = true ∧ keeps u = true ∧ E.nx ((ρ.set i (some r)).set j (some u)))), fun cls => E.er cls ρ, S, ?_, ?_, fun cls d B' H' q' S' s => l.er cls d ρ σ B' H' S' s.bb q'⟩
  · show wa ρ (fun r => wb ρ (fun u => wNil ρ _ _) _) _
    have e : (fun r => wb ρ (fun u => wNil ρ (fun rs => ∃ r' u', r :: u :: rs = [r', u'] ∧ (i < ρ.length ∧ j < ρ.length ∧ keeps r' = true ∧ keeps u' = true ∧ E.nx ((ρ.set i (some r')).set j (some u')))) (fun cls => E.er cls ρ)) (fun cls => E.er cls ρ)) =
        (fun r => wb ρ (fun u => i < ρ.length ∧ j < ρ.length ∧ keeps r = true ∧ keeps u = true ∧ E.nx ((ρ.set i (some r)).set j (some u))) (fun cls => E.er cls ρ)) := by
      funext r
      congr 1
      funext u
      apply propext
      constructor
      · rintro ⟨r', u', e, z⟩
        cases e
        exact z
      · intro z
        exact ⟨r, u, rfl, z⟩
    rw [e]
    exact q
  · rintro rs xs B' H' S' s r' ap ⟨r, u, rfl, hi, hj, k1, k2, q'⟩
    cases r' with
    | cons h1 h2 => cases h2 with
      | cons h2 h3 =>
        cases h3
        rename_i x y
        have S1 := S.fill s S' k1 h1 i (by rw [← S.len]; exact hi)
        refine ⟨x, y, rfl, l.nx _ _ _ _ (S1.fillG (h2.slot k2 S.st.hh) j (by rw [List.length_set, ← S.len]; exact hj) fun m v z hm e1 o1 o2 e2 e3 => ?_) s.bb q'⟩
        by_cases qm : m = i
        · subst qm
          rw [List.getElem?_set_self hi] at e1; cases e1
          rw [List.getElem?_set_self (by rw [← S.len]; exact hi)] at e2; cases e2
          exact ap.1 o2 0 u rfl o1 (by rw [e3]; rfl)
        · rw [List.getElem?_set_ne (Ne.symm qm)] at e1 e2
          exact S.away h2 o1 m v z e1 o2 e2 e3
end
end DL

set_option Elab.async false
set_option linter.all false
set_option maxRecDepth 100000
/-! The data layer: if, loops, errors, defs and their calls. -/
namespace DL
open PySem PySem.Spec PyProof.Rows L2
section
variable {X : Cx} {W : WX} {e a b c : Expr} {st : Stmt} {rest : List Stmt} {es : List Expr} {wa wb wc w : EW} {ws : AW} {wt wt' : TW} {v u : SW} {pos : Pos}

def wIfS (t : TW) (v u : SW) : SW := fun ρ E => t ρ (fun k => if k = true then v ρ E else u ρ E) (fun cls => E.er cls ρ)
theorem pds_if {th el : List Stmt} (hc : PDt X W e wt) (ha : PSDs X W th v) (hb : PSDs X W el u) : PSD X W (.If e th el pos) (wIfS wt v u) := ps_imp (ps_if hc ha hb) fun D σ H ⟨G, B0, H0, B, ρ, E, S, q, l⟩ =>
  ⟨G, B0, H0, B, ρ, _, _, S, q, fun k B' H' S' s q' => by
    cases k with
    | true => exact iteT ⟨G, B0, H0, B', ρ, E, S', (if_pos rfl).mp q', l.up s.bb⟩
    | false => exact iteF ⟨G, B0, H0, B', ρ, E, S', (if_neg Bool.false_ne_true).mp q', l.up s.bb⟩, fun cls d B' H' q' S' s => l.er cls d ρ σ B' H' S' s.bb q'⟩

/-! ### name op= e of ints -/
def wAug (i : Nat) (g : Int → Int → Int) (w : EW) : SW := fun ρ E => ∃ n, ρ[i]? = some (some (.s (.int n))) ∧ w ρ (fun r => ∃ m, r = .s (.int m) ∧ E.nx (ρ.set i (some (.s (.int (g n m)))))) (fun cls => E.er cls ρ)
theorem pds_aug {i : Nat} {g : Int → Int → Int} (h : PS X st (tAug i (TDe X.K W w) (ipI g))) : PSD X W st (wAug i g w) := ps_imp h fun D σ H ⟨G, B0, H0, B, ρ, E, S, ⟨n, e1, q⟩, l⟩ => by
  obtain ⟨x, e2, hr⟩ := S.sl i _ e1
  cases (show Dp X.K B x (.int n) from hr)
  refine ⟨.int n, e2, G, B0, H0, B, ρ, _, _, S, q, fun r y B' H' S' s r' q' => ?_, fun cls d B' H' q' S' s => l.er cls d ρ σ B' H' S' s.bb q'⟩
  obtain ⟨m, rfl, q'⟩ := q'
  cases (show Dp X.K B' y (.int m) from r')
  exact ⟨n, m, rfl, rfl, l.nx _ _ _ _ (S'.put (r := .s (.int (g n m))) rfl (show Dp X.K B' (.int (g n m)) (.int (g n m)) from .int _) i ((List.getElem?_eq_some_iff.mp e1).1)) s.bb q'⟩

/-! ### a statement that is an expression -/
def wExpr (w : EW) : SW := fun ρ E => w ρ (fun _ => E.nx ρ) (fun cls => E.er cls ρ)
theorem pds_expr (h : PS X st (tDrop (TDe X.K W w))) : PSD X W st (wExpr w) := ps_imp h fun D σ H ⟨G, B0, H0, B, ρ, E, S, q, l⟩ =>
  ⟨G, B0, H0, B, ρ, _, _, S, q, fun r x B' H' S' s r' q' => l.nx _ _ _ _ S' s.bb q', fun cls d B' H' q' S' s => l.er cls d ρ σ B' H' S' s.bb q'⟩

/-! ### a list of one's own: append, extend, pop, a place written -/
def wAppend (i : Nat) (w : EW) : SW := fun ρ E => ∃ ds, ρ[i]? = some (some (.l true ds)) ∧ w ρ (fun r => ∃ d, r.dat = some d ∧ ds.length < 16777216 ∧ E.nx (ρ.set i (some (.l true (ds ++ [d]))))) (fun cls => E.er cls ρ)
theorem pds_append {i : Nat} (h : PS X st (tDrop (tBM X.K "list" rAppend (tVar i) (tCons (TDe X.K W w) tNil)))) : PSD X W st (wAppend i w) := ps_imp h fun D σ H ⟨G, B0, H0, B, ρ, E, S, ⟨ds, e1, q⟩, l⟩ => by
  obtain ⟨x, e2, ⟨p, xs, ex, h1, h2, h3, h4, h5⟩⟩ := S.sl i _ e1
  subst ex
  refine ⟨_, e2, .inl ⟨rfl, xs, .inl (.inl h1)⟩, G, B0, H0, B, ρ, _, _, S, q, fun r y B' H' S' s r' q' => ?_, fun cls d B' H' q' S' s => l.er cls d ρ σ B' H' S' s.bb q'⟩
  obtain ⟨d, ed, hlen, q'⟩ := q'
  have k1 : H' p = some (.lst xs) := (hide_some (s.hh p _ (by rw [hide_out h4]; exact h1))).2
  refine ⟨p, xs, y, rfl, rfl, k1, by rw [line_eq, h2.length]; exact hlen, ?_⟩
  refine l.nx _ _ _ _ (S'.mut (r' := .l true (ds ++ [d])) e1 rfl e2 ⟨p, _, rfl, upd_same, (DpAll.mono s.bb h2).append (.cons (r'.dat ed) .nil), s.nw p _ h3 (by rw [hide_out h4]; exact h1), h4, h5⟩) s.bb q'
def wExtend (i : Nat) (w : EW) : SW := fun ρ E => ∃ ds, ρ[i]? = some (some (.l true ds)) ∧ w ρ (fun r => ∃ o es, r = .l o es ∧ ds.length + es.length ≤ 16777216 ∧ E.nx (ρ.set i (some (.l true (ds ++ es))))) (fun cls => E.er cls ρ)
theorem pds_extend {i : Nat} (h : PS X st (tDrop (tBM X.K "list" rExtend (tVar i) (tCons (TDe X.K W w) tNil)))) : PSD X W st (wExtend i w) := ps_imp h fun D σ H ⟨G, B0, H0, B, ρ, E, S, ⟨ds, e1, q⟩, l⟩ => by
  obtain ⟨x, e2, ⟨p, xs, ex, h1, h2, h3, h4, h5⟩⟩ := S.sl i _ e1
  subst ex
  refine ⟨_, e2, .inl ⟨rfl, xs, .inl (.inl h1)⟩, G, B0, H0, B, ρ, _, _, S, q, fun r y B' H' S' s r' q' => ?_, fun cls d B' H' q' S' s => l.er cls d ρ σ B' H' S' s.bb q'⟩
  obtain ⟨o, es, rfl, hlen, q'⟩ := q'
  obtain ⟨p2, xs2, rfl, g1, g2, _⟩ := r'
  have k1 : H' p = some (.lst xs) := (hide_some (s.hh p _ (by rw [hide_out h4]; exact h1))).2
  refine ⟨p, p2, xs, xs2, rfl, rfl, k1, (hide_some g1).2, by rw [line_eq, h2.length, g2.length]; exact hlen, ?_⟩
  refine l.nx _ _ _ _ (S'.mut (r' := .l true (ds ++ es)) e1 rfl e2 ⟨p, _, rfl, upd_same, (DpAll.mono s.bb h2).append g2, s.nw p _ h3 (by rw [hide_out h4]; exact h1), h4, h5⟩) s.bb q'
/-- target = x.pop() -/
def wPop (i : Nat) (g : GW) : SW := fun ρ E => ∃ ds d, ρ[i]? = some (some (.l true (ds ++ [d]))) ∧ g d (ρ.set i (some (.l true ds))) E.nx
theorem DpAll_last {K : Frag} {H : Hp} {xs : List V} {ds : List D} {d : D} (h : DpAll K H xs (ds ++ [d])) : ∃ y, xs[xs.length - 1]? = some y ∧ Dp K H y d ∧ DpAll K H xs.dropLast ds := by
  have hl : xs.length = ds.length + 1 := by rw [h.length]; simp
  obtain ⟨y, h1, h2⟩ := h.get (i := ds.length) (d := d) (by simp)
  refine ⟨y, by rw [hl]; exact h1, h2, ?_⟩
  have := h.take ds.length
  rw [List.take_left' rfl] at this
  rw [List.dropLast_eq_take, hl]
  exact this
theorem pds_pop {i : Nat} {g : GW} (h : PS X st (tAsg (tBM0 X.K "list" rPop (tVar i)) (TDg X.K g))) : PSD X W st (wPop i g) := ps_imp h fun D σ H ⟨G, B0, H0, B, ρ, E, S, ⟨ds, d, e1, q⟩, l⟩ => by
  obtain ⟨x, e2, ⟨p, xs, ex, h1, h2, h3, h4, h5⟩⟩ := S.sl i _ e1
  subst ex
  obtain ⟨y, k1, k2, k3⟩ := DpAll_last h2
  refine ⟨_, e2, .inl ⟨rfl, xs, .inl (.inl h1)⟩, p, xs, y, rfl, rfl, h1, k1, ?_⟩
  exact ⟨G, B0, H0, B, _, d, _, S.mut e1 rfl e2 (r' := .l true ds) ⟨p, _, rfl, upd_same, k3, h3, h4, h5⟩, k2, q, fun ρ2 σ2 B2 H2 S2 s2 q2 => l.nx _ _ _ _ S2 s2 q2⟩
/-- x[i] = e, x a list of one's own -/
def wSetIx (i : Nat) (we wi : EW) : SW := fun ρ E => ∃ ds, ρ[i]? = some (some (.l true ds)) ∧ we ρ (fun r => ∃ d, r.dat = some d ∧ wi ρ (fun z => ∃ n j, z = .s (.int n) ∧ ixN ds.length n = some j ∧ E.nx (ρ.set i (some (.l true (ds.set j d))))) (fun cls => E.er cls ρ)) (fun cls => E.er cls ρ)
theorem pds_setIx {i : Nat} {we wi : EW} (h : PS X st (tAsg (TDe X.K W we) (gSub (tVar i) (TDe X.K W wi) rSetL))) : PSD X W st (wSetIx i we wi) := ps_imp h fun D σ H ⟨G, B0, H0, B, ρ, E, S, ⟨ds, e1, q⟩, l⟩ => by
  refine ⟨G, B0, H0, B, ρ, _, _, S, q, fun r y B' H' S' s r' q' => ?_, fun cls d B' H' q' S' s => l.er cls d ρ σ B' H' S' s.bb q'⟩
  obtain ⟨d, ed, q'⟩ := q'
  obtain ⟨x, e2, ⟨p, xs, ex, h1, h2, h3, h4, h5⟩⟩ := S'.sl i _ e1
  subst ex
  refine ⟨_, e2, G, B0, H0, B', ρ, _, _, S', q', fun z w1 B2 H2 S2 s2 z' q2 => ?_, fun cls d B2 H2 q2 S2 s2 => l.er cls d ρ σ B2 H2 S2 (s.bb.trans s2.bb) q2⟩
  obtain ⟨n, j, rfl, hj, q2⟩ := q2
  cases (show Dp X.K B2 w1 (.int n) from z')
  obtain ⟨x2, f2, ⟨p2, xs2, ex2, g1, g2, g3, g4, g5⟩⟩ := S2.sl i _ e1
  rw [e2] at f2; cases f2; cases ex2
  refine ⟨p, xs2, n, j, rfl, rfl, g1, by rw [g2.length]; exact hj, ?_⟩
  exact l.nx _ _ _ _ (S2.mut (r' := .l true (ds.set j d)) e1 rfl e2 ⟨p, _, rfl, upd_same, g2.set j (Dp.mono s2.bb (r'.dat ed)), g3, g4, g5⟩) (s.bb.trans s2.bb) q2
/-- a list of one's own is a datum from here on -/
def wFrzS (i : Nat) (v : SW) : SW := fun ρ E => ∃ ds, ρ[i]? = some (some (.l true ds)) ∧ v (ρ.set i (some (.s (.list ds)))) E
theorem pds_frz {i : Nat} (h : PSD X W st v) : PSD X W st (wFrzS i v) := ps_imp h fun D σ H ⟨G, B0, H0, B, ρ, E, S, ⟨ds, e1, q⟩, l⟩ => by
  obtain ⟨B', S', s⟩ := S.freeze e1
  exact ⟨G, B0, H0, B', _, E, S', q, l.up s⟩

/-! ### while -/
def wWhile (t : TW) (v : SW) : SW := fun ρ E => ∃ (P : Rho → Prop) (μ : Rho → Nat), P ρ ∧ ∀ ρ', P ρ' →
  t ρ' (fun k => if k = true then v ρ' { E with nx := fun ρ'' => P ρ'' ∧ μ ρ'' < μ ρ', ct := fun ρ'' => P ρ'' ∧ μ ρ'' < μ ρ', bk := E.nx } else E.nx ρ') (fun cls => E.er cls ρ')
theorem pds_while {body : List Stmt} (hp : PassesOwn (model X.prog X.w) X.A X.env X.xe) (hc : PDt X W e wt) (hb : PSDs X W body v) : PSD X W (.While e body [] pos) (wWhile wt v) :=
  ps_imp (ps_while hp hc hb) fun D σ H ⟨G, B0, H0, B, ρ, E, S, ⟨P, μ, p0, q⟩, l⟩ => by
    refine ⟨fun m σ H => ∃ B' ρ', m = μ ρ' ∧ Stt X.K G B0 H0 B' H σ ρ' ∧ Same B B' ∧ P ρ', ⟨_, B, ρ, rfl, S, Same.refl _, p0⟩, ?_⟩
    rintro m σ1 H1 ⟨B1, ρ1, rfl, S1, s1, p1⟩
    refine ⟨G, B0, H0, B1, ρ1, _, _, S1, q ρ1 p1, fun k B2 H2 S2 s2 q2 => ?_, fun cls d B' H' q' S' s => l.er cls d ρ1 σ1 B' H' S' (s1.trans s.bb) q'⟩
    cases k with
    | false => exact iteF (l.nx _ _ _ _ S2 (s1.trans s2.bb) ((if_neg Bool.false_ne_true).mp q2))
    | true =>
      refine iteT ⟨fun σ' H' => ∃ m', m' < μ ρ1 ∧ ∃ B' ρ', m' = μ ρ' ∧ Stt X.K G B0 H0 B' H' σ' ρ' ∧ Same B B' ∧ P ρ', fun σ' H' z => z, G, B0, H0, B2, ρ1, _, S2, (if_pos rfl).mp q2, ?_⟩
      have s12 := s1.trans s2.bb
      exact ⟨fun ρ' σ' B' H' S' s ⟨p', lt⟩ => ⟨_, lt, B', ρ', rfl, S', s12.trans s, p'⟩, fun ρ' σ' B' H' S' s q' => l.nx _ _ _ _ S' (s12.trans s) q', fun ρ' σ' B' H' S' s ⟨p', lt⟩ => ⟨_, lt, B', ρ', rfl, S', s12.trans s, p'⟩, l.rt,
        fun cls d ρ' σ' B' H' S' s q' => l.er cls d ρ' σ' B' H' S' (s12.trans s) q'⟩

/-! ### raise, try -/
def wRaise (C : Value) : SW := fun ρ E => E.er C ρ
theorem pds_raise {C : Addr} (tk : Takes X W) (h : PMk X e (fun _ H Q => Q (.ref C) none H)) (hc : X.calm = true) : PSD X W (.Raise (some e) none pos) (wRaise (.ref C)) := ps_imp (ps_raise hc tk h) fun D σ H ⟨G, B0, H0, B, ρ, E, S, q, l⟩ =>
  l.er _ _ _ _ _ _ S (Same.refl _) q

def W0 : WX := fun _ _ _ _ => False
/-- the clauses, one after the other -/
def wHand (K : Frag) : List (Value × SW) → DEnds → Value → Rho → Prop
  | [], E, cls, ρ => E.er cls ρ
  | (c, wh) :: r, E, cls, ρ => ∃ b, PySem.W.exmOne K cls c = some b ∧ (b = true → wh ρ { E with er := fun _ _ => False }) ∧ (b = false → wHand K r E cls ρ)
def wTry (K : Frag) (wb : SW) (hs : List (Value × SW)) : SW := fun ρ E => wb ρ { E with er := wHand K hs E }
def suites (K : Frag) (hs : List (Value × SW)) : List (Value × (Addr → Value → Option Addr → TS)) := hs.map fun p => (p.1, fun _ _ _ => TDs K W0 p.2)
theorem hand_ok {K : Frag} {G : Gh} {B0 H0 B B' H' : Hp} {E : DEnds} {D : Ends} {cls : Value} {d : Option Addr} {σ' : L2.St} {ρ' : Rho} (l : Links K W G B0 H0 B E D) (S : Stt K G B0 H0 B' H' σ' ρ') (s : Same B B') :
    ∀ hs : List (Value × SW), wHand K hs E cls ρ' → wMany K W D (suites K hs) cls d σ' H'
  | [], q => l.er cls d ρ' σ' B' H' S s q
  | (c, wh) :: r, ⟨b, e, h1, h2⟩ => ⟨b, e, fun z a ha => ⟨G, B0, H0, B', ρ', _, S, h1 z, ⟨(l.up s).nx, (l.up s).bk, (l.up s).ct, l.rt, fun _ _ _ _ _ _ _ _ q => q.elim⟩⟩, fun z => hand_ok l S s r (h2 z)⟩
theorem pds_try {body : List Stmt} {h₀ : ExceptHandler} {hds : List ExceptHandler} {hs : List (Value × SW)} (h1 : X.stack = X.env :: X.outer) (h2 : X.env.frame = some X.env.locals) (tk : Takes X W)
    (hb : ∀ (W' : WX) (pn : List (Addr × Obj)) (xe : Value → Shared → Prop), Takes (X.tr pn xe) W' → PassesOwn (model X.prog X.w) X.A X.env xe → PSDs (X.tr pn xe) W' body v)
    (hh : HdsOk X (h₀ :: hds) (suites X.K hs)) : PSD X W (.Try body (h₀ :: hds) [] [] pos) (wTry X.K v hs) :=
  ps_imp (ps_try_many (tb := fun W' => TDs X.K W' v) h1 h2 tk hb hh) fun D σ H ⟨G, B0, H0, B, ρ, E, S, q, l⟩ =>
    ⟨G, B0, H0, B, ρ, _, S, q, ⟨l.nx, l.bk, l.ct, l.rt, fun cls d ρ' σ' B' H' S' s q' => hand_ok l S' s hs q'⟩⟩
end

/-! ### defs -/
abbrev Ct := List R → (R → Prop) → (Value → Prop) → Prop
def spD (K : Frag) (c : Ct) : Sp := fun vs H Q E => ∃ (G : Gh) (F : Hp) (rs : List R) (Qd : R → Prop) (Qe : Value → Prop), Same F (hide G H) ∧ G.ok H ∧ RsAll K G H F H vs (rs.map peek) ∧ c (rs.map peek) Qd Qe ∧
  (∀ r x F' H', Stp G F H F' H' → Same F' (hide G H') → G.ok H' → Rs K G H F' H' x r → Qd r → Q x H') ∧ (∀ cls d F' H', Stp G F H F' H' → Same F' (hide G H') → G.ok H' → Qe cls → E cls d H')
theorem RsAll.length {K : Frag} {G : Gh} {H B' H' : Hp} : ∀ {xs : List V} {rs : List R}, RsAll K G H B' H' xs rs → xs.length = rs.length
  | _, _, .nil => rfl
  | _, _, .cons _ t => congrArg (· + 1) (RsAll.length t)
theorem peek_peek : ∀ r : R, peek (peek r) = peek r
  | .s _ => rfl
  | .l _ _ => rfl
  | .k _ _ => rfl
  | .t _ _ => rfl
  | .g => rfl
theorem owns_peek : ∀ r : R, owns (peek r) = false
  | .s _ => rfl
  | .l _ _ => rfl
  | .k _ _ => rfl
  | .t _ _ => rfl
  | .g => rfl
def rho (n : Nat) (rs : List R) : Rho := rs.map some ++ List.replicate (n - rs.length) none
theorem stt_start {K : Frag} {G : Gh} {F H : Hp} {N : List Str} {vs : List V} {rs : List R} (s : Same F (hide G H)) (g : G.ok H) (r : RsAll K G H F H vs (rs.map peek)) : Stt K G F H F H (L2.start N vs) (rho N.length (rs.map peek)) := by
  have hl := r.length
  refine ⟨by unfold L2.start rho; simp [hl], s, g, Stp.refl .., fun i u e => ?_, fun i j u v x _ e1 _ o _ _ _ => ?_⟩
  · have hi : i < (rs.map peek).length := by
      by_cases q : i < (rs.map peek).length
      · exact q
      · exfalso
        unfold rho at e
        rw [List.getElem?_append_right (by simpa using q)] at e
        have := List.mem_of_getElem? e
        have := List.eq_of_mem_replicate this
        cases this
    unfold rho at e
    rw [List.getElem?_append_left (by simpa using hi)] at e
    have e' : (rs.map peek)[i]? = some u := by
      rw [List.getElem?_map] at e
      cases q : (rs.map peek)[i]? with
      | none => rw [q] at e; cases e
      | some z => rw [q] at e; cases e; rfl
    obtain ⟨y, h1, h2⟩ := r.get e'
    refine ⟨y, ?_, ?_⟩
    · unfold L2.start
      rw [List.getElem?_append_left (by rw [List.length_map, hl]; exact hi), List.getElem?_map, h1]
      rfl
    · have eu : peek u = u := by
        rw [List.getElem?_map] at e'
        cases q : rs[i]? with
        | none => rw [q] at e'; cases e'
        | some z => rw [q] at e'; cases e'; exact peek_peek z
      rw [← eu] at h2 ⊢
      cases u with
      | s d => exact h2
      | l o ds => obtain ⟨p, xs, e1, e2, e3, _⟩ := h2; exact ⟨p, xs, e1, e2, e3⟩
      | k o ds => obtain ⟨p, xs, e1, e2, e3, _⟩ := h2; exact ⟨p, xs, e1, e2, e3⟩
      | t o ds => obtain ⟨p, xs, e1, e2, e3, _⟩ := h2; exact ⟨p, xs, e1, e2, e3⟩
      | g => exact h2
  · exfalso
    have hm : some u ∈ rho N.length (rs.map peek) := List.mem_of_getElem? e1
    unfold rho at hm
    rcases List.mem_append.mp hm with z | z
    · obtain ⟨a, h1, h2⟩ := List.mem_map.mp z
      obtain ⟨b, h3, h4⟩ := List.mem_map.mp h1
      cases h2
      rw [← h4, owns_peek] at o
      cases o
    · exact nomatch List.eq_of_mem_replicate z
theorem fnD {P : Program} {wd : World} {K : Frag} {mg : Str → Option Value} {base : Heap} {x qual : Str} {st : Stmt} {f : Addr} {fd : FuncData} {N ps : List Str} {k : Nat} {c : Ct} {w : SW} (F : Fun K x qual st f fd) (S : FnScope N ps (defScope st))
    (hlen : ∀ rs Q E, c rs Q E → rs.length = ps.length)
    (hb : ∀ (cdv : Value) (A : Around) (outer : List Env) (s : Shared) (H : Hp) (E : XK), Room k (A.deeper (envOfC qual (defScope st) s.heap.objs.size f cdv)) →
      PSDs (cxOf (L2.CX P wd) P wd K mg base N qual (defScope st) f cdv A outer s H E) (fun cls d _ H => E cls d H) (defBody st) w)
    (hw : ∀ rs Q E, c rs Q E → w (rho N.length rs) { nx := fun _ => Q (.s .none), rt := Q, er := fun cls _ => E cls }) : FnOk P wd K mg base (L2.CX P wd) (k + 1) f fd ps (spD K c) := by
  refine F.okX S (fun vs H Q E h => ?_) (fun cdv A outer s H vs Q E hr h => ?_)
  · obtain ⟨G, F', rs, Qd, Qe, _, _, h1, h2, _⟩ := h
    exact h1.length.trans (hlen _ _ _ h2)
  · obtain ⟨G, F', rs, Qd, Qe, s0, g0, h1, h2, ok, er⟩ := h
    refine ⟨_, hb cdv A outer s H E hr, G, F', H, F', _, _, stt_start s0 g0 h1, hw _ _ _ h2, ?_⟩
    exact ⟨fun ρ' σ' B' H' S' s q => ok (.s .none) .non B' H' S'.st S'.bh S'.gok .non q, fun _ _ _ _ _ _ q => q.elim, fun _ _ _ _ _ _ q => q.elim, fun r x B' H' s b g r' q => ok r x B' H' s b g r' q, fun cls d ρ' σ' B' H' S' s q => er cls d B' H' S'.st S'.bh S'.gok q⟩

/-! ### a call -/
def wCall (c : Ct) (ws : AW) : EW := fun ρ Q E => ws ρ (fun rs => c (rs.map peek) Q E) E
theorem RsAll.peek {K : Frag} {G : Gh} {H H1 B' H' : Hp} : ∀ {xs : List V} {rs : List R}, RsAll K G H B' H' xs rs → RsAll K G H1 B' H' xs (rs.map DL.peek)
  | _, _, .nil => .nil
  | _, _, .cons (r := r) h t => .cons (by
    cases r with
    | s d => exact h
    | l o ds => obtain ⟨p, xs, e1, e2, e3, _⟩ := h; exact ⟨p, xs, e1, e2, e3, fun z => by cases z⟩
    | k o ds => obtain ⟨p, xs, e1, e2, e3, _⟩ := h; exact ⟨p, xs, e1, e2, e3, fun z => by cases z⟩
    | t o ds => obtain ⟨p, xs, e1, e2, e3, _⟩ := h; exact ⟨p, xs, e1, e2, e3, fun z => by cases z⟩
    | g => exact h) (RsAll.peek t)
theorem pd_call {X : Cx} {W : WX} {e : Expr} {c : Ct} {ws : AW} (h : PE X e (tCallS (spD X.K c) (WE W) (TDa X.K W ws))) : PD X W e (wCall c ws) :=
  pe_imp h fun σ H Q ⟨G, B0, H0, B, ρ, Qd, Qe, S, q, ok, er⟩ => by
    refine ⟨G, B0, H0, B, ρ, _, Qe, S, q, fun rs xs B1 H1 S1 s1 r1 _ q1 => ?_, er⟩
    exact ⟨G, B1, rs, Qd, Qe, S1.bh, S1.gok, r1.peek, q1, fun r x F' H' s b g r' q' => ok r x F' H' (S1.step s b g) (s1.trans s) (r'.from s1) q', fun cls d F' H' s b g q' => er cls d F' H' q' (S1.step s b g) (s1.trans s)⟩
end DL

set_option Elab.async false
set_option linter.all false
set_option maxRecDepth 100000
/-! The data layer: what is walked; for; comprehensions. -/
namespace DL
open PySem PySem.Spec PyProof.Rows L2

/-- what an iterator gives, as long as Later holds -/
structure ItD (K : Frag) (G : Gh) (Later : Hp → Hp → Prop) (J : It) (ds : List D) : Prop where
  go : ∀ i B H, Later B H → i < ds.length → J.go i H
  stop : ∀ B H, Later B H → J.stop ds.length H
  yld : ∀ i B H x H', Later B H → i < ds.length → J.yld i H x H' → ∃ d B', ds[i]? = some d ∧ Dp K B' x d ∧ Stp G B H B' H' ∧ Same B' (hide G H') ∧ G.ok H'
/-- later in an expression; later in a def's body -/
def LatC (G : Gh) (B1 H1 B H : Hp) : Prop := Stp G B1 H1 B H ∧ Same B (hide G H) ∧ G.ok H
def LatF (G : Gh) (B0 H0 B1 B H : Hp) : Prop := Same B1 B ∧ Same B (hide G H) ∧ G.ok H ∧ Stp G B0 H0 B H
abbrev IW := Rho → (List D → Prop) → (Value → Prop) → Prop
def TDiC (K : Frag) (W : WX) (w : IW) : TI := fun σ H Q => ∃ (G : Gh) (B0 H0 B : Hp) (ρ : Rho) (Qd : List D → Prop) (Qe : Value → Prop), Stt K G B0 H0 B H σ ρ ∧ w ρ Qd Qe ∧
  (∀ ds J B' H', Stt K G B0 H0 B' H' σ ρ → Stp G B H B' H' → ItD K G (LatC G B' H') J ds → Qd ds → Q J H') ∧ (∀ cls d B' H', Qe cls → Stt K G B0 H0 B' H' σ ρ → Stp G B H B' H' → W cls d σ H')
def TDiF (K : Frag) (W : WX) (w : IW) : TI := fun σ H Q => ∃ (G : Gh) (B0 H0 B : Hp) (ρ : Rho) (Qd : List D → Prop) (Qe : Value → Prop), Stt K G B0 H0 B H σ ρ ∧ w ρ Qd Qe ∧
  (∀ ds J B' H', Stt K G B0 H0 B' H' σ ρ → Stp G B H B' H' → ItD K G (LatF G B0 H0 B') J ds → Qd ds → Q J H') ∧ (∀ cls d B' H', Qe cls → Stt K G B0 H0 B' H' σ ρ → Stp G B H B' H' → W cls d σ H')
abbrev PIC (X : Cx) (W : WX) (tg e : Expr) (w : IW) : Prop := PI X tg e (TDiC X.K W w)
abbrev PIF (X : Cx) (W : WX) (tg e : Expr) (w : IW) : Prop := PI X tg e (TDiF X.K W w)
theorem pi_imp {X : Cx} {tg e : Expr} {t t' : TI} (h : PI X tg e t) (i : ∀ σ H Q, t' σ H Q → t σ H Q) : PI X tg e t' := ⟨fun pins s σ H Q I q => h.run pins s σ H Q I (i _ _ _ q)⟩
/-- a list or a tuple -/
def iAny (K : Frag) (tl : TE) : TI := fun σ H R => tl σ H fun x H1 => ∃ a, x = .ref a ∧ (((∃ xs, SqL K H1 a xs) ∧ R (Itl K a) H1) ∨ ((∃ xs, SqT K H1 a xs) ∧ R (Itt K a) H1))
theorem pi_any {X : Cx} {tg l : Expr} {tl : TE} (hl : PE X l tl) : PI X tg l (iAny X.K tl) := by
  refine ⟨fun pins s σ H R I h => ?_⟩
  refine thn (hl.run pins s σ H _ I h) fun v s1 ⟨x, H1, I1, r1, q1⟩ => ?_
  obtain ⟨a, e, q1⟩ := q1
  subst e
  cases r1
  have fp : ∀ b ∈ [s1.heap.objs.size], FpOk X pins H1 b := fun b hb => by
    have e : b = s1.heap.objs.size := by simpa using hb
    subst e
    exact I1.fpOk (Nat.le_refl _) (I1.hok.fresh (Nat.le_refl _))
  rcases q1 with ⟨⟨xs, hq⟩, q⟩ | ⟨⟨xs, hq⟩, q⟩
  · obtain ⟨its, rv, p, hz⟩ := I1.list hq
    refine wpAny_pyIter_list p.isList ?_
    exact ⟨s1.heap.objs.size, [s1.heap.objs.size], _, _, H1, rfl, I1.kept (t' := s1.toks) fun b o e => Heap.get?_push_of_some _ e, turn_list a _, ⟨_, Heap.get?_push_size _ rfl, rfl, rfl⟩, fp, q⟩
  · obtain ⟨its, rv, p, hz⟩ := I1.tuple hq
    refine wpAny_pyIter_tuple (show s1.heap.IsTuple a its.toArray from p) ?_
    exact ⟨s1.heap.objs.size, [s1.heap.objs.size], _, _, H1, rfl, I1.kept (t' := s1.toks) fun b o e => Heap.get?_push_of_some _ e, turn_tuple a _, ⟨_, Heap.get?_push_size _ rfl, rfl, rfl⟩, fp, q⟩
section
variable {K : Frag} {G : Gh} {Later : Hp → Hp → Prop}
theorem itd_list {a : Addr} {xs : List V} {ds : List D} (h : ∀ B H, Later B H → SqL K H a xs ∧ DpAll K B xs ds ∧ Same B (hide G H) ∧ G.ok H) : ItD K G Later (Itl K a) ds := by
  refine ⟨fun i B H l hi => ?_, fun B H l => ?_, fun i B H x H' l hi y => ?_⟩
  · obtain ⟨h1, h2, _⟩ := h B H l
    have : i < xs.length := by rw [h2.length]; exact hi
    exact ⟨xs, xs[i], h1, by simp [this]⟩
  · obtain ⟨h1, h2, _⟩ := h B H l
    exact ⟨xs, h1, by rw [h2.length]; exact Nat.le_refl _⟩
  · obtain ⟨h1, h2, h3, h4⟩ := h B H l
    obtain ⟨rfl, y⟩ := y
    obtain ⟨d, e1, e2⟩ := h2.get' (y xs h1)
    exact ⟨d, B, e1, e2, Stp.refl .., h3, h4⟩
theorem itd_tup {a : Addr} {xs : List V} {ds : List D} (h : ∀ B H, Later B H → SqT K H a xs ∧ DpAll K B xs ds ∧ Same B (hide G H) ∧ G.ok H) : ItD K G Later (Itt K a) ds := by
  refine ⟨fun i B H l hi => ?_, fun B H l => ?_, fun i B H x H' l hi y => ?_⟩
  · obtain ⟨h1, h2, _⟩ := h B H l
    have : i < xs.length := by rw [h2.length]; exact hi
    exact ⟨xs, xs[i], h1, by simp [this]⟩
  · obtain ⟨h1, h2, _⟩ := h B H l
    exact ⟨xs, h1, by rw [h2.length]; exact Nat.le_refl _⟩
  · obtain ⟨h1, h2, h3, h4⟩ := h B H l
    obtain ⟨rfl, y⟩ := y
    obtain ⟨d, e1, e2⟩ := h2.get' (y xs h1)
    exact ⟨d, B, e1, e2, Stp.refl .., h3, h4⟩
def rangeD (lo : Int) (n : Nat) : List D := (List.range n).map fun k : Nat => PyData.int (lo + (k : Int))
theorem itd_range {lo : Int} {n : Nat} (h : ∀ B H, Later B H → Same B (hide G H) ∧ G.ok H) : ItD K G Later (Itr lo n) (rangeD lo n) := by
  have hl : (rangeD lo n).length = n := by simp [rangeD]
  refine ⟨fun i B H l hi => by rw [hl] at hi; exact hi, fun B H l => by rw [hl]; exact Nat.le_refl _, fun i B H x H' l hi y => ?_⟩
  obtain ⟨h3, h4⟩ := h B H l
  obtain ⟨rfl, rfl⟩ := y
  rw [hl] at hi
  exact ⟨.int (lo + i), B, by simp [rangeD, hi], .int _, Stp.refl .., h3, h4⟩
end
def wSeqC (w : EW) : IW := fun ρ Q E => w ρ (fun r => ∃ ds, r.seq = some ds ∧ Q ds) E
/-- a list or tuple that stands for good -/
def R.stab : R → Option (List D)
  | .s (.list xs) => some xs
  | .s (.tuple xs) => some xs
  | _ => none
def wSeqF (w : EW) : IW := fun ρ Q E => w ρ (fun r => ∃ ds, r.stab = some ds ∧ Q ds) E
section
variable {X : Cx} {W : WX} {tg e a b : Expr} {w : EW} {ws : AW} {wi : IW}
theorem pic_seq (h : PD X W e w) : PIC X W tg e (wSeqC w) := pi_imp (pi_any h) fun σ H Q ⟨G, B0, H0, B, ρ, Qd, Qe, S, q, ok, er⟩ => by
  refine ⟨G, B0, H0, B, ρ, _, Qe, S, q, fun r x B' H' S' s r' q' => ?_, er⟩
  obtain ⟨ds, e1, q'⟩ := q'
  cases r with
  | s d =>
    cases d with
    | list es =>
      cases e1
      cases (show Dp X.K B' x (.list ds) from r') with
      | lst h1 h2 =>
        exact ⟨_, rfl, .inl ⟨⟨_, Same.sqL (S'.bh.trans (hide_le H')) h1⟩, ok _ _ _ _ S' s (itd_list fun B2 H2 ⟨l1, l2, l3⟩ => ⟨Same.sqL (l2.trans (hide_le H2)) (Same.sqL l1.bb h1), DpAll.mono l1.bb h2, l2, l3⟩) q'⟩⟩
    | tuple es =>
      cases e1
      cases (show Dp X.K B' x (.tuple ds) from r') with
      | tup h1 h2 =>
        exact ⟨_, rfl, .inr ⟨⟨_, Same.sqT (S'.bh.trans (hide_le H')) h1⟩, ok _ _ _ _ S' s (itd_tup fun B2 H2 ⟨l1, l2, l3⟩ => ⟨Same.sqT (l2.trans (hide_le H2)) (Same.sqT l1.bb h1), DpAll.mono l1.bb h2, l2, l3⟩) q'⟩⟩
    | _ => cases e1
  | l own es =>
    cases e1
    obtain ⟨p, xs, rfl, h1, h2, _⟩ := r'
    exact ⟨p, rfl, .inl ⟨⟨xs, .inl (.inl (hide_some h1).2)⟩, ok _ _ _ _ S' s (itd_list fun B2 H2 ⟨l1, l2, l3⟩ => ⟨.inl (.inl (hide_some (l1.hh _ _ h1)).2), DpAll.mono l1.bb h2, l2, l3⟩) q'⟩⟩
  | _ => cases e1
theorem pif_seq (h : PD X W e w) : PIF X W tg e (wSeqF w) := pi_imp (pi_any h) fun σ H Q ⟨G, B0, H0, B, ρ, Qd, Qe, S, q, ok, er⟩ => by
  refine ⟨G, B0, H0, B, ρ, _, Qe, S, q, fun r x B' H' S' s r' q' => ?_, er⟩
  obtain ⟨ds, e1, q'⟩ := q'
  cases r with
  | s d =>
    cases d with
    | list es =>
      cases e1
      cases (show Dp X.K B' x (.list ds) from r') with
      | lst h1 h2 =>
        exact ⟨_, rfl, .inl ⟨⟨_, Same.sqL (S'.bh.trans (hide_le H')) h1⟩, ok _ _ _ _ S' s (itd_list fun B2 H2 ⟨l1, l2, l3, _⟩ => ⟨Same.sqL (l2.trans (hide_le H2)) (Same.sqL l1 h1), DpAll.mono l1 h2, l2, l3⟩) q'⟩⟩
    | tuple es =>
      cases e1
      cases (show Dp X.K B' x (.tuple ds) from r') with
      | tup h1 h2 =>
        exact ⟨_, rfl, .inr ⟨⟨_, Same.sqT (S'.bh.trans (hide_le H')) h1⟩, ok _ _ _ _ S' s (itd_tup fun B2 H2 ⟨l1, l2, l3, _⟩ => ⟨Same.sqT (l2.trans (hide_le H2)) (Same.sqT l1 h1), DpAll.mono l1 h2, l2, l3⟩) q'⟩⟩
    | _ => cases e1
  | _ => cases e1
/-- a parameter that is a list -/
def wParF (i : Nat) : IW := fun ρ Q _ => ∃ ds, ρ[i]? = some (some (.l false ds)) ∧ Q ds
theorem pif_par {i : Nat} (h : PE X e (tVar i)) : PIF X W tg e (wParF i) := pi_imp (pi_any h) fun σ H Q ⟨G, B0, H0, B, ρ, Qd, Qe, S, ⟨ds, e1, q⟩, ok, er⟩ => by
  obtain ⟨x, e2, ⟨p, xs, ex, h1, h2⟩⟩ := S.sl i _ e1
  subst ex
  exact ⟨_, e2, p, rfl, .inl ⟨⟨xs, .inl (.inl (hide_some (S.st.hh _ _ h1)).2)⟩, ok _ _ _ _ S (Stp.refl ..) (itd_list fun B2 H2 ⟨l1, l2, l3, l4⟩ => ⟨.inl (.inl (hide_some (l4.hh _ _ h1)).2), DpAll.mono l1 h2, l2, l3⟩) q⟩⟩
/-- range(n), range(a, b) -/
def wRange1 (ws : AW) : IW := fun ρ Q E => ws ρ (fun rs => ∃ n, rs = [.s (.int n)] ∧ -(2 ^ 62) ≤ n ∧ n < 2 ^ 62 ∧ Q (rangeD 0 n.toNat)) E
def wRange2 (ws : AW) : IW := fun ρ Q E => ws ρ (fun rs => ∃ m n, rs = [.s (.int m), .s (.int n)] ∧ (-(2 ^ 62) ≤ m ∧ m < 2 ^ 62 ∧ -(2 ^ 62) ≤ n ∧ n < 2 ^ 62) ∧ Q (rangeD m (n - m).toNat)) E
theorem pic_range1 (h : PI X tg e (iRng1 (TDa X.K W ws))) : PIC X W tg e (wRange1 ws) := pi_imp h fun σ H Q ⟨G, B0, H0, B, ρ, Qd, Qe, S, q, ok, er⟩ => by
  refine ⟨G, B0, H0, B, ρ, _, Qe, S, q, fun rs xs B' H' S' s r' _ q' => ?_, er⟩
  obtain ⟨n, rfl, h1, h2, q'⟩ := q'
  obtain ⟨x, rfl, r1⟩ := r'.one
  cases r1.int
  exact ⟨n, rfl, h1, h2, ok _ _ _ _ S' s (itd_range fun B2 H2 ⟨_, l2, l3⟩ => ⟨l2, l3⟩) q'⟩
theorem pic_range2 (h : PI X tg e (iRng2 (TDa X.K W ws))) : PIC X W tg e (wRange2 ws) := pi_imp h fun σ H Q ⟨G, B0, H0, B, ρ, Qd, Qe, S, q, ok, er⟩ => by
  refine ⟨G, B0, H0, B, ρ, _, Qe, S, q, fun rs xs B' H' S' s r' _ q' => ?_, er⟩
  obtain ⟨m, n, rfl, h1, q'⟩ := q'
  obtain ⟨x, y, rfl, r1, r2⟩ := r'.two
  cases r1.int; cases r2.int
  exact ⟨m, n, rfl, h1, ok _ _ _ _ S' s (itd_range fun B2 H2 ⟨_, l2, l3⟩ => ⟨l2, l3⟩) q'⟩
theorem pif_range1 (h : PI X tg e (iRng1 (TDa X.K W ws))) : PIF X W tg e (wRange1 ws) := pi_imp h fun σ H Q ⟨G, B0, H0, B, ρ, Qd, Qe, S, q, ok, er⟩ => by
  refine ⟨G, B0, H0, B, ρ, _, Qe, S, q, fun rs xs B' H' S' s r' _ q' => ?_, er⟩
  obtain ⟨n, rfl, h1, h2, q'⟩ := q'
  obtain ⟨x, rfl, r1⟩ := r'.one
  cases r1.int
  exact ⟨n, rfl, h1, h2, ok _ _ _ _ S' s (itd_range fun B2 H2 ⟨_, l2, l3, _⟩ => ⟨l2, l3⟩) q'⟩
theorem pif_range2 (h : PI X tg e (iRng2 (TDa X.K W ws))) : PIF X W tg e (wRange2 ws) := pi_imp h fun σ H Q ⟨G, B0, H0, B, ρ, Qd, Qe, S, q, ok, er⟩ => by
  refine ⟨G, B0, H0, B, ρ, _, Qe, S, q, fun rs xs B' H' S' s r' _ q' => ?_, er⟩
  obtain ⟨m, n, rfl, h1, q'⟩ := q'
  obtain ⟨x, y, rfl, r1, r2⟩ := r'.two
  cases r1.int; cases r2.int
  exact ⟨m, n, rfl, h1, ok _ _ _ _ S' s (itd_range fun B2 H2 ⟨_, l2, l3, _⟩ => ⟨l2, l3⟩) q'⟩

/-! ### for -/
def wFor (wi : IW) (g : GW) (v : SW) : SW := fun ρ E => wi ρ (fun ds => ∃ P : Nat → Rho → Prop, P 0 ρ ∧ (∀ i d ρ', ds[i]? = some d → P i ρ' → g d ρ' fun ρ2 => v ρ2 { E with nx := P (i + 1), ct := P (i + 1), bk := E.nx }) ∧
  ∀ ρ', P ds.length ρ' → E.nx ρ') (fun cls => E.er cls ρ)
theorem pds_for {g : GW} {v : SW} {st : Stmt} (h : PS X st (tFor (TDiF X.K W wi) (TDg X.K g) (TDs X.K W v))) : PSD X W st (wFor wi g v) := ps_imp h fun D σ H ⟨G, B0, H0, B, ρ, E, S, q, l⟩ => by
  refine ⟨G, B0, H0, B, ρ, _, _, S, q, fun ds J B1 H1 S1 s1 it ⟨P, p0, turn, done⟩ => ?_, fun cls d B' H' q' S' s => l.er cls d ρ σ B' H' S' s.bb q'⟩
  refine ⟨fun i m σ H => m = ds.length - i ∧ i ≤ ds.length ∧ ∃ B' ρ', Stt X.K G B0 H0 B' H σ ρ' ∧ Same B1 B' ∧ P i ρ', ⟨_, rfl, Nat.zero_le _, B1, ρ, S1, Same.refl _, p0⟩, ?_⟩
  rintro i m σ2 H2 ⟨rfl, hi, B2, ρ2, S2, s2, p2⟩
  have lat : LatF G B0 H0 B1 B2 H2 := ⟨s2, S2.bh, S2.gok, S2.st⟩
  by_cases hlt : i < ds.length
  · refine .inr ⟨it.go i _ _ lat hlt, fun σ' H' => i + 1 ≤ ds.length ∧ ∃ B' ρ', Stt X.K G B0 H0 B' H' σ' ρ' ∧ Same B1 B' ∧ P (i + 1) ρ', fun σ' H' ⟨z1, z2⟩ => ⟨ds.length - (i + 1), by omega, rfl, z1, z2⟩, fun x H' y => ?_⟩
    obtain ⟨d, B3, e1, e2, s3, b3, g3⟩ := it.yld i _ _ x H' lat hlt y
    have S3 := S2.step s3 b3 g3
    refine ⟨G, B0, H0, B3, ρ2, d, _, S3, e2, turn i d ρ2 e1 p2, fun ρ4 σ4 B4 H4 S4 s4 q4 => ⟨G, B0, H0, B4, ρ4, _, S4, q4, ?_⟩⟩
    have s14 := (s2.trans s3.bb).trans s4
    have s04 := s1.bb.trans s14
    exact ⟨fun ρ' σ' B' H' S' s q' => ⟨hlt, B', ρ', S', s14.trans s, q'⟩, fun ρ' σ' B' H' S' s q' => l.nx _ _ _ _ S' (s04.trans s) q', fun ρ' σ' B' H' S' s q' => ⟨hlt, B', ρ', S', s14.trans s, q'⟩, l.rt, fun cls d ρ' σ' B' H' S' s q' => l.er cls d ρ' σ' B' H' S' (s04.trans s) q'⟩
  · have e : i = ds.length := by omega
    subst e
    exact .inl ⟨it.stop _ _ lat, l.nx _ _ _ _ S2 (s1.bb.trans s2) (done ρ2 p2)⟩
end
end DL

set_option Elab.async false
set_option linter.all false
set_option maxRecDepth 100000
/-! The data layer: comprehensions, built-ins. -/
namespace DL
open PySem PySem.Spec PyProof.Rows L2

def wipeR (ρ : Rho) : List Nat → Rho
  | [] => ρ
  | v :: vs => (wipeR ρ vs).set v none
/-- the targets of a comprehension: names, their slots -/
def putA (ρ : Rho) : List Nat → List D → Rho
  | i :: is, d :: ds => putA (ρ.set i (some (.s d))) is ds
  | _, _ => ρ
def putV (σ : L2.St) : List Nat → List V → L2.St
  | i :: is, x :: xs => putV (σ.set i (some x)) is xs
  | _, _ => σ
section
variable {K : Frag} {G : Gh} {B0 H0 B H B' H' : Hp} {σ : L2.St} {ρ : Rho}
theorem wipe_set {σ : L2.St} {i : Nat} {o : Option V} : ∀ {vs : List Nat}, i ∈ vs → wipe (σ.set i o) vs = wipe σ vs
  | [], h => nomatch h
  | v :: vs, h => by
    show (wipe (σ.set i o) vs).set v none = (wipe σ vs).set v none
    by_cases q : i ∈ vs
    · rw [wipe_set q]
    · have e : i = v := by
        rcases List.mem_cons.mp h with h | h
        · exact h
        · exact absurd h q
      subst e
      have key : ∀ (ws : List Nat), i ∉ ws → wipe (σ.set i o) ws = (wipe σ ws).set i o := by
        intro ws
        induction ws with
        | nil => intro _; rfl
        | cons w ws ih =>
          intro h
          have h1 : i ≠ w := fun e => h (e ▸ List.mem_cons_self)
          have h2 : i ∉ ws := fun e => h (List.mem_cons_of_mem _ e)
          show (wipe (σ.set i o) ws).set w none = ((wipe σ ws).set w none).set i o
          rw [ih h2, List.set_comm _ _ h1]
      rw [key vs q, List.set_set]
theorem wipe_wipe {σ : L2.St} {vs : List Nat} : ∀ ws : List Nat, (∀ i ∈ ws, i ∈ vs) → wipe (wipe σ ws) vs = wipe σ vs
  | [], _ => rfl
  | w :: ws, h => by
    show wipe ((wipe σ ws).set w none) vs = wipe σ vs
    rw [wipe_set (h w List.mem_cons_self), wipe_wipe ws fun i hi => h i (List.mem_cons_of_mem _ hi)]
theorem wipe_putV {σ : L2.St} {vs : List Nat} : ∀ (is : List Nat) (xs : List V) (τ : L2.St), wipe τ vs = wipe σ vs → (∀ i ∈ is, i ∈ vs) → wipe (putV τ is xs) vs = wipe σ vs
  | [], _, τ, h, _ => h
  | _ :: _, [], τ, h, _ => h
  | i :: is, x :: xs, τ, h, hi => wipe_putV is xs _ (by rw [wipe_set (hi i List.mem_cons_self)]; exact h) fun j hj => hi j (List.mem_cons_of_mem _ hj)
theorem Stt.wipe (S : Stt K G B0 H0 B H σ ρ) : ∀ vs : List Nat, Stt K G B0 H0 B H (L2.wipe σ vs) (wipeR ρ vs)
  | [] => S
  | v :: vs => by
    have T := Stt.wipe S vs
    show Stt K G B0 H0 B H ((L2.wipe σ vs).set v none) ((wipeR ρ vs).set v none)
    refine ⟨by simp [T.len], T.bh, T.gok, T.st, fun i r e => ?_, fun i j r u x hij e1 e2 o1 o2 e3 e4 => ?_⟩
    · by_cases q : i = v
      · subst q
        by_cases z : i < (wipeR ρ vs).length
        · rw [List.getElem?_set_self z] at e; cases e
        · rw [List.getElem?_eq_none (by simpa using z)] at e; cases e
      · rw [List.getElem?_set_ne (Ne.symm q)] at e ⊢
        exact T.sl i r e
    · have ne : ∀ {k : Nat} {w : R}, ((wipeR ρ vs).set v none)[k]? = some (some w) → k ≠ v := fun {k w} e q => by
        subst q
        by_cases z : k < (wipeR ρ vs).length
        · rw [List.getElem?_set_self z] at e; cases e
        · rw [List.getElem?_eq_none (by simpa using z)] at e; cases e
      have n1 := ne e1
      have n2 := ne e2
      rw [List.getElem?_set_ne (Ne.symm n1)] at e1 e3
      rw [List.getElem?_set_ne (Ne.symm n2)] at e2 e4
      exact T.dis i j r u x hij e1 e2 o1 o2 e3 e4
theorem Stt.putA : ∀ (is : List Nat) {xs : List V} {ds : List D} {σ : L2.St} {ρ : Rho}, Stt K G B0 H0 B H σ ρ → DpAll K B xs ds → (∀ i ∈ is, i < ρ.length) → Stt K G B0 H0 B H (putV σ is xs) (DL.putA ρ is ds)
  | [], _, _, _, _, S, _, _ => S
  | _ :: _, _, _, _, _, S, .nil, _ => S
  | i :: is, _, _, _, _, S, .cons h t, hi => Stt.putA is (S.put (r := .s _) rfl h i (hi i List.mem_cons_self)) t fun j hj => by
    rw [List.length_set]; exact hi j (List.mem_cons_of_mem _ hj)
/-- an object beside the slots is written -/
theorem Stt.side {p : Addr} {o : HO} (S : Stt K G B0 H0 B H σ ρ) (hb : B p = none) (hg : p ∉ G.at_) (h0 : hide G H0 p = none) (aw : ∀ (j : Nat) (r : R), ρ[j]? = some (some r) → owns r = true → σ[j]? ≠ some (some (.ref p))) :
    Stt K G B0 H0 B (upd H p o) σ ρ := by
  have hu : hide G (upd H p o) = upd (hide G H) p o := hide_upd hg
  refine ⟨S.len, fun b v e => by rw [hu, upd_ne (ne_of_none e hb)]; exact S.bh _ _ e, ghost_upd hg S.gok, ⟨S.st.bb, fun b v e => by rw [hu, upd_ne (ne_of_none e h0)]; exact S.st.hh _ _ e, S.st.nw⟩, fun j v e => ?_, S.dis⟩
  obtain ⟨y, g1, g2⟩ := S.sl j v e
  refine ⟨y, g1, ?_⟩
  have ne : ∀ q, y = .ref q → owns v = true → q ≠ p := fun q ey ov eqp => by
    subst ey; subst eqp
    exact aw j v e ov g1
  match v, g2, ne with
  | .s d, g2, _ => exact g2
  | .l false ds, g2, _ => exact g2
  | .l true ds, ⟨q, xs, e, k1, k2, k3, k4, k5⟩, ne => exact ⟨q, xs, e, by rw [upd_ne (ne q e rfl)]; exact k1, k2, k3, k4, k5⟩
  | .k false ds, g2, _ => exact g2
  | .k true ds, ⟨q, xs, e, k1, k2, k3, k4, k5⟩, ne => exact ⟨q, xs, e, by rw [upd_ne (ne q e rfl)]; exact k1, k2, k3, k4, k5⟩
  | .t false ds, g2, _ => exact g2
  | .t true ds, ⟨q, xs, e, k1, k2, k3, k4, k5⟩, ne => exact ⟨q, xs, e, by rw [upd_ne (ne q e rfl)]; exact k1, k2, k3, k4, k5⟩
  | .g, g2, _ => exact g2
end

/-! ### comprehensions -/
/-- a target that is one name, or a tuple of names -/
def gNames : List Nat → TGs
  | [] => gNil
  | i :: is => gCons (gName i) (gNames is)
def gwNames (tup : Bool) (is : List Nat) (d : D) (Q : List D → Prop) : Prop := if tup = true then ∃ ds, d = .tuple ds ∧ ds.length = is.length ∧ Q ds else Q [d]
def gC (K : Frag) (tup : Bool) (is : List Nat) : TG := match tup with
  | true => gTup K is.length (gNames is)
  | false => match is with
    | [i] => gName i
    | _ => fun _ _ _ _ => False
theorem gNames_ok : ∀ (is : List Nat) (xs : List V) (σ : L2.St) (H : Hp) (Q : L2.St → Hp → Prop), xs.length = is.length → Q (putV σ is xs) H → gNames is xs σ H Q
  | [], [], _, _, _, _, q => ⟨rfl, q⟩
  | [], _ :: _, _, _, _, e, _ => by cases e
  | _ :: _, [], _, _, _, e, _ => by cases e
  | i :: is, x :: xs, σ, H, Q, e, q => ⟨x, xs, rfl, gNames_ok is xs _ H Q (by simpa using e) q⟩
abbrev PDts (X : Cx) (ifs : List Expr) (wt : TW) : Prop := PTs X ifs (TDt X.K W0 wt)
def wYes : TW := fun _ Q _ => Q true
theorem pts_imp {X : Cx} {ifs : List Expr} {t t' : TT} (h : PTs X ifs t) (i : ∀ σ H Q, t' σ H Q → t σ H Q) : PTs X ifs t' := ⟨fun pins s σ H Q I q => h.run pins s σ H Q I (i _ _ _ q)⟩
theorem pdts_nil {X : Cx} : PDts X [] wYes := pts_imp pts_nil fun σ H Q ⟨G, B0, H0, B, ρ, Qd, Qe, S, q, ok, er⟩ => ok true _ _ S (Stp.refl ..) q
theorem pdts_one {X : Cx} {c : Expr} {wt : TW} (h : PDt X W0 c wt) : PDts X [c] wt := pts_one h
/-- [elt for names in wi if wt] -/
def wLc (wi : IW) (tup : Bool) (is vs : List Nat) (wt : TW) (we : EW) : EW := fun ρ Q E => wi ρ (fun ds => ∃ P : Nat → List D → Prop, P 0 [] ∧
  (∀ k acc d, ds[k]? = some d → P k acc → gwNames tup is d fun es => (∀ i ∈ is, i < ρ.length) ∧ wt (putA (wipeR ρ vs) is es) (fun b => if b = true then we (putA (wipeR ρ vs) is es) (fun r => ∃ z, r.dat = some z ∧ acc.length < 16777216 ∧ P (k + 1) (acc ++ [z])) (fun _ => False) else P (k + 1) acc) (fun _ => False)) ∧
  ∀ acc, P ds.length acc → Q (.l true acc)) E
theorem wipeR_length (ρ : Rho) : ∀ vs : List Nat, (wipeR ρ vs).length = ρ.length
  | [] => rfl
  | v :: vs => by unfold wipeR; rw [List.length_set, wipeR_length ρ vs]
theorem lc_core_d {K : Frag} {W : WX} {wi : IW} {tup : Bool} {is vs : List Nat} {wt : TW} {we : EW} (hsub : ∀ i ∈ is, i ∈ vs) (h1 : tup = true ∨ ∃ i, is = [i]) :
    ∀ σ H Q, TDe K W (wLc wi tup is vs wt we) σ H Q → tLc (TDiC K W wi) (gC K tup is) (TDt K W0 wt) (TDe K W0 we) vs σ H Q := by
  rintro σ H Q ⟨G, B0, H0, B, ρ, Qd, Qe, S, q, ok, er⟩
  refine ⟨G, B0, H0, B, ρ, _, Qe, S, q, fun ds J B1 H1 S1 s1 it ⟨P, p0, turn, done⟩ => ?_, er⟩
  intro Dl hD
  have dG : Dl ∉ G.at_ := S1.notG hD
  have d0 : hide G H0 Dl = none := S1.st.hh.free (hide_free hD)
  have dS : hide G H Dl = none := s1.hh.free (hide_free hD)
  have aw : ∀ (j : Nat) (r : R), ρ[j]? = some (some r) → owns r = true → σ[j]? ≠ some (some (.ref Dl)) := fun j r e1 o e2 => by
    obtain ⟨x, f1, f2⟩ := S1.sl j r e1
    rw [e2] at f1; cases f1
    obtain ⟨p, u, ep, k1, _⟩ := f2.own o
    cases ep
    rw [hD] at k1; cases k1
  refine ⟨fun i m H => m = ds.length - i ∧ i ≤ ds.length ∧ ∃ (B' : Hp) (av : List V) (acc : List D), Stt K G B0 H0 B' H σ ρ ∧ Stp G B1 H1 B' H ∧ H Dl = some (.lst av) ∧ DpAll K B' av acc ∧ B' Dl = none ∧ P i acc,
    ⟨_, rfl, Nat.zero_le _, B1, [], [], S1.new hD, Stp.new hD, upd_same, .nil, S1.freeB hD, p0⟩, ?_⟩
  rintro i m H2 ⟨rfl, hi, B2, av, acc, S2, s2, hd, ha, hb, p2⟩
  have lat : LatC G B1 H1 B2 H2 := ⟨s2, S2.bh, S2.gok⟩
  by_cases hlt : i < ds.length
  · refine .inr ⟨it.go i _ _ lat hlt, fun H' => i + 1 ≤ ds.length ∧ ∃ (B' : Hp) (av : List V) (acc : List D), Stt K G B0 H0 B' H' σ ρ ∧ Stp G B1 H1 B' H' ∧ H' Dl = some (.lst av) ∧ DpAll K B' av acc ∧ B' Dl = none ∧ P (i + 1) acc, fun H' ⟨z1, z2⟩ => ⟨ds.length - (i + 1), by omega, rfl, z1, z2⟩, fun x H3 y => ?_⟩
    obtain ⟨d, B3, e1, e2, s3, b3, g3⟩ := it.yld i _ _ x H3 lat hlt y
    have S3 := S2.step s3 b3 g3
    have trk : hide G H2 Dl = some (.lst av) := by rw [hide_out dG]; exact hd
    have q3 := turn i acc d e1 p2
    have fin : ∀ (xs : List V) (es : List D), DpAll K B3 xs es → (∀ i ∈ is, i < ρ.length) → wt (putA (wipeR ρ vs) is es) (fun b => if b = true then we (putA (wipeR ρ vs) is es) (fun r => ∃ z, r.dat = some z ∧ acc.length < 16777216 ∧ P (i + 1) (acc ++ [z])) (fun _ => False) else P (i + 1) acc) (fun _ => False) →
        (wipe (putV (wipe σ vs) is xs) vs = wipe σ vs ∧ TDt K W0 wt (putV (wipe σ vs) is xs) H3 fun b H4 => if b = true then TDe K W0 we (putV (wipe σ vs) is xs) H4 fun y H5 => ∃ acc, H5 Dl = some (.lst acc) ∧ acc.length < sizeLine ∧
          (i + 1 ≤ ds.length ∧ ∃ (B' : Hp) (av : List V) (acc' : List D), Stt K G B0 H0 B' (upd H5 Dl (.lst (acc ++ [y]))) σ ρ ∧ Stp G B1 H1 B' (upd H5 Dl (.lst (acc ++ [y]))) ∧ (upd H5 Dl (.lst (acc ++ [y]))) Dl = some (.lst av) ∧ DpAll K B' av acc' ∧ B' Dl = none ∧ P (i + 1) acc')
          else (i + 1 ≤ ds.length ∧ ∃ (B' : Hp) (av : List V) (acc : List D), Stt K G B0 H0 B' H4 σ ρ ∧ Stp G B1 H1 B' H4 ∧ H4 Dl = some (.lst av) ∧ DpAll K B' av acc ∧ B' Dl = none ∧ P (i + 1) acc)) := by
      intro xs es hx hl q
      refine ⟨wipe_putV is xs _ (wipe_wipe vs fun _ h => h) hsub, ?_⟩
      have T3 : Stt K G B0 H0 B3 H3 (putV (wipe σ vs) is xs) (putA (wipeR ρ vs) is es) := Stt.putA is (S3.wipe vs) hx fun i hi => by rw [wipeR_length]; exact hl i hi
      refine ⟨G, B0, H0, B3, _, _, _, T3, q, fun b B4 H4 T4 s4 q4 => ?_, fun _ _ _ _ z => z.elim⟩
      have S4 := S3.step s4 T4.bh T4.gok
      cases b with
      | false => exact iteF ⟨hlt, B4, av, acc, S4, (s2.trans s3).trans s4, (hide_some (s4.hh _ _ (s3.hh _ _ trk))).2, DpAll.mono (s3.bb.trans s4.bb) ha, s4.nw _ _ (s3.nw _ _ hb trk) (s3.hh _ _ trk), (if_neg Bool.false_ne_true).mp q4⟩
      | true =>
        refine iteT ⟨G, B0, H0, B4, _, _, _, T4, (if_pos rfl).mp q4, fun r y B5 H5 T5 s5 r5 ⟨z, ez, hlen, p5⟩ => ?_, fun _ _ _ _ z => z.elim⟩
        have S5 := S4.step s5 T5.bh T5.gok
        have t5 := s5.hh _ _ (s4.hh _ _ (s3.hh _ _ trk))
        have h5 : H5 Dl = some (.lst av) := (hide_some t5).2
        have b5 : B5 Dl = none := s5.nw _ _ (s4.nw _ _ (s3.nw _ _ hb trk) (s3.hh _ _ trk)) (s4.hh _ _ (s3.hh _ _ trk))
        have s15 := ((s2.trans s3).trans s4).trans s5
        refine ⟨av, h5, by rw [line_eq, ha.length]; exact hlen, hlt, B5, av ++ [y], acc ++ [z], S5.side b5 dG d0 aw, ⟨s15.bb, fun b v e => ?_, s15.nw⟩, upd_same, (DpAll.mono ((s3.bb.trans s4.bb).trans s5.bb) ha).append (.cons (r5.dat ez) .nil), b5, p5⟩
        rw [hide_upd dG, upd_ne (ne_of_none e (hide_free hD))]
        exact s15.hh _ _ e
    cases tup with
    | true =>
      obtain ⟨es, rfl, hn, hl, q4⟩ := (if_pos rfl).mp q3
      cases e2 with
      | tup k1 k2 => exact ⟨_, _, rfl, Same.sqT (b3.trans (hide_le H3)) k1, k2.length.trans hn, gNames_ok is _ _ _ _ (k2.length.trans hn) (fin _ es k2 hl q4)⟩
    | false =>
      rcases h1 with h1 | ⟨i1, rfl⟩
      · cases h1
      · obtain ⟨hl, q4⟩ := (if_neg Bool.false_ne_true).mp q3
        exact fin [x] [d] (.cons e2 .nil) hl q4
  · have e : i = ds.length := by omega
    subst e
    refine .inl ⟨it.stop _ _ lat, ok (.l true acc) (.ref Dl) B2 H2 S2 (s1.trans s2) ⟨Dl, av, rfl, by rw [hide_out dG]; exact hd, ha, fun _ => ⟨hb, dS⟩⟩ (done acc p2)⟩
section
variable {X : Cx} {W : WX} {tg iter elt : Expr} {ifs : List Expr} {e : Expr} {st : Stmt} {wi : IW} {tup : Bool} {is vs : List Nat} {wt : TW} {we : EW}
theorem pd_lc (h : PE X e (tLc (TDiC X.K W wi) (gC X.K tup is) (TDt X.K W0 wt) (TDe X.K W0 we) vs)) (hsub : ∀ i ∈ is, i ∈ vs) (h1 : tup = true ∨ ∃ i, is = [i]) : PD X W e (wLc wi tup is vs wt we) :=
  pe_imp h (lc_core_d hsub h1)
theorem pds_setLc {i : Nat} (h : PS X st (tAsg (tLc (TDiC X.K W wi) (gC X.K tup is) (TDt X.K W0 wt) (TDe X.K W0 we) vs) (gName i))) (hsub : ∀ i ∈ is, i ∈ vs) (h1 : tup = true ∨ ∃ i, is = [i]) : PSD X W st (wAsg i (wLc wi tup is vs wt we)) :=
  pds_set (ps_imp h fun D σ H q => lc_core_d hsub h1 σ H _ q)
end
end DL

set_option Elab.async false
set_option linter.all false
set_option maxRecDepth 100000
/-! The data layer: built-ins. -/
namespace DL
open PySem PySem.Spec PyProof.Rows L2
section
variable {X : Cx} {W : WX} {e a b : Expr} {w : EW} {ws : AW} {pos p : Pos}
theorem seq_of {K : Frag} {G : Gh} {Hs B H : Hp} {x : V} {r : R} {ds : List D} (c : Ctx K G B H) (h : Rs K G Hs B H x r) (e : r.seq = some ds) : ∃ p xs, x = .ref p ∧ DpAll K B xs ds ∧ (SqL K H p xs ∨ SqT K H p xs) := h.seq e c.bh
/-- len -/
def fLen : FL := fun rs Q => ∃ r, rs = [r] ∧ ((∃ ds, r.seq = some ds ∧ Q (.s (.int ds.length))) ∨ ∃ z, r = .s (.str z) ∧ z.length ≤ 16777216 ∧ Q (.s (.int z.length)))
theorem c_len : CallR X (.builtin "len") (liftL X.K fLen) := by
  intro pins s σ H xs us Q I rx hh
  obtain ⟨G, Hs, B, rs, Qd, c, ra, ⟨r, rfl, q⟩, k⟩ := hh
  obtain ⟨x, rfl, r1⟩ := ra.one
  rcases q with ⟨ds, e1, q⟩ | ⟨z, rfl, hz, q⟩
  · obtain ⟨p, xs, rfl, h1, h2⟩ := r1.seq e1 c.bh
    refine call_len_seq pins s σ H _ us Q I rx ⟨p, xs, rfl, h2, ?_⟩
    rw [h1.length]
    exact k.dat c (.int _) q
  · cases r1.str
    exact call_len_str pins s σ H _ us Q I rx ⟨z, rfl, by rw [line_eq]; exact hz, k.dat c (.int _) q⟩
/-- all, any of a list of truth values -/
def fAll : FL := fun rs Q => ∃ (o : Bool) (bs : List Bool), rs = [.l o (bs.map PyData.bool)] ∧ Q (.s (.bool (bs.all id)))
def fAny : FL := fun rs Q => ∃ (o : Bool) (bs : List Bool), rs = [.l o (bs.map PyData.bool)] ∧ Q (.s (.bool (bs.any id)))
def fSum : FL := fun rs Q => ∃ (o : Bool) (ns : List Int), rs = [.l o (ns.map PyData.int)] ∧ Q (.s (.int ns.sum))
theorem c_all (hc : X.calm = true) : CallR X (.builtin "all") (liftL X.K fAll) := by
  intro pins s σ H xs us Q I rx hh
  obtain ⟨G, Hs, B, rs, Qd, c, ra, ⟨o, bs, rfl, q⟩, k⟩ := hh
  obtain ⟨x, rfl, p, vs, rfl, h1, h2, _⟩ := ra.one
  cases h2.bls'
  exact cr_all hc pins s σ H _ us Q I rx ⟨p, bs, rfl, .inl (.inl (hide_some h1).2), k.dat c (.bl _) q⟩
theorem c_any (hc : X.calm = true) : CallR X (.builtin "any") (liftL X.K fAny) := by
  intro pins s σ H xs us Q I rx hh
  obtain ⟨G, Hs, B, rs, Qd, c, ra, ⟨o, bs, rfl, q⟩, k⟩ := hh
  obtain ⟨x, rfl, p, vs, rfl, h1, h2, _⟩ := ra.one
  cases h2.bls'
  exact cr_any hc pins s σ H _ us Q I rx ⟨p, bs, rfl, .inl (.inl (hide_some h1).2), k.dat c (.bl _) q⟩
theorem c_sum (hc : X.calm = true) : CallR X (.builtin "sum") (liftL X.K fSum) := by
  intro pins s σ H xs us Q I rx hh
  obtain ⟨G, Hs, B, rs, Qd, c, ra, ⟨o, ns, rfl, q⟩, k⟩ := hh
  obtain ⟨x, rfl, p, vs, rfl, h1, h2, _⟩ := ra.one
  cases h2.ints'
  exact cr_sum hc pins s σ H _ us Q I rx ⟨p, ns, rfl, .inl (.inl (hide_some h1).2), k.dat c (.int _) q⟩
/-- list(x), tuple(x) of lists and tuples; int(n) -/
def fList : FL := fun rs Q => ∃ r ds, rs = [r] ∧ r.seq = some ds ∧ Q (.l true ds)
def fTuple : FL := fun rs Q => ∃ r ds, rs = [r] ∧ r.seq = some ds ∧ Q (.s (.tuple ds))
def fIntOf : FL := fun rs Q => ∃ n, rs = [.s (.int n)] ∧ Q (.s (.int n))
theorem c_list : CallR X (.type "list") (liftL X.K fList) := by
  intro pins s σ H xs us Q I rx hh
  obtain ⟨G, Hs, B, rs, Qd, c, ra, ⟨r, ds, rfl, e1, q⟩, k⟩ := hh
  obtain ⟨x, rfl, r1⟩ := ra.one
  obtain ⟨p, xs, rfl, h1, h2⟩ := r1.seq e1 c.bh
  exact call_list_of pins s σ H _ us Q I rx ⟨p, xs, rfl, h2, fun l hl => k.lst c hl h1 q⟩
theorem c_tuple : CallR X (.type "tuple") (liftL X.K fTuple) := by
  intro pins s σ H xs us Q I rx hh
  obtain ⟨G, Hs, B, rs, Qd, c, ra, ⟨r, ds, rfl, e1, q⟩, k⟩ := hh
  obtain ⟨x, rfl, r1⟩ := ra.one
  cases r with
  | s d =>
    cases d with
    | list es =>
      cases e1
      cases (show Dp X.K B x (.list ds) from r1) with
      | lst h1 h2 => exact call_tuple_of pins s σ H _ us Q I rx ⟨_, _, rfl, .inl ⟨Same.sqL c.le h1, fun l hl => k.tup c hl h2 q⟩⟩
    | tuple es =>
      cases e1
      cases (show Dp X.K B x (.tuple ds) from r1) with
      | tup h1 h2 => exact call_tuple_of pins s σ H _ us Q I rx ⟨_, _, rfl, .inr ⟨Same.sqT c.le h1, k.dat c (.tup h1 h2) q⟩⟩
    | _ => cases e1
  | l own es =>
    cases e1
    obtain ⟨p, xs, rfl, h1, h2, _⟩ := r1
    exact call_tuple_of pins s σ H _ us Q I rx ⟨_, _, rfl, .inl ⟨.inl (.inl (hide_some h1).2), fun l hl => k.tup c hl h2 q⟩⟩
  | _ => cases e1
theorem c_int : CallR X (.type "int") (liftL X.K fIntOf) := by
  intro pins s σ H xs us Q I rx hh
  obtain ⟨G, Hs, B, rs, Qd, c, ra, ⟨n, rfl, q⟩, k⟩ := hh
  obtain ⟨x, rfl, r1⟩ := ra.one
  cases r1.int
  exact call_int1 pins s σ H _ us Q I rx (.inl ⟨n, rfl, k.dat c (.int _) q⟩)
def fMax2 : FL := fun rs Q => ∃ i j, rs = [.s (.int i), .s (.int j)] ∧ Q (.s (.int (if j > i then j else i)))
def fMin2 : FL := fun rs Q => ∃ i j, rs = [.s (.int i), .s (.int j)] ∧ Q (.s (.int (if j < i then j else i)))
theorem c_max2 (hc : X.calm = true) : CallR X (.builtin "max") (liftL X.K fMax2) := by
  intro pins s σ H xs us Q I rx hh
  obtain ⟨G, Hs, B, rs, Qd, c, ra, ⟨i, j, rfl, q⟩, k⟩ := hh
  obtain ⟨x, y, rfl, r1, r2⟩ := ra.two
  cases r1.int; cases r2.int
  exact call_max2 hc pins s σ H _ us Q I rx ⟨i, j, rfl, k.dat c (.int _) q⟩
theorem c_min2 (hc : X.calm = true) : CallR X (.builtin "min") (liftL X.K fMin2) := by
  intro pins s σ H xs us Q I rx hh
  obtain ⟨G, Hs, B, rs, Qd, c, ra, ⟨i, j, rfl, q⟩, k⟩ := hh
  obtain ⟨x, y, rfl, r1, r2⟩ := ra.two
  cases r1.int; cases r2.int
  exact call_min2 hc pins s σ H _ us Q I rx ⟨i, j, rfl, k.dat c (.int _) q⟩

/-! ### isinstance of a built-in class -/
def tyN : D → String
  | .none => "NoneType"
  | .bool _ => "bool"
  | .int _ => "int"
  | .str _ => "str"
  | .list _ => "list"
  | .tuple _ => "tuple"
  | .dict _ => "dict"
def isI : D → Bool
  | .int _ | .bool _ => true
  | _ => false
def isB : D → Bool
  | .bool _ => true
  | _ => false
def isS : D → Bool
  | .str _ => true
  | _ => false
def isT : D → Bool
  | .tuple _ => true
  | _ => false
def isL : D → Bool
  | .list _ => true
  | _ => false
theorem tyx_of {K : Frag} {H : Hp} {x : V} {d : D} (h : Dp K H x d) : TyX K H x (.type (tyN d)) := by
  cases h with
  | non => exact .base .non
  | bl b => exact .base (.bl b)
  | int i => exact .base (.int i)
  | str z => exact .base (.str z)
  | lst h1 h2 =>
    rcases h1 with (h1 | ⟨o, h1⟩) | ⟨o, its, n, h1, h3, _⟩
    · exact .base (.lst h1)
    · exact .base (.frz h1)
    · exact .kList h1 h3
  | tup h1 h2 =>
    rcases h1 with (h1 | ⟨o, h1⟩) | ⟨o, its, n, h1, h3, _⟩
    · exact .base (.tup h1)
    · exact .fTuple h1
    · exact .kTuple h1 h3
def wIsi (f : D → Bool) (w : EW) : EW := fun ρ Q E => w ρ (fun r => ∃ d, r.look = some d ∧ Q (.s (.bool (f d)))) E
theorem pd_isi {f : D → Bool} {T : String} (h : PE X e (tCB (rIsi X.K) (tCons (TDe X.K W w) (tCons (tC (.ty T)) tNil)))) (hf : ∀ d : D, kitB (tyN d) T = some (f d)) : PD X W e (wIsi f w) :=
  pe_imp h fun σ H Q ⟨G, B0, H0, B, ρ, Qd, Qe, S, q, ok, er⟩ => by
    refine ⟨G, B0, H0, B, ρ, _, Qe, S, q, fun r x B' H' S' s r' q' => ?_, er⟩
    obtain ⟨d, e1, q'⟩ := q'
    exact ⟨x, .ty T, _, _, f d, rfl, .ty T, tyx_of (r'.look e1 S'.bh), kit_ty (hf d), ok (.s (.bool (f d))) _ _ _ S' s (.bl _) q'⟩
theorem kit_int : ∀ d : D, kitB (tyN d) "int" = some (isI d)
  | .none => by decide +kernel
  | .bool _ => by show kitB "bool" "int" = some true; decide +kernel
  | .int _ => by show kitB "int" "int" = some true; decide +kernel
  | .str _ => by show kitB "str" "int" = some false; decide +kernel
  | .list _ => by show kitB "list" "int" = some false; decide +kernel
  | .tuple _ => by show kitB "tuple" "int" = some false; decide +kernel
  | .dict _ => by show kitB "dict" "int" = some false; decide +kernel
theorem kit_bool : ∀ d : D, kitB (tyN d) "bool" = some (isB d)
  | .none => by decide +kernel
  | .bool _ => by show kitB "bool" "bool" = some true; decide +kernel
  | .int _ => by show kitB "int" "bool" = some false; decide +kernel
  | .str _ => by show kitB "str" "bool" = some false; decide +kernel
  | .list _ => by show kitB "list" "bool" = some false; decide +kernel
  | .tuple _ => by show kitB "tuple" "bool" = some false; decide +kernel
  | .dict _ => by show kitB "dict" "bool" = some false; decide +kernel
theorem kit_str : ∀ d : D, kitB (tyN d) "str" = some (isS d)
  | .none => by decide +kernel
  | .bool _ => by show kitB "bool" "str" = some false; decide +kernel
  | .int _ => by show kitB "int" "str" = some false; decide +kernel
  | .str _ => by show kitB "str" "str" = some true; decide +kernel
  | .list _ => by show kitB "list" "str" = some false; decide +kernel
  | .tuple _ => by show kitB "tuple" "str" = some false; decide +kernel
  | .dict _ => by show kitB "dict" "str" = some false; decide +kernel
theorem kit_tuple : ∀ d : D, kitB (tyN d) "tuple" = some (isT d)
  | .none => by decide +kernel
  | .bool _ => by show kitB "bool" "tuple" = some false; decide +kernel
  | .int _ => by show kitB "int" "tuple" = some false; decide +kernel
  | .str _ => by show kitB "str" "tuple" = some false; decide +kernel
  | .list _ => by show kitB "list" "tuple" = some false; decide +kernel
  | .tuple _ => by show kitB "tuple" "tuple" = some true; decide +kernel
  | .dict _ => by show kitB "dict" "tuple" = some false; decide +kernel
theorem kit_list : ∀ d : D, kitB (tyN d) "list" = some (isL d)
  | .none => by decide +kernel
  | .bool _ => by show kitB "bool" "list" = some false; decide +kernel
  | .int _ => by show kitB "int" "list" = some false; decide +kernel
  | .str _ => by show kitB "str" "list" = some false; decide +kernel
  | .list _ => by show kitB "list" "list" = some true; decide +kernel
  | .tuple _ => by show kitB "tuple" "list" = some false; decide +kernel
  | .dict _ => by show kitB "dict" "list" = some false; decide +kernel

/-! ### displays -/
theorem pd_tup {es : List Expr} {x1} (h : PDa X W es ws) : PD X W (.Tuple es x1 pos) (wTup ws) := pe_imp (pe_tup h) fun σ H Q ⟨G, B0, H0, B, ρ, Qd, Qe, S, q, ok, er⟩ => by
  refine ⟨G, B0, H0, B, ρ, _, Qe, S, q, fun rs xs B1 H1 S1 s1 r1 _ q1 => ?_, er⟩
  obtain ⟨ds, e1, hl, q1⟩ := q1
  have h1 := dats_all r1 e1
  refine ⟨by rw [line_eq, h1.length]; exact hl, fun p hp => ?_⟩
  have s2 : Stp G B1 H1 (upd B1 p (.tup xs)) (upd H1 p (.tup xs)) := Stp.newS hp (S1.freeB hp)
  exact ok (.s (.tuple ds)) _ _ _ (S1.newS hp) (s1.trans s2) (L2.Dp.tup (.inl (.inl upd_same)) (DpAll.mono s2.bb h1)) q1
theorem pd_lst {es : List Expr} (h : PDa X W es ws) : PD X W (.List es pos) (wLst ws) := pe_imp (pe_lst h) fun σ H Q ⟨G, B0, H0, B, ρ, Qd, Qe, S, q, ok, er⟩ => by
  refine ⟨G, B0, H0, B, ρ, _, Qe, S, q, fun rs xs B1 H1 S1 s1 r1 _ q1 => ?_, er⟩
  obtain ⟨ds, e1, hl, q1⟩ := q1
  have h1 := dats_all r1 e1
  refine ⟨by rw [line_eq, h1.length]; exact hl, fun p hp => ?_⟩
  exact ok (.l true ds) _ _ _ (S1.new hp) (s1.trans (Stp.new hp)) ⟨p, xs, rfl, by rw [hide_out (S1.notG hp), upd_same], h1, fun _ => ⟨S1.freeB hp, s1.hh.free (hide_free hp)⟩⟩ q1

/-! ### slices of lists and tuples -/
abbrev OW := Rho → (Option Int → Prop) → (Value → Prop) → Prop
def TDo (K : Frag) (W : WX) (w : OW) : TO := fun σ H Q => ∃ (G : Gh) (B0 H0 B : Hp) (ρ : Rho) (Qd : Option Int → Prop) (Qe : Value → Prop), Stt K G B0 H0 B H σ ρ ∧ w ρ Qd Qe ∧
  (∀ b B' H', Stt K G B0 H0 B' H' σ ρ → Stp G B H B' H' → Qd b → Q b H') ∧ (∀ cls d B' H', Qe cls → Stt K G B0 H0 B' H' σ ρ → Stp G B H B' H' → W cls d σ H')
def wONone : OW := fun _ Q _ => Q none
def wOSome (w : EW) : OW := fun ρ Q E => w ρ (fun r => ∃ n, r = .s (.int n) ∧ Q (some n)) E
theorem pdo_none : PO X Option.none (TDo X.K W wONone) := ⟨fun pins s σ H Q I ⟨G, B0, H0, B, ρ, Qd, Qe, S, q, ok, er⟩ => po_none.run pins s σ H Q I (ok _ _ _ S (Stp.refl ..) q)⟩
theorem pdo_some (h : PD X W e w) : PO X (some e) (TDo X.K W (wOSome w)) := ⟨fun pins s σ H Q I ⟨G, B0, H0, B, ρ, Qd, Qe, S, q, ok, er⟩ => (po_some h).run pins s σ H Q I (by
  refine ⟨G, B0, H0, B, ρ, _, Qe, S, q, fun r x B' H' S' s r' q' => ?_, er⟩
  obtain ⟨n, rfl, q'⟩ := q'
  cases r'.int
  exact ⟨n, rfl, ok _ _ _ S' s q'⟩)⟩
def cutD (xs : List D) (lo hi : Option Int) : List D := (xs.drop (HT.sIx xs.length 0 lo)).take (HT.sIx xs.length xs.length hi - HT.sIx xs.length 0 lo)
def fSl (a : R) (lo hi : Option Int) (Q : R → Prop) : Prop := match a with
  | .s (.tuple xs) => Q (.s (.tuple (cutD xs lo hi)))
  | .s (.list xs) => Q (.l true (cutD xs lo hi))
  | .l _ xs => Q (.l true (cutD xs lo hi))
  | .s (.str z) => z.length ≤ 16777216 ∧ Q (.s (.str (L2.cutS z lo hi)))
  | _ => False
def liftS (K : Frag) (f : R → Option Int → Option Int → (R → Prop) → Prop) : V → Option Int → Option Int → Hp → VK → Prop := fun x lo hi H Q => ∃ G Hs B a Qd, Ctx K G B H ∧ Rs K G Hs B H x a ∧ f a lo hi Qd ∧ Cont K G B H Qd Q
theorem _root_.L2.DpAll.cut {K : Frag} {H : Hp} {xs : List V} {ds : List D} (h : DpAll K H xs ds) (lo hi : Option Int) : DpAll K H (cutV xs lo hi) (cutD ds lo hi) := by
  unfold cutV cutD
  rw [h.length]
  exact (h.drop _).take _
theorem o_sl : L2.SlR X (liftS X.K fSl) := by
  intro pins s σ H x v vl vu lo hi sl Q I rx hs pl pu hh
  obtain ⟨G, Hs, B, a, Qd, c, ra, q, k⟩ := hh
  unfold fSl at q
  split at q
  · obtain ⟨p, xs, rfl, h1, h2⟩ := ra.tup
    refine sl_tupA pins s σ H _ v vl vu lo hi sl Q I rx hs pl pu ⟨p, xs, rfl, Same.sqT c.le h1, fun w => ?_, fun w p hp => k.tup c hp (h2.cut lo hi) q⟩
    rw [h2.length] at w
    have e : ∀ ys : List D, (HT.sIx ys.length 0 lo = 0 ∧ HT.sIx ys.length ys.length hi = ys.length) → cutD ys lo hi = ys := fun ys w => by
      unfold cutD
      rw [w.1, w.2, List.drop_zero, Nat.sub_zero, List.take_length]
    rw [e _ w] at q
    exact k.dat c (.tup h1 h2) q
  · cases (show Dp X.K B x (.list _) from ra) with
    | lst h1 h2 => exact sl_list pins s σ H _ v vl vu lo hi sl Q I rx hs pl pu ⟨_, _, rfl, Same.sqL c.le h1, fun p hp => k.lst c hp (h2.cut lo hi) q⟩
  · obtain ⟨p, xs, rfl, h1, h2, _⟩ := ra
    exact sl_list pins s σ H _ v vl vu lo hi sl Q I rx hs pl pu ⟨_, _, rfl, .inl (.inl (hide_some h1).2), fun p hp => k.lst c hp (h2.cut lo hi) q⟩
  · cases ra.str
    exact L2.sl_str pins s σ H _ v vl vu lo hi sl Q I rx hs pl pu ⟨_, rfl, by rw [line_eq]; exact q.1, k.dat c (.str _) q.2⟩
  · exact q.elim
def wSl (w : EW) (wl wh : OW) : EW := fun ρ Q E => w ρ (fun r => wl ρ (fun lo => wh ρ (fun hi => fSl r lo hi Q) E) E) E
theorem pd_sl {wl wh : OW} (h : PE X e (tSl (liftS X.K fSl) (TDe X.K W w) (TDo X.K W wl) (TDo X.K W wh))) : PD X W e (wSl w wl wh) := pe_imp h fun σ H Q ⟨G, B0, H0, B, ρ, Qd, Qe, S, q, ok, er⟩ => by
  refine ⟨G, B0, H0, B, ρ, _, Qe, S, q, fun r x B1 H1 S1 s1 r1 q1 => ?_, er⟩
  refine ⟨G, B0, H0, B1, ρ, _, Qe, S1, q1, fun lo B2 H2 S2 s2 q2 => ?_, erT er s1⟩
  refine ⟨G, B0, H0, B2, ρ, _, Qe, S2, q2, fun hi B3 H3 S3 s3 q3 => ?_, erT er (s1.trans s2)⟩
  have s13 := (s1.trans s2).trans s3
  exact ⟨G, H, B3, r, _, ⟨S3.bh, S3.gok⟩, r1.step (s2.trans s3), q3, fun r4 z B4 H4 s4 bh gk rz qz => ok _ _ _ _ (S3.step s4 bh gk) (s13.trans s4) (rz.from s13) qz⟩
end
end DL

set_option Elab.async false
set_option linter.all false
set_option maxRecDepth 100000
/-! The data layer: the deck. -/
namespace DL
open PySem PySem.Spec PyProof.Rows L2
theorem sh_ints (ns : List Int) : Sh (.list (ns.map PyData.int)) := by
  have h1 : PyData.canLayAll0 (ns.map PyData.int) = true := by
    induction ns with
    | nil => rfl
    | cons n ns ih => simp only [List.map_cons, PyData.canLayAll0, PyData.canLay0, ih, Bool.and_self]
  have h2 : PyData.depthAll (ns.map PyData.int) = 0 := by
    induction ns with
    | nil => rfl
    | cons n ns ih =>
      simp only [List.map_cons, PyData.canLayAll0, PyData.canLay0, Bool.true_and] at h1
      simp only [List.map_cons, PyData.depthAll, PyData.depth, ih h1, Nat.max_self]
  show (PyData.canLay0 (.list (ns.map PyData.int)) && decide (PyData.depth (.list (ns.map PyData.int)) ≤ 64)) = true
  simp only [PyData.canLay0, PyData.depth, h1, h2]
  decide
theorem eqv_nil (ns : List Int) : PyData.eqv (.list (ns.map PyData.int)) (.list []) = ns.isEmpty := by
  cases ns <;> simp [PyData.eqv, PyData.eqvAll]
/-- what a draw hands back -/
def c_pick : Ct := fun rs Q _ => ∃ n : Int, rs = [.g, .s (.int n)] ∧ 0 < n ∧ n < 1073741824 ∧ ∀ r : Int, 0 ≤ r → r < n → Q (.s (.int r))
/-- where the deck stands -/
structure DeckAt (a c : Addr) (H : Hp) (cells : List Int) (s m : Int) : Prop where
  h1 : H a = some (.lst [.ref c, .int s, .int m])
  h2 : H c = some (.lst (cells.map V.int))
  h3 : ∀ x ∈ cells, 0 ≤ x ∧ x < 10 ^ 60
  s0 : 0 ≤ s
  s1 : s < 10 ^ 60
  m0 : 0 ≤ m
  m1 : m < 2147483647
  len : cells.length ≤ 1000
theorem DeckAt.ne {a c : Addr} {H : Hp} {cells : List Int} {s m : Int} (d : DeckAt a c H cells s m) : a ≠ c := ne_of d.h1 d.h2 (by
  intro z
  cases cells with
  | nil => cases z
  | cons x xs => simp at z)
theorem DeckAt.ok {a c : Addr} {H : Hp} {cells : List Int} {s m : Int} (d : DeckAt a c H cells s m) : (deckG a c).ok H := ⟨cells, s, m, d.h1, d.h2, d.h3, d.s0, d.s1, d.m0, d.m1, d.len⟩
theorem DeckAt.of {a c : Addr} {H : Hp} (h : (deckG a c).ok H) : ∃ cells s m, DeckAt a c H cells s m := by
  obtain ⟨cells, s, m, h1, h2, h3, h4, h5, h6, h7, h8⟩ := h
  exact ⟨cells, s, m, h1, h2, h3, h4, h5, h6, h7, h8⟩
/-- the deck's first place or number is written -/
theorem DeckAt.setS {a c : Addr} {H : Hp} {cells : List Int} {s m s' : Int} (d : DeckAt a c H cells s m) (h : 0 ≤ s') (h' : s' < 10 ^ 60) : DeckAt a c (upd H a (.lst [.ref c, .int s', .int m])) cells s' m :=
  ⟨upd_same, by rw [upd_ne d.ne.symm]; exact d.h2, d.h3, h, h', d.m0, d.m1, d.len⟩
theorem DeckAt.setM {a c : Addr} {H : Hp} {cells : List Int} {s m m' : Int} (d : DeckAt a c H cells s m) (h : 0 ≤ m') (h' : m' < 2147483647) : DeckAt a c (upd H a (.lst [.ref c, .int s, .int m'])) cells s m' :=
  ⟨upd_same, by rw [upd_ne d.ne.symm]; exact d.h2, d.h3, d.s0, d.s1, h, h', d.len⟩
theorem DeckAt.pop {a c : Addr} {H : Hp} {x : Int} {cells : List Int} {s m : Int} (d : DeckAt a c H (x :: cells) s m) : DeckAt a c (upd H c (.lst (cells.map V.int))) cells s m :=
  ⟨by rw [upd_ne d.ne]; exact d.h1, upd_same, fun y hy => d.h3 y (List.mem_cons_of_mem _ hy), d.s0, d.s1, d.m0, d.m1, by have := d.len; simp at this; omega⟩
theorem DeckAt.new {a c p : Addr} {H : Hp} {cells : List Int} {s m : Int} {o : HO} (d : DeckAt a c H cells s m) (hp : H p = none) : DeckAt a c (upd H p o) cells s m :=
  ⟨by rw [upd_ne (ne_of_none d.h1 hp)]; exact d.h1, by rw [upd_ne (ne_of_none d.h2 hp)]; exact d.h2, d.h3, d.s0, d.s1, d.m0, d.m1, d.len⟩
theorem hide_ghost {G : Gh} {H : Hp} {b : Addr} {o : HO} (h : b ∈ G.at_) : hide G (upd H b o) = hide G H := by
  funext z
  by_cases q : z ∈ G.at_
  · rw [hide_in q, hide_in q]
  · rw [hide_out q, hide_out q, upd_ne (fun e => q (by rw [e]; exact h))]
/-- the first if of a draw: whatever it does, the deck stands -/
def tPickA : TS := fun D σ H => ∃ (a c : Addr) (n : Int) (cells : List Int) (s m : Int), σ = [some (.ref a), some (.int n), some (.ref c), none, none] ∧ DeckAt a c H cells s m ∧
  ∀ v H' cells' s' m', DeckAt a c H' cells' s' m' → Same (hide (deckG a c) H) (hide (deckG a c) H') → D.nx [some (.ref a), some (.int n), some (.ref c), v, none] H'
/-! ### the deck is made; the law's start -/
def spDeck (K : Frag) : Sp := fun vs H Q _ => ∃ (a : Addr) (ns : List Int), vs = [.ref a] ∧ SqL K H a (ns.map V.int) ∧ ns.length ≤ 63 ∧
  ∀ (H' : Hp) (a0 c : Addr) (cells : List Int), Same H H' → H a0 = none → H c = none → DeckAt a0 c H' cells 0 6151 → Q (.ref a0) H'
def spLaw (K : Frag) : Sp := fun vs H Q _ => ∃ (a : Addr) (ns : List Int), vs = [.ref a] ∧ SqL K H a (ns.map V.int) ∧ ns.length ≤ 63 ∧ ∀ H', Q (.bl true) H'
theorem cut63 {ns : List Int} (h : ns.length ≤ 63) : cutV (ns.map V.int) none (some 63) = ns.map V.int := by
  unfold cutV
  have e : HT.sIx (ns.map V.int).length (ns.map V.int).length (some 63) = ns.length := by
    rw [show (some (63 : Int)) = some ((63 : Nat) : Int) from rfl, HT.sIx_nat, List.length_map]
    omega
  rw [e, HT.sIx_none, List.drop_zero, Nat.sub_zero, ← List.length_map (f := V.int), List.take_length]
/-- the reading of the deck's making -/
def tDeckC (K : Frag) : TE := tOp (rI (fun _ j => 0 < j) fun i j => .int (i % j)) (tCB (fun xs H Q => (∃ i, xs = [.int i] ∧ Q (.int i) H) ∨ ∃ k, xs = [.bl k] ∧ Q (.int (if k then 1 else 0)) H) (tCons (tVar 1) tNil)) (tOp (rI CPow fun i j => .int (i ^ j.toNat)) (tC (.int 10)) (tC (.int 60)))
theorem deck_read {K : Frag} {H : Hp} {vs : List V} {Q : VK} {E : XK} {nx : L2.St → Hp → Prop} (h : spDeck K vs H Q E) :
    tRet (tLst (tCons (tLc (iList K (tSl (rSlL K) (tVar 0) tNoPart (tPart (tC (.int 63))))) (gName 1) tYes (tDeckC K) [1]) (tCons (tC (.int 0)) (tCons (tC (.int 6151)) tNil)))) { nx := nx, rt := Q } (L2.start ["script", "cell"] vs) H := by
  obtain ⟨a, ns, rfl, hS, hl, k⟩ := h
  refine ⟨_, rfl, _, rfl, a, _, rfl, hS, fun p hp => ?_⟩
  rw [cut63 hl]
  have s1 : Same H (upd H p (.lst (ns.map V.int))) := fun b o e => by rw [upd_ne (ne_of_none e hp)]; exact e
  refine ⟨p, rfl, ⟨_, .inl (.inl upd_same)⟩, fun D hD => ?_⟩
  have npD : p ≠ D := fun e => by rw [← e, upd_same] at hD; cases hD
  have hD0 : H D = none := by rw [upd_ne npD.symm] at hD; exact hD
  refine lc_list (K := K) (a := p) (xs := ns.map V.int) (fun i H' => ∃ cells : List Int, H' = upd (upd H p (.lst (ns.map V.int))) D (.lst (cells.map V.int)) ∧ cells.length ≤ i ∧ ∀ x ∈ cells, 0 ≤ x ∧ x < 10 ^ 60) ⟨[], rfl, Nat.le_refl _, fun x hx => by cases hx⟩ ?_ ?_ ?_
  · rintro i H' _ ⟨cells, rfl, _⟩
    exact .inl (.inl (by rw [upd_ne npD, upd_same]))
  · rintro i x H' hi ⟨cells, rfl, hc, hb⟩
    obtain ⟨z, rfl⟩ : ∃ z, x = V.int z := by
      rw [List.getElem?_map] at hi
      cases e : ns[i]? with
      | none => rw [e] at hi; cases hi
      | some z => rw [e] at hi; exact ⟨z, (Option.some.inj hi).symm⟩
    have hi63 : i < ns.length := by
      have q := (List.getElem?_eq_some_iff.mp hi).1
      rw [List.length_map] at q
      exact q
    refine ⟨rfl, ?_⟩
    unfold tYes
    refine iteT ?_
    refine ⟨_, rfl, .inl ⟨_, rfl, _, _, rfl, rfl, by unfold CPow; decide, _, _, rfl, rfl, (by show (0 : Int) < _; decide), cells.map V.int, upd_same, by rw [List.length_map, line_eq]; omega, cells ++ [z % 10 ^ 60], ?_, by simp; omega, fun y hy => ?_⟩⟩
    · rw [upd_upd, List.map_append]
      rfl
    · rcases List.mem_append.mp hy with hy | hy
      · exact hb y hy
      · have e : y = z % 10 ^ 60 := by simpa using hy
        rw [e]
        exact ⟨Int.emod_nonneg _ (by decide), Int.emod_lt_of_pos _ (by decide)⟩
  · rintro H' ⟨cells, rfl, hc, hb⟩
    refine ⟨by show 3 ≤ sizeLine; decide, fun q hq => ?_⟩
    have nqD : q ≠ D := fun e => by rw [e, upd_same] at hq; cases hq
    have nqp : q ≠ p := fun e => by rw [e, upd_ne npD, upd_same] at hq; cases hq
    have hq0 : H q = none := by rw [upd_ne nqD, upd_ne nqp] at hq; exact hq
    refine k _ q D cells (fun b o e => ?_) hq0 hD0 ⟨upd_same, by rw [upd_ne nqD.symm, upd_same], hb, by decide, by decide, by decide, by decide, by rw [List.length_map] at hc; omega⟩
    rw [upd_ne (ne_of_none e hq0), upd_ne (ne_of_none e hD0)]
    exact s1 b o e
theorem law_read {K : Frag} {H : Hp} {vs : List V} {Q : VK} {E : XK} {nx : L2.St → Hp → Prop} {N : List Str} {w : SW} (hN : 2 ≤ N.length) (h : spLaw K vs H Q E)
    (hw : ∀ ns : List Int, ns.length ≤ 63 → w (some (.s (.list (ns.map PyData.int))) :: some .g :: List.replicate (N.length - 2) none) { nx := fun _ => False, rt := fun r => r = .s (.bool true) }) :
    tSeq (tAsg (tCallS (spDeck K) (WE W0) (tCons (tVar 0) tNil)) (gName 1)) (TDs K W0 w) { nx := nx, rt := Q } (L2.start N vs) H := by
  obtain ⟨a, ns, rfl, hS, hl, k⟩ := h
  refine ⟨_, rfl, a, ns, rfl, hS, hl, fun H1 a0 c cells s ha hc d => ?_⟩
  have nin : ∀ b o, H b = some o → b ∉ (deckG a0 c).at_ := fun b o e z => by
    rcases List.mem_cons.mp z with rfl | z
    · rw [ha] at e; cases e
    · rcases List.mem_cons.mp z with rfl | z
      · rw [hc] at e; cases e
      · cases z
  have hS' : SqL K (hide (deckG a0 c) H1) a (ns.map V.int) := by
    rcases hS with (h | ⟨o, h⟩) | h
    · exact .inl (.inl (by rw [hide_out (nin _ _ h)]; exact s _ _ h))
    · exact .inl (.inr ⟨o, by rw [hide_out (nin _ _ h)]; exact s _ _ h⟩)
    · exact .inr h
  refine ⟨deckG a0 c, hide (deckG a0 c) H1, H1, hide (deckG a0 c) H1, _, _, ?_, hw ns hl, ⟨fun _ _ _ _ _ _ z => z.elim, fun _ _ _ _ _ _ z => z.elim, fun _ _ _ _ _ _ z => z.elim, fun r x B' H' _ _ _ r' z => ?_, fun _ _ _ _ _ _ _ _ z => z.elim⟩⟩
  · refine ⟨?_, Same.refl _, d.ok, Stp.refl .., fun i r e => ?_, fun i j r u x _ e1 _ o1 _ _ _ => ?_⟩
    · unfold L2.start
      simp
      omega
    · match i, e with
      | 0, e => cases e; exact ⟨.ref a, by unfold L2.start; simp, .lst hS' (DpAll.ints ns)⟩
      | 1, e =>
        cases e
        refine ⟨.ref a0, ?_, a0, c, rfl, rfl⟩
        rw [List.getElem?_set_self]
        unfold L2.start
        simp
        omega
      | i + 2, e =>
        have : some r ∈ List.replicate (N.length - 2) (none : Option R) := List.mem_of_getElem? (i := i) (by simpa using e)
        exact nomatch List.eq_of_mem_replicate this
    · match i, e1 with
      | 0, e => cases e; cases o1
      | 1, e => cases e; cases o1
      | i + 2, e =>
        have : some r ∈ List.replicate (N.length - 2) (none : Option R) := List.mem_of_getElem? (i := i) (by simpa using e)
        exact nomatch List.eq_of_mem_replicate this
  · subst z
    cases (show Dp K B' x (.bool true) from r')
    exact k _
end DL

set_option Elab.async false
set_option linter.all false
set_option maxRecDepth 100000
/-! The data layer: words for plain proofs. -/
namespace DL
open PySem PySem.Spec PyProof.Rows L2
theorem seq_l (o : Bool) (xs : List D) : R.seq (.l o xs) = some xs := rfl
theorem seq_t (xs : List D) : R.seq (.s (.tuple xs)) = some xs := rfl
theorem seq_L (xs : List D) : R.seq (.s (.list xs)) = some xs := rfl
theorem stab_t (xs : List D) : R.stab (.s (.tuple xs)) = some xs := rfl
theorem stab_L (xs : List D) : R.stab (.s (.list xs)) = some xs := rfl
theorem look_s (d : D) : R.look (.s d) = some d := rfl
theorem look_l (o : Bool) (xs : List D) : R.look (.l o xs) = some (.list xs) := rfl
theorem dat_s (d : D) : R.dat (.s d) = some d := rfl
theorem frz_s (d : D) : frz (.s d) = .s d := rfl
theorem frz_l (xs : List D) : frz (.l true xs) = .s (.list xs) := rfl
theorem peek_s (d : D) : peek (.s d) = .s d := rfl
theorem peek_l (o : Bool) (xs : List D) : peek (.l o xs) = .l false xs := rfl
theorem peek_g : peek .g = .g := rfl
theorem keeps_s (d : D) : keeps (.s d) = true := rfl
theorem keeps_l (xs : List D) : keeps (.l true xs) = true := rfl
theorem dats_nil : dats [] = some [] := rfl
theorem dats_cons (d : D) (rs : List R) : dats (.s d :: rs) = (match dats rs with | some ds => some (d :: ds) | none => none) := by
  show (match R.dat (.s d), dats rs with | some d, some ds => some (d :: ds) | _, _ => none) = _
  rw [dat_s]
  cases dats rs <;> rfl
/-- shaped data, by parts -/
theorem sh_int (i : Int) : Sh (.int i) := rfl
theorem sh_bool (i : Bool) : Sh (.bool i) := rfl
theorem sh_none : Sh .none := rfl
theorem eqv_int (i j : Int) : PyData.eqv (.int i) (.int j) = (i == j) := by simp [PyData.eqv]
theorem eqv_bool (i j : Bool) : PyData.eqv (.bool i) (.bool j) = (i == j) := by simp [PyData.eqv]
theorem eqv_str (i j : Str) : PyData.eqv (.str i) (.str j) = (i == j) := by simp [PyData.eqv]
theorem at0 {α : Type} (x : α) (l : List α) : L2.atI (x :: l) 0 = some x := atI_nat (j := 0) rfl
theorem at1 {α : Type} (x y : α) (l : List α) : L2.atI (x :: y :: l) 1 = some y := atI_nat (j := 1) rfl
theorem at2 {α : Type} (x y z : α) (l : List α) : L2.atI (x :: y :: z :: l) 2 = some z := atI_nat (j := 2) rfl
theorem at3 {α : Type} (x y z u : α) (l : List α) : L2.atI (x :: y :: z :: u :: l) 3 = some u := atI_nat (j := 3) rfl
theorem flat_none : flatD .none = true := rfl
theorem flat_bool (b : Bool) : flatD (.bool b) = true := rfl
theorem flat_int (b : Int) : flatD (.int b) = true := rfl
theorem flat_str (b : Str) : flatD (.str b) = true := rfl
theorem isS_s (d : D) : R.isS (.s d) = true := rfl
theorem isN_none : R.isN (.s .none) = true := rfl
theorem isN_int (i : Int) : R.isN (.s (.int i)) = false := rfl
theorem isN_bool (i : Bool) : R.isN (.s (.bool i)) = false := rfl
theorem isN_str (i : Str) : R.isN (.s (.str i)) = false := rfl
theorem isN_tup (i : List D) : R.isN (.s (.tuple i)) = false := rfl
theorem bne_ff (b : Bool) : (false != b) = b := by cases b <;> rfl
theorem bne_tt (b : Bool) : (true != b) = !b := by cases b <;> rfl
theorem drop_at {α : Type} {l : List α} {i : Nat} {d : α} (h : l[i]? = some d) : l.drop i = d :: l.drop (i + 1) := by
  obtain ⟨h1, h2⟩ := List.getElem?_eq_some_iff.mp h
  rw [List.drop_eq_getElem_cons h1, h2]
theorem take_at {α : Type} {l : List α} {i : Nat} {d : α} (h : l[i]? = some d) : l.take (i + 1) = l.take i ++ [d] := by
  rw [List.take_succ, h]
  rfl
/-- an if of two known ways -/
theorem ite_both {c : Bool} {A B : Prop} (h1 : c = true → A) (h2 : c = false → B) : if c = true then A else B := by
  cases c with
  | true => exact (if_pos rfl).mpr (h1 rfl)
  | false => exact (if_neg Bool.false_ne_true).mpr (h2 rfl)
end DL

set_option Elab.async false
set_option linter.all false
set_option maxRecDepth 100000
/-! The data layer: what the end of a claim needs. -/
namespace DL
open PySem PySem.Spec PyProof.Rows L2
/-- nobody asks it -/
def c_never : Ct := fun _ _ _ => False
theorem fn_never {P : Program} {w : World} {K : Frag} {mg : Str → Option Value} {base : Heap} {CX : CXT} {k : Nat} {f : Addr} {fd : FuncData} {ps : List Str} : FnOk P w K mg base CX k f fd ps (spD K c_never) :=
  ⟨fun _ _ _ _ h => by obtain ⟨_, _, _, _, _, _, _, _, z, _⟩ := h; exact z.elim, fun _ _ _ _ _ _ _ _ _ _ _ _ _ h => by obtain ⟨_, _, _, _, _, _, _, _, z, _⟩ := h; exact z.elim⟩
/-- what a law's head asks for -/
theorem law_fd {K : Frag} {x : Str} {st : Stmt} {fa : Addr} {fd : FuncData} (F : Fun K x x st fa fd) (e : Binds K fd ["script"] []) (h : ∀ (s : Shared) (v : Value), BindsTo s fd ⟨[v], []⟩ [("script", v)]) : ∀ (s : Shared) (v : Value), BindsTo s fd ⟨[v], []⟩ [("script", v)] := h
end DL

set_option Elab.async false
set_option linter.all false
set_option maxRecDepth 100000
set_option maxHeartbeats 4000000
namespace LK
open PySem PySem.Spec PyProof.Rows L2 DL
/-! ### places, scopes (printed by gen.py) -/
def top (i : Nat) : Stmt := PySem.Challenge.pw_heapsworn_k53_programs_judged.main.body.getD i (.Pass ⟨0, 0, 0, 0⟩)
abbrev s_is_int : Stmt := top 5
abbrev N_is_int : List Str := ["thing"]
abbrev P_is_int : List Str := ["thing"]
theorem sc_is_int : FnScope N_is_int P_is_int (defScope s_is_int) := ⟨rfl, rfl, rfl, by decide +kernel, rfl, by decide +kernel, by decide +kernel⟩
abbrev s_within : Stmt := top 6
abbrev N_within : List Str := ["thing", "low", "high"]
abbrev P_within : List Str := ["thing", "low", "high"]
theorem sc_within : FnScope N_within P_within (defScope s_within) := ⟨rfl, rfl, rfl, by decide +kernel, rfl, by decide +kernel, by decide +kernel⟩
abbrev s_is_row : Stmt := top 7
abbrev N_is_row : List Str := ["thing", "fewest", "most"]
abbrev P_is_row : List Str := ["thing", "fewest", "most"]
theorem sc_is_row : FnScope N_is_row P_is_row (defScope s_is_row) := ⟨rfl, rfl, rfl, by decide +kernel, rfl, by decide +kernel, by decide +kernel⟩
abbrev s_is_word : Stmt := top 8
abbrev N_is_word : List Str := ["thing", "words"]
abbrev P_is_word : List Str := ["thing", "words"]
theorem sc_is_word : FnScope N_is_word P_is_word (defScope s_is_word) := ⟨rfl, rfl, rfl, by decide +kernel, rfl, by decide +kernel, by decide +kernel⟩
abbrev s_is_many : Stmt := top 11
abbrev N_is_many : List Str := ["thing"]
abbrev P_is_many : List Str := ["thing"]
theorem sc_is_many : FnScope N_is_many P_is_many (defScope s_is_many) := ⟨rfl, rfl, rfl, by decide +kernel, rfl, by decide +kernel, by decide +kernel⟩
abbrev s_need_many : Stmt := top 12
abbrev N_need_many : List Str := ["many"]
abbrev P_need_many : List Str := ["many"]
theorem sc_need_many : FnScope N_need_many P_need_many (defScope s_need_many) := ⟨rfl, rfl, rfl, by decide +kernel, rfl, by decide +kernel, by decide +kernel⟩
abbrev s_is_step_of : Stmt := top 15
abbrev N_is_step_of : List Str := ["many", "thing"]
abbrev P_is_step_of : List Str := ["many", "thing"]
theorem sc_is_step_of : FnScope N_is_step_of P_is_step_of (defScope s_is_step_of) := ⟨rfl, rfl, rfl, by decide +kernel, rfl, by decide +kernel, by decide +kernel⟩
abbrev s_is_condition_of : Stmt := top 16
abbrev N_is_condition_of : List Str := ["many", "thing"]
abbrev P_is_condition_of : List Str := ["many", "thing"]
theorem sc_is_condition_of : FnScope N_is_condition_of P_is_condition_of (defScope s_is_condition_of) := ⟨rfl, rfl, rfl, by decide +kernel, rfl, by decide +kernel, by decide +kernel⟩
abbrev s_is_step : Stmt := top 17
abbrev N_is_step : List Str := ["many", "thing"]
abbrev P_is_step : List Str := ["many", "thing"]
theorem sc_is_step : FnScope N_is_step P_is_step (defScope s_is_step) := ⟨rfl, rfl, rfl, by decide +kernel, rfl, by decide +kernel, by decide +kernel⟩
abbrev s_is_condition : Stmt := top 18
abbrev N_is_condition : List Str := ["many", "thing"]
abbrev P_is_condition : List Str := ["many", "thing"]
theorem sc_is_condition : FnScope N_is_condition P_is_condition (defScope s_is_condition) := ⟨rfl, rfl, rfl, by decide +kernel, rfl, by decide +kernel, by decide +kernel⟩
abbrev s_is_branch : Stmt := top 22
abbrev N_is_branch : List Str := ["part"]
abbrev P_is_branch : List Str := ["part"]
theorem sc_is_branch : FnScope N_is_branch P_is_branch (defScope s_is_branch) := ⟨rfl, rfl, rfl, by decide +kernel, rfl, by decide +kernel, by decide +kernel⟩
abbrev s_size_of : Stmt := top 23
abbrev N_size_of : List Str := ["many", "thing", "deep", "total", "part", "more"]
abbrev P_size_of : List Str := ["many", "thing", "deep"]
theorem sc_size_of : FnScope N_size_of P_size_of (defScope s_size_of) := ⟨rfl, rfl, rfl, by decide +kernel, rfl, by decide +kernel, by decide +kernel⟩
abbrev s_branch_size : Stmt := top 24
abbrev N_branch_size : List Str := ["many", "thing", "deep", "first", "second"]
abbrev P_branch_size : List Str := ["many", "thing", "deep"]
theorem sc_branch_size : FnScope N_branch_size P_branch_size (defScope s_branch_size) := ⟨rfl, rfl, rfl, by decide +kernel, rfl, by decide +kernel, by decide +kernel⟩
abbrev s_is_program_of : Stmt := top 25
abbrev N_is_program_of : List Str := ["many", "thing"]
abbrev P_is_program_of : List Str := ["many", "thing"]
theorem sc_is_program_of : FnScope N_is_program_of P_is_program_of (defScope s_is_program_of) := ⟨rfl, rfl, rfl, by decide +kernel, rfl, by decide +kernel, by decide +kernel⟩
abbrev s_is_program : Stmt := top 26
abbrev N_is_program : List Str := ["many", "thing"]
abbrev P_is_program : List Str := ["many", "thing"]
theorem sc_is_program : FnScope N_is_program P_is_program (defScope s_is_program) := ⟨rfl, rfl, rfl, by decide +kernel, rfl, by decide +kernel, by decide +kernel⟩
abbrev s_need_program : Stmt := top 27
abbrev N_need_program : List Str := ["many", "program"]
abbrev P_need_program : List Str := ["many", "program"]
theorem sc_need_program : FnScope N_need_program P_need_program (defScope s_need_program) := ⟨rfl, rfl, rfl, by decide +kernel, rfl, by decide +kernel, by decide +kernel⟩
abbrev s_is_straight_of : Stmt := top 28
abbrev N_is_straight_of : List Str := ["program", "part"]
abbrev P_is_straight_of : List Str := ["program"]
theorem sc_is_straight_of : FnScope N_is_straight_of P_is_straight_of (defScope s_is_straight_of) := ⟨rfl, rfl, rfl, by decide +kernel, rfl, by decide +kernel, by decide +kernel⟩
abbrev s_is_straight : Stmt := top 29
abbrev N_is_straight : List Str := ["many", "program"]
abbrev P_is_straight : List Str := ["many", "program"]
theorem sc_is_straight : FnScope N_is_straight P_is_straight (defScope s_is_straight) := ⟨rfl, rfl, rfl, by decide +kernel, rfl, by decide +kernel, by decide +kernel⟩
abbrev s_size : Stmt := top 30
abbrev N_size : List Str := ["many", "program"]
abbrev P_size : List Str := ["many", "program"]
theorem sc_size : FnScope N_size P_size (defScope s_size) := ⟨rfl, rfl, rfl, by decide +kernel, rfl, by decide +kernel, by decide +kernel⟩
abbrev s_law_deck : Stmt := top 32
abbrev N_law_deck : List Str := ["script", "cell"]
abbrev P_law_deck : List Str := ["script"]
theorem sc_law_deck : FnScope N_law_deck P_law_deck (defScope s_law_deck) := ⟨rfl, rfl, rfl, by decide +kernel, rfl, by decide +kernel, by decide +kernel⟩
abbrev s_law_pick : Stmt := top 33
abbrev N_law_pick : List Str := ["deck", "many", "cells", "cell", "found"]
abbrev P_law_pick : List Str := ["deck", "many"]
theorem sc_law_pick : FnScope N_law_pick P_law_pick (defScope s_law_pick) := ⟨rfl, rfl, rfl, by decide +kernel, rfl, by decide +kernel, by decide +kernel⟩
abbrev s_law_same : Stmt := top 34
abbrev N_law_same : List Str := ["told", "due", "waiting", "one", "two", "k"]
abbrev P_law_same : List Str := ["told", "due"]
theorem sc_law_same : FnScope N_law_same P_law_same (defScope s_law_same) := ⟨rfl, rfl, rfl, by decide +kernel, rfl, by decide +kernel, by decide +kernel⟩
abbrev s_law_step : Stmt := top 35
abbrev N_law_step : List Str := ["deck", "many", "word", "first"]
abbrev P_law_step : List Str := ["deck", "many"]
theorem sc_law_step : FnScope N_law_step P_law_step (defScope s_law_step) := ⟨rfl, rfl, rfl, by decide +kernel, rfl, by decide +kernel, by decide +kernel⟩
abbrev s_law_condition : Stmt := top 36
abbrev N_law_condition : List Str := ["deck", "many"]
abbrev P_law_condition : List Str := ["deck", "many"]
theorem sc_law_condition : FnScope N_law_condition P_law_condition (defScope s_law_condition) := ⟨rfl, rfl, rfl, by decide +kernel, rfl, by decide +kernel, by decide +kernel⟩
abbrev s_law_size : Stmt := top 37
abbrev N_law_size : List Str := ["program", "part"]
abbrev P_law_size : List Str := ["program"]
theorem sc_law_size : FnScope N_law_size P_law_size (defScope s_law_size) := ⟨rfl, rfl, rfl, by decide +kernel, rfl, by decide +kernel, by decide +kernel⟩
abbrev s_law_program : Stmt := top 38
abbrev N_law_program : List Str := ["deck", "many", "most", "deep", "found", "left", "first", "second"]
abbrev P_law_program : List Str := ["deck", "many", "most", "deep"]
theorem sc_law_program : FnScope N_law_program P_law_program (defScope s_law_program) := ⟨rfl, rfl, rfl, by decide +kernel, rfl, by decide +kernel, by decide +kernel⟩
abbrev s_law_bad_parts : Stmt := top 39
abbrev N_law_bad_parts : List Str := ["many", "none", "found"]
abbrev P_law_bad_parts : List Str := ["many"]
theorem sc_law_bad_parts : FnScope N_law_bad_parts P_law_bad_parts (defScope s_law_bad_parts) := ⟨rfl, rfl, rfl, by decide +kernel, rfl, by decide +kernel, by decide +kernel⟩
abbrev s_law_refused : Stmt := top 40
abbrev N_law_refused : List Str := ["which", "many", "thing", "word", "told"]
abbrev P_law_refused : List Str := ["which", "many", "thing"]
theorem sc_law_refused : FnScope N_law_refused P_law_refused (defScope s_law_refused) := ⟨rfl, rfl, rfl, by decide +kernel, rfl, by decide +kernel, by decide +kernel⟩
abbrev s_law_deep : Stmt := top 41
abbrev N_law_deep : List Str := ["count", "found", "step"]
abbrev P_law_deep : List Str := ["count"]
theorem sc_law_deep : FnScope N_law_deep P_law_deep (defScope s_law_deep) := ⟨rfl, rfl, rfl, by decide +kernel, rfl, by decide +kernel, by decide +kernel⟩
abbrev s_law : Stmt := top 42
abbrev N_law : List Str := ["script", "deck", "turn", "many", "program", "part", "at", "bad", "thing", "spoilt", "which", "condition", "count"]
abbrev P_law : List Str := ["script"]
theorem sc_law : FnScope N_law P_law (defScope s_law) := ⟨rfl, rfl, rfl, by decide +kernel, rfl, by decide +kernel, by decide +kernel⟩
/-- the addresses -/
structure Ad where
  c_HeapError : Addr
  c_BadMany : Addr
  c_BadProgram : Addr
  f_is_int : Addr
  d_is_int : FuncData
  f_within : Addr
  d_within : FuncData
  f_is_row : Addr
  d_is_row : FuncData
  f_is_word : Addr
  d_is_word : FuncData
  f_is_many : Addr
  d_is_many : FuncData
  f_need_many : Addr
  d_need_many : FuncData
  f_is_step_of : Addr
  d_is_step_of : FuncData
  f_is_condition_of : Addr
  d_is_condition_of : FuncData
  f_is_step : Addr
  d_is_step : FuncData
  f_is_condition : Addr
  d_is_condition : FuncData
  f_is_branch : Addr
  d_is_branch : FuncData
  f_size_of : Addr
  d_size_of : FuncData
  f_branch_size : Addr
  d_branch_size : FuncData
  f_is_program_of : Addr
  d_is_program_of : FuncData
  f_is_program : Addr
  d_is_program : FuncData
  f_need_program : Addr
  d_need_program : FuncData
  f_is_straight_of : Addr
  d_is_straight_of : FuncData
  f_is_straight : Addr
  d_is_straight : FuncData
  f_size : Addr
  d_size : FuncData
  f_law_deck : Addr
  d_law_deck : FuncData
  f_law_pick : Addr
  d_law_pick : FuncData
  f_law_same : Addr
  d_law_same : FuncData
  f_law_step : Addr
  d_law_step : FuncData
  f_law_condition : Addr
  d_law_condition : FuncData
  f_law_size : Addr
  d_law_size : FuncData
  f_law_program : Addr
  d_law_program : FuncData
  f_law_bad_parts : Addr
  d_law_bad_parts : FuncData
  f_law_refused : Addr
  d_law_refused : FuncData
  f_law_deep : Addr
  d_law_deep : FuncData
  f_law : Addr
  d_law : FuncData
  a_WORDS : Addr
/-- what the top has written -/
structure Txt (K : Frag) (mg : Str → Option Value) (cl : Ad) : Prop where
  g_HeapError : mg "HeapError" = some (.ref cl.c_HeapError)
  x_HeapError : PySem.W.excIn K cl.c_HeapError [.type "ValueError", .type "Exception", .type "BaseException", .type "object"] "ValueError.__new__" = true
  k_HeapError : PySem.W.keepIn K (.ref cl.c_HeapError) = true
  s_HeapError : PySem.W.subIn K (.ref cl.c_HeapError) (.type "BaseException") = some true
  t_HeapError : PySem.W.typeIn K (.ref cl.c_HeapError) = some (.type "type")
  e_HeapError_BadMany : PySem.W.exmOne K (.ref cl.c_HeapError) (.ref cl.c_BadMany) = some false
  e_HeapError_BadProgram : PySem.W.exmOne K (.ref cl.c_HeapError) (.ref cl.c_BadProgram) = some false
  g_BadMany : mg "BadMany" = some (.ref cl.c_BadMany)
  x_BadMany : PySem.W.excIn K cl.c_BadMany [.type "ValueError", .type "Exception", .type "BaseException", .type "object"] "ValueError.__new__" = true
  k_BadMany : PySem.W.keepIn K (.ref cl.c_BadMany) = true
  s_BadMany : PySem.W.subIn K (.ref cl.c_BadMany) (.type "BaseException") = some true
  t_BadMany : PySem.W.typeIn K (.ref cl.c_BadMany) = some (.type "type")
  e_BadMany_BadMany : PySem.W.exmOne K (.ref cl.c_BadMany) (.ref cl.c_BadMany) = some true
  e_BadMany_BadProgram : PySem.W.exmOne K (.ref cl.c_BadMany) (.ref cl.c_BadProgram) = some false
  g_BadProgram : mg "BadProgram" = some (.ref cl.c_BadProgram)
  x_BadProgram : PySem.W.excIn K cl.c_BadProgram [.type "ValueError", .type "Exception", .type "BaseException", .type "object"] "ValueError.__new__" = true
  k_BadProgram : PySem.W.keepIn K (.ref cl.c_BadProgram) = true
  s_BadProgram : PySem.W.subIn K (.ref cl.c_BadProgram) (.type "BaseException") = some true
  t_BadProgram : PySem.W.typeIn K (.ref cl.c_BadProgram) = some (.type "type")
  e_BadProgram_BadMany : PySem.W.exmOne K (.ref cl.c_BadProgram) (.ref cl.c_BadMany) = some false
  e_BadProgram_BadProgram : PySem.W.exmOne K (.ref cl.c_BadProgram) (.ref cl.c_BadProgram) = some true
  F_is_int : Fun K "is_int" "is_int" s_is_int cl.f_is_int cl.d_is_int
  m_is_int : mg "is_int" = some (.ref cl.f_is_int)
  b_is_int : Binds K cl.d_is_int P_is_int []
  F_within : Fun K "within" "within" s_within cl.f_within cl.d_within
  m_within : mg "within" = some (.ref cl.f_within)
  b_within : Binds K cl.d_within P_within []
  F_is_row : Fun K "is_row" "is_row" s_is_row cl.f_is_row cl.d_is_row
  m_is_row : mg "is_row" = some (.ref cl.f_is_row)
  b_is_row : Binds K cl.d_is_row P_is_row []
  F_is_word : Fun K "is_word" "is_word" s_is_word cl.f_is_word cl.d_is_word
  m_is_word : mg "is_word" = some (.ref cl.f_is_word)
  b_is_word : Binds K cl.d_is_word P_is_word []
  F_is_many : Fun K "is_many" "is_many" s_is_many cl.f_is_many cl.d_is_many
  m_is_many : mg "is_many" = some (.ref cl.f_is_many)
  b_is_many : Binds K cl.d_is_many P_is_many []
  F_need_many : Fun K "need_many" "need_many" s_need_many cl.f_need_many cl.d_need_many
  m_need_many : mg "need_many" = some (.ref cl.f_need_many)
  b_need_many : Binds K cl.d_need_many P_need_many []
  F_is_step_of : Fun K "is_step_of" "is_step_of" s_is_step_of cl.f_is_step_of cl.d_is_step_of
  m_is_step_of : mg "is_step_of" = some (.ref cl.f_is_step_of)
  b_is_step_of : Binds K cl.d_is_step_of P_is_step_of []
  F_is_condition_of : Fun K "is_condition_of" "is_condition_of" s_is_condition_of cl.f_is_condition_of cl.d_is_condition_of
  m_is_condition_of : mg "is_condition_of" = some (.ref cl.f_is_condition_of)
  b_is_condition_of : Binds K cl.d_is_condition_of P_is_condition_of []
  F_is_step : Fun K "is_step" "is_step" s_is_step cl.f_is_step cl.d_is_step
  m_is_step : mg "is_step" = some (.ref cl.f_is_step)
  b_is_step : Binds K cl.d_is_step P_is_step []
  F_is_condition : Fun K "is_condition" "is_condition" s_is_condition cl.f_is_condition cl.d_is_condition
  m_is_condition : mg "is_condition" = some (.ref cl.f_is_condition)
  b_is_condition : Binds K cl.d_is_condition P_is_condition []
  F_is_branch : Fun K "is_branch" "is_branch" s_is_branch cl.f_is_branch cl.d_is_branch
  m_is_branch : mg "is_branch" = some (.ref cl.f_is_branch)
  b_is_branch : Binds K cl.d_is_branch P_is_branch []
  F_size_of : Fun K "size_of" "size_of" s_size_of cl.f_size_of cl.d_size_of
  m_size_of : mg "size_of" = some (.ref cl.f_size_of)
  b_size_of : Binds K cl.d_size_of P_size_of []
  F_branch_size : Fun K "branch_size" "branch_size" s_branch_size cl.f_branch_size cl.d_branch_size
  m_branch_size : mg "branch_size" = some (.ref cl.f_branch_size)
  b_branch_size : Binds K cl.d_branch_size P_branch_size []
  F_is_program_of : Fun K "is_program_of" "is_program_of" s_is_program_of cl.f_is_program_of cl.d_is_program_of
  m_is_program_of : mg "is_program_of" = some (.ref cl.f_is_program_of)
  b_is_program_of : Binds K cl.d_is_program_of P_is_program_of []
  F_is_program : Fun K "is_program" "is_program" s_is_program cl.f_is_program cl.d_is_program
  m_is_program : mg "is_program" = some (.ref cl.f_is_program)
  b_is_program : Binds K cl.d_is_program P_is_program []
  F_need_program : Fun K "need_program" "need_program" s_need_program cl.f_need_program cl.d_need_program
  m_need_program : mg "need_program" = some (.ref cl.f_need_program)
  b_need_program : Binds K cl.d_need_program P_need_program []
  F_is_straight_of : Fun K "is_straight_of" "is_straight_of" s_is_straight_of cl.f_is_straight_of cl.d_is_straight_of
  m_is_straight_of : mg "is_straight_of" = some (.ref cl.f_is_straight_of)
  b_is_straight_of : Binds K cl.d_is_straight_of P_is_straight_of []
  F_is_straight : Fun K "is_straight" "is_straight" s_is_straight cl.f_is_straight cl.d_is_straight
  m_is_straight : mg "is_straight" = some (.ref cl.f_is_straight)
  b_is_straight : Binds K cl.d_is_straight P_is_straight []
  F_size : Fun K "size" "size" s_size cl.f_size cl.d_size
  m_size : mg "size" = some (.ref cl.f_size)
  b_size : Binds K cl.d_size P_size []
  F_law_deck : Fun K "_law_deck" "_law_deck" s_law_deck cl.f_law_deck cl.d_law_deck
  m_law_deck : mg "_law_deck" = some (.ref cl.f_law_deck)
  b_law_deck : Binds K cl.d_law_deck P_law_deck []
  F_law_pick : Fun K "_law_pick" "_law_pick" s_law_pick cl.f_law_pick cl.d_law_pick
  m_law_pick : mg "_law_pick" = some (.ref cl.f_law_pick)
  b_law_pick : Binds K cl.d_law_pick P_law_pick []
  F_law_same : Fun K "_law_same" "_law_same" s_law_same cl.f_law_same cl.d_law_same
  m_law_same : mg "_law_same" = some (.ref cl.f_law_same)
  b_law_same : Binds K cl.d_law_same P_law_same []
  F_law_step : Fun K "_law_step" "_law_step" s_law_step cl.f_law_step cl.d_law_step
  m_law_step : mg "_law_step" = some (.ref cl.f_law_step)
  b_law_step : Binds K cl.d_law_step P_law_step []
  F_law_condition : Fun K "_law_condition" "_law_condition" s_law_condition cl.f_law_condition cl.d_law_condition
  m_law_condition : mg "_law_condition" = some (.ref cl.f_law_condition)
  b_law_condition : Binds K cl.d_law_condition P_law_condition []
  F_law_size : Fun K "_law_size" "_law_size" s_law_size cl.f_law_size cl.d_law_size
  m_law_size : mg "_law_size" = some (.ref cl.f_law_size)
  b_law_size : Binds K cl.d_law_size P_law_size []
  F_law_program : Fun K "_law_program" "_law_program" s_law_program cl.f_law_program cl.d_law_program
  m_law_program : mg "_law_program" = some (.ref cl.f_law_program)
  b_law_program : Binds K cl.d_law_program P_law_program []
  F_law_bad_parts : Fun K "_law_bad_parts" "_law_bad_parts" s_law_bad_parts cl.f_law_bad_parts cl.d_law_bad_parts
  m_law_bad_parts : mg "_law_bad_parts" = some (.ref cl.f_law_bad_parts)
  b_law_bad_parts : Binds K cl.d_law_bad_parts P_law_bad_parts []
  F_law_refused : Fun K "_law_refused" "_law_refused" s_law_refused cl.f_law_refused cl.d_law_refused
  m_law_refused : mg "_law_refused" = some (.ref cl.f_law_refused)
  b_law_refused : Binds K cl.d_law_refused P_law_refused []
  F_law_deep : Fun K "_law_deep" "_law_deep" s_law_deep cl.f_law_deep cl.d_law_deep
  m_law_deep : mg "_law_deep" = some (.ref cl.f_law_deep)
  b_law_deep : Binds K cl.d_law_deep P_law_deep []
  F_law : Fun K "law" "law" s_law cl.f_law cl.d_law
  m_law : mg "law" = some (.ref cl.f_law)
  b_law : Binds K cl.d_law P_law []
  n_any : mg "any" = none
  n_bool : mg "bool" = none
  n_int : mg "int" = none
  n_isinstance : mg "isinstance" = none
  n_len : mg "len" = none
  n_list : mg "list" = none
  n_min : mg "min" = none
  n_range : mg "range" = none
  n_str : mg "str" = none
  n_sum : mg "sum" = none
  n_tuple : mg "tuple" = none
  v_DEEPEST : ∃ t, mg "DEEPEST" = some (.int 4 t)
  v_MOST_PARTS : ∃ t, mg "MOST_PARTS" = some (.int 24 t)
  v_MOST_VARIABLES : ∃ t, mg "MOST_VARIABLES" = some (.int 4 t)
  v_WORDS : mg "WORDS" = some (.ref cl.a_WORDS)
  d_WORDS : ∀ B, Dp K B (.ref cl.a_WORDS) (.tuple [.str "set", .str "follow", .str "put", .str "new", .str "free"])
section
variable {P : Program} {wd : World} {K : Frag} {mg : Str → Option Value} {base : Heap} {cl : Ad}
def w_is_int (K : Frag) (cl : Ad) : SW :=
  (wRet (wAndV (wIsi isI (wVar 0)) (wNotV (wIsi isB (wVar 0)))))
theorem ok_is_int (T : Txt K mg cl) {k : Nat} {c : Ct} (hlen : ∀ rs Q E, c rs Q E → rs.length = P_is_int.length)
    (hw : ∀ rs Q E, c rs Q E → w_is_int K cl (rho N_is_int.length rs) { nx := fun _ => Q (.s .none), rt := Q, er := fun cls _ => E cls }) :
    FnOk P wd K mg base (L2.CX P wd) (k + 1) cl.f_is_int cl.d_is_int P_is_int (spD K c) :=
  fnD T.F_is_int sc_is_int hlen (fun cdv A outer s H E hr => by
  have tk := takes_of (X := cxOf (L2.CX P wd) P wd K mg base N_is_int "is_int" (defScope s_is_int) cl.f_is_int cdv A outer s H E) rfl rfl rfl rfl
  exact (pds_one (pds_ret (pd_and (pd_isi (pe_callB call_isi (by rfl) T.n_isinstance (by decide +kernel) (pa_cons (pd_var (pv 0)) (pa_cons (pe_bltn (by rfl) T.n_int (by decide +kernel) rfl) pa_nil))) kit_int) (pd_one (pd_not (pd_isi (pe_callB call_isi (by rfl) T.n_isinstance (by decide +kernel) (pa_cons (pd_var (pv 0)) (pa_cons (pe_bltn (by rfl) T.n_bool (by decide +kernel) rfl) pa_nil))) kit_bool))))))) hw
def w_within (K : Frag) (cl : Ad) (c_is_int : Ct) : SW :=
  (wRet (wAndV (wCall c_is_int (wCons (wVar 0) wNil)) (wChain fLe fLe (wVar 1) (wVar 0) (wVar 2))))
theorem ok_within (T : Txt K mg cl) {k : Nat} {c : Ct} {j_is_int : Nat} {c_is_int : Ct} (G_is_int : FnOk P wd K mg base (L2.CX P wd) j_is_int cl.f_is_int cl.d_is_int P_is_int (spD K c_is_int)) (h_is_int : j_is_int ≤ k) (hlen : ∀ rs Q E, c rs Q E → rs.length = P_within.length)
    (hw : ∀ rs Q E, c rs Q E → w_within K cl c_is_int (rho N_within.length rs) { nx := fun _ => Q (.s .none), rt := Q, er := fun cls _ => E cls }) :
    FnOk P wd K mg base (L2.CX P wd) (k + 1) cl.f_within cl.d_within P_within (spD K c) :=
  fnD T.F_within sc_within hlen (fun cdv A outer s H E hr => by
  have tk := takes_of (X := cxOf (L2.CX P wd) P wd K mg base N_within "within" (defScope s_within) cl.f_within cdv A outer s H E) rfl rfl rfl rfl
  exact (pds_one (pds_ret (pd_and (pd_call (pe_callS G_is_int (hr.mono h_is_int) (by rfl) T.m_is_int T.F_is_int.kp T.b_is_int (fun σ => passAt tk σ) (pda_cons (pd_var (pv 0)) pda_nil))) (pd_one (pd_chain (pe_chain o_le o_le (pd_var (pv 1)) (pd_var (pv 0)) (pd_var (pv 2))))))))) hw
def w_is_row (K : Frag) (cl : Ad) : SW :=
  (wRet (wAndV (wIsi isT (wVar 0)) (wChain fLe fLe (wVar 1) (wCall1 fLen (wCons (wVar 0) wNil)) (wVar 2))))
theorem ok_is_row (T : Txt K mg cl) {k : Nat} {c : Ct} (hlen : ∀ rs Q E, c rs Q E → rs.length = P_is_row.length)
    (hw : ∀ rs Q E, c rs Q E → w_is_row K cl (rho N_is_row.length rs) { nx := fun _ => Q (.s .none), rt := Q, er := fun cls _ => E cls }) :
    FnOk P wd K mg base (L2.CX P wd) (k + 1) cl.f_is_row cl.d_is_row P_is_row (spD K c) :=
  fnD T.F_is_row sc_is_row hlen (fun cdv A outer s H E hr => by
  have tk := takes_of (X := cxOf (L2.CX P wd) P wd K mg base N_is_row "is_row" (defScope s_is_row) cl.f_is_row cdv A outer s H E) rfl rfl rfl rfl
  exact (pds_one (pds_ret (pd_and (pd_isi (pe_callB call_isi (by rfl) T.n_isinstance (by decide +kernel) (pa_cons (pd_var (pv 0)) (pa_cons (pe_bltn (by rfl) T.n_tuple (by decide +kernel) rfl) pa_nil))) kit_tuple) (pd_one (pd_chain (pe_chain o_le o_le (pd_var (pv 1)) (call_core (t := fun _ _ _ => True) (pe_callB c_len (by rfl) T.n_len (by decide +kernel) (pda_cons (pd_var (pv 0)) pda_nil))) (pd_var (pv 2))))))))) hw
def w_is_word (K : Frag) (cl : Ad) : SW :=
  (wRet (wAndV (wIsi isS (wVar 0)) (wOp (fIn false) (wVar 0) (wVar 1))))
theorem ok_is_word (T : Txt K mg cl) {k : Nat} {c : Ct} (hlen : ∀ rs Q E, c rs Q E → rs.length = P_is_word.length)
    (hw : ∀ rs Q E, c rs Q E → w_is_word K cl (rho N_is_word.length rs) { nx := fun _ => Q (.s .none), rt := Q, er := fun cls _ => E cls }) :
    FnOk P wd K mg base (L2.CX P wd) (k + 1) cl.f_is_word cl.d_is_word P_is_word (spD K c) :=
  fnD T.F_is_word sc_is_word hlen (fun cdv A outer s H E hr => by
  have tk := takes_of (X := cxOf (L2.CX P wd) P wd K mg base N_is_word "is_word" (defScope s_is_word) cl.f_is_word cdv A outer s H E) rfl rfl rfl rfl
  exact (pds_one (pds_ret (pd_and (pd_isi (pe_callB call_isi (by rfl) T.n_isinstance (by decide +kernel) (pa_cons (pd_var (pv 0)) (pa_cons (pe_bltn (by rfl) T.n_str (by decide +kernel) rfl) pa_nil))) kit_str) (pd_one (pd_cmp o_in (pd_var (pv 0)) (pd_var (pv 1)) (by rfl))))))) hw
def w_is_many (K : Frag) (cl : Ad) (c_within : Ct) : SW :=
  (wRet (wCall c_within (wCons (wVar 0) (wCons (wC (.s (.int 0))) (wCons (wC (.s (.int 4))) wNil)))))
theorem ok_is_many (T : Txt K mg cl) {k : Nat} {c : Ct} {j_within : Nat} {c_within : Ct} (G_within : FnOk P wd K mg base (L2.CX P wd) j_within cl.f_within cl.d_within P_within (spD K c_within)) (h_within : j_within ≤ k) (hlen : ∀ rs Q E, c rs Q E → rs.length = P_is_many.length)
    (hw : ∀ rs Q E, c rs Q E → w_is_many K cl c_within (rho N_is_many.length rs) { nx := fun _ => Q (.s .none), rt := Q, er := fun cls _ => E cls }) :
    FnOk P wd K mg base (L2.CX P wd) (k + 1) cl.f_is_many cl.d_is_many P_is_many (spD K c) :=
  fnD T.F_is_many sc_is_many hlen (fun cdv A outer s H E hr => by
  have tk := takes_of (X := cxOf (L2.CX P wd) P wd K mg base N_is_many "is_many" (defScope s_is_many) cl.f_is_many cdv A outer s H E) rfl rfl rfl rfl
  exact (pds_one (pds_ret (pd_call (pe_callS G_within (hr.mono h_within) (by rfl) T.m_within T.F_within.kp T.b_within (fun σ => passAt tk σ) (pda_cons (pd_var (pv 0)) (pda_cons pd_int (pda_cons (pd_const (v := .int 4) (d := .int 4) (pe_glob (v := .int 4) rfl T.v_MOST_VARIABLES.choose_spec ⟨_, rfl⟩) (fun _ => .int _)) pda_nil)))))))) hw
def w_need_many (K : Frag) (cl : Ad) (c_is_many : Ct) : SW :=
  (wIfS (wNotT (wTst (wCall c_is_many (wCons (wVar 0) wNil))))
  (wRaise (.ref cl.c_BadMany))
  wNext)
theorem ok_need_many (T : Txt K mg cl) {k : Nat} {c : Ct} {j_is_many : Nat} {c_is_many : Ct} (G_is_many : FnOk P wd K mg base (L2.CX P wd) j_is_many cl.f_is_many cl.d_is_many P_is_many (spD K c_is_many)) (h_is_many : j_is_many ≤ k) (hlen : ∀ rs Q E, c rs Q E → rs.length = P_need_many.length)
    (hw : ∀ rs Q E, c rs Q E → w_need_many K cl c_is_many (rho N_need_many.length rs) { nx := fun _ => Q (.s .none), rt := Q, er := fun cls _ => E cls }) :
    FnOk P wd K mg base (L2.CX P wd) (k + 1) cl.f_need_many cl.d_need_many P_need_many (spD K c) :=
  fnD T.F_need_many sc_need_many hlen (fun cdv A outer s H E hr => by
  have tk := takes_of (X := cxOf (L2.CX P wd) P wd K mg base N_need_many "need_many" (defScope s_need_many) cl.f_need_many cdv A outer s H E) rfl rfl rfl rfl
  exact (pds_one (pds_if (pdt_not (pdt_val (pd_call (pe_callS G_is_many (hr.mono h_is_many) (by rfl) T.m_is_many T.F_is_many.kp T.b_is_many (fun σ => passAt tk σ) (pda_cons (pd_var (pv 0)) pda_nil)))))
  (pds_one (pds_raise tk (pmk_own PySem.F.excBase_ValueError T.x_BadMany T.g_BadMany T.k_BadMany (raises_own T.s_BadMany T.t_BadMany) (by rfl)) rfl))
  pds_nil))) hw
def w_is_step_of (K : Frag) (cl : Ad) (c_within c_is_row c_is_word : Ct) : SW :=
  (wSeq (wIfS (wOrT (wNotT (wTst (wCall c_is_row (wCons (wVar 1) (wCons (wC (.s (.int 2))) (wCons (wC (.s (.int 3))) wNil)))))) (wOrT (wNotT (wTst (wCall c_is_word (wCons (wOp fIx (wVar 1) (wC (.s (.int 0)))) (wCons (wC (.s (.tuple [.str "set", .str "follow", .str "put", .str "new", .str "free"]))) wNil))))) (wNotT (wTst (wCall c_within (wCons (wOp fIx (wVar 1) (wC (.s (.int 1)))) (wCons (wC (.s (.int 0))) (wCons (wFrz (wOp fSub (wVar 0) (wC (.s (.int 1))))) wNil))))))))
  (wRet (wC (.s (.bool false))))
  wNext)
  (wSeq (wIfS (wTst (wOp (fIn false) (wOp fIx (wVar 1) (wC (.s (.int 0)))) (wTup (wCons (wC (.s (.str "new"))) (wCons (wC (.s (.str "free"))) wNil)))))
  (wRet (wOp fEq (wCall1 fLen (wCons (wVar 1) wNil)) (wC (.s (.int 2)))))
  wNext)
  (wRet (wAndV (wOp fEq (wCall1 fLen (wCons (wVar 1) wNil)) (wC (.s (.int 3)))) (wCall c_within (wCons (wOp fIx (wVar 1) (wC (.s (.int 2)))) (wCons (wIf (wTst (wOp fEq (wOp fIx (wVar 1) (wC (.s (.int 0)))) (wC (.s (.str "follow"))))) (wC (.s (.int 0))) (wUn fNeg (wC (.s (.int 1))))) (wCons (wFrz (wOp fSub (wVar 0) (wC (.s (.int 1))))) wNil))))))))
theorem ok_is_step_of (T : Txt K mg cl) {k : Nat} {c : Ct} {j_within : Nat} {c_within : Ct} (G_within : FnOk P wd K mg base (L2.CX P wd) j_within cl.f_within cl.d_within P_within (spD K c_within)) (h_within : j_within ≤ k) {j_is_row : Nat} {c_is_row : Ct} (G_is_row : FnOk P wd K mg base (L2.CX P wd) j_is_row cl.f_is_row cl.d_is_row P_is_row (spD K c_is_row)) (h_is_row : j_is_row ≤ k) {j_is_word : Nat} {c_is_word : Ct} (G_is_word : FnOk P wd K mg base (L2.CX P wd) j_is_word cl.f_is_word cl.d_is_word P_is_word (spD K c_is_word)) (h_is_word : j_is_word ≤ k) (hlen : ∀ rs Q E, c rs Q E → rs.length = P_is_step_of.length)
    (hw : ∀ rs Q E, c rs Q E → w_is_step_of K cl c_within c_is_row c_is_word (rho N_is_step_of.length rs) { nx := fun _ => Q (.s .none), rt := Q, er := fun cls _ => E cls }) :
    FnOk P wd K mg base (L2.CX P wd) (k + 1) cl.f_is_step_of cl.d_is_step_of P_is_step_of (spD K c) :=
  fnD T.F_is_step_of sc_is_step_of hlen (fun cdv A outer s H E hr => by
  have tk := takes_of (X := cxOf (L2.CX P wd) P wd K mg base N_is_step_of "is_step_of" (defScope s_is_step_of) cl.f_is_step_of cdv A outer s H E) rfl rfl rfl rfl
  exact (pds_cons (pds_if (pdt_w (pdw_or (pdt_not (pdt_val (pd_call (pe_callS G_is_row (hr.mono h_is_row) (by rfl) T.m_is_row T.F_is_row.kp T.b_is_row (fun σ => passAt tk σ) (pda_cons (pd_var (pv 1)) (pda_cons pd_int (pda_cons pd_int pda_nil))))))) (pdw_or (pdt_not (pdt_val (pd_call (pe_callS G_is_word (hr.mono h_is_word) (by rfl) T.m_is_word T.F_is_word.kp T.b_is_word (fun σ => passAt tk σ) (pda_cons (pd_ix o_ix (pd_var (pv 1)) pd_int (fun _ _ => rfl)) (pda_cons (pd_const (v := .ref cl.a_WORDS) (d := .tuple [.str "set", .str "follow", .str "put", .str "new", .str "free"]) (pe_glob (v := .ref cl.a_WORDS) rfl T.v_WORDS rfl) (fun B => T.d_WORDS B)) pda_nil)))))) (pdw_or1 (pdt_not (pdt_val (pd_call (pe_callS G_within (hr.mono h_within) (by rfl) T.m_within T.F_within.kp T.b_within (fun σ => passAt tk σ) (pda_cons (pd_ix o_ix (pd_var (pv 1)) pd_int (fun _ _ => rfl)) (pda_cons pd_int (pda_cons (pd_frz (pd_op o_sub (pd_var (pv 0)) pd_int)) pda_nil)))))))))))
  (pds_one (pds_ret pd_bl))
  pds_nil)
  (pds_cons (pds_if (pdt_cmp o_in (pd_ix o_ix (pd_var (pv 1)) pd_int (fun _ _ => rfl)) (pd_tup (pda_cons pd_str (pda_cons pd_str pda_nil))) (by rfl))
  (pds_one (pds_ret (pd_cmp (o_eq hr.units) (call_core (t := fun _ _ _ => True) (pe_callB c_len (by rfl) T.n_len (by decide +kernel) (pda_cons (pd_var (pv 1)) pda_nil))) pd_int (nomark _))))
  pds_nil)
  (pds_one (pds_ret (pd_and (pd_cmp (o_eq hr.units) (call_core (t := fun _ _ _ => True) (pe_callB c_len (by rfl) T.n_len (by decide +kernel) (pda_cons (pd_var (pv 1)) pda_nil))) pd_int (nomark _)) (pd_one (pd_call (pe_callS G_within (hr.mono h_within) (by rfl) T.m_within T.F_within.kp T.b_within (fun σ => passAt tk σ) (pda_cons (pd_ix o_ix (pd_var (pv 1)) pd_int (fun _ _ => rfl)) (pda_cons (pd_if (pdt_cmp (o_eq hr.units) (pd_ix o_ix (pd_var (pv 1)) pd_int (fun _ _ => rfl)) pd_str (nomark _)) pd_int (pd_un o_neg pd_int)) (pda_cons (pd_frz (pd_op o_sub (pd_var (pv 0)) pd_int)) pda_nil)))))))))))) hw
def w_is_condition_of (K : Frag) (cl : Ad) (c_within c_is_row c_is_word : Ct) : SW :=
  (wSeq (wIfS (wOrT (wNotT (wTst (wCall c_is_row (wCons (wVar 1) (wCons (wC (.s (.int 3))) (wCons (wC (.s (.int 3))) wNil)))))) (wNotT (wTst (wCall c_is_word (wCons (wOp fIx (wVar 1) (wC (.s (.int 0)))) (wCons (wTup (wCons (wC (.s (.str "same"))) (wCons (wC (.s (.str "unlike"))) wNil))) wNil))))))
  (wRet (wC (.s (.bool false))))
  wNext)
  (wRet (wAndV (wCall c_within (wCons (wOp fIx (wVar 1) (wC (.s (.int 1)))) (wCons (wUn fNeg (wC (.s (.int 1)))) (wCons (wFrz (wOp fSub (wVar 0) (wC (.s (.int 1))))) wNil)))) (wCall c_within (wCons (wOp fIx (wVar 1) (wC (.s (.int 2)))) (wCons (wUn fNeg (wC (.s (.int 1)))) (wCons (wFrz (wOp fSub (wVar 0) (wC (.s (.int 1))))) wNil)))))))
theorem ok_is_condition_of (T : Txt K mg cl) {k : Nat} {c : Ct} {j_within : Nat} {c_within : Ct} (G_within : FnOk P wd K mg base (L2.CX P wd) j_within cl.f_within cl.d_within P_within (spD K c_within)) (h_within : j_within ≤ k) {j_is_row : Nat} {c_is_row : Ct} (G_is_row : FnOk P wd K mg base (L2.CX P wd) j_is_row cl.f_is_row cl.d_is_row P_is_row (spD K c_is_row)) (h_is_row : j_is_row ≤ k) {j_is_word : Nat} {c_is_word : Ct} (G_is_word : FnOk P wd K mg base (L2.CX P wd) j_is_word cl.f_is_word cl.d_is_word P_is_word (spD K c_is_word)) (h_is_word : j_is_word ≤ k) (hlen : ∀ rs Q E, c rs Q E → rs.length = P_is_condition_of.length)
    (hw : ∀ rs Q E, c rs Q E → w_is_condition_of K cl c_within c_is_row c_is_word (rho N_is_condition_of.length rs) { nx := fun _ => Q (.s .none), rt := Q, er := fun cls _ => E cls }) :
    FnOk P wd K mg base (L2.CX P wd) (k + 1) cl.f_is_condition_of cl.d_is_condition_of P_is_condition_of (spD K c) :=
  fnD T.F_is_condition_of sc_is_condition_of hlen (fun cdv A outer s H E hr => by
  have tk := takes_of (X := cxOf (L2.CX P wd) P wd K mg base N_is_condition_of "is_condition_of" (defScope s_is_condition_of) cl.f_is_condition_of cdv A outer s H E) rfl rfl rfl rfl
  exact (pds_cons (pds_if (pdt_w (pdw_or (pdt_not (pdt_val (pd_call (pe_callS G_is_row (hr.mono h_is_row) (by rfl) T.m_is_row T.F_is_row.kp T.b_is_row (fun σ => passAt tk σ) (pda_cons (pd_var (pv 1)) (pda_cons pd_int (pda_cons pd_int pda_nil))))))) (pdw_or1 (pdt_not (pdt_val (pd_call (pe_callS G_is_word (hr.mono h_is_word) (by rfl) T.m_is_word T.F_is_word.kp T.b_is_word (fun σ => passAt tk σ) (pda_cons (pd_ix o_ix (pd_var (pv 1)) pd_int (fun _ _ => rfl)) (pda_cons (pd_tup (pda_cons pd_str (pda_cons pd_str pda_nil))) pda_nil)))))))))
  (pds_one (pds_ret pd_bl))
  pds_nil)
  (pds_one (pds_ret (pd_and (pd_call (pe_callS G_within (hr.mono h_within) (by rfl) T.m_within T.F_within.kp T.b_within (fun σ => passAt tk σ) (pda_cons (pd_ix o_ix (pd_var (pv 1)) pd_int (fun _ _ => rfl)) (pda_cons (pd_un o_neg pd_int) (pda_cons (pd_frz (pd_op o_sub (pd_var (pv 0)) pd_int)) pda_nil))))) (pd_one (pd_call (pe_callS G_within (hr.mono h_within) (by rfl) T.m_within T.F_within.kp T.b_within (fun σ => passAt tk σ) (pda_cons (pd_ix o_ix (pd_var (pv 1)) pd_int (fun _ _ => rfl)) (pda_cons (pd_un o_neg pd_int) (pda_cons (pd_frz (pd_op o_sub (pd_var (pv 0)) pd_int)) pda_nil))))))))))) hw
def w_is_step (K : Frag) (cl : Ad) (c_need_many c_is_step_of : Ct) : SW :=
  (wSeq (wExpr (wCall c_need_many (wCons (wVar 0) wNil)))
  (wRet (wCall c_is_step_of (wCons (wVar 0) (wCons (wVar 1) wNil)))))
theorem ok_is_step (T : Txt K mg cl) {k : Nat} {c : Ct} {j_need_many : Nat} {c_need_many : Ct} (G_need_many : FnOk P wd K mg base (L2.CX P wd) j_need_many cl.f_need_many cl.d_need_many P_need_many (spD K c_need_many)) (h_need_many : j_need_many ≤ k) {j_is_step_of : Nat} {c_is_step_of : Ct} (G_is_step_of : FnOk P wd K mg base (L2.CX P wd) j_is_step_of cl.f_is_step_of cl.d_is_step_of P_is_step_of (spD K c_is_step_of)) (h_is_step_of : j_is_step_of ≤ k) (hlen : ∀ rs Q E, c rs Q E → rs.length = P_is_step.length)
    (hw : ∀ rs Q E, c rs Q E → w_is_step K cl c_need_many c_is_step_of (rho N_is_step.length rs) { nx := fun _ => Q (.s .none), rt := Q, er := fun cls _ => E cls }) :
    FnOk P wd K mg base (L2.CX P wd) (k + 1) cl.f_is_step cl.d_is_step P_is_step (spD K c) :=
  fnD T.F_is_step sc_is_step hlen (fun cdv A outer s H E hr => by
  have tk := takes_of (X := cxOf (L2.CX P wd) P wd K mg base N_is_step "is_step" (defScope s_is_step) cl.f_is_step cdv A outer s H E) rfl rfl rfl rfl
  exact (pds_cons (pds_expr (ps_expr (pd_call (pe_callS G_need_many (hr.mono h_need_many) (by rfl) T.m_need_many T.F_need_many.kp T.b_need_many (fun σ => passAt tk σ) (pda_cons (pd_var (pv 0)) pda_nil)))))
  (pds_one (pds_ret (pd_call (pe_callS G_is_step_of (hr.mono h_is_step_of) (by rfl) T.m_is_step_of T.F_is_step_of.kp T.b_is_step_of (fun σ => passAt tk σ) (pda_cons (pd_var (pv 0)) (pda_cons (pd_var (pv 1)) pda_nil)))))))) hw
def w_is_condition (K : Frag) (cl : Ad) (c_need_many c_is_condition_of : Ct) : SW :=
  (wSeq (wExpr (wCall c_need_many (wCons (wVar 0) wNil)))
  (wRet (wCall c_is_condition_of (wCons (wVar 0) (wCons (wVar 1) wNil)))))
theorem ok_is_condition (T : Txt K mg cl) {k : Nat} {c : Ct} {j_need_many : Nat} {c_need_many : Ct} (G_need_many : FnOk P wd K mg base (L2.CX P wd) j_need_many cl.f_need_many cl.d_need_many P_need_many (spD K c_need_many)) (h_need_many : j_need_many ≤ k) {j_is_condition_of : Nat} {c_is_condition_of : Ct} (G_is_condition_of : FnOk P wd K mg base (L2.CX P wd) j_is_condition_of cl.f_is_condition_of cl.d_is_condition_of P_is_condition_of (spD K c_is_condition_of)) (h_is_condition_of : j_is_condition_of ≤ k) (hlen : ∀ rs Q E, c rs Q E → rs.length = P_is_condition.length)
    (hw : ∀ rs Q E, c rs Q E → w_is_condition K cl c_need_many c_is_condition_of (rho N_is_condition.length rs) { nx := fun _ => Q (.s .none), rt := Q, er := fun cls _ => E cls }) :
    FnOk P wd K mg base (L2.CX P wd) (k + 1) cl.f_is_condition cl.d_is_condition P_is_condition (spD K c) :=
  fnD T.F_is_condition sc_is_condition hlen (fun cdv A outer s H E hr => by
  have tk := takes_of (X := cxOf (L2.CX P wd) P wd K mg base N_is_condition "is_condition" (defScope s_is_condition) cl.f_is_condition cdv A outer s H E) rfl rfl rfl rfl
  exact (pds_cons (pds_expr (ps_expr (pd_call (pe_callS G_need_many (hr.mono h_need_many) (by rfl) T.m_need_many T.F_need_many.kp T.b_need_many (fun σ => passAt tk σ) (pda_cons (pd_var (pv 0)) pda_nil)))))
  (pds_one (pds_ret (pd_call (pe_callS G_is_condition_of (hr.mono h_is_condition_of) (by rfl) T.m_is_condition_of T.F_is_condition_of.kp T.b_is_condition_of (fun σ => passAt tk σ) (pda_cons (pd_var (pv 0)) (pda_cons (pd_var (pv 1)) pda_nil)))))))) hw
def w_is_branch (K : Frag) (cl : Ad) : SW :=
  (wRet (wOp fEq (wOp fIx (wVar 0) (wC (.s (.int 0)))) (wC (.s (.str "if")))))
theorem ok_is_branch (T : Txt K mg cl) {k : Nat} {c : Ct} (hlen : ∀ rs Q E, c rs Q E → rs.length = P_is_branch.length)
    (hw : ∀ rs Q E, c rs Q E → w_is_branch K cl (rho N_is_branch.length rs) { nx := fun _ => Q (.s .none), rt := Q, er := fun cls _ => E cls }) :
    FnOk P wd K mg base (L2.CX P wd) (k + 1) cl.f_is_branch cl.d_is_branch P_is_branch (spD K c) :=
  fnD T.F_is_branch sc_is_branch hlen (fun cdv A outer s H E hr => by
  have tk := takes_of (X := cxOf (L2.CX P wd) P wd K mg base N_is_branch "is_branch" (defScope s_is_branch) cl.f_is_branch cdv A outer s H E) rfl rfl rfl rfl
  exact (pds_one (pds_ret (pd_cmp (o_eq hr.units) (pd_ix o_ix (pd_var (pv 0)) pd_int (fun _ _ => rfl)) pd_str (nomark _))))) hw
def w_size_of_b1 (K : Frag) (cl : Ad) (c_is_row c_is_step_of c_branch_size : Ct) : SW :=
  (wSeq (wAsg 5 (wIf (wTst (wCall c_is_step_of (wCons (wVar 0) (wCons (wVar 4) wNil)))) (wC (.s (.int 1))) (wCall c_branch_size (wCons (wVar 0) (wCons (wVar 4) (wCons (wVar 2) wNil))))))
  (wSeq (wIfS (wOrT (wTst (wOp (fIs false) (wVar 5) (wC (.s .none)))) (wTst (wOp fGt (wOp fAdd (wVar 3) (wVar 5)) (wC (.s (.int 24))))))
  (wRet (wC (.s .none)))
  wNext)
  (wAug 3 (fun i j => i + j) (wVar 5))))
def w_size_of (K : Frag) (cl : Ad) (c_is_row c_is_step_of c_branch_size : Ct) : SW :=
  (wSeq (wIfS (wNotT (wTst (wCall c_is_row (wCons (wVar 1) (wCons (wC (.s (.int 0))) (wCons (wC (.s (.int 24))) wNil))))))
  (wRet (wC (.s .none)))
  wNext)
  (wSeq (wAsg 3 (wC (.s (.int 0))))
  (wSeq (wFor (wSeqF (wVar 1)) (gwName 4) (w_size_of_b1 K cl c_is_row c_is_step_of c_branch_size))
  (wRet (wVar 3)))))
theorem ok_size_of (T : Txt K mg cl) {k : Nat} {c : Ct} {j_is_row : Nat} {c_is_row : Ct} (G_is_row : FnOk P wd K mg base (L2.CX P wd) j_is_row cl.f_is_row cl.d_is_row P_is_row (spD K c_is_row)) (h_is_row : j_is_row ≤ k) {j_is_step_of : Nat} {c_is_step_of : Ct} (G_is_step_of : FnOk P wd K mg base (L2.CX P wd) j_is_step_of cl.f_is_step_of cl.d_is_step_of P_is_step_of (spD K c_is_step_of)) (h_is_step_of : j_is_step_of ≤ k) {j_branch_size : Nat} {c_branch_size : Ct} (G_branch_size : FnOk P wd K mg base (L2.CX P wd) j_branch_size cl.f_branch_size cl.d_branch_size P_branch_size (spD K c_branch_size)) (h_branch_size : j_branch_size ≤ k) (hlen : ∀ rs Q E, c rs Q E → rs.length = P_size_of.length)
    (hw : ∀ rs Q E, c rs Q E → w_size_of K cl c_is_row c_is_step_of c_branch_size (rho N_size_of.length rs) { nx := fun _ => Q (.s .none), rt := Q, er := fun cls _ => E cls }) :
    FnOk P wd K mg base (L2.CX P wd) (k + 1) cl.f_size_of cl.d_size_of P_size_of (spD K c) :=
  fnD T.F_size_of sc_size_of hlen (fun cdv A outer s H E hr => by
  have tk := takes_of (X := cxOf (L2.CX P wd) P wd K mg base N_size_of "size_of" (defScope s_size_of) cl.f_size_of cdv A outer s H E) rfl rfl rfl rfl
  exact (pds_cons (pds_if (pdt_not (pdt_val (pd_call (pe_callS G_is_row (hr.mono h_is_row) (by rfl) T.m_is_row T.F_is_row.kp T.b_is_row (fun σ => passAt tk σ) (pda_cons (pd_var (pv 1)) (pda_cons pd_int (pda_cons (pd_const (v := .int 24) (d := .int 24) (pe_glob (v := .int 24) rfl T.v_MOST_PARTS.choose_spec ⟨_, rfl⟩) (fun _ => .int _)) pda_nil)))))))
  (pds_one (pds_ret pd_non))
  pds_nil)
  (pds_cons (pds_set (ps_set (i := 3) sc_size_of.nd rfl (by first | exact Or.inl rfl | exact Or.inr rfl) pd_int))
  (pds_cons (pds_for (ps_for (passes_of rfl) rfl (pif_seq (pd_var (pv 1))) (pgd_name (pg_name (i := 4) sc_size_of.nd rfl (by first | exact Or.inl rfl | exact Or.inr rfl))) (pds_cons (pds_set (ps_set (i := 5) sc_size_of.nd rfl (by first | exact Or.inl rfl | exact Or.inr rfl) (pd_if (pdt_val (pd_call (pe_callS G_is_step_of (hr.mono h_is_step_of) (by rfl) T.m_is_step_of T.F_is_step_of.kp T.b_is_step_of (fun σ => passAt tk σ) (pda_cons (pd_var (pv 0)) (pda_cons (pd_var (pv 4)) pda_nil))))) pd_int (pd_call (pe_callS G_branch_size (hr.mono h_branch_size) (by rfl) T.m_branch_size T.F_branch_size.kp T.b_branch_size (fun σ => passAt tk σ) (pda_cons (pd_var (pv 0)) (pda_cons (pd_var (pv 4)) (pda_cons (pd_var (pv 2)) pda_nil))))))))
  (pds_cons (pds_if (pdt_w (pdw_or (pdt_cmp o_is (pd_var (pv 5)) pd_non (nomark _)) (pdw_or1 (pdt_cmp o_gt (pd_op o_add (pd_var (pv 3)) (pd_var (pv 5))) (pd_const (v := .int 24) (d := .int 24) (pe_glob (v := .int 24) rfl T.v_MOST_PARTS.choose_spec ⟨_, rfl⟩) (fun _ => .int _)) (nomark _)))))
  (pds_one (pds_ret pd_non))
  pds_nil)
  (pds_one (pds_aug (g := (fun i j => i + j)) (ps_aug (i := 3) sc_size_of.nd rfl (by first | exact Or.inl rfl | exact Or.inr rfl) (pd_var (pv 5)) ip_add)))))))
  (pds_one (pds_ret (pd_var (pv 3)))))))) hw
def w_branch_size (K : Frag) (cl : Ad) (c_is_row c_is_word c_is_condition_of c_size_of : Ct) : SW :=
  (wSeq (wIfS (wOrT (wTst (wOp fEq (wVar 2) (wC (.s (.int 0))))) (wOrT (wNotT (wTst (wCall c_is_row (wCons (wVar 1) (wCons (wC (.s (.int 4))) (wCons (wC (.s (.int 4))) wNil)))))) (wOrT (wNotT (wTst (wCall c_is_word (wCons (wOp fIx (wVar 1) (wC (.s (.int 0)))) (wCons (wTup (wCons (wC (.s (.str "if"))) wNil)) wNil))))) (wNotT (wTst (wCall c_is_condition_of (wCons (wVar 0) (wCons (wOp fIx (wVar 1) (wC (.s (.int 1)))) wNil))))))))
  (wRet (wC (.s .none)))
  wNext)
  (wSeq (wPar 3 4 (wCall c_size_of (wCons (wVar 0) (wCons (wOp fIx (wVar 1) (wC (.s (.int 2)))) (wCons (wFrz (wOp fSub (wVar 2) (wC (.s (.int 1))))) wNil)))) (wCall c_size_of (wCons (wVar 0) (wCons (wOp fIx (wVar 1) (wC (.s (.int 3)))) (wCons (wFrz (wOp fSub (wVar 2) (wC (.s (.int 1))))) wNil)))))
  (wRet (wIf (wOrT (wTst (wOp (fIs false) (wVar 3) (wC (.s .none)))) (wTst (wOp (fIs false) (wVar 4) (wC (.s .none))))) (wC (.s .none)) (wOp fAdd (wOp fAdd (wC (.s (.int 1))) (wVar 3)) (wVar 4))))))
theorem ok_branch_size (T : Txt K mg cl) {k : Nat} {c : Ct} {j_is_row : Nat} {c_is_row : Ct} (G_is_row : FnOk P wd K mg base (L2.CX P wd) j_is_row cl.f_is_row cl.d_is_row P_is_row (spD K c_is_row)) (h_is_row : j_is_row ≤ k) {j_is_word : Nat} {c_is_word : Ct} (G_is_word : FnOk P wd K mg base (L2.CX P wd) j_is_word cl.f_is_word cl.d_is_word P_is_word (spD K c_is_word)) (h_is_word : j_is_word ≤ k) {j_is_condition_of : Nat} {c_is_condition_of : Ct} (G_is_condition_of : FnOk P wd K mg base (L2.CX P wd) j_is_condition_of cl.f_is_condition_of cl.d_is_condition_of P_is_condition_of (spD K c_is_condition_of)) (h_is_condition_of : j_is_condition_of ≤ k) {j_size_of : Nat} {c_size_of : Ct} (G_size_of : FnOk P wd K mg base (L2.CX P wd) j_size_of cl.f_size_of cl.d_size_of P_size_of (spD K c_size_of)) (h_size_of : j_size_of ≤ k) (hlen : ∀ rs Q E, c rs Q E → rs.length = P_branch_size.length)
    (hw : ∀ rs Q E, c rs Q E → w_branch_size K cl c_is_row c_is_word c_is_condition_of c_size_of (rho N_branch_size.length rs) { nx := fun _ => Q (.s .none), rt := Q, er := fun cls _ => E cls }) :
    FnOk P wd K mg base (L2.CX P wd) (k + 1) cl.f_branch_size cl.d_branch_size P_branch_size (spD K c) :=
  fnD T.F_branch_size sc_branch_size hlen (fun cdv A outer s H E hr => by
  have tk := takes_of (X := cxOf (L2.CX P wd) P wd K mg base N_branch_size "branch_size" (defScope s_branch_size) cl.f_branch_size cdv A outer s H E) rfl rfl rfl rfl
  exact (pds_cons (pds_if (pdt_w (pdw_or (pdt_cmp (o_eq hr.units) (pd_var (pv 2)) pd_int (nomark _)) (pdw_or (pdt_not (pdt_val (pd_call (pe_callS G_is_row (hr.mono h_is_row) (by rfl) T.m_is_row T.F_is_row.kp T.b_is_row (fun σ => passAt tk σ) (pda_cons (pd_var (pv 1)) (pda_cons pd_int (pda_cons pd_int pda_nil))))))) (pdw_or (pdt_not (pdt_val (pd_call (pe_callS G_is_word (hr.mono h_is_word) (by rfl) T.m_is_word T.F_is_word.kp T.b_is_word (fun σ => passAt tk σ) (pda_cons (pd_ix o_ix (pd_var (pv 1)) pd_int (fun _ _ => rfl)) (pda_cons (pd_tup (pda_cons pd_str pda_nil)) pda_nil)))))) (pdw_or1 (pdt_not (pdt_val (pd_call (pe_callS G_is_condition_of (hr.mono h_is_condition_of) (by rfl) T.m_is_condition_of T.F_is_condition_of.kp T.b_is_condition_of (fun σ => passAt tk σ) (pda_cons (pd_var (pv 0)) (pda_cons (pd_ix o_ix (pd_var (pv 1)) pd_int (fun _ _ => rfl)) pda_nil)))))))))))
  (pds_one (pds_ret pd_non))
  pds_nil)
  (pds_cons (pds_par (i := 3) (j := 4) (ps_par rfl sc_branch_size.nd rfl rfl (by decide) rfl rfl (pda_cons (pd_call (pe_callS G_size_of (hr.mono h_size_of) (by rfl) T.m_size_of T.F_size_of.kp T.b_size_of (fun σ => passAt tk σ) (pda_cons (pd_var (pv 0)) (pda_cons (pd_ix o_ix (pd_var (pv 1)) pd_int (fun _ _ => rfl)) (pda_cons (pd_frz (pd_op o_sub (pd_var (pv 2)) pd_int)) pda_nil))))) (pda_cons (pd_call (pe_callS G_size_of (hr.mono h_size_of) (by rfl) T.m_size_of T.F_size_of.kp T.b_size_of (fun σ => passAt tk σ) (pda_cons (pd_var (pv 0)) (pda_cons (pd_ix o_ix (pd_var (pv 1)) pd_int (fun _ _ => rfl)) (pda_cons (pd_frz (pd_op o_sub (pd_var (pv 2)) pd_int)) pda_nil))))) pda_nil)) (by rfl)))
  (pds_one (pds_ret (pd_if (pdt_w (pdw_or (pdt_cmp o_is (pd_var (pv 3)) pd_non (nomark _)) (pdw_or1 (pdt_cmp o_is (pd_var (pv 4)) pd_non (nomark _))))) pd_non (pd_op o_add (pd_op o_add pd_int (pd_var (pv 3))) (pd_var (pv 4))))))))) hw
def w_is_program_of (K : Frag) (cl : Ad) (c_size_of : Ct) : SW :=
  (wRet (wOp (fIs true) (wCall c_size_of (wCons (wVar 0) (wCons (wVar 1) (wCons (wC (.s (.int 4))) wNil)))) (wC (.s .none))))
theorem ok_is_program_of (T : Txt K mg cl) {k : Nat} {c : Ct} {j_size_of : Nat} {c_size_of : Ct} (G_size_of : FnOk P wd K mg base (L2.CX P wd) j_size_of cl.f_size_of cl.d_size_of P_size_of (spD K c_size_of)) (h_size_of : j_size_of ≤ k) (hlen : ∀ rs Q E, c rs Q E → rs.length = P_is_program_of.length)
    (hw : ∀ rs Q E, c rs Q E → w_is_program_of K cl c_size_of (rho N_is_program_of.length rs) { nx := fun _ => Q (.s .none), rt := Q, er := fun cls _ => E cls }) :
    FnOk P wd K mg base (L2.CX P wd) (k + 1) cl.f_is_program_of cl.d_is_program_of P_is_program_of (spD K c) :=
  fnD T.F_is_program_of sc_is_program_of hlen (fun cdv A outer s H E hr => by
  have tk := takes_of (X := cxOf (L2.CX P wd) P wd K mg base N_is_program_of "is_program_of" (defScope s_is_program_of) cl.f_is_program_of cdv A outer s H E) rfl rfl rfl rfl
  exact (pds_one (pds_ret (pd_cmp o_isNot (pd_call (pe_callS G_size_of (hr.mono h_size_of) (by rfl) T.m_size_of T.F_size_of.kp T.b_size_of (fun σ => passAt tk σ) (pda_cons (pd_var (pv 0)) (pda_cons (pd_var (pv 1)) (pda_cons (pd_const (v := .int 4) (d := .int 4) (pe_glob (v := .int 4) rfl T.v_DEEPEST.choose_spec ⟨_, rfl⟩) (fun _ => .int _)) pda_nil))))) pd_non (nomark _))))) hw
def w_is_program (K : Frag) (cl : Ad) (c_need_many c_is_program_of : Ct) : SW :=
  (wSeq (wExpr (wCall c_need_many (wCons (wVar 0) wNil)))
  (wRet (wCall c_is_program_of (wCons (wVar 0) (wCons (wVar 1) wNil)))))
theorem ok_is_program (T : Txt K mg cl) {k : Nat} {c : Ct} {j_need_many : Nat} {c_need_many : Ct} (G_need_many : FnOk P wd K mg base (L2.CX P wd) j_need_many cl.f_need_many cl.d_need_many P_need_many (spD K c_need_many)) (h_need_many : j_need_many ≤ k) {j_is_program_of : Nat} {c_is_program_of : Ct} (G_is_program_of : FnOk P wd K mg base (L2.CX P wd) j_is_program_of cl.f_is_program_of cl.d_is_program_of P_is_program_of (spD K c_is_program_of)) (h_is_program_of : j_is_program_of ≤ k) (hlen : ∀ rs Q E, c rs Q E → rs.length = P_is_program.length)
    (hw : ∀ rs Q E, c rs Q E → w_is_program K cl c_need_many c_is_program_of (rho N_is_program.length rs) { nx := fun _ => Q (.s .none), rt := Q, er := fun cls _ => E cls }) :
    FnOk P wd K mg base (L2.CX P wd) (k + 1) cl.f_is_program cl.d_is_program P_is_program (spD K c) :=
  fnD T.F_is_program sc_is_program hlen (fun cdv A outer s H E hr => by
  have tk := takes_of (X := cxOf (L2.CX P wd) P wd K mg base N_is_program "is_program" (defScope s_is_program) cl.f_is_program cdv A outer s H E) rfl rfl rfl rfl
  exact (pds_cons (pds_expr (ps_expr (pd_call (pe_callS G_need_many (hr.mono h_need_many) (by rfl) T.m_need_many T.F_need_many.kp T.b_need_many (fun σ => passAt tk σ) (pda_cons (pd_var (pv 0)) pda_nil)))))
  (pds_one (pds_ret (pd_call (pe_callS G_is_program_of (hr.mono h_is_program_of) (by rfl) T.m_is_program_of T.F_is_program_of.kp T.b_is_program_of (fun σ => passAt tk σ) (pda_cons (pd_var (pv 0)) (pda_cons (pd_var (pv 1)) pda_nil)))))))) hw
def w_need_program (K : Frag) (cl : Ad) (c_need_many c_is_program_of : Ct) : SW :=
  (wSeq (wExpr (wCall c_need_many (wCons (wVar 0) wNil)))
  (wIfS (wNotT (wTst (wCall c_is_program_of (wCons (wVar 0) (wCons (wVar 1) wNil)))))
  (wRaise (.ref cl.c_BadProgram))
  wNext))
theorem ok_need_program (T : Txt K mg cl) {k : Nat} {c : Ct} {j_need_many : Nat} {c_need_many : Ct} (G_need_many : FnOk P wd K mg base (L2.CX P wd) j_need_many cl.f_need_many cl.d_need_many P_need_many (spD K c_need_many)) (h_need_many : j_need_many ≤ k) {j_is_program_of : Nat} {c_is_program_of : Ct} (G_is_program_of : FnOk P wd K mg base (L2.CX P wd) j_is_program_of cl.f_is_program_of cl.d_is_program_of P_is_program_of (spD K c_is_program_of)) (h_is_program_of : j_is_program_of ≤ k) (hlen : ∀ rs Q E, c rs Q E → rs.length = P_need_program.length)
    (hw : ∀ rs Q E, c rs Q E → w_need_program K cl c_need_many c_is_program_of (rho N_need_program.length rs) { nx := fun _ => Q (.s .none), rt := Q, er := fun cls _ => E cls }) :
    FnOk P wd K mg base (L2.CX P wd) (k + 1) cl.f_need_program cl.d_need_program P_need_program (spD K c) :=
  fnD T.F_need_program sc_need_program hlen (fun cdv A outer s H E hr => by
  have tk := takes_of (X := cxOf (L2.CX P wd) P wd K mg base N_need_program "need_program" (defScope s_need_program) cl.f_need_program cdv A outer s H E) rfl rfl rfl rfl
  exact (pds_cons (pds_expr (ps_expr (pd_call (pe_callS G_need_many (hr.mono h_need_many) (by rfl) T.m_need_many T.F_need_many.kp T.b_need_many (fun σ => passAt tk σ) (pda_cons (pd_var (pv 0)) pda_nil)))))
  (pds_one (pds_if (pdt_not (pdt_val (pd_call (pe_callS G_is_program_of (hr.mono h_is_program_of) (by rfl) T.m_is_program_of T.F_is_program_of.kp T.b_is_program_of (fun σ => passAt tk σ) (pda_cons (pd_var (pv 0)) (pda_cons (pd_var (pv 1)) pda_nil))))))
  (pds_one (pds_raise tk (pmk_own PySem.F.excBase_ValueError T.x_BadProgram T.g_BadProgram T.k_BadProgram (raises_own T.s_BadProgram T.t_BadProgram) (by rfl)) rfl))
  pds_nil)))) hw
def w_is_straight_of (K : Frag) (cl : Ad) (c_is_branch : Ct) : SW :=
  (wRet (wNotV (wCall1 fAny (wCons (wLc (wSeqC (wVar 0)) false [1] [1] wYes (wFrz (wCall c_is_branch (wCons (wVar 1) wNil)))) wNil))))
theorem ok_is_straight_of (T : Txt K mg cl) {k : Nat} {c : Ct} {j_is_branch : Nat} {c_is_branch : Ct} (G_is_branch : FnOk P wd K mg base (L2.CX P wd) j_is_branch cl.f_is_branch cl.d_is_branch P_is_branch (spD K c_is_branch)) (h_is_branch : j_is_branch ≤ k) (hlen : ∀ rs Q E, c rs Q E → rs.length = P_is_straight_of.length)
    (hw : ∀ rs Q E, c rs Q E → w_is_straight_of K cl c_is_branch (rho N_is_straight_of.length rs) { nx := fun _ => Q (.s .none), rt := Q, er := fun cls _ => E cls }) :
    FnOk P wd K mg base (L2.CX P wd) (k + 1) cl.f_is_straight_of cl.d_is_straight_of P_is_straight_of (spD K c) :=
  fnD T.F_is_straight_of sc_is_straight_of hlen (fun cdv A outer s H E hr => by
  have tk := takes_of (X := cxOf (L2.CX P wd) P wd K mg base N_is_straight_of "is_straight_of" (defScope s_is_straight_of) cl.f_is_straight_of cdv A outer s H E) rfl rfl rfl rfl
  exact (pds_one (pds_ret (pd_not (call_core (t := fun _ _ _ => True) (pe_callB (c_any rfl) (by rfl) T.n_any (by decide +kernel) (pda_cons (pd_lc (tup := false) (is := [1]) (pe_lc (own := [("part", 1)]) (g := gC K false [1]) rfl sc_is_straight_of.nd (pic_seq (pd_var (pv 0))) (blkOk_by (own := [("part", 1)]) (N := N_is_straight_of) (sc := defScope s_is_straight_of) (by decide +kernel)) (fun _ _ _ _ _ => (pg_name (i := 1) sc_is_straight_of.nd rfl (by first | exact Or.inl rfl | exact Or.inr rfl))) (fun _ _ _ _ _ => pdts_nil) (fun _ _ _ _ _ => (pd_frz (pd_call (pe_callS G_is_branch (hr.mono h_is_branch) (by rfl) T.m_is_branch T.F_is_branch.kp T.b_is_branch (fun σ => passAt takes0 σ) (pda_cons (pd_var (pv 1)) pda_nil)))))) (by decide) (by first | exact Or.inl rfl | exact Or.inr ⟨_, rfl⟩)) pda_nil))))))) hw
def w_is_straight (K : Frag) (cl : Ad) (c_need_program c_is_straight_of : Ct) : SW :=
  (wSeq (wExpr (wCall c_need_program (wCons (wVar 0) (wCons (wVar 1) wNil))))
  (wRet (wCall c_is_straight_of (wCons (wVar 1) wNil))))
theorem ok_is_straight (T : Txt K mg cl) {k : Nat} {c : Ct} {j_need_program : Nat} {c_need_program : Ct} (G_need_program : FnOk P wd K mg base (L2.CX P wd) j_need_program cl.f_need_program cl.d_need_program P_need_program (spD K c_need_program)) (h_need_program : j_need_program ≤ k) {j_is_straight_of : Nat} {c_is_straight_of : Ct} (G_is_straight_of : FnOk P wd K mg base (L2.CX P wd) j_is_straight_of cl.f_is_straight_of cl.d_is_straight_of P_is_straight_of (spD K c_is_straight_of)) (h_is_straight_of : j_is_straight_of ≤ k) (hlen : ∀ rs Q E, c rs Q E → rs.length = P_is_straight.length)
    (hw : ∀ rs Q E, c rs Q E → w_is_straight K cl c_need_program c_is_straight_of (rho N_is_straight.length rs) { nx := fun _ => Q (.s .none), rt := Q, er := fun cls _ => E cls }) :
    FnOk P wd K mg base (L2.CX P wd) (k + 1) cl.f_is_straight cl.d_is_straight P_is_straight (spD K c) :=
  fnD T.F_is_straight sc_is_straight hlen (fun cdv A outer s H E hr => by
  have tk := takes_of (X := cxOf (L2.CX P wd) P wd K mg base N_is_straight "is_straight" (defScope s_is_straight) cl.f_is_straight cdv A outer s H E) rfl rfl rfl rfl
  exact (pds_cons (pds_expr (ps_expr (pd_call (pe_callS G_need_program (hr.mono h_need_program) (by rfl) T.m_need_program T.F_need_program.kp T.b_need_program (fun σ => passAt tk σ) (pda_cons (pd_var (pv 0)) (pda_cons (pd_var (pv 1)) pda_nil))))))
  (pds_one (pds_ret (pd_call (pe_callS G_is_straight_of (hr.mono h_is_straight_of) (by rfl) T.m_is_straight_of T.F_is_straight_of.kp T.b_is_straight_of (fun σ => passAt tk σ) (pda_cons (pd_var (pv 1)) pda_nil))))))) hw
def w_size (K : Frag) (cl : Ad) (c_size_of c_need_program : Ct) : SW :=
  (wSeq (wExpr (wCall c_need_program (wCons (wVar 0) (wCons (wVar 1) wNil))))
  (wRet (wCall c_size_of (wCons (wVar 0) (wCons (wVar 1) (wCons (wC (.s (.int 4))) wNil))))))
theorem ok_size (T : Txt K mg cl) {k : Nat} {c : Ct} {j_size_of : Nat} {c_size_of : Ct} (G_size_of : FnOk P wd K mg base (L2.CX P wd) j_size_of cl.f_size_of cl.d_size_of P_size_of (spD K c_size_of)) (h_size_of : j_size_of ≤ k) {j_need_program : Nat} {c_need_program : Ct} (G_need_program : FnOk P wd K mg base (L2.CX P wd) j_need_program cl.f_need_program cl.d_need_program P_need_program (spD K c_need_program)) (h_need_program : j_need_program ≤ k) (hlen : ∀ rs Q E, c rs Q E → rs.length = P_size.length)
    (hw : ∀ rs Q E, c rs Q E → w_size K cl c_size_of c_need_program (rho N_size.length rs) { nx := fun _ => Q (.s .none), rt := Q, er := fun cls _ => E cls }) :
    FnOk P wd K mg base (L2.CX P wd) (k + 1) cl.f_size cl.d_size P_size (spD K c) :=
  fnD T.F_size sc_size hlen (fun cdv A outer s H E hr => by
  have tk := takes_of (X := cxOf (L2.CX P wd) P wd K mg base N_size "size" (defScope s_size) cl.f_size cdv A outer s H E) rfl rfl rfl rfl
  exact (pds_cons (pds_expr (ps_expr (pd_call (pe_callS G_need_program (hr.mono h_need_program) (by rfl) T.m_need_program T.F_need_program.kp T.b_need_program (fun σ => passAt tk σ) (pda_cons (pd_var (pv 0)) (pda_cons (pd_var (pv 1)) pda_nil))))))
  (pds_one (pds_ret (pd_call (pe_callS G_size_of (hr.mono h_size_of) (by rfl) T.m_size_of T.F_size_of.kp T.b_size_of (fun σ => passAt tk σ) (pda_cons (pd_var (pv 0)) (pda_cons (pd_var (pv 1)) (pda_cons (pd_const (v := .int 4) (d := .int 4) (pe_glob (v := .int 4) rfl T.v_DEEPEST.choose_spec ⟨_, rfl⟩) (fun _ => .int _)) pda_nil))))))))) hw
def w_law_same_b1 (K : Frag) (cl : Ad) : SW :=
  (wSeq (wPop 2 (gwTup 2 (gwCons (gwName 3) (gwCons (gwName 4) gwNil))))
  (wIfS (wTst (wIsi isT (wVar 4)))
  (wSeq (wIfS (wOrT (wNotT (wTst (wIsi isT (wVar 3)))) (wTst (wOp fNe (wCall1 fLen (wCons (wVar 3) wNil)) (wCall1 fLen (wCons (wVar 4) wNil)))))
  (wRet (wC (.s (.bool false))))
  wNext)
  (wExtend 2 (wLc (wRange1 (wCons (wCall1 fLen (wCons (wVar 4) wNil)) wNil)) false [5] [5] wYes (wTup (wCons (wOp fIx (wVar 3) (wVar 5)) (wCons (wOp fIx (wVar 4) (wVar 5)) wNil))))))
  (wIfS (wTst (wOp (fIs false) (wVar 4) (wC (.s .none))))
  (wIfS (wTst (wOp (fIs true) (wVar 3) (wC (.s .none))))
  (wRet (wC (.s (.bool false))))
  wNext)
  (wIfS (wTst (wIsi isB (wVar 4)))
  (wIfS (wOrT (wNotT (wTst (wIsi isB (wVar 3)))) (wTst (wOp fNe (wVar 3) (wVar 4))))
  (wRet (wC (.s (.bool false))))
  wNext)
  (wIfS (wTst (wIsi isS (wVar 4)))
  (wIfS (wOrT (wNotT (wTst (wIsi isS (wVar 3)))) (wTst (wOp fNe (wVar 3) (wVar 4))))
  (wRet (wC (.s (.bool false))))
  wNext)
  (wIfS (wOrT (wNotT (wTst (wIsi isI (wVar 3)))) (wOrT (wTst (wIsi isB (wVar 3))) (wTst (wOp fNe (wVar 3) (wVar 4)))))
  (wRet (wC (.s (.bool false))))
  wNext))))))
def w_law_same (K : Frag) (cl : Ad) : SW :=
  (wSeq (wAsg 2 (wLst (wCons (wTup (wCons (wVar 0) (wCons (wVar 1) wNil))) wNil)))
  (wSeq (wWhile (wTst (wOp fNe (wVar 2) (wLst wNil))) (w_law_same_b1 K cl))
  (wRet (wC (.s (.bool true))))))
theorem ok_law_same (T : Txt K mg cl) {k : Nat} {c : Ct} (hlen : ∀ rs Q E, c rs Q E → rs.length = P_law_same.length)
    (hw : ∀ rs Q E, c rs Q E → w_law_same K cl (rho N_law_same.length rs) { nx := fun _ => Q (.s .none), rt := Q, er := fun cls _ => E cls }) :
    FnOk P wd K mg base (L2.CX P wd) (k + 1) cl.f_law_same cl.d_law_same P_law_same (spD K c) :=
  fnD T.F_law_same sc_law_same hlen (fun cdv A outer s H E hr => by
  have tk := takes_of (X := cxOf (L2.CX P wd) P wd K mg base N_law_same "_law_same" (defScope s_law_same) cl.f_law_same cdv A outer s H E) rfl rfl rfl rfl
  exact (pds_cons (pds_set (ps_set (i := 2) sc_law_same.nd rfl (by first | exact Or.inl rfl | exact Or.inr rfl) (pd_lst (pda_cons (pd_tup (pda_cons (pd_var (pv 0)) (pda_cons (pd_var (pv 1)) pda_nil))) pda_nil))))
  (pds_cons (pds_while (passes_of rfl) (pdt_cmp (o_ne hr.units) (pd_var (pv 2)) (pd_lst pda_nil) (nomark _)) (pds_cons (pds_pop (i := 2) (ps_asg (pe_bm0 PySem.F.plainAttrs_list PySem.F.slot_list_pop PySem.F.type_list_pop mt_pop (pv 2)) (pgd_tup (pg_tup rfl (pgds_cons (pgs_cons (pgd_name (pg_name (i := 3) sc_law_same.nd rfl (by first | exact Or.inl rfl | exact Or.inr rfl))) (pgds_cons (pgs_cons (pgd_name (pg_name (i := 4) sc_law_same.nd rfl (by first | exact Or.inl rfl | exact Or.inr rfl))) pgds_nil))))))))
  (pds_one (pds_if (pdt_val (pd_isi (pe_callB call_isi (by rfl) T.n_isinstance (by decide +kernel) (pa_cons (pd_var (pv 4)) (pa_cons (pe_bltn (by rfl) T.n_tuple (by decide +kernel) rfl) pa_nil))) kit_tuple))
  (pds_cons (pds_if (pdt_w (pdw_or (pdt_not (pdt_val (pd_isi (pe_callB call_isi (by rfl) T.n_isinstance (by decide +kernel) (pa_cons (pd_var (pv 3)) (pa_cons (pe_bltn (by rfl) T.n_tuple (by decide +kernel) rfl) pa_nil))) kit_tuple))) (pdw_or1 (pdt_cmp (o_ne hr.units) (call_core (t := fun _ _ _ => True) (pe_callB c_len (by rfl) T.n_len (by decide +kernel) (pda_cons (pd_var (pv 3)) pda_nil))) (call_core (t := fun _ _ _ => True) (pe_callB c_len (by rfl) T.n_len (by decide +kernel) (pda_cons (pd_var (pv 4)) pda_nil))) (nomark _)))))
  (pds_one (pds_ret pd_bl))
  pds_nil)
  (pds_one (pds_extend (i := 2) (ps_expr (pe_bm PySem.F.plainAttrs_list PySem.F.slot_list_extend PySem.F.type_list_extend mt_extend (pv 2) (pa_cons (pd_lc (tup := false) (is := [5]) (pe_lc (own := [("k", 5)]) (g := gC K false [5]) rfl sc_law_same.nd (pic_range1 (pi_range1 (by rfl) T.n_range (pda_cons (call_core (t := fun _ _ _ => True) (pe_callB c_len (by rfl) T.n_len (by decide +kernel) (pda_cons (pd_var (pv 4)) pda_nil))) pda_nil))) (blkOk_by (own := [("k", 5)]) (N := N_law_same) (sc := defScope s_law_same) (by decide +kernel)) (fun _ _ _ _ _ => (pg_name (i := 5) sc_law_same.nd rfl (by first | exact Or.inl rfl | exact Or.inr rfl))) (fun _ _ _ _ _ => pdts_nil) (fun _ _ _ _ _ => (pd_tup (pda_cons (pd_ix o_ix (pd_var (pv 3)) (pd_var (pv 5)) (fun _ _ => rfl)) (pda_cons (pd_ix o_ix (pd_var (pv 4)) (pd_var (pv 5)) (fun _ _ => rfl)) pda_nil))))) (by decide) (by first | exact Or.inl rfl | exact Or.inr ⟨_, rfl⟩)) pa_nil))))))
  (pds_one (pds_if (pdt_cmp o_is (pd_var (pv 4)) pd_non (nomark _))
  (pds_one (pds_if (pdt_cmp o_isNot (pd_var (pv 3)) pd_non (nomark _))
  (pds_one (pds_ret pd_bl))
  pds_nil))
  (pds_one (pds_if (pdt_val (pd_isi (pe_callB call_isi (by rfl) T.n_isinstance (by decide +kernel) (pa_cons (pd_var (pv 4)) (pa_cons (pe_bltn (by rfl) T.n_bool (by decide +kernel) rfl) pa_nil))) kit_bool))
  (pds_one (pds_if (pdt_w (pdw_or (pdt_not (pdt_val (pd_isi (pe_callB call_isi (by rfl) T.n_isinstance (by decide +kernel) (pa_cons (pd_var (pv 3)) (pa_cons (pe_bltn (by rfl) T.n_bool (by decide +kernel) rfl) pa_nil))) kit_bool))) (pdw_or1 (pdt_cmp (o_ne hr.units) (pd_var (pv 3)) (pd_var (pv 4)) (nomark _)))))
  (pds_one (pds_ret pd_bl))
  pds_nil))
  (pds_one (pds_if (pdt_val (pd_isi (pe_callB call_isi (by rfl) T.n_isinstance (by decide +kernel) (pa_cons (pd_var (pv 4)) (pa_cons (pe_bltn (by rfl) T.n_str (by decide +kernel) rfl) pa_nil))) kit_str))
  (pds_one (pds_if (pdt_w (pdw_or (pdt_not (pdt_val (pd_isi (pe_callB call_isi (by rfl) T.n_isinstance (by decide +kernel) (pa_cons (pd_var (pv 3)) (pa_cons (pe_bltn (by rfl) T.n_str (by decide +kernel) rfl) pa_nil))) kit_str))) (pdw_or1 (pdt_cmp (o_ne hr.units) (pd_var (pv 3)) (pd_var (pv 4)) (nomark _)))))
  (pds_one (pds_ret pd_bl))
  pds_nil))
  (pds_one (pds_if (pdt_w (pdw_or (pdt_not (pdt_val (pd_isi (pe_callB call_isi (by rfl) T.n_isinstance (by decide +kernel) (pa_cons (pd_var (pv 3)) (pa_cons (pe_bltn (by rfl) T.n_int (by decide +kernel) rfl) pa_nil))) kit_int))) (pdw_or (pdt_val (pd_isi (pe_callB call_isi (by rfl) T.n_isinstance (by decide +kernel) (pa_cons (pd_var (pv 3)) (pa_cons (pe_bltn (by rfl) T.n_bool (by decide +kernel) rfl) pa_nil))) kit_bool)) (pdw_or1 (pdt_cmp (o_ne hr.units) (pd_var (pv 3)) (pd_var (pv 4)) (nomark _))))))
  (pds_one (pds_ret pd_bl))
  pds_nil))))))))))))
  (pds_one (pds_ret pd_bl))))) hw
def w_law_step (K : Frag) (cl : Ad) (c_law_pick : Ct) : SW :=
  (wSeq (wAsg 2 (wOp fIx (wLst (wCons (wC (.s (.str "set"))) (wCons (wC (.s (.str "follow"))) (wCons (wC (.s (.str "put"))) (wCons (wC (.s (.str "new"))) (wCons (wC (.s (.str "free"))) (wCons (wC (.s (.str "follow"))) (wCons (wC (.s (.str "put"))) (wCons (wC (.s (.str "new"))) wNil))))))))) (wCall c_law_pick (wCons (wVar 0) (wCons (wC (.s (.int 8))) wNil)))))
  (wSeq (wAsg 3 (wCall c_law_pick (wCons (wVar 0) (wCons (wVar 1) wNil))))
  (wSeq (wIfS (wTst (wOp (fIn false) (wVar 2) (wTup (wCons (wC (.s (.str "new"))) (wCons (wC (.s (.str "free"))) wNil)))))
  (wRet (wTup (wCons (wVar 2) (wCons (wVar 3) wNil))))
  wNext)
  (wRet (wTup (wCons (wVar 2) (wCons (wVar 3) (wCons (wIf (wTst (wOp fEq (wVar 2) (wC (.s (.str "follow"))))) (wCall c_law_pick (wCons (wVar 0) (wCons (wVar 1) wNil))) (wOp fSub (wCall c_law_pick (wCons (wVar 0) (wCons (wFrz (wOp fAdd (wVar 1) (wC (.s (.int 1))))) wNil))) (wC (.s (.int 1))))) wNil))))))))
theorem ok_law_step (T : Txt K mg cl) {k : Nat} {c : Ct} {j_law_pick : Nat} {c_law_pick : Ct} (G_law_pick : FnOk P wd K mg base (L2.CX P wd) j_law_pick cl.f_law_pick cl.d_law_pick P_law_pick (spD K c_law_pick)) (h_law_pick : j_law_pick ≤ k) (hlen : ∀ rs Q E, c rs Q E → rs.length = P_law_step.length)
    (hw : ∀ rs Q E, c rs Q E → w_law_step K cl c_law_pick (rho N_law_step.length rs) { nx := fun _ => Q (.s .none), rt := Q, er := fun cls _ => E cls }) :
    FnOk P wd K mg base (L2.CX P wd) (k + 1) cl.f_law_step cl.d_law_step P_law_step (spD K c) :=
  fnD T.F_law_step sc_law_step hlen (fun cdv A outer s H E hr => by
  have tk := takes_of (X := cxOf (L2.CX P wd) P wd K mg base N_law_step "_law_step" (defScope s_law_step) cl.f_law_step cdv A outer s H E) rfl rfl rfl rfl
  exact (pds_cons (pds_set (ps_set (i := 2) sc_law_step.nd rfl (by first | exact Or.inl rfl | exact Or.inr rfl) (pd_ix o_ix (pd_lst (pda_cons pd_str (pda_cons pd_str (pda_cons pd_str (pda_cons pd_str (pda_cons pd_str (pda_cons pd_str (pda_cons pd_str (pda_cons pd_str pda_nil))))))))) (pd_call (pe_callS G_law_pick (hr.mono h_law_pick) (by rfl) T.m_law_pick T.F_law_pick.kp T.b_law_pick (fun σ => passAt tk σ) (pda_cons (pd_var (pv 0)) (pda_cons pd_int pda_nil)))) (fun _ _ => rfl))))
  (pds_cons (pds_set (ps_set (i := 3) sc_law_step.nd rfl (by first | exact Or.inl rfl | exact Or.inr rfl) (pd_call (pe_callS G_law_pick (hr.mono h_law_pick) (by rfl) T.m_law_pick T.F_law_pick.kp T.b_law_pick (fun σ => passAt tk σ) (pda_cons (pd_var (pv 0)) (pda_cons (pd_var (pv 1)) pda_nil))))))
  (pds_cons (pds_if (pdt_cmp o_in (pd_var (pv 2)) (pd_tup (pda_cons pd_str (pda_cons pd_str pda_nil))) (by rfl))
  (pds_one (pds_ret (pd_tup (pda_cons (pd_var (pv 2)) (pda_cons (pd_var (pv 3)) pda_nil)))))
  pds_nil)
  (pds_one (pds_ret (pd_tup (pda_cons (pd_var (pv 2)) (pda_cons (pd_var (pv 3)) (pda_cons (pd_if (pdt_cmp (o_eq hr.units) (pd_var (pv 2)) pd_str (nomark _)) (pd_call (pe_callS G_law_pick (hr.mono h_law_pick) (by rfl) T.m_law_pick T.F_law_pick.kp T.b_law_pick (fun σ => passAt tk σ) (pda_cons (pd_var (pv 0)) (pda_cons (pd_var (pv 1)) pda_nil)))) (pd_op o_sub (pd_call (pe_callS G_law_pick (hr.mono h_law_pick) (by rfl) T.m_law_pick T.F_law_pick.kp T.b_law_pick (fun σ => passAt tk σ) (pda_cons (pd_var (pv 0)) (pda_cons (pd_frz (pd_op o_add (pd_var (pv 1)) pd_int)) pda_nil)))) pd_int)) pda_nil)))))))))) hw
def w_law_condition (K : Frag) (cl : Ad) (c_law_pick : Ct) : SW :=
  (wRet (wTup (wCons (wOp fIx (wLst (wCons (wC (.s (.str "same"))) (wCons (wC (.s (.str "unlike"))) wNil))) (wCall c_law_pick (wCons (wVar 0) (wCons (wC (.s (.int 2))) wNil)))) (wCons (wFrz (wOp fSub (wCall c_law_pick (wCons (wVar 0) (wCons (wFrz (wOp fAdd (wVar 1) (wC (.s (.int 1))))) wNil))) (wC (.s (.int 1))))) (wCons (wFrz (wOp fSub (wCall c_law_pick (wCons (wVar 0) (wCons (wFrz (wOp fAdd (wVar 1) (wC (.s (.int 1))))) wNil))) (wC (.s (.int 1))))) wNil)))))
theorem ok_law_condition (T : Txt K mg cl) {k : Nat} {c : Ct} {j_law_pick : Nat} {c_law_pick : Ct} (G_law_pick : FnOk P wd K mg base (L2.CX P wd) j_law_pick cl.f_law_pick cl.d_law_pick P_law_pick (spD K c_law_pick)) (h_law_pick : j_law_pick ≤ k) (hlen : ∀ rs Q E, c rs Q E → rs.length = P_law_condition.length)
    (hw : ∀ rs Q E, c rs Q E → w_law_condition K cl c_law_pick (rho N_law_condition.length rs) { nx := fun _ => Q (.s .none), rt := Q, er := fun cls _ => E cls }) :
    FnOk P wd K mg base (L2.CX P wd) (k + 1) cl.f_law_condition cl.d_law_condition P_law_condition (spD K c) :=
  fnD T.F_law_condition sc_law_condition hlen (fun cdv A outer s H E hr => by
  have tk := takes_of (X := cxOf (L2.CX P wd) P wd K mg base N_law_condition "_law_condition" (defScope s_law_condition) cl.f_law_condition cdv A outer s H E) rfl rfl rfl rfl
  exact (pds_one (pds_ret (pd_tup (pda_cons (pd_ix o_ix (pd_lst (pda_cons pd_str (pda_cons pd_str pda_nil))) (pd_call (pe_callS G_law_pick (hr.mono h_law_pick) (by rfl) T.m_law_pick T.F_law_pick.kp T.b_law_pick (fun σ => passAt tk σ) (pda_cons (pd_var (pv 0)) (pda_cons pd_int pda_nil)))) (fun _ _ => rfl)) (pda_cons (pd_frz (pd_op o_sub (pd_call (pe_callS G_law_pick (hr.mono h_law_pick) (by rfl) T.m_law_pick T.F_law_pick.kp T.b_law_pick (fun σ => passAt tk σ) (pda_cons (pd_var (pv 0)) (pda_cons (pd_frz (pd_op o_add (pd_var (pv 1)) pd_int)) pda_nil)))) pd_int)) (pda_cons (pd_frz (pd_op o_sub (pd_call (pe_callS G_law_pick (hr.mono h_law_pick) (by rfl) T.m_law_pick T.F_law_pick.kp T.b_law_pick (fun σ => passAt tk σ) (pda_cons (pd_var (pv 0)) (pda_cons (pd_frz (pd_op o_add (pd_var (pv 1)) pd_int)) pda_nil)))) pd_int)) pda_nil))))))) hw
def w_law_size (K : Frag) (cl : Ad) (c_law_size : Ct) : SW :=
  (wRet (wCall1 fSum (wCons (wLc (wSeqC (wVar 0)) false [1] [1] wYes (wFrz (wOp fAdd (wC (.s (.int 1))) (wIf (wTst (wOp fEq (wOp fIx (wVar 1) (wC (.s (.int 0)))) (wC (.s (.str "if"))))) (wOp fAdd (wCall c_law_size (wCons (wOp fIx (wVar 1) (wC (.s (.int 2)))) wNil)) (wCall c_law_size (wCons (wOp fIx (wVar 1) (wC (.s (.int 3)))) wNil))) (wC (.s (.int 0))))))) wNil)))
theorem ok_law_size (T : Txt K mg cl) {k : Nat} {c : Ct} {j_law_size : Nat} {c_law_size : Ct} (G_law_size : FnOk P wd K mg base (L2.CX P wd) j_law_size cl.f_law_size cl.d_law_size P_law_size (spD K c_law_size)) (h_law_size : j_law_size ≤ k) (hlen : ∀ rs Q E, c rs Q E → rs.length = P_law_size.length)
    (hw : ∀ rs Q E, c rs Q E → w_law_size K cl c_law_size (rho N_law_size.length rs) { nx := fun _ => Q (.s .none), rt := Q, er := fun cls _ => E cls }) :
    FnOk P wd K mg base (L2.CX P wd) (k + 1) cl.f_law_size cl.d_law_size P_law_size (spD K c) :=
  fnD T.F_law_size sc_law_size hlen (fun cdv A outer s H E hr => by
  have tk := takes_of (X := cxOf (L2.CX P wd) P wd K mg base N_law_size "_law_size" (defScope s_law_size) cl.f_law_size cdv A outer s H E) rfl rfl rfl rfl
  exact (pds_one (pds_ret (call_core (t := fun _ _ _ => True) (pe_callB (c_sum rfl) (by rfl) T.n_sum (by decide +kernel) (pda_cons (pd_lc (tup := false) (is := [1]) (pe_lc (own := [("part", 1)]) (g := gC K false [1]) rfl sc_law_size.nd (pic_seq (pd_var (pv 0))) (blkOk_by (own := [("part", 1)]) (N := N_law_size) (sc := defScope s_law_size) (by decide +kernel)) (fun _ _ _ _ _ => (pg_name (i := 1) sc_law_size.nd rfl (by first | exact Or.inl rfl | exact Or.inr rfl))) (fun _ _ _ _ _ => pdts_nil) (fun _ _ _ _ _ => (pd_frz (pd_op o_add pd_int (pd_if (pdt_cmp (o_eq hr.units) (pd_ix o_ix (pd_var (pv 1)) pd_int (fun _ _ => rfl)) pd_str (nomark _)) (pd_op o_add (pd_call (pe_callS G_law_size (hr.mono h_law_size) (by rfl) T.m_law_size T.F_law_size.kp T.b_law_size (fun σ => passAt takes0 σ) (pda_cons (pd_ix o_ix (pd_var (pv 1)) pd_int (fun _ _ => rfl)) pda_nil))) (pd_call (pe_callS G_law_size (hr.mono h_law_size) (by rfl) T.m_law_size T.F_law_size.kp T.b_law_size (fun σ => passAt takes0 σ) (pda_cons (pd_ix o_ix (pd_var (pv 1)) pd_int (fun _ _ => rfl)) pda_nil)))) pd_int))))) (by decide) (by first | exact Or.inl rfl | exact Or.inr ⟨_, rfl⟩)) pda_nil)))))) hw
def w_law_program_b1 (K : Frag) (cl : Ad) (c_law_pick c_law_step c_law_condition c_law_size c_law_program : Ct) : SW :=
  (wIfS (wAndT (wTst (wOp fGt (wVar 3) (wC (.s (.int 0))))) (wAndT (wTst (wOp fGt (wVar 5) (wC (.s (.int 1))))) (wTst (wOp fEq (wCall c_law_pick (wCons (wVar 0) (wCons (wC (.s (.int 4))) wNil))) (wC (.s (.int 0)))))))
  (wSeq (wAsg 6 (wCall c_law_program (wCons (wVar 0) (wCons (wVar 1) (wCons (wFrz (wOp fDiv (wOp fSub (wVar 5) (wC (.s (.int 1)))) (wC (.s (.int 2))))) (wCons (wFrz (wOp fSub (wVar 3) (wC (.s (.int 1))))) wNil))))))
  (wSeq (wAsg 7 (wCall c_law_program (wCons (wVar 0) (wCons (wVar 1) (wCons (wFrz (wOp fDiv (wOp fSub (wVar 5) (wC (.s (.int 1)))) (wC (.s (.int 2))))) (wCons (wFrz (wOp fSub (wVar 3) (wC (.s (.int 1))))) wNil))))))
  (wSeq (wAppend 4 (wTup (wCons (wC (.s (.str "if"))) (wCons (wFrz (wCall c_law_condition (wCons (wVar 0) (wCons (wVar 1) wNil)))) (wCons (wVar 6) (wCons (wVar 7) wNil))))))
  (wAsg 5 (wOp fSub (wOp fSub (wOp fSub (wVar 5) (wC (.s (.int 1)))) (wCall c_law_size (wCons (wVar 6) wNil))) (wCall c_law_size (wCons (wVar 7) wNil)))))))
  (wSeq (wAppend 4 (wFrz (wCall c_law_step (wCons (wVar 0) (wCons (wVar 1) wNil)))))
  (wAsg 5 (wOp fSub (wVar 5) (wC (.s (.int 1)))))))
def w_law_program (K : Frag) (cl : Ad) (c_law_pick c_law_step c_law_condition c_law_size c_law_program : Ct) : SW :=
  (wSeq (wPar 4 5 (wLst wNil) (wCall c_law_pick (wCons (wVar 0) (wCons (wFrz (wOp fAdd (wVar 2) (wC (.s (.int 1))))) wNil))))
  (wSeq (wWhile (wTst (wOp fGt (wVar 5) (wC (.s (.int 0))))) (w_law_program_b1 K cl c_law_pick c_law_step c_law_condition c_law_size c_law_program))
  (wRet (wCall1 fTuple (wCons (wVar 4) wNil)))))
theorem ok_law_program (T : Txt K mg cl) {k : Nat} {c : Ct} {j_law_pick : Nat} {c_law_pick : Ct} (G_law_pick : FnOk P wd K mg base (L2.CX P wd) j_law_pick cl.f_law_pick cl.d_law_pick P_law_pick (spD K c_law_pick)) (h_law_pick : j_law_pick ≤ k) {j_law_step : Nat} {c_law_step : Ct} (G_law_step : FnOk P wd K mg base (L2.CX P wd) j_law_step cl.f_law_step cl.d_law_step P_law_step (spD K c_law_step)) (h_law_step : j_law_step ≤ k) {j_law_condition : Nat} {c_law_condition : Ct} (G_law_condition : FnOk P wd K mg base (L2.CX P wd) j_law_condition cl.f_law_condition cl.d_law_condition P_law_condition (spD K c_law_condition)) (h_law_condition : j_law_condition ≤ k) {j_law_size : Nat} {c_law_size : Ct} (G_law_size : FnOk P wd K mg base (L2.CX P wd) j_law_size cl.f_law_size cl.d_law_size P_law_size (spD K c_law_size)) (h_law_size : j_law_size ≤ k) {j_law_program : Nat} {c_law_program : Ct} (G_law_program : FnOk P wd K mg base (L2.CX P wd) j_law_program cl.f_law_program cl.d_law_program P_law_program (spD K c_law_program)) (h_law_program : j_law_program ≤ k) (hlen : ∀ rs Q E, c rs Q E → rs.length = P_law_program.length)
    (hw : ∀ rs Q E, c rs Q E → w_law_program K cl c_law_pick c_law_step c_law_condition c_law_size c_law_program (rho N_law_program.length rs) { nx := fun _ => Q (.s .none), rt := Q, er := fun cls _ => E cls }) :
    FnOk P wd K mg base (L2.CX P wd) (k + 1) cl.f_law_program cl.d_law_program P_law_program (spD K c) :=
  fnD T.F_law_program sc_law_program hlen (fun cdv A outer s H E hr => by
  have tk := takes_of (X := cxOf (L2.CX P wd) P wd K mg base N_law_program "_law_program" (defScope s_law_program) cl.f_law_program cdv A outer s H E) rfl rfl rfl rfl
  exact (pds_cons (pds_par (i := 4) (j := 5) (ps_par rfl sc_law_program.nd rfl rfl (by decide) rfl rfl (pda_cons (pd_lst pda_nil) (pda_cons (pd_call (pe_callS G_law_pick (hr.mono h_law_pick) (by rfl) T.m_law_pick T.F_law_pick.kp T.b_law_pick (fun σ => passAt tk σ) (pda_cons (pd_var (pv 0)) (pda_cons (pd_frz (pd_op o_add (pd_var (pv 2)) pd_int)) pda_nil)))) pda_nil)) (by rfl)))
  (pds_cons (pds_while (passes_of rfl) (pdt_cmp o_gt (pd_var (pv 5)) pd_int (nomark _)) (pds_one (pds_if (pdt_w (pdw_and (pdt_cmp o_gt (pd_var (pv 3)) pd_int (nomark _)) (pdw_and (pdt_cmp o_gt (pd_var (pv 5)) pd_int (nomark _)) (pdw_and1 (pdt_cmp (o_eq hr.units) (pd_call (pe_callS G_law_pick (hr.mono h_law_pick) (by rfl) T.m_law_pick T.F_law_pick.kp T.b_law_pick (fun σ => passAt tk σ) (pda_cons (pd_var (pv 0)) (pda_cons pd_int pda_nil)))) pd_int (nomark _))))))
  (pds_cons (pds_set (ps_set (i := 6) sc_law_program.nd rfl (by first | exact Or.inl rfl | exact Or.inr rfl) (pd_call (pe_callS G_law_program (hr.mono h_law_program) (by rfl) T.m_law_program T.F_law_program.kp T.b_law_program (fun σ => passAt tk σ) (pda_cons (pd_var (pv 0)) (pda_cons (pd_var (pv 1)) (pda_cons (pd_frz (pd_op o_div (pd_op o_sub (pd_var (pv 5)) pd_int) pd_int)) (pda_cons (pd_frz (pd_op o_sub (pd_var (pv 3)) pd_int)) pda_nil))))))))
  (pds_cons (pds_set (ps_set (i := 7) sc_law_program.nd rfl (by first | exact Or.inl rfl | exact Or.inr rfl) (pd_call (pe_callS G_law_program (hr.mono h_law_program) (by rfl) T.m_law_program T.F_law_program.kp T.b_law_program (fun σ => passAt tk σ) (pda_cons (pd_var (pv 0)) (pda_cons (pd_var (pv 1)) (pda_cons (pd_frz (pd_op o_div (pd_op o_sub (pd_var (pv 5)) pd_int) pd_int)) (pda_cons (pd_frz (pd_op o_sub (pd_var (pv 3)) pd_int)) pda_nil))))))))
  (pds_cons (pds_append (i := 4) (ps_expr (pe_bm PySem.F.plainAttrs_list PySem.F.slot_list_append PySem.F.type_list_append mt_append (pv 4) (pa_cons (pd_tup (pda_cons pd_str (pda_cons (pd_frz (pd_call (pe_callS G_law_condition (hr.mono h_law_condition) (by rfl) T.m_law_condition T.F_law_condition.kp T.b_law_condition (fun σ => passAt tk σ) (pda_cons (pd_var (pv 0)) (pda_cons (pd_var (pv 1)) pda_nil))))) (pda_cons (pd_var (pv 6)) (pda_cons (pd_var (pv 7)) pda_nil))))) pa_nil))))
  (pds_one (pds_set (ps_set (i := 5) sc_law_program.nd rfl (by first | exact Or.inl rfl | exact Or.inr rfl) (pd_op o_sub (pd_op o_sub (pd_op o_sub (pd_var (pv 5)) pd_int) (pd_call (pe_callS G_law_size (hr.mono h_law_size) (by rfl) T.m_law_size T.F_law_size.kp T.b_law_size (fun σ => passAt tk σ) (pda_cons (pd_var (pv 6)) pda_nil)))) (pd_call (pe_callS G_law_size (hr.mono h_law_size) (by rfl) T.m_law_size T.F_law_size.kp T.b_law_size (fun σ => passAt tk σ) (pda_cons (pd_var (pv 7)) pda_nil))))))))))
  (pds_cons (pds_append (i := 4) (ps_expr (pe_bm PySem.F.plainAttrs_list PySem.F.slot_list_append PySem.F.type_list_append mt_append (pv 4) (pa_cons (pd_frz (pd_call (pe_callS G_law_step (hr.mono h_law_step) (by rfl) T.m_law_step T.F_law_step.kp T.b_law_step (fun σ => passAt tk σ) (pda_cons (pd_var (pv 0)) (pda_cons (pd_var (pv 1)) pda_nil))))) pa_nil))))
  (pds_one (pds_set (ps_set (i := 5) sc_law_program.nd rfl (by first | exact Or.inl rfl | exact Or.inr rfl) (pd_op o_sub (pd_var (pv 5)) pd_int))))))))
  (pds_one (pds_ret (call_core (t := fun _ _ _ => True) (pe_callTy c_tuple (by rfl) T.n_tuple (by decide +kernel) (pda_cons (pd_var (pv 4)) pda_nil)))))))) hw
def w_law_bad_parts (K : Frag) (cl : Ad) : SW :=
  (wSeq (wAsg 1 (wTup (wCons (wC (.s (.str "same"))) (wCons (wUn fNeg (wC (.s (.int 1)))) (wCons (wUn fNeg (wC (.s (.int 1)))) wNil)))))
  (wSeq (wAsg 2 (wLst (wCons (wTup (wCons (wC (.s (.str "set"))) (wCons (wVar 0) (wCons (wUn fNeg (wC (.s (.int 1)))) wNil)))) (wCons (wTup (wCons (wC (.s (.str "set"))) (wCons (wUn fNeg (wC (.s (.int 1)))) (wCons (wC (.s (.int 0))) wNil)))) (wCons (wTup (wCons (wC (.s (.str "set"))) (wCons (wC (.s (.int 0))) wNil))) (wCons (wTup (wCons (wC (.s (.str "follow"))) (wCons (wC (.s (.int 0))) (wCons (wUn fNeg (wC (.s (.int 1)))) wNil)))) (wCons (wTup (wCons (wC (.s (.str "follow"))) (wCons (wC (.s (.int 0))) (wCons (wVar 0) wNil)))) (wCons (wTup (wCons (wC (.s (.str "put"))) (wCons (wC (.s (.int 0))) (wCons (wUn fNeg (wC (.s (.int 2)))) wNil)))) (wCons (wTup (wCons (wC (.s (.str "new"))) (wCons (wC (.s (.int 0))) (wCons (wC (.s (.int 0))) wNil)))) (wCons (wTup (wCons (wC (.s (.str "new"))) wNil)) wNil))))))))))
  (wSeq (wAsg 2 (wOp fAdd (wVar 2) (wLst (wCons (wTup (wCons (wC (.s (.str "free"))) (wCons (wUn fNeg (wC (.s (.int 1)))) wNil))) (wCons (wTup (wCons (wC (.s (.str "take"))) (wCons (wC (.s (.int 0))) wNil))) (wCons (wFrz (wLst (wCons (wC (.s (.str "new"))) (wCons (wC (.s (.int 0))) wNil)))) (wCons (wTup (wCons (wC (.s (.str "new"))) (wCons (wC (.s (.bool true))) wNil))) (wCons (wC (.s .none)) (wCons (wTup wNil) (wCons (wC (.s (.str "new"))) (wCons (wTup (wCons (wC (.s (.str "put"))) (wCons (wC (.s (.int 0))) (wCons (wC (.s .none)) wNil)))) (wCons (wTup (wCons (wC (.s (.str "if"))) (wCons (wVar 1) (wCons (wTup wNil) wNil)))) wNil))))))))))))
  (wSeq (wAsg 2 (wOp fAdd (wVar 2) (wLst (wCons (wTup (wCons (wC (.s (.str "if"))) (wCons (wVar 1) (wCons (wTup wNil) (wCons (wFrz (wLst wNil)) (wCons (wTup wNil) wNil)))))) (wCons (wTup (wCons (wC (.s (.str "if"))) (wCons (wTup (wCons (wC (.s (.str "same"))) (wCons (wVar 0) (wCons (wUn fNeg (wC (.s (.int 1)))) wNil)))) (wCons (wTup wNil) (wCons (wTup wNil) wNil))))) (wCons (wTup (wCons (wC (.s (.str "if"))) (wCons (wTup (wCons (wC (.s (.str "is"))) (wCons (wC (.s (.int 0))) (wCons (wC (.s (.int 0))) wNil)))) (wCons (wTup wNil) (wCons (wTup wNil) wNil))))) (wCons (wTup (wCons (wC (.s (.str "if"))) (wCons (wVar 1) (wCons (wTup wNil) (wCons (wTup (wCons (wTup (wCons (wC (.s (.str "free"))) wNil)) wNil)) wNil))))) wNil)))))))
  (wRet (wOp fAdd (wVar 2) (wLst (wCons (wTup (wCons (wC (.s (.str "if"))) (wCons (wFrz (wLst (wCons (wC (.s (.str "same"))) (wCons (wC (.s (.int 0))) (wCons (wC (.s (.int 0))) wNil))))) (wCons (wTup wNil) (wCons (wTup wNil) wNil))))) (wCons (wTup (wCons (wC (.s (.str "if"))) (wCons (wVar 1) (wCons (wFrz (wLst wNil)) (wCons (wTup wNil) wNil))))) (wCons (wTup (wCons (wC (.s (.str "if"))) (wCons (wVar 1) (wCons (wTup wNil) (wCons (wC (.s .none)) wNil))))) wNil))))))))))
theorem ok_law_bad_parts (T : Txt K mg cl) {k : Nat} {c : Ct} (hlen : ∀ rs Q E, c rs Q E → rs.length = P_law_bad_parts.length)
    (hw : ∀ rs Q E, c rs Q E → w_law_bad_parts K cl (rho N_law_bad_parts.length rs) { nx := fun _ => Q (.s .none), rt := Q, er := fun cls _ => E cls }) :
    FnOk P wd K mg base (L2.CX P wd) (k + 1) cl.f_law_bad_parts cl.d_law_bad_parts P_law_bad_parts (spD K c) :=
  fnD T.F_law_bad_parts sc_law_bad_parts hlen (fun cdv A outer s H E hr => by
  have tk := takes_of (X := cxOf (L2.CX P wd) P wd K mg base N_law_bad_parts "_law_bad_parts" (defScope s_law_bad_parts) cl.f_law_bad_parts cdv A outer s H E) rfl rfl rfl rfl
  exact (pds_cons (pds_set (ps_set (i := 1) sc_law_bad_parts.nd rfl (by first | exact Or.inl rfl | exact Or.inr rfl) (pd_tup (pda_cons pd_str (pda_cons (pd_un o_neg pd_int) (pda_cons (pd_un o_neg pd_int) pda_nil))))))
  (pds_cons (pds_set (ps_set (i := 2) sc_law_bad_parts.nd rfl (by first | exact Or.inl rfl | exact Or.inr rfl) (pd_lst (pda_cons (pd_tup (pda_cons pd_str (pda_cons (pd_var (pv 0)) (pda_cons (pd_un o_neg pd_int) pda_nil)))) (pda_cons (pd_tup (pda_cons pd_str (pda_cons (pd_un o_neg pd_int) (pda_cons pd_int pda_nil)))) (pda_cons (pd_tup (pda_cons pd_str (pda_cons pd_int pda_nil))) (pda_cons (pd_tup (pda_cons pd_str (pda_cons pd_int (pda_cons (pd_un o_neg pd_int) pda_nil)))) (pda_cons (pd_tup (pda_cons pd_str (pda_cons pd_int (pda_cons (pd_var (pv 0)) pda_nil)))) (pda_cons (pd_tup (pda_cons pd_str (pda_cons pd_int (pda_cons (pd_un o_neg pd_int) pda_nil)))) (pda_cons (pd_tup (pda_cons pd_str (pda_cons pd_int (pda_cons pd_int pda_nil)))) (pda_cons (pd_tup (pda_cons pd_str pda_nil)) pda_nil)))))))))))
  (pds_cons (pds_set (ps_set (i := 2) sc_law_bad_parts.nd rfl (by first | exact Or.inl rfl | exact Or.inr rfl) (pd_op o_add (pd_var (pv 2)) (pd_lst (pda_cons (pd_tup (pda_cons pd_str (pda_cons (pd_un o_neg pd_int) pda_nil))) (pda_cons (pd_tup (pda_cons pd_str (pda_cons pd_int pda_nil))) (pda_cons (pd_frz (pd_lst (pda_cons pd_str (pda_cons pd_int pda_nil)))) (pda_cons (pd_tup (pda_cons pd_str (pda_cons pd_bl pda_nil))) (pda_cons pd_non (pda_cons (pd_tup pda_nil) (pda_cons pd_str (pda_cons (pd_tup (pda_cons pd_str (pda_cons pd_int (pda_cons pd_non pda_nil)))) (pda_cons (pd_tup (pda_cons pd_str (pda_cons (pd_var (pv 1)) (pda_cons (pd_tup pda_nil) pda_nil)))) pda_nil)))))))))))))
  (pds_cons (pds_set (ps_set (i := 2) sc_law_bad_parts.nd rfl (by first | exact Or.inl rfl | exact Or.inr rfl) (pd_op o_add (pd_var (pv 2)) (pd_lst (pda_cons (pd_tup (pda_cons pd_str (pda_cons (pd_var (pv 1)) (pda_cons (pd_tup pda_nil) (pda_cons (pd_frz (pd_lst pda_nil)) (pda_cons (pd_tup pda_nil) pda_nil)))))) (pda_cons (pd_tup (pda_cons pd_str (pda_cons (pd_tup (pda_cons pd_str (pda_cons (pd_var (pv 0)) (pda_cons (pd_un o_neg pd_int) pda_nil)))) (pda_cons (pd_tup pda_nil) (pda_cons (pd_tup pda_nil) pda_nil))))) (pda_cons (pd_tup (pda_cons pd_str (pda_cons (pd_tup (pda_cons pd_str (pda_cons pd_int (pda_cons pd_int pda_nil)))) (pda_cons (pd_tup pda_nil) (pda_cons (pd_tup pda_nil) pda_nil))))) (pda_cons (pd_tup (pda_cons pd_str (pda_cons (pd_var (pv 1)) (pda_cons (pd_tup pda_nil) (pda_cons (pd_tup (pda_cons (pd_tup (pda_cons pd_str pda_nil)) pda_nil)) pda_nil))))) pda_nil))))))))
  (pds_one (pds_ret (pd_op o_add (pd_var (pv 2)) (pd_lst (pda_cons (pd_tup (pda_cons pd_str (pda_cons (pd_frz (pd_lst (pda_cons pd_str (pda_cons pd_int (pda_cons pd_int pda_nil))))) (pda_cons (pd_tup pda_nil) (pda_cons (pd_tup pda_nil) pda_nil))))) (pda_cons (pd_tup (pda_cons pd_str (pda_cons (pd_var (pv 1)) (pda_cons (pd_frz (pd_lst pda_nil)) (pda_cons (pd_tup pda_nil) pda_nil))))) (pda_cons (pd_tup (pda_cons pd_str (pda_cons (pd_var (pv 1)) (pda_cons (pd_tup pda_nil) (pda_cons pd_non pda_nil))))) pda_nil)))))))))))) hw
def w_law_refused (K : Frag) (cl : Ad) (c_is_straight c_size : Ct) : SW :=
  (wSeq (wAsg 3 (wC (.s (.str "none"))))
  (wSeq (wTry K (wAsg 4 (wIf (wTst (wOp fEq (wVar 0) (wC (.s (.int 0))))) (wCall c_is_straight (wCons (wVar 1) (wCons (wVar 2) wNil))) (wCall c_size (wCons (wVar 1) (wCons (wVar 2) wNil))))) [(.ref cl.c_BadMany, (wAsg 3 (wC (.s (.str "many"))))), (.ref cl.c_BadProgram, (wAsg 3 (wC (.s (.str "program")))))])
  (wRet (wVar 3))))
theorem ok_law_refused (T : Txt K mg cl) {k : Nat} {c : Ct} {j_is_straight : Nat} {c_is_straight : Ct} (G_is_straight : FnOk P wd K mg base (L2.CX P wd) j_is_straight cl.f_is_straight cl.d_is_straight P_is_straight (spD K c_is_straight)) (h_is_straight : j_is_straight ≤ k) {j_size : Nat} {c_size : Ct} (G_size : FnOk P wd K mg base (L2.CX P wd) j_size cl.f_size cl.d_size P_size (spD K c_size)) (h_size : j_size ≤ k) (hlen : ∀ rs Q E, c rs Q E → rs.length = P_law_refused.length)
    (hw : ∀ rs Q E, c rs Q E → w_law_refused K cl c_is_straight c_size (rho N_law_refused.length rs) { nx := fun _ => Q (.s .none), rt := Q, er := fun cls _ => E cls }) :
    FnOk P wd K mg base (L2.CX P wd) (k + 1) cl.f_law_refused cl.d_law_refused P_law_refused (spD K c) :=
  fnD T.F_law_refused sc_law_refused hlen (fun cdv A outer s H E hr => by
  have tk := takes_of (X := cxOf (L2.CX P wd) P wd K mg base N_law_refused "_law_refused" (defScope s_law_refused) cl.f_law_refused cdv A outer s H E) rfl rfl rfl rfl
  exact (pds_cons (pds_set (ps_set (i := 3) sc_law_refused.nd rfl (by first | exact Or.inl rfl | exact Or.inr rfl) pd_str))
  (pds_cons (pds_try (hs := [(.ref cl.c_BadMany, (wAsg 3 (wC (.s (.str "many"))))), (.ref cl.c_BadProgram, (wAsg 3 (wC (.s (.str "program")))))]) rfl rfl tk (fun W' pn xe tk' _ => (pds_one (pds_set (ps_set (i := 4) sc_law_refused.nd rfl (by first | exact Or.inl rfl | exact Or.inr rfl) (pd_if (pdt_cmp (o_eq hr.units) (pd_var (pv 0)) pd_int (nomark _)) (pd_call (pe_callS G_is_straight (hr.mono h_is_straight) (by rfl) T.m_is_straight T.F_is_straight.kp T.b_is_straight (fun σ => passAt tk' σ) (pda_cons (pd_var (pv 1)) (pda_cons (pd_var (pv 2)) pda_nil)))) (pd_call (pe_callS G_size (hr.mono h_size) (by rfl) T.m_size T.F_size.kp T.b_size (fun σ => passAt tk' σ) (pda_cons (pd_var (pv 1)) (pda_cons (pd_var (pv 2)) pda_nil))))))))) (HdsOk.cons (ts := fun _ _ _ => TDs K W0 (wAsg 3 (wC (.s (.str "many"))))) ⟨rfl, by decide, .inl T.g_BadMany⟩ (fun _ _ _ _ _ _ _ => (pds_one (pds_set (ps_set (i := 3) sc_law_refused.nd rfl (by first | exact Or.inl rfl | exact Or.inr rfl) pd_str)))) (HdsOk.cons (ts := fun _ _ _ => TDs K W0 (wAsg 3 (wC (.s (.str "program"))))) ⟨rfl, by decide, .inl T.g_BadProgram⟩ (fun _ _ _ _ _ _ _ => (pds_one (pds_set (ps_set (i := 3) sc_law_refused.nd rfl (by first | exact Or.inl rfl | exact Or.inr rfl) pd_str)))) HdsOk.nil)))
  (pds_one (pds_ret (pd_var (pv 3))))))) hw
def w_law_deep_b1 (K : Frag) (cl : Ad) : SW :=
  (wAsg 1 (wTup (wCons (wTup (wCons (wC (.s (.str "if"))) (wCons (wTup (wCons (wC (.s (.str "unlike"))) (wCons (wC (.s (.int 0))) (wCons (wUn fNeg (wC (.s (.int 1)))) wNil)))) (wCons (wVar 1) (wCons (wTup (wCons (wTup (wCons (wC (.s (.str "new"))) (wCons (wC (.s (.int 0))) wNil))) wNil)) wNil))))) wNil)))
def w_law_deep (K : Frag) (cl : Ad) : SW :=
  (wSeq (wAsg 1 (wTup wNil))
  (wSeq (wFor (wRange1 (wCons (wVar 0) wNil)) (gwName 2) (w_law_deep_b1 K cl))
  (wRet (wVar 1))))
theorem ok_law_deep (T : Txt K mg cl) {k : Nat} {c : Ct} (hlen : ∀ rs Q E, c rs Q E → rs.length = P_law_deep.length)
    (hw : ∀ rs Q E, c rs Q E → w_law_deep K cl (rho N_law_deep.length rs) { nx := fun _ => Q (.s .none), rt := Q, er := fun cls _ => E cls }) :
    FnOk P wd K mg base (L2.CX P wd) (k + 1) cl.f_law_deep cl.d_law_deep P_law_deep (spD K c) :=
  fnD T.F_law_deep sc_law_deep hlen (fun cdv A outer s H E hr => by
  have tk := takes_of (X := cxOf (L2.CX P wd) P wd K mg base N_law_deep "_law_deep" (defScope s_law_deep) cl.f_law_deep cdv A outer s H E) rfl rfl rfl rfl
  exact (pds_cons (pds_set (ps_set (i := 1) sc_law_deep.nd rfl (by first | exact Or.inl rfl | exact Or.inr rfl) (pd_tup pda_nil)))
  (pds_cons (pds_for (ps_for (passes_of rfl) rfl (pif_range1 (pi_range1 (by rfl) T.n_range (pda_cons (pd_var (pv 0)) pda_nil))) (pgd_name (pg_name (i := 2) sc_law_deep.nd rfl (by first | exact Or.inl rfl | exact Or.inr rfl))) (pds_one (pds_set (ps_set (i := 1) sc_law_deep.nd rfl (by first | exact Or.inl rfl | exact Or.inr rfl) (pd_tup (pda_cons (pd_tup (pda_cons pd_str (pda_cons (pd_tup (pda_cons pd_str (pda_cons pd_int (pda_cons (pd_un o_neg pd_int) pda_nil)))) (pda_cons (pd_var (pv 1)) (pda_cons (pd_tup (pda_cons (pd_tup (pda_cons pd_str (pda_cons pd_int pda_nil))) pda_nil)) pda_nil))))) pda_nil)))))))
  (pds_one (pds_ret (pd_var (pv 1))))))) hw
theorem ok_law_pick (T : Txt K mg cl) : FnOk P wd K mg base (L2.CX P wd) 1 cl.f_law_pick cl.d_law_pick P_law_pick (spD K c_pick) := by
  have nd := sc_law_pick.nd
  refine T.F_law_pick.okX sc_law_pick (fun vs H Q E h => ?_) (fun cdv A outer s H vs Q E hr h => ?_)
  · obtain ⟨G, F', rs, Qd, Qe, _, _, h1, ⟨n, e, _⟩, _⟩ := h
    rw [h1.length, e]
    rfl
  obtain ⟨G, F', rs, Qd, Qe, sF, gok, ra, ⟨n, e, n0, n1, q⟩, ok, _⟩ := h
  rw [e] at ra
  obtain ⟨x, y, rfl, ⟨a0, c, rfl, rfl⟩, r2⟩ := ra.two
  cases r2.int
  obtain ⟨cells, s_, m_, d⟩ := DeckAt.of gok
  have fin : ∀ (H' : Hp) (cells' : List Int) (s' m' r : Int), DeckAt a0 c H' cells' s' m' → Same (hide (deckG a0 c) H) (hide (deckG a0 c) H') → 0 ≤ r → r < n → Q (.int r) H' := fun H' cells' s' m' r d' sh r0 r1 =>
    ok (.s (.int r)) (.int r) F' H' ⟨Same.refl _, sh, fun _ _ z _ => z⟩ (sF.trans sh) d'.ok (show Dp K F' (.int r) (.int r) from .int r) (q r r0 r1)
  -- if deck[1] < 10 ** 6 and cells != []: ..
  refine ⟨_, pss_cons (ps_set (i := 2) nd rfl (by first | exact Or.inl rfl | exact Or.inr rfl) (pe_ix ix_list (pv 0) pe_int (fun _ _ => rfl)))
    (pss_cons (ps_imp (t' := tPickA) (ps_if (PW.pt (pw_and (pt_cmpR op_lt (pe_ix ix_list (pv 0) pe_int (fun _ _ => rfl)) (pe_op op_pow pe_int pe_int) (nomark _)) (pw_and1 (pt_cmpR (op_neD hr.units) (pv 2) (pe_lst pa_nil) (nomark _)))))
        (pss_cons (ps_set (i := 3) nd rfl (by first | exact Or.inl rfl | exact Or.inr rfl) (pe_bm PySem.F.plainAttrs_list PySem.F.slot_list_pop PySem.F.type_list_pop mt_popAt (pv 2) (pa_cons pe_int pa_nil)))
          (pss_one (ps_if (pt_cmpR op_ge (pv 3) (pe_op op_pow pe_int pe_int) (nomark _))
            (pss_one (ps_asg (pv 3) (pg_sub (pv 0) pe_int set_list)))
            (pss_one (ps_asg (pe_op op_mod (pe_callTy call_int1 (by rfl) T.n_int (by decide +kernel) (pa_cons (pe_op op_add (pe_op op_add (pe_op op_mul (pe_ix ix_list (pv 0) pe_int (fun _ _ => rfl)) pe_int)
              (pe_op op_mul (pe_op op_mod (pe_callTy call_int1 (by rfl) T.n_int (by decide +kernel) (pa_cons (pv 3) pa_nil)) pe_int) pe_int)) pe_int) pa_nil)) pe_int) (pg_sub (pv 0) pe_int set_list))))))
        pss_nil) ?p1)
      (pss_cons (ps_if (pt_cmpR op_ge (pe_ix ix_list (pv 0) pe_int (fun _ _ => rfl)) (pe_op op_pow pe_int pe_int) (nomark _))
          (pss_cons (ps_set (i := 4) nd rfl (by first | exact Or.inl rfl | exact Or.inr rfl) (pe_op op_mod (pe_callTy call_int1 (by rfl) T.n_int (by decide +kernel) (pa_cons (pe_ix ix_list (pv 0) pe_int (fun _ _ => rfl)) pa_nil)) (pv 1)))
            (pss_cons (ps_asg (pe_op op_fdiv (pe_ix ix_list (pv 0) pe_int (fun _ _ => rfl)) (pv 1)) (pg_sub (pv 0) pe_int set_list)) (pss_one (ps_ret (pv 4)))))
          pss_nil)
        (pss_cons (ps_asg (pe_op op_mod (pe_callTy call_int1 (by rfl) T.n_int (by decide +kernel) (pa_cons (pe_op op_add (pe_op op_mul (pe_ix ix_list (pv 0) pe_int (fun _ _ => rfl)) pe_int) pe_int) pa_nil)) pe_int) (pg_sub (pv 0) pe_int set_list))
          (pss_one (ps_ret (pe_op op_mod (pe_callTy call_int1 (by rfl) T.n_int (by decide +kernel) (pa_cons (pe_op op_fdiv (pe_ix ix_list (pv 0) pe_int (fun _ _ => rfl)) pe_int) pa_nil)) (pv 1))))))), ?_⟩
  case p1 =>
    rintro D σ H1 ⟨a, c, n, cells, s, m, rfl, d, nx⟩
    have lt6 : ((10 : Int) ^ (6 : Int).toNat) = 1000000 := by decide
    have lt18 : ((10 : Int) ^ (18 : Int).toNat) = 1000000000000000000 := by decide
    refine ⟨_, rfl, a, _, 1, _, rfl, rfl, .inl (.inl d.h1), atI_nat (j := 1) rfl, _, _, rfl, rfl, by unfold CPow; decide, _, _, rfl, rfl, _, rfl, ?_⟩
    refine ite2 (fun _ => ?_) (fun _ => iteF (nx none H1 cells s m d (Same.refl _)))
    refine ⟨_, rfl, Nat.zero_le _, fun p hp => ?_⟩
    have d1 : DeckAt a c (upd H1 p (.lst [])) cells s m := d.new hp
    have sh1 : Same (hide (deckG a c) H1) (hide (deckG a c) (upd H1 p (.lst []))) := (Stp.new (G := deckG a c) (B := H1) hp).hh
    refine ⟨_, _, .lst (.inl (.inl d1.h2)) (DpAll.ints cells), .lst (.inl (.inl upd_same)) .nil, sh_ints cells, by decide, _, rfl, ?_⟩
    refine ite2 (fun he => ?_) (fun _ => nx none _ cells s m d1 sh1)
    cases cells with
    | nil => simp [PyData.eqv, PyData.eqvAll] at he
    | cons x cells =>
      have hx := d.h3 x List.mem_cons_self
      refine ⟨_, rfl, .inl ⟨rfl, _, .inl (.inl d1.h2)⟩, c, _, 0, 0, _, rfl, rfl, d1.h2, by decide, by decide, by simp [seqIndex?], rfl, ?_⟩
      have d2 := d1.pop
      have sh2 : Same (hide (deckG a c) H1) (hide (deckG a c) (upd (upd H1 p (.lst [])) c (.lst (cells.map V.int)))) := by rw [hide_ghost (by show c ∈ [a, c]; simp)]; exact sh1
      refine ⟨_, rfl, _, _, rfl, rfl, by unfold CPow; decide, _, _, rfl, rfl, _, rfl, ?_⟩
      refine ite2 (fun _ => ?_) (fun _ => ?_)
      · refine ⟨_, rfl, _, rfl, a, _, 1, 1, rfl, rfl, d2.h1, by simp [ixN], ?_⟩
        exact nx _ _ _ _ _ (d2.setS (s' := x) hx.1 hx.2) (by rw [hide_ghost (by show a ∈ [a, c]; simp)]; exact sh2)
      · refine ⟨_, rfl, a, _, 2, _, rfl, rfl, .inl (.inl d2.h1), atI_nat (j := 2) rfl, _, _, rfl, rfl, .inr (by decide), _, rfl, .inl ⟨_, rfl, _, _, rfl, rfl, (by show (0 : Int) < _; decide), _, _, rfl, rfl, .inr (by decide), _, _, rfl, rfl, _, _, rfl, rfl, .inl ⟨_, rfl, _, _, rfl, rfl, (by show (0 : Int) < _; decide), ?_⟩⟩⟩
        refine ⟨_, rfl, a, _, 2, 2, rfl, rfl, d2.h1, by simp [ixN], ?_⟩
        refine nx _ _ _ _ _ (d2.setM (Int.emod_nonneg _ (by decide)) ?_) (by rw [hide_ghost (by show a ∈ [a, c]; simp)]; exact sh2)
        exact Int.lt_trans (Int.emod_lt_of_pos _ (by decide)) (by decide)
  refine ⟨_, rfl, a0, _, 0, _, rfl, rfl, .inl (.inl d.h1), atI_nat (j := 0) rfl, ?_⟩
  refine ⟨a0, c, n, cells, s_, m_, rfl, d, fun v H1 cells1 s1 m1 d1 sh1 => ?_⟩
  refine ⟨_, rfl, a0, _, 1, _, rfl, rfl, .inl (.inl d1.h1), atI_nat (j := 1) rfl, _, _, rfl, rfl, by unfold CPow; decide, _, _, rfl, rfl, _, rfl, ?_⟩
  refine ite2 (fun _ => ?_) (fun _ => ?_)
  · refine ⟨_, rfl, a0, _, 1, _, rfl, rfl, .inl (.inl d1.h1), atI_nat (j := 1) rfl, .inl ⟨_, rfl, _, rfl, _, _, rfl, rfl, n0, ?_⟩⟩
    refine ⟨_, rfl, a0, _, 1, _, rfl, rfl, .inl (.inl d1.h1), atI_nat (j := 1) rfl, _, rfl, _, _, rfl, rfl, ⟨n0, n1⟩, ?_⟩
    refine ⟨_, rfl, a0, _, 1, 1, rfl, rfl, d1.h1, by simp [ixN], ?_⟩
    have q0 : 0 ≤ s1 / n := Int.ediv_nonneg d1.s0 (Int.le_of_lt n0)
    have q1 : s1 / n < 10 ^ 60 := Int.lt_of_le_of_lt (Int.ediv_le_self _ d1.s0) d1.s1
    exact ⟨_, rfl, fin _ _ _ _ _ (d1.setS q0 q1) (by rw [hide_ghost (by show a0 ∈ [a0, c]; simp)]; exact sh1) (Int.emod_nonneg _ (Int.ne_of_gt n0)) (Int.emod_lt_of_pos _ n0)⟩
  · refine ⟨_, rfl, a0, _, 2, _, rfl, rfl, .inl (.inl d1.h1), atI_nat (j := 2) rfl, _, _, rfl, rfl, .inr (by decide), _, _, rfl, rfl, .inl ⟨_, rfl, _, _, rfl, rfl, (by show (0 : Int) < _; decide), ?_⟩⟩
    refine ⟨_, rfl, a0, _, 2, 2, rfl, rfl, d1.h1, by simp [ixN], ?_⟩
    have d2 := d1.setM (m' := (m1 * 48271 + 11) % 2147483647) (Int.emod_nonneg _ (by decide)) (Int.emod_lt_of_pos _ (by decide))
    refine ⟨_, rfl, a0, _, 2, _, rfl, rfl, .inl (.inl d2.h1), atI_nat (j := 2) rfl, _, _, rfl, rfl, ⟨by decide, by decide⟩, .inl ⟨_, rfl, _, rfl, _, _, rfl, rfl, n0, ?_⟩⟩
    exact fin _ _ _ _ _ d2 (by rw [hide_ghost (by show a0 ∈ [a0, c]; simp)]; exact sh1) (Int.emod_nonneg _ (Int.ne_of_gt n0)) (Int.emod_lt_of_pos _ n0)

theorem ok_law_deck (T : Txt K mg cl) : FnOk P wd K mg base (L2.CX P wd) 1 cl.f_law_deck cl.d_law_deck P_law_deck (spDeck K) := by
  refine T.F_law_deck.okX sc_law_deck (fun vs H Q E h => ?_) (fun cdv A outer s H vs Q E hr h => ⟨_, ?_, deck_read h⟩)
  · obtain ⟨a, ns, rfl, _⟩ := h
    rfl
  · exact pss_one (ps_ret (pe_lst (pa_cons (pe_lc (own := [("cell", 1)]) (g := gName 1) (tt := tYes) rfl sc_law_deck.nd (pi_list (pe_slice sl_list (pv 0) po_none (po_some pe_int))) (blkOk_by (own := [("cell", 1)]) (N := N_law_deck) (sc := defScope s_law_deck) (by decide +kernel))
      (fun _ _ _ _ _ => pg_name (i := 1) sc_law_deck.nd rfl (by first | exact Or.inl rfl | exact Or.inr rfl)) (fun _ _ _ _ _ => pts_nil)
      (fun _ _ _ _ _ => pe_op op_mod (pe_callTy call_int1 (by rfl) T.n_int (by decide +kernel) (pa_cons (pv 1) pa_nil)) (pe_op op_pow pe_int pe_int))) (pa_cons pe_int (pa_cons pe_int pa_nil)))))
def w_law_b1 (K : Frag) (cl : Ad) (c_is_step c_is_condition c_is_program c_is_straight c_size c_law_pick c_law_same c_law_condition c_law_size c_law_program c_law_bad_parts c_law_refused c_law_deep : Ct) : SW :=
  (wIfS (wNotT (wTst (wCall c_law_same (wCons (wFrz (wCall c_is_step (wCons (wVar 3) (wCons (wVar 5) wNil)))) (wCons (wOp fNe (wOp fIx (wVar 5) (wC (.s (.int 0)))) (wC (.s (.str "if")))) wNil)))))
  (wRet (wC (.s (.bool false))))
  wNext)
def w_law_b2 (K : Frag) (cl : Ad) (c_is_step c_is_condition c_is_program c_is_straight c_size c_law_pick c_law_same c_law_condition c_law_size c_law_program c_law_bad_parts c_law_refused c_law_deep : Ct) : SW :=
  (wIfS (wOrT (wTst (wOp (fIs true) (wCall c_is_program (wCons (wVar 3) (wCons (wVar 9) wNil))) (wC (.s (.bool false))))) (wTst (wOp fNe (wLc (wRange1 (wCons (wC (.s (.int 2))) wNil)) false [10] [10] wYes (wFrz (wCall c_law_refused (wCons (wVar 10) (wCons (wVar 3) (wCons (wVar 9) wNil)))))) (wLst (wCons (wC (.s (.str "program"))) (wCons (wC (.s (.str "program"))) wNil))))))
  (wRet (wC (.s (.bool false))))
  wNext)
def w_law_t3 (K : Frag) (cl : Ad) (c_is_step c_is_condition c_is_program c_is_straight c_size c_law_pick c_law_same c_law_condition c_law_size c_law_program c_law_bad_parts c_law_refused c_law_deep : Ct) : SW :=
  (wIfS (wOrT (wTst (wOp fNe (wLc (wRange1 (wCons (wC (.s (.int 2))) wNil)) false [10] [10] wYes (wFrz (wCall c_law_refused (wCons (wVar 10) (wCons (wC (.s (.int 5))) (wCons (wC (.s .none)) wNil)))))) (wLst (wCons (wC (.s (.str "many"))) (wCons (wC (.s (.str "many"))) wNil))))) (wTst (wOp (fIs true) (wCall c_is_program (wCons (wC (.s (.int 0))) (wCons (wTup wNil) wNil))) (wC (.s (.bool true))))))
  (wRet (wC (.s (.bool false))))
  wNext)
def w_law_t4 (K : Frag) (cl : Ad) (c_is_step c_is_condition c_is_program c_is_straight c_size c_law_pick c_law_same c_law_condition c_law_size c_law_program c_law_bad_parts c_law_refused c_law_deep : Ct) : SW :=
  (wSeq (wIfS (wOrT (wTst (wOp (fIs true) (wCall c_is_program (wCons (wVar 3) (wCons (wFrz (wCall c_law_deep (wCons (wC (.s (.int 5))) wNil))) wNil))) (wC (.s (.bool false))))) (wTst (wOp fNe (wCall c_is_program (wCons (wVar 3) (wCons (wTup (wCons (wTup (wCons (wC (.s (.str "if"))) (wCons (wVar 11) (wCons (wFrz (wOp fMul (wTup (wCons (wTup (wCons (wC (.s (.str "free"))) (wCons (wC (.s (.int 0))) wNil))) wNil)) (wOp fSub (wVar 12) (wC (.s (.int 1)))))) (wCons (wTup wNil) wNil))))) wNil)) wNil))) (wOp fLt (wVar 12) (wC (.s (.int 25)))))))
  (wRet (wC (.s (.bool false))))
  wNext)
  (w_law_t3 K cl c_is_step c_is_condition c_is_program c_is_straight c_size c_law_pick c_law_same c_law_condition c_law_size c_law_program c_law_bad_parts c_law_refused c_law_deep))
def w_law_t5 (K : Frag) (cl : Ad) (c_is_step c_is_condition c_is_program c_is_straight c_size c_law_pick c_law_same c_law_condition c_law_size c_law_program c_law_bad_parts c_law_refused c_law_deep : Ct) : SW :=
  (wSeq (wIfS (wOrT (wTst (wOp fNe (wCall c_is_program (wCons (wVar 3) (wCons (wFrz (wOp fMul (wTup (wCons (wTup (wCons (wC (.s (.str "new"))) (wCons (wC (.s (.int 0))) wNil))) wNil)) (wVar 12))) wNil))) (wOp fLt (wVar 12) (wC (.s (.int 25)))))) (wTst (wOp (fIs true) (wCall c_is_program (wCons (wVar 3) (wCons (wFrz (wCall c_law_deep (wCons (wFrz (wOp fAdd (wC (.s (.int 3))) (wCall c_law_pick (wCons (wVar 1) (wCons (wC (.s (.int 2))) wNil))))) wNil))) wNil))) (wC (.s (.bool true))))))
  (wRet (wC (.s (.bool false))))
  wNext)
  (w_law_t4 K cl c_is_step c_is_condition c_is_program c_is_straight c_size c_law_pick c_law_same c_law_condition c_law_size c_law_program c_law_bad_parts c_law_refused c_law_deep))
def w_law_t6 (K : Frag) (cl : Ad) (c_is_step c_is_condition c_is_program c_is_straight c_size c_law_pick c_law_same c_law_condition c_law_size c_law_program c_law_bad_parts c_law_refused c_law_deep : Ct) : SW :=
  (wSeq (wAsg 12 (wOp fAdd (wC (.s (.int 23))) (wCall c_law_pick (wCons (wVar 1) (wCons (wC (.s (.int 3))) wNil)))))
  (w_law_t5 K cl c_is_step c_is_condition c_is_program c_is_straight c_size c_law_pick c_law_same c_law_condition c_law_size c_law_program c_law_bad_parts c_law_refused c_law_deep))
def w_law_t7 (K : Frag) (cl : Ad) (c_is_step c_is_condition c_is_program c_is_straight c_size c_law_pick c_law_same c_law_condition c_law_size c_law_program c_law_bad_parts c_law_refused c_law_deep : Ct) : SW :=
  (wSeq (wIfS (wOrT (wTst (wOp (fIs true) (wCall c_is_condition (wCons (wVar 3) (wCons (wVar 11) wNil))) (wC (.s (.bool true))))) (wTst (wOp (fIs true) (wCall c_is_condition (wCons (wVar 3) (wCons (wFrz (wCall1 fList (wCons (wVar 11) wNil))) wNil))) (wC (.s (.bool false))))))
  (wRet (wC (.s (.bool false))))
  wNext)
  (w_law_t6 K cl c_is_step c_is_condition c_is_program c_is_straight c_size c_law_pick c_law_same c_law_condition c_law_size c_law_program c_law_bad_parts c_law_refused c_law_deep))
def w_law_t8 (K : Frag) (cl : Ad) (c_is_step c_is_condition c_is_program c_is_straight c_size c_law_pick c_law_same c_law_condition c_law_size c_law_program c_law_bad_parts c_law_refused c_law_deep : Ct) : SW :=
  (wSeq (wAsg 11 (wCall c_law_condition (wCons (wVar 1) (wCons (wVar 3) wNil))))
  (w_law_t7 K cl c_is_step c_is_condition c_is_program c_is_straight c_size c_law_pick c_law_same c_law_condition c_law_size c_law_program c_law_bad_parts c_law_refused c_law_deep))
def w_law_t9 (K : Frag) (cl : Ad) (c_is_step c_is_condition c_is_program c_is_straight c_size c_law_pick c_law_same c_law_condition c_law_size c_law_program c_law_bad_parts c_law_refused c_law_deep : Ct) : SW :=
  (wSeq (wIfS (wOrT (wTst (wOp (fIs true) (wCall c_is_step (wCons (wVar 3) (wCons (wVar 8) wNil))) (wC (.s (.bool false))))) (wTst (wOp (fIs true) (wCall c_is_condition (wCons (wVar 3) (wCons (wTup (wCons (wC (.s (.str "same"))) (wCons (wC (.s (.int 0))) (wCons (wVar 3) wNil)))) wNil))) (wC (.s (.bool false))))))
  (wRet (wC (.s (.bool false))))
  wNext)
  (w_law_t8 K cl c_is_step c_is_condition c_is_program c_is_straight c_size c_law_pick c_law_same c_law_condition c_law_size c_law_program c_law_bad_parts c_law_refused c_law_deep))
def w_law_t10 (K : Frag) (cl : Ad) (c_is_step c_is_condition c_is_program c_is_straight c_size c_law_pick c_law_same c_law_condition c_law_size c_law_program c_law_bad_parts c_law_refused c_law_deep : Ct) : SW :=
  (wSeq (wFor (wSeqF (wTup (wCons (wFrz (wOp fAdd (wOp fAdd (wSl (wVar 4) wONone (wOSome (wVar 6))) (wTup (wCons (wVar 8) wNil))) (wSl (wVar 4) (wOSome (wVar 6)) wONone))) (wCons (wFrz (wCall1 fList (wCons (wVar 4) wNil))) (wCons (wTup (wCons (wTup (wCons (wC (.s (.str "if"))) (wCons (wTup (wCons (wC (.s (.str "same"))) (wCons (wC (.s (.int 0))) (wCons (wC (.s (.int 0))) wNil)))) (wCons (wTup (wCons (wVar 8) wNil)) (wCons (wTup wNil) wNil))))) wNil)) wNil))))) (gwName 9) (w_law_b2 K cl c_is_step c_is_condition c_is_program c_is_straight c_size c_law_pick c_law_same c_law_condition c_law_size c_law_program c_law_bad_parts c_law_refused c_law_deep))
  (w_law_t9 K cl c_is_step c_is_condition c_is_program c_is_straight c_size c_law_pick c_law_same c_law_condition c_law_size c_law_program c_law_bad_parts c_law_refused c_law_deep))
def w_law_t11 (K : Frag) (cl : Ad) (c_is_step c_is_condition c_is_program c_is_straight c_size c_law_pick c_law_same c_law_condition c_law_size c_law_program c_law_bad_parts c_law_refused c_law_deep : Ct) : SW :=
  (wSeq (wAsg 8 (wOp fIx (wVar 7) (wCall c_law_pick (wCons (wVar 1) (wCons (wCall1 fLen (wCons (wVar 7) wNil)) wNil)))))
  (w_law_t10 K cl c_is_step c_is_condition c_is_program c_is_straight c_size c_law_pick c_law_same c_law_condition c_law_size c_law_program c_law_bad_parts c_law_refused c_law_deep))
def w_law_t12 (K : Frag) (cl : Ad) (c_is_step c_is_condition c_is_program c_is_straight c_size c_law_pick c_law_same c_law_condition c_law_size c_law_program c_law_bad_parts c_law_refused c_law_deep : Ct) : SW :=
  (wSeq (wPar 6 7 (wCall c_law_pick (wCons (wVar 1) (wCons (wFrz (wOp fAdd (wCall1 fLen (wCons (wVar 4) wNil)) (wC (.s (.int 1))))) wNil))) (wCall c_law_bad_parts (wCons (wVar 3) wNil)))
  (w_law_t11 K cl c_is_step c_is_condition c_is_program c_is_straight c_size c_law_pick c_law_same c_law_condition c_law_size c_law_program c_law_bad_parts c_law_refused c_law_deep))
def w_law_t13 (K : Frag) (cl : Ad) (c_is_step c_is_condition c_is_program c_is_straight c_size c_law_pick c_law_same c_law_condition c_law_size c_law_program c_law_bad_parts c_law_refused c_law_deep : Ct) : SW :=
  (wSeq (wFor (wSeqF (wVar 4)) (gwName 5) (w_law_b1 K cl c_is_step c_is_condition c_is_program c_is_straight c_size c_law_pick c_law_same c_law_condition c_law_size c_law_program c_law_bad_parts c_law_refused c_law_deep))
  (w_law_t12 K cl c_is_step c_is_condition c_is_program c_is_straight c_size c_law_pick c_law_same c_law_condition c_law_size c_law_program c_law_bad_parts c_law_refused c_law_deep))
def w_law_t14 (K : Frag) (cl : Ad) (c_is_step c_is_condition c_is_program c_is_straight c_size c_law_pick c_law_same c_law_condition c_law_size c_law_program c_law_bad_parts c_law_refused c_law_deep : Ct) : SW :=
  (wSeq (wIfS (wNotT (wTst (wCall c_law_same (wCons (wFrz (wCall c_is_straight (wCons (wVar 3) (wCons (wVar 4) wNil)))) (wCons (wOp fEq (wLc (wSeqC (wVar 4)) false [5] [5] (wTst (wOp fEq (wOp fIx (wVar 5) (wC (.s (.int 0)))) (wC (.s (.str "if"))))) (wVar 5)) (wLst wNil)) wNil)))))
  (wRet (wC (.s (.bool false))))
  wNext)
  (w_law_t13 K cl c_is_step c_is_condition c_is_program c_is_straight c_size c_law_pick c_law_same c_law_condition c_law_size c_law_program c_law_bad_parts c_law_refused c_law_deep))
def w_law_t15 (K : Frag) (cl : Ad) (c_is_step c_is_condition c_is_program c_is_straight c_size c_law_pick c_law_same c_law_condition c_law_size c_law_program c_law_bad_parts c_law_refused c_law_deep : Ct) : SW :=
  (wSeq (wIfS (wOrT (wTst (wOp (fIs true) (wCall c_is_program (wCons (wVar 3) (wCons (wVar 4) wNil))) (wC (.s (.bool true))))) (wNotT (wTst (wCall c_law_same (wCons (wFrz (wCall c_size (wCons (wVar 3) (wCons (wVar 4) wNil)))) (wCons (wFrz (wCall c_law_size (wCons (wVar 4) wNil))) wNil))))))
  (wRet (wC (.s (.bool false))))
  wNext)
  (w_law_t14 K cl c_is_step c_is_condition c_is_program c_is_straight c_size c_law_pick c_law_same c_law_condition c_law_size c_law_program c_law_bad_parts c_law_refused c_law_deep))
def w_law_t16 (K : Frag) (cl : Ad) (c_is_step c_is_condition c_is_program c_is_straight c_size c_law_pick c_law_same c_law_condition c_law_size c_law_program c_law_bad_parts c_law_refused c_law_deep : Ct) : SW :=
  (wSeq (wAsg 4 (wCall c_law_program (wCons (wVar 1) (wCons (wVar 3) (wCons (wC (.s (.int 12))) (wCons (wC (.s (.int 3))) wNil))))))
  (w_law_t15 K cl c_is_step c_is_condition c_is_program c_is_straight c_size c_law_pick c_law_same c_law_condition c_law_size c_law_program c_law_bad_parts c_law_refused c_law_deep))
def w_law_b17 (K : Frag) (cl : Ad) (c_is_step c_is_condition c_is_program c_is_straight c_size c_law_pick c_law_same c_law_condition c_law_size c_law_program c_law_bad_parts c_law_refused c_law_deep : Ct) : SW :=
  (wSeq (wAsg 3 (wOp fAdd (wC (.s (.int 1))) (wCall c_law_pick (wCons (wVar 1) (wCons (wC (.s (.int 4))) wNil)))))
  (w_law_t16 K cl c_is_step c_is_condition c_is_program c_is_straight c_size c_law_pick c_law_same c_law_condition c_law_size c_law_program c_law_bad_parts c_law_refused c_law_deep))
def w_law (K : Frag) (cl : Ad) (c_is_step c_is_condition c_is_program c_is_straight c_size c_law_pick c_law_same c_law_condition c_law_size c_law_program c_law_bad_parts c_law_refused c_law_deep : Ct) : SW :=
  (wSeq (wFor (wRange1 (wCons (wOp fAdd (wC (.s (.int 1))) (wCall1 fMin2 (wCons (wCall1 fLen (wCons (wVar 0) wNil)) (wCons (wC (.s (.int 6))) wNil)))) wNil)) (gwName 2) (w_law_b17 K cl c_is_step c_is_condition c_is_program c_is_straight c_size c_law_pick c_law_same c_law_condition c_law_size c_law_program c_law_bad_parts c_law_refused c_law_deep))
  (wRet (wC (.s (.bool true)))))
theorem ok_law (T : Txt K mg cl) {k : Nat} (h1 : 1 ≤ k) {j_is_step : Nat} {c_is_step : Ct} (G_is_step : FnOk P wd K mg base (L2.CX P wd) j_is_step cl.f_is_step cl.d_is_step P_is_step (spD K c_is_step)) (h_is_step : j_is_step ≤ k) {j_is_condition : Nat} {c_is_condition : Ct} (G_is_condition : FnOk P wd K mg base (L2.CX P wd) j_is_condition cl.f_is_condition cl.d_is_condition P_is_condition (spD K c_is_condition)) (h_is_condition : j_is_condition ≤ k) {j_is_program : Nat} {c_is_program : Ct} (G_is_program : FnOk P wd K mg base (L2.CX P wd) j_is_program cl.f_is_program cl.d_is_program P_is_program (spD K c_is_program)) (h_is_program : j_is_program ≤ k) {j_is_straight : Nat} {c_is_straight : Ct} (G_is_straight : FnOk P wd K mg base (L2.CX P wd) j_is_straight cl.f_is_straight cl.d_is_straight P_is_straight (spD K c_is_straight)) (h_is_straight : j_is_straight ≤ k) {j_size : Nat} {c_size : Ct} (G_size : FnOk P wd K mg base (L2.CX P wd) j_size cl.f_size cl.d_size P_size (spD K c_size)) (h_size : j_size ≤ k) {j_law_pick : Nat} {c_law_pick : Ct} (G_law_pick : FnOk P wd K mg base (L2.CX P wd) j_law_pick cl.f_law_pick cl.d_law_pick P_law_pick (spD K c_law_pick)) (h_law_pick : j_law_pick ≤ k) {j_law_same : Nat} {c_law_same : Ct} (G_law_same : FnOk P wd K mg base (L2.CX P wd) j_law_same cl.f_law_same cl.d_law_same P_law_same (spD K c_law_same)) (h_law_same : j_law_same ≤ k) {j_law_condition : Nat} {c_law_condition : Ct} (G_law_condition : FnOk P wd K mg base (L2.CX P wd) j_law_condition cl.f_law_condition cl.d_law_condition P_law_condition (spD K c_law_condition)) (h_law_condition : j_law_condition ≤ k) {j_law_size : Nat} {c_law_size : Ct} (G_law_size : FnOk P wd K mg base (L2.CX P wd) j_law_size cl.f_law_size cl.d_law_size P_law_size (spD K c_law_size)) (h_law_size : j_law_size ≤ k) {j_law_program : Nat} {c_law_program : Ct} (G_law_program : FnOk P wd K mg base (L2.CX P wd) j_law_program cl.f_law_program cl.d_law_program P_law_program (spD K c_law_program)) (h_law_program : j_law_program ≤ k) {j_law_bad_parts : Nat} {c_law_bad_parts : Ct} (G_law_bad_parts : FnOk P wd K mg base (L2.CX P wd) j_law_bad_parts cl.f_law_bad_parts cl.d_law_bad_parts P_law_bad_parts (spD K c_law_bad_parts)) (h_law_bad_parts : j_law_bad_parts ≤ k) {j_law_refused : Nat} {c_law_refused : Ct} (G_law_refused : FnOk P wd K mg base (L2.CX P wd) j_law_refused cl.f_law_refused cl.d_law_refused P_law_refused (spD K c_law_refused)) (h_law_refused : j_law_refused ≤ k) {j_law_deep : Nat} {c_law_deep : Ct} (G_law_deep : FnOk P wd K mg base (L2.CX P wd) j_law_deep cl.f_law_deep cl.d_law_deep P_law_deep (spD K c_law_deep)) (h_law_deep : j_law_deep ≤ k)
    (hw : ∀ ns : List Int, ns.length ≤ 63 → w_law K cl c_is_step c_is_condition c_is_program c_is_straight c_size c_law_pick c_law_same c_law_condition c_law_size c_law_program c_law_bad_parts c_law_refused c_law_deep (some (.s (.list (ns.map PyData.int))) :: some .g :: List.replicate (N_law.length - 2) none) { nx := fun _ => False, rt := fun r => r = .s (.bool true) }) :
    FnOk P wd K mg base CX0 (k + 1) cl.f_law cl.d_law P_law (spLaw K) := by
  refine T.F_law.ok sc_law (fun vs H Q E h => ?_) (fun cdv A outer s H vs Q E hr h => ⟨_, ?_, law_read (N := N_law) (by decide) h hw⟩)
  · obtain ⟨a, ns, rfl, _⟩ := h
    rfl
  · have GD := ok_law_deck (P := P) (wd := wd) (base := base) T
    exact pss_cons (ps_set (i := 1) sc_law.nd rfl (by first | exact Or.inl rfl | exact Or.inr rfl) (pe_callS GD (hr.mono h1) (by rfl) T.m_law_deck T.F_law_deck.kp T.b_law_deck (fun σ => passAt takes0 σ) (pa_cons (pv 0) pa_nil)))
        (pds_cons (pds_for (ps_for PassesOwn.never rfl (pif_range1 (pi_range1 (by rfl) T.n_range (pda_cons (pd_op o_add pd_int (call_core (t := fun _ _ _ => True) (pe_callB (c_min2 rfl) (by rfl) T.n_min (by decide +kernel) (pda_cons (call_core (t := fun _ _ _ => True) (pe_callB c_len (by rfl) T.n_len (by decide +kernel) (pda_cons (pd_var (pv 0)) pda_nil))) (pda_cons pd_int pda_nil))))) pda_nil))) (pgd_name (pg_name (i := 2) sc_law.nd rfl (by first | exact Or.inl rfl | exact Or.inr rfl))) (pds_cons (pds_set (ps_set (i := 3) sc_law.nd rfl (by first | exact Or.inl rfl | exact Or.inr rfl) (pd_op o_add pd_int (pd_call (pe_callS G_law_pick (hr.mono h_law_pick) (by rfl) T.m_law_pick T.F_law_pick.kp T.b_law_pick (fun σ => passAt takes0 σ) (pda_cons (pd_var (pv 1)) (pda_cons pd_int pda_nil)))))))
          (pds_cons (pds_set (ps_set (i := 4) sc_law.nd rfl (by first | exact Or.inl rfl | exact Or.inr rfl) (pd_call (pe_callS G_law_program (hr.mono h_law_program) (by rfl) T.m_law_program T.F_law_program.kp T.b_law_program (fun σ => passAt takes0 σ) (pda_cons (pd_var (pv 1)) (pda_cons (pd_var (pv 3)) (pda_cons pd_int (pda_cons pd_int pda_nil))))))))
          (pds_cons (pds_if (pdt_w (pdw_or (pdt_cmp o_isNot (pd_call (pe_callS G_is_program (hr.mono h_is_program) (by rfl) T.m_is_program T.F_is_program.kp T.b_is_program (fun σ => passAt takes0 σ) (pda_cons (pd_var (pv 3)) (pda_cons (pd_var (pv 4)) pda_nil)))) pd_bl (nomark _)) (pdw_or1 (pdt_not (pdt_val (pd_call (pe_callS G_law_same (hr.mono h_law_same) (by rfl) T.m_law_same T.F_law_same.kp T.b_law_same (fun σ => passAt takes0 σ) (pda_cons (pd_frz (pd_call (pe_callS G_size (hr.mono h_size) (by rfl) T.m_size T.F_size.kp T.b_size (fun σ => passAt takes0 σ) (pda_cons (pd_var (pv 3)) (pda_cons (pd_var (pv 4)) pda_nil))))) (pda_cons (pd_frz (pd_call (pe_callS G_law_size (hr.mono h_law_size) (by rfl) T.m_law_size T.F_law_size.kp T.b_law_size (fun σ => passAt takes0 σ) (pda_cons (pd_var (pv 4)) pda_nil)))) pda_nil)))))))))
          (pds_one (pds_ret pd_bl))
          pds_nil)
          (pds_cons (pds_if (pdt_not (pdt_val (pd_call (pe_callS G_law_same (hr.mono h_law_same) (by rfl) T.m_law_same T.F_law_same.kp T.b_law_same (fun σ => passAt takes0 σ) (pda_cons (pd_frz (pd_call (pe_callS G_is_straight (hr.mono h_is_straight) (by rfl) T.m_is_straight T.F_is_straight.kp T.b_is_straight (fun σ => passAt takes0 σ) (pda_cons (pd_var (pv 3)) (pda_cons (pd_var (pv 4)) pda_nil))))) (pda_cons (pd_cmp (o_eq hr.units) (pd_lc (tup := false) (is := [5]) (pe_lc (own := [("part", 5)]) (g := gC K false [5]) rfl sc_law.nd (pic_seq (pd_var (pv 4))) (blkOk_by (own := [("part", 5)]) (N := N_law) (sc := defScope s_law) (by decide +kernel)) (fun _ _ _ _ _ => (pg_name (i := 5) sc_law.nd rfl (by first | exact Or.inl rfl | exact Or.inr rfl))) (fun _ _ _ _ _ => (pdts_one (pdt_cmp (o_eq hr.units) (pd_ix o_ix (pd_var (pv 5)) pd_int (fun _ _ => rfl)) pd_str (nomark _)))) (fun _ _ _ _ _ => (pd_var (pv 5)))) (by decide) (by first | exact Or.inl rfl | exact Or.inr ⟨_, rfl⟩)) (pd_lst pda_nil) (nomark _)) pda_nil))))))
          (pds_one (pds_ret pd_bl))
          pds_nil)
          (pds_cons (pds_for (ps_for PassesOwn.never rfl (pif_seq (pd_var (pv 4))) (pgd_name (pg_name (i := 5) sc_law.nd rfl (by first | exact Or.inl rfl | exact Or.inr rfl))) (pds_one (pds_if (pdt_not (pdt_val (pd_call (pe_callS G_law_same (hr.mono h_law_same) (by rfl) T.m_law_same T.F_law_same.kp T.b_law_same (fun σ => passAt takes0 σ) (pda_cons (pd_frz (pd_call (pe_callS G_is_step (hr.mono h_is_step) (by rfl) T.m_is_step T.F_is_step.kp T.b_is_step (fun σ => passAt takes0 σ) (pda_cons (pd_var (pv 3)) (pda_cons (pd_var (pv 5)) pda_nil))))) (pda_cons (pd_cmp (o_ne hr.units) (pd_ix o_ix (pd_var (pv 5)) pd_int (fun _ _ => rfl)) pd_str (nomark _)) pda_nil))))))
          (pds_one (pds_ret pd_bl))
          pds_nil))))
          (pds_cons (pds_par (i := 6) (j := 7) (ps_par rfl sc_law.nd rfl rfl (by decide) rfl rfl (pda_cons (pd_call (pe_callS G_law_pick (hr.mono h_law_pick) (by rfl) T.m_law_pick T.F_law_pick.kp T.b_law_pick (fun σ => passAt takes0 σ) (pda_cons (pd_var (pv 1)) (pda_cons (pd_frz (pd_op o_add (call_core (t := fun _ _ _ => True) (pe_callB c_len (by rfl) T.n_len (by decide +kernel) (pda_cons (pd_var (pv 4)) pda_nil))) pd_int)) pda_nil)))) (pda_cons (pd_call (pe_callS G_law_bad_parts (hr.mono h_law_bad_parts) (by rfl) T.m_law_bad_parts T.F_law_bad_parts.kp T.b_law_bad_parts (fun σ => passAt takes0 σ) (pda_cons (pd_var (pv 3)) pda_nil))) pda_nil)) (by rfl)))
          (pds_cons (pds_set (ps_set (i := 8) sc_law.nd rfl (by first | exact Or.inl rfl | exact Or.inr rfl) (pd_ix o_ix (pd_var (pv 7)) (pd_call (pe_callS G_law_pick (hr.mono h_law_pick) (by rfl) T.m_law_pick T.F_law_pick.kp T.b_law_pick (fun σ => passAt takes0 σ) (pda_cons (pd_var (pv 1)) (pda_cons (call_core (t := fun _ _ _ => True) (pe_callB c_len (by rfl) T.n_len (by decide +kernel) (pda_cons (pd_var (pv 7)) pda_nil))) pda_nil)))) (fun _ _ => rfl))))
          (pds_cons (pds_for (ps_for PassesOwn.never rfl (pif_seq (pd_tup (pda_cons (pd_frz (pd_op o_add (pd_op o_add (pd_sl (pe_slice o_sl (pd_var (pv 4)) pdo_none (pdo_some (pd_var (pv 6))))) (pd_tup (pda_cons (pd_var (pv 8)) pda_nil))) (pd_sl (pe_slice o_sl (pd_var (pv 4)) (pdo_some (pd_var (pv 6))) pdo_none)))) (pda_cons (pd_frz (call_core (t := fun _ _ _ => True) (pe_callTy c_list (by rfl) T.n_list (by decide +kernel) (pda_cons (pd_var (pv 4)) pda_nil)))) (pda_cons (pd_tup (pda_cons (pd_tup (pda_cons pd_str (pda_cons (pd_tup (pda_cons pd_str (pda_cons pd_int (pda_cons pd_int pda_nil)))) (pda_cons (pd_tup (pda_cons (pd_var (pv 8)) pda_nil)) (pda_cons (pd_tup pda_nil) pda_nil))))) pda_nil)) pda_nil))))) (pgd_name (pg_name (i := 9) sc_law.nd rfl (by first | exact Or.inl rfl | exact Or.inr rfl))) (pds_one (pds_if (pdt_w (pdw_or (pdt_cmp o_isNot (pd_call (pe_callS G_is_program (hr.mono h_is_program) (by rfl) T.m_is_program T.F_is_program.kp T.b_is_program (fun σ => passAt takes0 σ) (pda_cons (pd_var (pv 3)) (pda_cons (pd_var (pv 9)) pda_nil)))) pd_bl (nomark _)) (pdw_or1 (pdt_cmp (o_ne hr.units) (pd_lc (tup := false) (is := [10]) (pe_lc (own := [("which", 10)]) (g := gC K false [10]) rfl sc_law.nd (pic_range1 (pi_range1 (by rfl) T.n_range (pda_cons pd_int pda_nil))) (blkOk_by (own := [("which", 10)]) (N := N_law) (sc := defScope s_law) (by decide +kernel)) (fun _ _ _ _ _ => (pg_name (i := 10) sc_law.nd rfl (by first | exact Or.inl rfl | exact Or.inr rfl))) (fun _ _ _ _ _ => pdts_nil) (fun _ _ _ _ _ => (pd_frz (pd_call (pe_callS G_law_refused (hr.mono h_law_refused) (by rfl) T.m_law_refused T.F_law_refused.kp T.b_law_refused (fun σ => passAt takes0 σ) (pda_cons (pd_var (pv 10)) (pda_cons (pd_var (pv 3)) (pda_cons (pd_var (pv 9)) pda_nil)))))))) (by decide) (by first | exact Or.inl rfl | exact Or.inr ⟨_, rfl⟩)) (pd_lst (pda_cons pd_str (pda_cons pd_str pda_nil))) (nomark _)))))
          (pds_one (pds_ret pd_bl))
          pds_nil))))
          (pds_cons (pds_if (pdt_w (pdw_or (pdt_cmp o_isNot (pd_call (pe_callS G_is_step (hr.mono h_is_step) (by rfl) T.m_is_step T.F_is_step.kp T.b_is_step (fun σ => passAt takes0 σ) (pda_cons (pd_var (pv 3)) (pda_cons (pd_var (pv 8)) pda_nil)))) pd_bl (nomark _)) (pdw_or1 (pdt_cmp o_isNot (pd_call (pe_callS G_is_condition (hr.mono h_is_condition) (by rfl) T.m_is_condition T.F_is_condition.kp T.b_is_condition (fun σ => passAt takes0 σ) (pda_cons (pd_var (pv 3)) (pda_cons (pd_tup (pda_cons pd_str (pda_cons pd_int (pda_cons (pd_var (pv 3)) pda_nil)))) pda_nil)))) pd_bl (nomark _)))))
          (pds_one (pds_ret pd_bl))
          pds_nil)
          (pds_cons (pds_set (ps_set (i := 11) sc_law.nd rfl (by first | exact Or.inl rfl | exact Or.inr rfl) (pd_call (pe_callS G_law_condition (hr.mono h_law_condition) (by rfl) T.m_law_condition T.F_law_condition.kp T.b_law_condition (fun σ => passAt takes0 σ) (pda_cons (pd_var (pv 1)) (pda_cons (pd_var (pv 3)) pda_nil))))))
          (pds_cons (pds_if (pdt_w (pdw_or (pdt_cmp o_isNot (pd_call (pe_callS G_is_condition (hr.mono h_is_condition) (by rfl) T.m_is_condition T.F_is_condition.kp T.b_is_condition (fun σ => passAt takes0 σ) (pda_cons (pd_var (pv 3)) (pda_cons (pd_var (pv 11)) pda_nil)))) pd_bl (nomark _)) (pdw_or1 (pdt_cmp o_isNot (pd_call (pe_callS G_is_condition (hr.mono h_is_condition) (by rfl) T.m_is_condition T.F_is_condition.kp T.b_is_condition (fun σ => passAt takes0 σ) (pda_cons (pd_var (pv 3)) (pda_cons (pd_frz (call_core (t := fun _ _ _ => True) (pe_callTy c_list (by rfl) T.n_list (by decide +kernel) (pda_cons (pd_var (pv 11)) pda_nil)))) pda_nil)))) pd_bl (nomark _)))))
          (pds_one (pds_ret pd_bl))
          pds_nil)
          (pds_cons (pds_set (ps_set (i := 12) sc_law.nd rfl (by first | exact Or.inl rfl | exact Or.inr rfl) (pd_op o_add pd_int (pd_call (pe_callS G_law_pick (hr.mono h_law_pick) (by rfl) T.m_law_pick T.F_law_pick.kp T.b_law_pick (fun σ => passAt takes0 σ) (pda_cons (pd_var (pv 1)) (pda_cons pd_int pda_nil)))))))
          (pds_cons (pds_if (pdt_w (pdw_or (pdt_cmp (o_ne hr.units) (pd_call (pe_callS G_is_program (hr.mono h_is_program) (by rfl) T.m_is_program T.F_is_program.kp T.b_is_program (fun σ => passAt takes0 σ) (pda_cons (pd_var (pv 3)) (pda_cons (pd_frz (pd_op o_mul (pd_tup (pda_cons (pd_tup (pda_cons pd_str (pda_cons pd_int pda_nil))) pda_nil)) (pd_var (pv 12)))) pda_nil)))) (pd_cmp (o_lt hr.units0) (pd_var (pv 12)) pd_int (nomark _)) (nomark _)) (pdw_or1 (pdt_cmp o_isNot (pd_call (pe_callS G_is_program (hr.mono h_is_program) (by rfl) T.m_is_program T.F_is_program.kp T.b_is_program (fun σ => passAt takes0 σ) (pda_cons (pd_var (pv 3)) (pda_cons (pd_frz (pd_call (pe_callS G_law_deep (hr.mono h_law_deep) (by rfl) T.m_law_deep T.F_law_deep.kp T.b_law_deep (fun σ => passAt takes0 σ) (pda_cons (pd_frz (pd_op o_add pd_int (pd_call (pe_callS G_law_pick (hr.mono h_law_pick) (by rfl) T.m_law_pick T.F_law_pick.kp T.b_law_pick (fun σ => passAt takes0 σ) (pda_cons (pd_var (pv 1)) (pda_cons pd_int pda_nil)))))) pda_nil)))) pda_nil)))) pd_bl (nomark _)))))
          (pds_one (pds_ret pd_bl))
          pds_nil)
          (pds_cons (pds_if (pdt_w (pdw_or (pdt_cmp o_isNot (pd_call (pe_callS G_is_program (hr.mono h_is_program) (by rfl) T.m_is_program T.F_is_program.kp T.b_is_program (fun σ => passAt takes0 σ) (pda_cons (pd_var (pv 3)) (pda_cons (pd_frz (pd_call (pe_callS G_law_deep (hr.mono h_law_deep) (by rfl) T.m_law_deep T.F_law_deep.kp T.b_law_deep (fun σ => passAt takes0 σ) (pda_cons pd_int pda_nil)))) pda_nil)))) pd_bl (nomark _)) (pdw_or1 (pdt_cmp (o_ne hr.units) (pd_call (pe_callS G_is_program (hr.mono h_is_program) (by rfl) T.m_is_program T.F_is_program.kp T.b_is_program (fun σ => passAt takes0 σ) (pda_cons (pd_var (pv 3)) (pda_cons (pd_tup (pda_cons (pd_tup (pda_cons pd_str (pda_cons (pd_var (pv 11)) (pda_cons (pd_frz (pd_op o_mul (pd_tup (pda_cons (pd_tup (pda_cons pd_str (pda_cons pd_int pda_nil))) pda_nil)) (pd_op o_sub (pd_var (pv 12)) pd_int))) (pda_cons (pd_tup pda_nil) pda_nil))))) pda_nil)) pda_nil)))) (pd_cmp (o_lt hr.units0) (pd_var (pv 12)) pd_int (nomark _)) (nomark _)))))
          (pds_one (pds_ret pd_bl))
          pds_nil)
          (pds_one (pds_if (pdt_w (pdw_or (pdt_cmp (o_ne hr.units) (pd_lc (tup := false) (is := [10]) (pe_lc (own := [("which", 10)]) (g := gC K false [10]) rfl sc_law.nd (pic_range1 (pi_range1 (by rfl) T.n_range (pda_cons pd_int pda_nil))) (blkOk_by (own := [("which", 10)]) (N := N_law) (sc := defScope s_law) (by decide +kernel)) (fun _ _ _ _ _ => (pg_name (i := 10) sc_law.nd rfl (by first | exact Or.inl rfl | exact Or.inr rfl))) (fun _ _ _ _ _ => pdts_nil) (fun _ _ _ _ _ => (pd_frz (pd_call (pe_callS G_law_refused (hr.mono h_law_refused) (by rfl) T.m_law_refused T.F_law_refused.kp T.b_law_refused (fun σ => passAt takes0 σ) (pda_cons (pd_var (pv 10)) (pda_cons pd_int (pda_cons pd_non pda_nil)))))))) (by decide) (by first | exact Or.inl rfl | exact Or.inr ⟨_, rfl⟩)) (pd_lst (pda_cons pd_str (pda_cons pd_str pda_nil))) (nomark _)) (pdw_or1 (pdt_cmp o_isNot (pd_call (pe_callS G_is_program (hr.mono h_is_program) (by rfl) T.m_is_program T.F_is_program.kp T.b_is_program (fun σ => passAt takes0 σ) (pda_cons pd_int (pda_cons (pd_tup pda_nil) pda_nil)))) pd_bl (nomark _)))))
          (pds_one (pds_ret pd_bl))
          pds_nil))))))))))))))))))
          (pds_one (pds_ret pd_bl)))
end
theorem txt_mk {K : PySem.W.Frag} {h : Heap} {mg : Str → Option Value} (X : K.In h) (G : h.Ns mainGlobals mg)
    {c_HeapError : Addr}
    {c_BadMany : Addr}
    {c_BadProgram : Addr}
    {f_is_int : Addr}
    {d_is_int : FuncData}
    {f_within : Addr}
    {d_within : FuncData}
    {f_is_row : Addr}
    {d_is_row : FuncData}
    {f_is_word : Addr}
    {d_is_word : FuncData}
    {f_is_many : Addr}
    {d_is_many : FuncData}
    {f_need_many : Addr}
    {d_need_many : FuncData}
    {f_is_step_of : Addr}
    {d_is_step_of : FuncData}
    {f_is_condition_of : Addr}
    {d_is_condition_of : FuncData}
    {f_is_step : Addr}
    {d_is_step : FuncData}
    {f_is_condition : Addr}
    {d_is_condition : FuncData}
    {f_is_branch : Addr}
    {d_is_branch : FuncData}
    {f_size_of : Addr}
    {d_size_of : FuncData}
    {f_branch_size : Addr}
    {d_branch_size : FuncData}
    {f_is_program_of : Addr}
    {d_is_program_of : FuncData}
    {f_is_program : Addr}
    {d_is_program : FuncData}
    {f_need_program : Addr}
    {d_need_program : FuncData}
    {f_is_straight_of : Addr}
    {d_is_straight_of : FuncData}
    {f_is_straight : Addr}
    {d_is_straight : FuncData}
    {f_size : Addr}
    {d_size : FuncData}
    {f_law_deck : Addr}
    {d_law_deck : FuncData}
    {f_law_pick : Addr}
    {d_law_pick : FuncData}
    {f_law_same : Addr}
    {d_law_same : FuncData}
    {f_law_step : Addr}
    {d_law_step : FuncData}
    {f_law_condition : Addr}
    {d_law_condition : FuncData}
    {f_law_size : Addr}
    {d_law_size : FuncData}
    {f_law_program : Addr}
    {d_law_program : FuncData}
    {f_law_bad_parts : Addr}
    {d_law_bad_parts : FuncData}
    {f_law_refused : Addr}
    {d_law_refused : FuncData}
    {f_law_deep : Addr}
    {d_law_deep : FuncData}
    {f_law : Addr}
    {d_law : FuncData}
    {t_DEEPEST : Tok}
    {t_MOST_PARTS : Tok}
    {t_MOST_VARIABLES : Tok}
    {a_WORDS : Addr}
    {u_WORDS_0 : Tok}
    {u_WORDS_1 : Tok}
    {u_WORDS_2 : Tok}
    {u_WORDS_3 : Tok}
    {u_WORDS_4 : Tok}
    {o_WORDS : Option Addr}
    {w_WORDS : Nat}
    {z_WORDS : Array (Option Value)}
    (g_HeapError : PySem.W.nsIn K mainGlobals "HeapError" = some (some (.ref c_HeapError)))
    (x_HeapError : PySem.W.excIn K c_HeapError [.type "ValueError", .type "Exception", .type "BaseException", .type "object"] "ValueError.__new__" = true)
    (k_HeapError : PySem.W.keepIn K (.ref c_HeapError) = true)
    (s_HeapError : PySem.W.subIn K (.ref c_HeapError) (.type "BaseException") = some true)
    (t_HeapError : PySem.W.typeIn K (.ref c_HeapError) = some (.type "type"))
    (g_BadMany : PySem.W.nsIn K mainGlobals "BadMany" = some (some (.ref c_BadMany)))
    (x_BadMany : PySem.W.excIn K c_BadMany [.type "ValueError", .type "Exception", .type "BaseException", .type "object"] "ValueError.__new__" = true)
    (k_BadMany : PySem.W.keepIn K (.ref c_BadMany) = true)
    (s_BadMany : PySem.W.subIn K (.ref c_BadMany) (.type "BaseException") = some true)
    (t_BadMany : PySem.W.typeIn K (.ref c_BadMany) = some (.type "type"))
    (g_BadProgram : PySem.W.nsIn K mainGlobals "BadProgram" = some (some (.ref c_BadProgram)))
    (x_BadProgram : PySem.W.excIn K c_BadProgram [.type "ValueError", .type "Exception", .type "BaseException", .type "object"] "ValueError.__new__" = true)
    (k_BadProgram : PySem.W.keepIn K (.ref c_BadProgram) = true)
    (s_BadProgram : PySem.W.subIn K (.ref c_BadProgram) (.type "BaseException") = some true)
    (t_BadProgram : PySem.W.typeIn K (.ref c_BadProgram) = some (.type "type"))
    (e_HeapError_BadMany : PySem.W.exmOne K (.ref c_HeapError) (.ref c_BadMany) = some false)
    (e_HeapError_BadProgram : PySem.W.exmOne K (.ref c_HeapError) (.ref c_BadProgram) = some false)
    (e_BadMany_BadMany : PySem.W.exmOne K (.ref c_BadMany) (.ref c_BadMany) = some true)
    (e_BadMany_BadProgram : PySem.W.exmOne K (.ref c_BadMany) (.ref c_BadProgram) = some false)
    (e_BadProgram_BadMany : PySem.W.exmOne K (.ref c_BadProgram) (.ref c_BadMany) = some false)
    (e_BadProgram_BadProgram : PySem.W.exmOne K (.ref c_BadProgram) (.ref c_BadProgram) = some true)
    (m_is_int : PySem.W.nsIn K mainGlobals "is_int" = some (some (.ref f_is_int)))
    (F_is_int : Fun K "is_int" "is_int" s_is_int f_is_int d_is_int)
    (m_within : PySem.W.nsIn K mainGlobals "within" = some (some (.ref f_within)))
    (F_within : Fun K "within" "within" s_within f_within d_within)
    (m_is_row : PySem.W.nsIn K mainGlobals "is_row" = some (some (.ref f_is_row)))
    (F_is_row : Fun K "is_row" "is_row" s_is_row f_is_row d_is_row)
    (m_is_word : PySem.W.nsIn K mainGlobals "is_word" = some (some (.ref f_is_word)))
    (F_is_word : Fun K "is_word" "is_word" s_is_word f_is_word d_is_word)
    (m_is_many : PySem.W.nsIn K mainGlobals "is_many" = some (some (.ref f_is_many)))
    (F_is_many : Fun K "is_many" "is_many" s_is_many f_is_many d_is_many)
    (m_need_many : PySem.W.nsIn K mainGlobals "need_many" = some (some (.ref f_need_many)))
    (F_need_many : Fun K "need_many" "need_many" s_need_many f_need_many d_need_many)
    (m_is_step_of : PySem.W.nsIn K mainGlobals "is_step_of" = some (some (.ref f_is_step_of)))
    (F_is_step_of : Fun K "is_step_of" "is_step_of" s_is_step_of f_is_step_of d_is_step_of)
    (m_is_condition_of : PySem.W.nsIn K mainGlobals "is_condition_of" = some (some (.ref f_is_condition_of)))
    (F_is_condition_of : Fun K "is_condition_of" "is_condition_of" s_is_condition_of f_is_condition_of d_is_condition_of)
    (m_is_step : PySem.W.nsIn K mainGlobals "is_step" = some (some (.ref f_is_step)))
    (F_is_step : Fun K "is_step" "is_step" s_is_step f_is_step d_is_step)
    (m_is_condition : PySem.W.nsIn K mainGlobals "is_condition" = some (some (.ref f_is_condition)))
    (F_is_condition : Fun K "is_condition" "is_condition" s_is_condition f_is_condition d_is_condition)
    (m_is_branch : PySem.W.nsIn K mainGlobals "is_branch" = some (some (.ref f_is_branch)))
    (F_is_branch : Fun K "is_branch" "is_branch" s_is_branch f_is_branch d_is_branch)
    (m_size_of : PySem.W.nsIn K mainGlobals "size_of" = some (some (.ref f_size_of)))
    (F_size_of : Fun K "size_of" "size_of" s_size_of f_size_of d_size_of)
    (m_branch_size : PySem.W.nsIn K mainGlobals "branch_size" = some (some (.ref f_branch_size)))
    (F_branch_size : Fun K "branch_size" "branch_size" s_branch_size f_branch_size d_branch_size)
    (m_is_program_of : PySem.W.nsIn K mainGlobals "is_program_of" = some (some (.ref f_is_program_of)))
    (F_is_program_of : Fun K "is_program_of" "is_program_of" s_is_program_of f_is_program_of d_is_program_of)
    (m_is_program : PySem.W.nsIn K mainGlobals "is_program" = some (some (.ref f_is_program)))
    (F_is_program : Fun K "is_program" "is_program" s_is_program f_is_program d_is_program)
    (m_need_program : PySem.W.nsIn K mainGlobals "need_program" = some (some (.ref f_need_program)))
    (F_need_program : Fun K "need_program" "need_program" s_need_program f_need_program d_need_program)
    (m_is_straight_of : PySem.W.nsIn K mainGlobals "is_straight_of" = some (some (.ref f_is_straight_of)))
    (F_is_straight_of : Fun K "is_straight_of" "is_straight_of" s_is_straight_of f_is_straight_of d_is_straight_of)
    (m_is_straight : PySem.W.nsIn K mainGlobals "is_straight" = some (some (.ref f_is_straight)))
    (F_is_straight : Fun K "is_straight" "is_straight" s_is_straight f_is_straight d_is_straight)
    (m_size : PySem.W.nsIn K mainGlobals "size" = some (some (.ref f_size)))
    (F_size : Fun K "size" "size" s_size f_size d_size)
    (m_law_deck : PySem.W.nsIn K mainGlobals "_law_deck" = some (some (.ref f_law_deck)))
    (F_law_deck : Fun K "_law_deck" "_law_deck" s_law_deck f_law_deck d_law_deck)
    (m_law_pick : PySem.W.nsIn K mainGlobals "_law_pick" = some (some (.ref f_law_pick)))
    (F_law_pick : Fun K "_law_pick" "_law_pick" s_law_pick f_law_pick d_law_pick)
    (m_law_same : PySem.W.nsIn K mainGlobals "_law_same" = some (some (.ref f_law_same)))
    (F_law_same : Fun K "_law_same" "_law_same" s_law_same f_law_same d_law_same)
    (m_law_step : PySem.W.nsIn K mainGlobals "_law_step" = some (some (.ref f_law_step)))
    (F_law_step : Fun K "_law_step" "_law_step" s_law_step f_law_step d_law_step)
    (m_law_condition : PySem.W.nsIn K mainGlobals "_law_condition" = some (some (.ref f_law_condition)))
    (F_law_condition : Fun K "_law_condition" "_law_condition" s_law_condition f_law_condition d_law_condition)
    (m_law_size : PySem.W.nsIn K mainGlobals "_law_size" = some (some (.ref f_law_size)))
    (F_law_size : Fun K "_law_size" "_law_size" s_law_size f_law_size d_law_size)
    (m_law_program : PySem.W.nsIn K mainGlobals "_law_program" = some (some (.ref f_law_program)))
    (F_law_program : Fun K "_law_program" "_law_program" s_law_program f_law_program d_law_program)
    (m_law_bad_parts : PySem.W.nsIn K mainGlobals "_law_bad_parts" = some (some (.ref f_law_bad_parts)))
    (F_law_bad_parts : Fun K "_law_bad_parts" "_law_bad_parts" s_law_bad_parts f_law_bad_parts d_law_bad_parts)
    (m_law_refused : PySem.W.nsIn K mainGlobals "_law_refused" = some (some (.ref f_law_refused)))
    (F_law_refused : Fun K "_law_refused" "_law_refused" s_law_refused f_law_refused d_law_refused)
    (m_law_deep : PySem.W.nsIn K mainGlobals "_law_deep" = some (some (.ref f_law_deep)))
    (F_law_deep : Fun K "_law_deep" "_law_deep" s_law_deep f_law_deep d_law_deep)
    (m_law : PySem.W.nsIn K mainGlobals "law" = some (some (.ref f_law)))
    (F_law : Fun K "law" "law" s_law f_law d_law)
    (n_any : PySem.W.nsIn K mainGlobals "any" = some none)
    (n_bool : PySem.W.nsIn K mainGlobals "bool" = some none)
    (n_int : PySem.W.nsIn K mainGlobals "int" = some none)
    (n_isinstance : PySem.W.nsIn K mainGlobals "isinstance" = some none)
    (n_len : PySem.W.nsIn K mainGlobals "len" = some none)
    (n_list : PySem.W.nsIn K mainGlobals "list" = some none)
    (n_min : PySem.W.nsIn K mainGlobals "min" = some none)
    (n_range : PySem.W.nsIn K mainGlobals "range" = some none)
    (n_str : PySem.W.nsIn K mainGlobals "str" = some none)
    (n_sum : PySem.W.nsIn K mainGlobals "sum" = some none)
    (n_tuple : PySem.W.nsIn K mainGlobals "tuple" = some none)
    (v_DEEPEST : PySem.W.nsIn K mainGlobals "DEEPEST" = some (some (.int 4 t_DEEPEST)))
    (v_MOST_PARTS : PySem.W.nsIn K mainGlobals "MOST_PARTS" = some (some (.int 24 t_MOST_PARTS)))
    (v_MOST_VARIABLES : PySem.W.nsIn K mainGlobals "MOST_VARIABLES" = some (some (.int 4 t_MOST_VARIABLES)))
    (v_WORDS : PySem.W.nsIn K mainGlobals "WORDS" = some (some (.ref a_WORDS)))
    (l_WORDS : K.lookup a_WORDS = some ⟨.type "tuple", o_WORDS, .seq #[.str "set" u_WORDS_0, .str "follow" u_WORDS_1, .str "put" u_WORDS_2, .str "new" u_WORDS_3, .str "free" u_WORDS_4] w_WORDS, z_WORDS⟩)
    : Txt K mg { c_HeapError := c_HeapError, c_BadMany := c_BadMany, c_BadProgram := c_BadProgram, f_is_int := f_is_int, d_is_int := d_is_int, f_within := f_within, d_within := d_within, f_is_row := f_is_row, d_is_row := d_is_row, f_is_word := f_is_word, d_is_word := d_is_word, f_is_many := f_is_many, d_is_many := d_is_many, f_need_many := f_need_many, d_need_many := d_need_many, f_is_step_of := f_is_step_of, d_is_step_of := d_is_step_of, f_is_condition_of := f_is_condition_of, d_is_condition_of := d_is_condition_of, f_is_step := f_is_step, d_is_step := d_is_step, f_is_condition := f_is_condition, d_is_condition := d_is_condition, f_is_branch := f_is_branch, d_is_branch := d_is_branch, f_size_of := f_size_of, d_size_of := d_size_of, f_branch_size := f_branch_size, d_branch_size := d_branch_size, f_is_program_of := f_is_program_of, d_is_program_of := d_is_program_of, f_is_program := f_is_program, d_is_program := d_is_program, f_need_program := f_need_program, d_need_program := d_need_program, f_is_straight_of := f_is_straight_of, d_is_straight_of := d_is_straight_of, f_is_straight := f_is_straight, d_is_straight := d_is_straight, f_size := f_size, d_size := d_size, f_law_deck := f_law_deck, d_law_deck := d_law_deck, f_law_pick := f_law_pick, d_law_pick := d_law_pick, f_law_same := f_law_same, d_law_same := d_law_same, f_law_step := f_law_step, d_law_step := d_law_step, f_law_condition := f_law_condition, d_law_condition := d_law_condition, f_law_size := f_law_size, d_law_size := d_law_size, f_law_program := f_law_program, d_law_program := d_law_program, f_law_bad_parts := f_law_bad_parts, d_law_bad_parts := d_law_bad_parts, f_law_refused := f_law_refused, d_law_refused := d_law_refused, f_law_deep := f_law_deep, d_law_deep := d_law_deep, f_law := f_law, d_law := d_law, a_WORDS := a_WORDS } :=
  { g_HeapError := PySem.W.mg_of X G g_HeapError,
    x_HeapError := x_HeapError,
    k_HeapError := k_HeapError,
    s_HeapError := s_HeapError,
    t_HeapError := t_HeapError,
    g_BadMany := PySem.W.mg_of X G g_BadMany,
    x_BadMany := x_BadMany,
    k_BadMany := k_BadMany,
    s_BadMany := s_BadMany,
    t_BadMany := t_BadMany,
    g_BadProgram := PySem.W.mg_of X G g_BadProgram,
    x_BadProgram := x_BadProgram,
    k_BadProgram := k_BadProgram,
    s_BadProgram := s_BadProgram,
    t_BadProgram := t_BadProgram,
    e_HeapError_BadMany := e_HeapError_BadMany,
    e_HeapError_BadProgram := e_HeapError_BadProgram,
    e_BadMany_BadMany := e_BadMany_BadMany,
    e_BadMany_BadProgram := e_BadMany_BadProgram,
    e_BadProgram_BadMany := e_BadProgram_BadMany,
    e_BadProgram_BadProgram := e_BadProgram_BadProgram,
    F_is_int := F_is_int,
    m_is_int := PySem.W.mg_of X G m_is_int,
    b_is_int := F_is_int.binds (ps := P_is_int) fun _ _ _ _ _ _ us hl => match us, hl with | [_], _ => rfl,
    F_within := F_within,
    m_within := PySem.W.mg_of X G m_within,
    b_within := F_within.binds (ps := P_within) fun _ _ _ _ _ _ us hl => match us, hl with | [_, _, _], _ => rfl,
    F_is_row := F_is_row,
    m_is_row := PySem.W.mg_of X G m_is_row,
    b_is_row := F_is_row.binds (ps := P_is_row) fun _ _ _ _ _ _ us hl => match us, hl with | [_, _, _], _ => rfl,
    F_is_word := F_is_word,
    m_is_word := PySem.W.mg_of X G m_is_word,
    b_is_word := F_is_word.binds (ps := P_is_word) fun _ _ _ _ _ _ us hl => match us, hl with | [_, _], _ => rfl,
    F_is_many := F_is_many,
    m_is_many := PySem.W.mg_of X G m_is_many,
    b_is_many := F_is_many.binds (ps := P_is_many) fun _ _ _ _ _ _ us hl => match us, hl with | [_], _ => rfl,
    F_need_many := F_need_many,
    m_need_many := PySem.W.mg_of X G m_need_many,
    b_need_many := F_need_many.binds (ps := P_need_many) fun _ _ _ _ _ _ us hl => match us, hl with | [_], _ => rfl,
    F_is_step_of := F_is_step_of,
    m_is_step_of := PySem.W.mg_of X G m_is_step_of,
    b_is_step_of := F_is_step_of.binds (ps := P_is_step_of) fun _ _ _ _ _ _ us hl => match us, hl with | [_, _], _ => rfl,
    F_is_condition_of := F_is_condition_of,
    m_is_condition_of := PySem.W.mg_of X G m_is_condition_of,
    b_is_condition_of := F_is_condition_of.binds (ps := P_is_condition_of) fun _ _ _ _ _ _ us hl => match us, hl with | [_, _], _ => rfl,
    F_is_step := F_is_step,
    m_is_step := PySem.W.mg_of X G m_is_step,
    b_is_step := F_is_step.binds (ps := P_is_step) fun _ _ _ _ _ _ us hl => match us, hl with | [_, _], _ => rfl,
    F_is_condition := F_is_condition,
    m_is_condition := PySem.W.mg_of X G m_is_condition,
    b_is_condition := F_is_condition.binds (ps := P_is_condition) fun _ _ _ _ _ _ us hl => match us, hl with | [_, _], _ => rfl,
    F_is_branch := F_is_branch,
    m_is_branch := PySem.W.mg_of X G m_is_branch,
    b_is_branch := F_is_branch.binds (ps := P_is_branch) fun _ _ _ _ _ _ us hl => match us, hl with | [_], _ => rfl,
    F_size_of := F_size_of,
    m_size_of := PySem.W.mg_of X G m_size_of,
    b_size_of := F_size_of.binds (ps := P_size_of) fun _ _ _ _ _ _ us hl => match us, hl with | [_, _, _], _ => rfl,
    F_branch_size := F_branch_size,
    m_branch_size := PySem.W.mg_of X G m_branch_size,
    b_branch_size := F_branch_size.binds (ps := P_branch_size) fun _ _ _ _ _ _ us hl => match us, hl with | [_, _, _], _ => rfl,
    F_is_program_of := F_is_program_of,
    m_is_program_of := PySem.W.mg_of X G m_is_program_of,
    b_is_program_of := F_is_program_of.binds (ps := P_is_program_of) fun _ _ _ _ _ _ us hl => match us, hl with | [_, _], _ => rfl,
    F_is_program := F_is_program,
    m_is_program := PySem.W.mg_of X G m_is_program,
    b_is_program := F_is_program.binds (ps := P_is_program) fun _ _ _ _ _ _ us hl => match us, hl with | [_, _], _ => rfl,
    F_need_program := F_need_program,
    m_need_program := PySem.W.mg_of X G m_need_program,
    b_need_program := F_need_program.binds (ps := P_need_program) fun _ _ _ _ _ _ us hl => match us, hl with | [_, _], _ => rfl,
    F_is_straight_of := F_is_straight_of,
    m_is_straight_of := PySem.W.mg_of X G m_is_straight_of,
    b_is_straight_of := F_is_straight_of.binds (ps := P_is_straight_of) fun _ _ _ _ _ _ us hl => match us, hl with | [_], _ => rfl,
    F_is_straight := F_is_straight,
    m_is_straight := PySem.W.mg_of X G m_is_straight,
    b_is_straight := F_is_straight.binds (ps := P_is_straight) fun _ _ _ _ _ _ us hl => match us, hl with | [_, _], _ => rfl,
    F_size := F_size,
    m_size := PySem.W.mg_of X G m_size,
    b_size := F_size.binds (ps := P_size) fun _ _ _ _ _ _ us hl => match us, hl with | [_, _], _ => rfl,
    F_law_deck := F_law_deck,
    m_law_deck := PySem.W.mg_of X G m_law_deck,
    b_law_deck := F_law_deck.binds (ps := P_law_deck) fun _ _ _ _ _ _ us hl => match us, hl with | [_], _ => rfl,
    F_law_pick := F_law_pick,
    m_law_pick := PySem.W.mg_of X G m_law_pick,
    b_law_pick := F_law_pick.binds (ps := P_law_pick) fun _ _ _ _ _ _ us hl => match us, hl with | [_, _], _ => rfl,
    F_law_same := F_law_same,
    m_law_same := PySem.W.mg_of X G m_law_same,
    b_law_same := F_law_same.binds (ps := P_law_same) fun _ _ _ _ _ _ us hl => match us, hl with | [_, _], _ => rfl,
    F_law_step := F_law_step,
    m_law_step := PySem.W.mg_of X G m_law_step,
    b_law_step := F_law_step.binds (ps := P_law_step) fun _ _ _ _ _ _ us hl => match us, hl with | [_, _], _ => rfl,
    F_law_condition := F_law_condition,
    m_law_condition := PySem.W.mg_of X G m_law_condition,
    b_law_condition := F_law_condition.binds (ps := P_law_condition) fun _ _ _ _ _ _ us hl => match us, hl with | [_, _], _ => rfl,
    F_law_size := F_law_size,
    m_law_size := PySem.W.mg_of X G m_law_size,
    b_law_size := F_law_size.binds (ps := P_law_size) fun _ _ _ _ _ _ us hl => match us, hl with | [_], _ => rfl,
    F_law_program := F_law_program,
    m_law_program := PySem.W.mg_of X G m_law_program,
    b_law_program := F_law_program.binds (ps := P_law_program) fun _ _ _ _ _ _ us hl => match us, hl with | [_, _, _, _], _ => rfl,
    F_law_bad_parts := F_law_bad_parts,
    m_law_bad_parts := PySem.W.mg_of X G m_law_bad_parts,
    b_law_bad_parts := F_law_bad_parts.binds (ps := P_law_bad_parts) fun _ _ _ _ _ _ us hl => match us, hl with | [_], _ => rfl,
    F_law_refused := F_law_refused,
    m_law_refused := PySem.W.mg_of X G m_law_refused,
    b_law_refused := F_law_refused.binds (ps := P_law_refused) fun _ _ _ _ _ _ us hl => match us, hl with | [_, _, _], _ => rfl,
    F_law_deep := F_law_deep,
    m_law_deep := PySem.W.mg_of X G m_law_deep,
    b_law_deep := F_law_deep.binds (ps := P_law_deep) fun _ _ _ _ _ _ us hl => match us, hl with | [_], _ => rfl,
    F_law := F_law,
    m_law := PySem.W.mg_of X G m_law,
    b_law := F_law.binds (ps := P_law) fun _ _ _ _ _ _ us hl => match us, hl with | [_], _ => rfl,
    n_any := PySem.W.mg_none_of X G n_any,
    n_bool := PySem.W.mg_none_of X G n_bool,
    n_int := PySem.W.mg_none_of X G n_int,
    n_isinstance := PySem.W.mg_none_of X G n_isinstance,
    n_len := PySem.W.mg_none_of X G n_len,
    n_list := PySem.W.mg_none_of X G n_list,
    n_min := PySem.W.mg_none_of X G n_min,
    n_range := PySem.W.mg_none_of X G n_range,
    n_str := PySem.W.mg_none_of X G n_str,
    n_sum := PySem.W.mg_none_of X G n_sum,
    n_tuple := PySem.W.mg_none_of X G n_tuple,
    v_DEEPEST := ⟨_, PySem.W.mg_of X G v_DEEPEST⟩,
    v_MOST_PARTS := ⟨_, PySem.W.mg_of X G v_MOST_PARTS⟩,
    v_MOST_VARIABLES := ⟨_, PySem.W.mg_of X G v_MOST_VARIABLES⟩,
    v_WORDS := PySem.W.mg_of X G v_WORDS,
    d_WORDS := fun B => .tup (xs := [.str "set", .str "follow", .str "put", .str "new", .str "free"]) (.inr ⟨_, _, _, l_WORDS, rfl, rfl, Nat.le_of_ble_eq_true rfl, (.cons ⟨_, rfl⟩ (.cons ⟨_, rfl⟩ (.cons ⟨_, rfl⟩ (.cons ⟨_, rfl⟩ (.cons ⟨_, rfl⟩ .nil)))))⟩) (.cons (.str _) (.cons (.str _) (.cons (.str _) (.cons (.str _) (.cons (.str _) DpAll.nil))))) }
end LK

set_option Elab.async false
set_option linter.all false
set_option maxRecDepth 100000
set_option maxHeartbeats 4000000
namespace LK
open PySem PySem.Spec PyProof.Rows L2 DL
local macro_rules | `(tactic| walk_at "dl") => `(tactic| simp only [wVar, wC, wNil, wCons, wFrz, wTup, wLst, wOp, wUn, wCall1, wMeth, wTst, wAndT, wOrT, wNotT, wAndV, wOrV, wNotV, wIf, wChain, wNext, wSeq, wBreak, wCont, wRet, wAsg, wAsgT, wPar, wIfS, wAug, wExpr, wRaise, wCall, wIsi, wSl, wONone, wOSome, wLc, wSeqC, wSeqF, wParF, wRange1, wRange2, wFor, wWhile, wYes, gwNames, putA, wipeR, wAppend, wExtend, wPop, wSetIx, wFrzS, wTry, wHand, gwName, gwNil, gwCons, gwTup,
  rho, seq_l, seq_t, seq_L, stab_t, stab_L, look_s, look_l, dat_s, frz_s, frz_l, peek_s, peek_l, peek_g, keeps_s, keeps_l, dats_nil, dats_cons, isS_s, fAdd, fInt, fSub, fMul, fNeg, fEq, fNe, fCmp, fLt, fIs, fIn, fIx, fLen, fAll, fAny, fSum, fList, fTuple, fIntOf, fMax2, fMin2, fSl,
  List.map_cons, List.map_nil, List.length_cons, List.length_nil, List.getElem?_cons_zero, List.getElem?_cons_succ, Option.some.injEq, exists_eq_left', exists_eq_left, exists_eq', R.s.injEq, R.l.injEq, PyData.int.injEq, PyData.bool.injEq, PyData.str.injEq, PyData.tuple.injEq, PyData.list.injEq, and_true, true_and, List.cons.injEq, reduceCtorEq,
  List.cons_append, List.nil_append, List.replicate, Nat.reduceAdd, Nat.reduceSub, Nat.reduceLT, false_and, exists_false, and_false, or_false, false_or, exists_and_left, exists_and_right, and_assoc, ite_true, ite_false, Bool.false_eq_true, if_true, if_false, List.mem_cons, List.not_mem_nil, forall_eq_or_imp, forall_eq, List.set_cons_zero, List.set_cons_succ, sh_int, sh_bool, sh_none, eqv_int, eqv_bool, eqv_str, Bool.not_true, Bool.not_false, Bool.not_not, isN_none, isN_int, isN_bool, isN_str, isN_tup, bne_ff, bne_tt, at0, at1, at2, at3, flat_none, flat_bool, flat_int, flat_str, List.all_cons, List.all_nil, Bool.and_self, Nat.reduceLeDiff])
local macro_rules | `(tactic| walk_at "dm") => `(tactic| simp only [wVar, wC, wNil, wCons, wFrz, wTup, wLst, wOp, wUn, wCall1, wMeth, wTst, wAndT, wOrT, wNotT, wAndV, wOrV, wNotV, wIf, wChain, wNext, wSeq, wBreak, wCont, wRet, wAsg, wAsgT, wPar, wIfS, wAug, wExpr, wRaise, wCall, wIsi, wSl, wONone, wOSome, wLc, wSeqC, wSeqF, wParF, wRange1, wRange2, wFor, wWhile, wYes, gwNames, putA, wipeR, wAppend, wExtend, wPop, wSetIx, wFrzS, wTry, wHand, gwName, gwNil, gwCons, gwTup,
  rho, seq_l, seq_t, seq_L, stab_t, stab_L, look_s, look_l, dat_s, frz_s, frz_l, peek_s, peek_l, peek_g, keeps_s, keeps_l, dats_nil, dats_cons, isS_s, fAdd, fInt, fSub, fMul, fNeg, fEq, fNe, fCmp, fLt, fIs, fIn, fIx, fLen, fAll, fAny, fSum, fList, fTuple, fIntOf, fMax2, fMin2, fSl,
  List.map_cons, List.map_nil, List.length_cons, List.length_nil, List.getElem?_cons_zero, List.getElem?_cons_succ, Option.some.injEq, exists_eq_left', exists_eq_left, exists_eq', R.s.injEq, R.l.injEq, PyData.int.injEq, PyData.bool.injEq, PyData.str.injEq, PyData.tuple.injEq, PyData.list.injEq, and_true, true_and, List.cons.injEq, reduceCtorEq,
  List.cons_append, List.nil_append, List.replicate, Nat.reduceAdd, Nat.reduceSub, Nat.reduceLT, false_and, exists_false, and_false, or_false, false_or, exists_and_left, exists_and_right, and_assoc, ite_true, ite_false, Bool.false_eq_true, if_true, if_false, List.mem_cons, List.not_mem_nil, forall_eq_or_imp, forall_eq, List.set_cons_zero, List.set_cons_succ, sh_int, sh_bool, sh_none, eqv_int, eqv_bool, eqv_str, Bool.not_true, Bool.not_false, Bool.not_not, beq_self_eq_true, Bool.true_beq, Bool.false_beq, beq_true, beq_false, Bool.or_false, Bool.or_true, Bool.and_true, Bool.and_false, Bool.true_and, Bool.false_and, Bool.true_or, Bool.false_or, decide_true, decide_false, isN_none, isN_int, isN_bool, isN_str, isN_tup, bne_ff, bne_tt, at0, at1, at2, at3, flat_none, flat_bool, flat_int, flat_str, List.all_cons, List.all_nil, Bool.and_self, Nat.reduceLeDiff])

def isInt : D → Bool
  | .int _ => true
  | _ => false
def c_is_int : Ct := fun rs Q _ => ∃ d, rs = [.s d] ∧ Q (.s (.bool (isInt d)))
theorem d_is_int {K : Frag} {cl : Ad} : ∀ rs Q E, c_is_int rs Q E → w_is_int K cl (rho N_is_int.length rs) { nx := fun _ => Q (.s .none), rt := Q, er := fun cls _ => E cls } := by
  rintro rs Q E ⟨d, rfl, q⟩
  unfold w_is_int
  try walk_at "dl"
  cases d <;> simp [isI, isB] <;> exact q
def within (d : D) (a b : Int) : Bool := match d with
  | .int i => decide (a ≤ i) && decide (i ≤ b)
  | _ => false
def c_within : Ct := fun rs Q _ => ∃ d a b, rs = [.s d, .s (.int a), .s (.int b)] ∧ Q (.s (.bool (within d a b)))
theorem d_within {K : Frag} {cl : Ad} : ∀ rs Q E, c_within rs Q E → w_within K cl c_is_int (rho N_within.length rs) { nx := fun _ => Q (.s .none), rt := Q, er := fun cls _ => E cls } := by
  rintro rs Q E ⟨d, a, b, rfl, q⟩
  unfold w_within c_is_int
  try walk_at "dl"
  cases d <;> simp only [isInt, within, Bool.false_eq_true, if_false, if_true, PyData.int.injEq, exists_eq_left', exists_eq_left] at * <;> try exact q
  refine ite_both (fun h => ?_) (fun h => ?_) <;> simpa [h] using q
def isRow (d : D) (a b : Int) : Bool := match d with
  | .tuple l => decide (a ≤ l.length) && decide ((l.length : Int) ≤ b)
  | _ => false
def c_is_row : Ct := fun rs Q _ => ∃ d a b, rs = [.s d, .s (.int a), .s (.int b)] ∧ Q (.s (.bool (isRow d a b)))
theorem d_is_row {K : Frag} {cl : Ad} : ∀ rs Q E, c_is_row rs Q E → w_is_row K cl (rho N_is_row.length rs) { nx := fun _ => Q (.s .none), rt := Q, er := fun cls _ => E cls } := by
  rintro rs Q E ⟨d, a, b, rfl, q⟩
  unfold w_is_row
  try walk_at "dl"
  cases d <;> simp only [isT, isRow, Bool.false_eq_true, if_false, if_true] at * <;> try exact q
  try walk_at "dl"
  refine ite_both (fun h => ?_) (fun h => ?_) <;> simpa [h] using q
/-- one of some flat things, as a text is -/
def isWord (d : D) (ds : List D) : Bool := match d with
  | .str x => ds.any fun z => PyData.eqv z (.str x)
  | _ => false
def c_is_word : Ct := fun rs Q _ => ∃ d ds, rs = [.s d, .s (.tuple ds)] ∧ ds.all flatD = true ∧ Q (.s (.bool (isWord d ds)))
theorem d_is_word {K : Frag} {cl : Ad} : ∀ rs Q E, c_is_word rs Q E → w_is_word K cl (rho N_is_word.length rs) { nx := fun _ => Q (.s .none), rt := Q, er := fun cls _ => E cls } := by
  rintro rs Q E ⟨d, ws, rfl, hf, q⟩
  unfold w_is_word
  try walk_at "dl"
  cases d <;> simp only [DL.isS, isWord, Bool.false_eq_true, if_false, if_true] at * <;> try exact q
  try walk_at "dl"
  first
    | exact ⟨hf, by simpa [inD] using q⟩
    | exact ⟨rfl, hf, by simpa [inD] using q⟩

def c_is_many : Ct := fun rs Q _ => ∃ d, rs = [.s d] ∧ Q (.s (.bool (within d 0 4)))
theorem d_is_many {K : Frag} {cl : Ad} : ∀ rs Q E, c_is_many rs Q E → w_is_many K cl c_within (rho N_is_many.length rs) { nx := fun _ => Q (.s .none), rt := Q, er := fun cls _ => E cls } := by
  rintro rs Q E ⟨d, rfl, q⟩
  unfold w_is_many c_within
  try walk_at "dl"
  exact q
def c_need_many (cl : Ad) : Ct := fun rs Q E => ∃ d, rs = [.s d] ∧ if within d 0 4 = true then Q (.s .none) else E (.ref cl.c_BadMany)
theorem d_need_many {K : Frag} {cl : Ad} : ∀ rs Q E, c_need_many cl rs Q E → w_need_many K cl c_is_many (rho N_need_many.length rs) { nx := fun _ => Q (.s .none), rt := Q, er := fun cls _ => E cls } := by
  rintro rs Q E ⟨d, rfl, q⟩
  unfold w_need_many c_is_many
  try walk_at "dl"
  revert q
  cases within d 0 4 <;> simp
theorem row_cases {d : D} {a b : Nat} (h : isRow d a b = true) : ∃ l, d = .tuple l ∧ a ≤ l.length ∧ l.length ≤ b := by
  cases d with
  | tuple l =>
    simp only [isRow, Bool.and_eq_true, decide_eq_true_eq] at h
    exact ⟨l, rfl, by omega, by omega⟩
  | _ => simp [isRow] at h
theorem word_cases {d : D} {ws : List Str} (h : isWord d (ws.map PyData.str) = true) : ∃ x, d = .str x ∧ x ∈ ws := by
  cases d with
  | str x =>
    refine ⟨x, rfl, ?_⟩
    simp only [isWord, List.any_map, List.any_eq_true, Function.comp, eqv_str, beq_iff_eq] at h
    obtain ⟨y, h1, h2⟩ := h
    exact h2 ▸ h1
  | _ => simp [isWord] at h
abbrev W5 : List D := [.str "set", .str "follow", .str "put", .str "new", .str "free"]
abbrev W2 : List D := [.str "new", .str "free"]
def isStep (n : Int) : D → Bool
  | .tuple [w, v] => isWord w W5 && within v 0 (n - 1) && isWord w W2
  | .tuple [w, v, o] => isWord w W5 && within v 0 (n - 1) && !isWord w W2 && within o (if PyData.eqv w (.str "follow") = true then 0 else -1) (n - 1)
  | _ => false
def c_is_step_of : Ct := fun rs Q _ => ∃ n d, rs = [.s (.int n), .s d] ∧ Q (.s (.bool (isStep n d)))
theorem isStep_row {n : Int} {d : D} (h : isRow d 2 3 = false) : isStep n d = false := by
  unfold isStep
  split
  · simp [isRow] at h
  · simp [isRow] at h
  · rfl
theorem w5_sh {w : D} (h : isWord w W5 = true) : flatD w = true ∧ Sh w ∧ ∀ ds, inD w ds = isWord w ds := by
  obtain ⟨x, rfl, hx⟩ := word_cases (ws := ["set", "follow", "put", "new", "free"]) h
  refine ⟨rfl, ?_, fun ds => rfl⟩
  simp only [List.mem_cons, List.not_mem_nil, or_false] at hx
  rcases hx with rfl | rfl | rfl | rfl | rfl <;> exact sh_of (by decide +kernel)
theorem sh_follow : Sh (.str "follow") := sh_of (by decide +kernel)
theorem d_is_step_of {K : Frag} {cl : Ad} : ∀ rs Q E, c_is_step_of rs Q E → w_is_step_of K cl c_within c_is_row c_is_word (rho N_is_step_of.length rs) { nx := fun _ => Q (.s .none), rt := Q, er := fun cls _ => E cls } := by
  rintro rs Q E ⟨n, d, rfl, q⟩
  unfold w_is_step_of c_within c_is_word c_is_row
  try walk_at "dl"
  cases hr : isRow d 2 3 with
  | false =>
    rw [isStep_row hr] at q
    simpa using q
  | true =>
    obtain ⟨l, rfl, h1, h2⟩ := row_cases (a := 2) (b := 3) hr
    try walk_at "dl"
    match l, h1, h2 with
    | [w, v], _, _ =>
      simp only [isStep] at q
      try walk_at "dl"
      cases hw : isWord w W5 with
      | false => simpa [hw] using q
      | true =>
        obtain ⟨f1, f2, f3⟩ := w5_sh hw
        simp only [hw, f1, f3, Bool.true_and] at q ⊢
        cases hv : within v 0 (n - 1) with
        | false => simpa [hv] using q
        | true =>
          cases h2 : isWord w W2 with
          | true => simpa [hv, h2] using q
          | false => simpa [hv, h2] using q
    | [w, v, o], _, _ =>
      simp only [isStep] at q
      try walk_at "dl"
      cases hw : isWord w W5 with
      | false => simpa [hw] using q
      | true =>
        obtain ⟨f1, f2, f3⟩ := w5_sh hw
        simp only [hw, f1, f2, f3, Bool.true_and, sh_follow] at q ⊢
        cases hv : within v 0 (n - 1) with
        | false => simpa [hv] using q
        | true =>
          cases h2 : isWord w W2 with
          | true => simpa [hv, h2] using q
          | false => cases h3 : PyData.eqv w (.str "follow") <;> simpa [hv, h2, h3] using q
def isCond (n : Int) : D → Bool
  | .tuple [w, a, b] => isWord w [.str "same", .str "unlike"] && within a (-1) (n - 1) && within b (-1) (n - 1)
  | _ => false
def c_is_condition_of : Ct := fun rs Q _ => ∃ n d, rs = [.s (.int n), .s d] ∧ Q (.s (.bool (isCond n d)))
theorem isCond_row {n : Int} {d : D} (h : isRow d 3 3 = false) : isCond n d = false := by
  unfold isCond
  split
  · simp [isRow] at h
  · rfl
theorem d_is_condition_of {K : Frag} {cl : Ad} : ∀ rs Q E, c_is_condition_of rs Q E → w_is_condition_of K cl c_within c_is_row c_is_word (rho N_is_condition_of.length rs) { nx := fun _ => Q (.s .none), rt := Q, er := fun cls _ => E cls } := by
  rintro rs Q E ⟨n, d, rfl, q⟩
  unfold w_is_condition_of c_within c_is_word c_is_row
  try walk_at "dl"
  cases hr : isRow d 3 3 with
  | false =>
    rw [isCond_row hr] at q
    simpa using q
  | true =>
    obtain ⟨l, rfl, h1, h2⟩ := row_cases (a := 3) (b := 3) hr
    match l, h1, h2 with
    | [w, a, b], _, _ =>
      simp only [isCond] at q
      try walk_at "dl"
      cases hw : isWord w [.str "same", .str "unlike"] with
      | false => simpa [hw] using q
      | true =>
        cases hv : within a (-1) (n - 1) <;> simpa [hw, hv] using q
def c_judge (cl : Ad) (f : Int → D → Bool) : Ct := fun rs Q E => ∃ m d, rs = [.s m, .s d] ∧ if within m 0 4 = true then ∀ n, m = .int n → Q (.s (.bool (f n d))) else E (.ref cl.c_BadMany)
theorem within_int {m : D} {a b : Int} (h : within m a b = true) : ∃ n, m = .int n ∧ a ≤ n ∧ n ≤ b := by
  cases m with
  | int n => simp [within] at h; exact ⟨n, rfl, h.1, h.2⟩
  | _ => simp [within] at h
theorem d_is_step {K : Frag} {cl : Ad} : ∀ rs Q E, c_judge cl isStep rs Q E → w_is_step K cl (c_need_many cl) c_is_step_of (rho N_is_step.length rs) { nx := fun _ => Q (.s .none), rt := Q, er := fun cls _ => E cls } := by
  rintro rs Q E ⟨m, d, rfl, q⟩
  unfold w_is_step c_is_step_of c_need_many
  try walk_at "dl"
  cases h : within m 0 4 with
  | false => simpa [h] using q
  | true =>
    obtain ⟨n, rfl, _⟩ := within_int h
    simp only [h, if_true] at q ⊢
    exact ⟨n, rfl, q n rfl⟩
theorem d_is_condition {K : Frag} {cl : Ad} : ∀ rs Q E, c_judge cl isCond rs Q E → w_is_condition K cl (c_need_many cl) c_is_condition_of (rho N_is_condition.length rs) { nx := fun _ => Q (.s .none), rt := Q, er := fun cls _ => E cls } := by
  rintro rs Q E ⟨m, d, rfl, q⟩
  unfold w_is_condition c_is_condition_of c_need_many
  try walk_at "dl"
  cases h : within m 0 4 with
  | false => simpa [h] using q
  | true =>
    obtain ⟨n, rfl, _⟩ := within_int h
    simp only [h, if_true] at q ⊢
    exact ⟨n, rfl, q n rfl⟩

def c_is_branch : Ct := fun rs Q _ => ∃ w l, rs = [.s (.tuple (w :: l))] ∧ Sh w ∧ Q (.s (.bool (PyData.eqv w (.str "if"))))
theorem sh_if : Sh (.str "if") := sh_of (by decide +kernel)
theorem d_is_branch {K : Frag} {cl : Ad} : ∀ rs Q E, c_is_branch rs Q E → w_is_branch K cl (rho N_is_branch.length rs) { nx := fun _ => Q (.s .none), rt := Q, er := fun cls _ => E cls } := by
  rintro rs Q E ⟨w, l, rfl, h, q⟩
  unfold w_is_branch
  try walk_at "dl"
  exact ⟨h, sh_if, q⟩
def sizeL (f : D → Option Int) : List D → Int → Option Int
  | [], t => some t
  | p :: ps, t => match f p with
    | none => none
    | some m => if t + m > 24 then none else sizeL f ps (t + m)
def rowSize (f : D → Option Int) : D → Option Int
  | .tuple l => if l.length ≤ 24 then sizeL f l 0 else none
  | _ => none
def branchOf (g : D → Option Int) (n : Int) : D → Option Int
  | .tuple [w, c, a, b] => if (isWord w [.str "if"] && isCond n c) = true then (match g a, g b with | some x, some y => some (1 + x + y) | _, _ => none) else none
  | _ => none
def szD (n : Int) : Nat → D → Option Int
  | 0 => rowSize fun p => if isStep n p = true then some 1 else none
  | k + 1 => rowSize fun p => if isStep n p = true then some 1 else branchOf (szD n k) n p
def brD (n : Int) : Nat → D → Option Int
  | 0 => fun _ => none
  | k + 1 => branchOf (szD n k) n
def ptD (n : Int) (k : Nat) (p : D) : Option Int := if isStep n p = true then some 1 else brD n k p
theorem szD_eq (n : Int) (k : Nat) : szD n k = rowSize (ptD n k) := by cases k <;> rfl
def oD : Option Int → D
  | none => .none
  | some i => .int i
def c_size_of (k : Nat) : Ct := fun rs Q _ => ∃ n d, rs = [.s (.int n), .s d, .s (.int k)] ∧ Q (.s (oD (szD n k d)))
def c_branch (k : Nat) : Ct := fun rs Q _ => ∃ n d, rs = [.s (.int n), .s d, .s (.int k)] ∧ Q (.s (oD (brD n k d)))
theorem d_size_of {K : Frag} {cl : Ad} (k : Nat) : ∀ rs Q E, c_size_of k rs Q E → w_size_of K cl c_is_row c_is_step_of (c_branch k) (rho N_size_of.length rs) { nx := fun _ => Q (.s .none), rt := Q, er := fun cls _ => E cls } := by
  rintro rs Q E ⟨n, d, rfl, q⟩
  rw [szD_eq] at q
  unfold w_size_of c_is_step_of c_branch c_is_row
  try walk_at "dl"
  cases hr : isRow d 0 24 with
  | false =>
    have e : rowSize (ptD n k) d = none := by
      unfold rowSize
      split
      · simp [isRow] at hr ⊢
        omega
      · rfl
    rw [e] at q
    simpa [oD] using q
  | true =>
    obtain ⟨l, rfl, h1, h2⟩ := row_cases (a := 0) (b := 24) hr
    simp only [rowSize, h2, if_true] at q
    try walk_at "dl"
    refine ⟨fun i (ρ : Rho) => ∃ t v4 v5, ρ = [some (.s (.int n)), some (.s (.tuple l)), some (.s (.int k)), some (.s (.int t)), v4, v5] ∧ sizeL (ptD n k) l 0 = sizeL (ptD n k) (l.drop i) t, ?_, ?_, ?_⟩
    · exact ⟨0, none, none, rfl, rfl⟩
    · rintro i d ρ hi ⟨t, v4, v5, rfl, hs⟩
      unfold w_size_of_b1
      try walk_at "dl"
      rw [drop_at hi, sizeL] at hs
      cases hst : isStep n d with
      | true =>
        have e : ptD n k d = some 1 := by unfold ptD; rw [hst]; rfl
        simp only [e] at hs
        try walk_at "dl"
        refine ite_both (fun h => ?_) (fun h => ?_)
        · rw [if_pos (by simpa using h)] at hs
          rw [hs] at q
          exact q
        · rw [if_neg (by simpa using h)] at hs
          exact hs
      | false =>
        have e : ptD n k d = brD n k d := by unfold ptD; rw [hst]; rfl
        rw [e] at hs
        try walk_at "dl"
        cases hb : brD n k d with
        | none =>
          simp only [hb] at hs
          rw [hs] at q
          simpa [oD, isN_none] using q
        | some j =>
          simp only [hb] at hs
          try walk_at "dl"
          simp only [oD, isN_int]
          try walk_at "dl"
          refine ite_both (fun h => ?_) (fun h => ?_)
          · rw [if_pos (by simpa using h)] at hs
            rw [hs] at q
            exact q
          · rw [if_neg (by simpa using h)] at hs
            exact hs
    · rintro ρ ⟨t, v4, v5, rfl, hs⟩
      rw [List.drop_length] at hs
      try walk_at "dl"
      rw [hs] at q
      exact q
theorem d_branch_size {K : Frag} {cl : Ad} (k : Nat) (c : Ct) (hc : ∀ k', k = k' + 1 → c = c_size_of k') : ∀ rs Q E, c_branch k rs Q E → w_branch_size K cl c_is_row c_is_word c_is_condition_of c (rho N_branch_size.length rs) { nx := fun _ => Q (.s .none), rt := Q, er := fun cls _ => E cls } := by
  rintro rs Q E ⟨n, d, rfl, q⟩
  unfold w_branch_size c_is_word c_is_row c_is_condition_of
  try walk_at "dl"
  cases k with
  | zero =>
    simpa [brD, oD] using q
  | succ k =>
    rw [hc k rfl]
    simp only [brD] at q
    have h0 : ((((k + 1 : Nat) : Int)) == 0) = false := by simp; omega
    simp only [h0]
    try walk_at "dl"
    cases hr : isRow d 4 4 with
    | false =>
      have e : branchOf (szD n k) n d = none := by
        unfold branchOf
        split
        · simp [isRow] at hr
        · rfl
      rw [e] at q
      simpa [oD] using q
    | true =>
      obtain ⟨l, rfl, h1, h2⟩ := row_cases (a := 4) (b := 4) hr
      match l, h1, h2 with
      | [w, c, a, b], _, _ =>
        simp only [branchOf] at q
        try walk_at "dl"
        cases hw : isWord w [.str "if"] with
        | false => simpa [hw, oD] using q
        | true =>
          cases hv : isCond n c with
          | false => simpa [hw, hv, oD] using q
          | true =>
            simp only [hw, hv, Bool.and_self, if_true, c_size_of] at q ⊢
            try walk_at "dl"
            have e1 : ((k + 1 : Nat) : Int) - 1 = k := by omega
            refine ⟨e1, e1, ?_⟩
            cases ha : szD n k a with
            | none => simpa [oD, ha, isN_none] using q
            | some x =>
              cases hb : szD n k b with
              | none => simpa [oD, ha, hb, isN_none, isN_int] using q
              | some y => simpa [oD, ha, hb, isN_none, isN_int] using q
def isProg (n : Int) (d : D) : Bool := (szD n 4 d).isSome
def c_is_program_of : Ct := fun rs Q _ => ∃ n d, rs = [.s (.int n), .s d] ∧ Q (.s (.bool (isProg n d)))
theorem d_is_program_of {K : Frag} {cl : Ad} : ∀ rs Q E, c_is_program_of rs Q E → w_is_program_of K cl (c_size_of 4) (rho N_is_program_of.length rs) { nx := fun _ => Q (.s .none), rt := Q, er := fun cls _ => E cls } := by
  rintro rs Q E ⟨n, d, rfl, q⟩
  unfold w_is_program_of c_size_of
  try walk_at "dl"
  refine ⟨rfl, ?_⟩
  unfold isProg at q
  cases h : szD n 4 d <;> simpa [h, oD, isN_none, isN_int, R.isS] using q
theorem d_is_program {K : Frag} {cl : Ad} : ∀ rs Q E, c_judge cl isProg rs Q E → w_is_program K cl (c_need_many cl) c_is_program_of (rho N_is_program.length rs) { nx := fun _ => Q (.s .none), rt := Q, er := fun cls _ => E cls } := by
  rintro rs Q E ⟨m, d, rfl, q⟩
  unfold w_is_program c_is_program_of c_need_many
  try walk_at "dl"
  cases h : within m 0 4 with
  | false => simpa [h] using q
  | true =>
    obtain ⟨n, rfl, _⟩ := within_int h
    simp only [h, if_true] at q ⊢
    exact ⟨n, rfl, q n rfl⟩
def c_need_program (cl : Ad) : Ct := fun rs Q E => ∃ m d, rs = [.s m, .s d] ∧ if within m 0 4 = true then ∀ n, m = .int n → (if isProg n d = true then Q (.s .none) else E (.ref cl.c_BadProgram)) else E (.ref cl.c_BadMany)
theorem d_need_program {K : Frag} {cl : Ad} : ∀ rs Q E, c_need_program cl rs Q E → w_need_program K cl (c_need_many cl) c_is_program_of (rho N_need_program.length rs) { nx := fun _ => Q (.s .none), rt := Q, er := fun cls _ => E cls } := by
  rintro rs Q E ⟨m, d, rfl, q⟩
  unfold w_need_program c_is_program_of c_need_many
  try walk_at "dl"
  cases h : within m 0 4 with
  | false => simpa [h] using q
  | true =>
    obtain ⟨n, rfl, _⟩ := within_int h
    simp only [h, if_true] at q ⊢
    refine ⟨n, rfl, ?_⟩
    have q := q n rfl
    cases hp : isProg n d <;> simpa [hp] using q
/-- a part whose first word is "if" -/
def isBr : D → Bool
  | .tuple (w :: _) => PyData.eqv w (.str "if")
  | _ => false
/-- what is surely a row of parts: each a row with a word ahead -/
def Parts (l : List D) : Prop := ∀ p ∈ l, ∃ w r, p = .tuple (w :: r) ∧ Sh w
def c_is_straight_of : Ct := fun rs Q _ => ∃ l, rs = [.s (.tuple l)] ∧ l.length ≤ 1000 ∧ Parts l ∧ Q (.s (.bool (!l.any isBr)))
theorem d_is_straight_of {K : Frag} {cl : Ad} : ∀ rs Q E, c_is_straight_of rs Q E → w_is_straight_of K cl c_is_branch (rho N_is_straight_of.length rs) { nx := fun _ => Q (.s .none), rt := Q, er := fun cls _ => E cls } := by
  rintro rs Q E ⟨l, rfl, hl, hp, q⟩
  unfold w_is_straight_of c_is_branch
  try walk_at "dl"
  refine ⟨fun i (acc : List D) => acc = (l.take i).map fun p => .bool (isBr p), rfl, fun k acc d hd e => ?_, fun acc e => ?_⟩
  · subst e
    obtain ⟨w, r, rfl, hw⟩ := hp d (List.mem_of_getElem? hd)
    refine ⟨w, ⟨r, rfl⟩, hw, ?_, ?_⟩
    · rw [List.length_map, List.length_take]; omega
    · dsimp only; rw [take_at hd, List.map_append]; rfl
  · subst e
    refine ⟨l.map isBr, by rw [List.take_length, List.map_map]; rfl, ?_⟩
    rw [List.any_map]
    exact q
def c_is_straight (cl : Ad) : Ct := fun rs Q E => ∃ m d, rs = [.s m, .s d] ∧ if within m 0 4 = true then ∀ n, m = .int n → (if isProg n d = true then (∀ l, d = .tuple l → Q (.s (.bool (!l.any isBr)))) else E (.ref cl.c_BadProgram)) else E (.ref cl.c_BadMany)
theorem prog_len {n : Int} {d : D} (h : isProg n d = true) : ∃ l, d = .tuple l ∧ l.length ≤ 24 ∧ (sizeL (ptD n 4) l 0).isSome = true := by
  unfold isProg at h
  rw [szD_eq] at h
  cases d with
  | tuple l =>
    simp only [rowSize] at h
    by_cases hl : l.length ≤ 24
    · rw [if_pos hl] at h; exact ⟨l, rfl, hl, h⟩
    · rw [if_neg hl] at h; cases h
  | _ => simp [rowSize] at h
theorem sizeL_mem {f : D → Option Int} : ∀ {l : List D} {t : Int}, (sizeL f l t).isSome = true → ∀ p ∈ l, (f p).isSome = true
  | [], _, _, p, hp => nomatch hp
  | a :: l, t, h, p, hp => by
    unfold sizeL at h
    cases e : f a with
    | none => simp only [e] at h; cases h
    | some m =>
      simp only [e] at h
      by_cases q : t + m > 24
      · rw [if_pos q] at h; cases h
      · rw [if_neg q] at h
        rcases List.mem_cons.mp hp with rfl | hp
        · rw [e]; rfl
        · exact sizeL_mem h p hp
theorem word_sh {w : D} {ws : List Str} (h : isWord w (ws.map PyData.str) = true) (hs : ∀ x ∈ ws, Sh (.str x)) : Sh w := by
  obtain ⟨x, rfl, hx⟩ := word_cases h
  exact hs x hx
theorem ptD_shape {n : Int} {k : Nat} {p : D} (h : (ptD n k p).isSome = true) : ∃ w r, p = .tuple (w :: r) ∧ Sh w := by
  unfold ptD at h
  cases hs : isStep n p with
  | true =>
    unfold isStep at hs
    split at hs
    · simp only [Bool.and_eq_true] at hs; exact ⟨_, _, rfl, (w5_sh hs.1.1).2.1⟩
    · simp only [Bool.and_eq_true] at hs; exact ⟨_, _, rfl, (w5_sh hs.1.1.1).2.1⟩
    · cases hs
  | false =>
    rw [hs, if_neg Bool.false_ne_true] at h
    cases k with
    | zero => cases h
    | succ k =>
      simp only [brD] at h
      unfold branchOf at h
      split at h
      · split at h
        · rename_i hc
          simp only [Bool.and_eq_true] at hc
          exact ⟨_, _, rfl, word_sh (ws := ["if"]) hc.1 (by intro x hx; simp only [List.mem_singleton] at hx; subst hx; exact sh_if)⟩
        · cases h
      · cases h
theorem prog_parts {n : Int} {l : List D} (h : (sizeL (ptD n 4) l 0).isSome = true) : Parts l := fun p hp => ptD_shape (sizeL_mem h p hp)
theorem d_is_straight {K : Frag} {cl : Ad} : ∀ rs Q E, c_is_straight cl rs Q E → w_is_straight K cl (c_need_program cl) c_is_straight_of (rho N_is_straight.length rs) { nx := fun _ => Q (.s .none), rt := Q, er := fun cls _ => E cls } := by
  rintro rs Q E ⟨m, d, rfl, q⟩
  unfold w_is_straight c_is_straight_of c_need_program
  try walk_at "dl"
  cases h : within m 0 4 with
  | false => simpa [h] using q
  | true =>
    obtain ⟨n, rfl, _⟩ := within_int h
    simp only [h, if_true] at q ⊢
    intro n' e
    cases e
    have q := q n rfl
    cases hp : isProg n d with
    | false => simpa [hp] using q
    | true =>
      obtain ⟨l, rfl, hl, hs⟩ := prog_len hp
      simp only [hp, if_true] at q ⊢
      exact ⟨l, rfl, by omega, prog_parts hs, q l rfl⟩
def c_size (cl : Ad) : Ct := fun rs Q E => ∃ m d, rs = [.s m, .s d] ∧ if within m 0 4 = true then ∀ n, m = .int n → (match szD n 4 d with | some z => Q (.s (.int z)) | none => E (.ref cl.c_BadProgram)) else E (.ref cl.c_BadMany)
theorem d_size {K : Frag} {cl : Ad} : ∀ rs Q E, c_size cl rs Q E → w_size K cl (c_size_of 4) (c_need_program cl) (rho N_size.length rs) { nx := fun _ => Q (.s .none), rt := Q, er := fun cls _ => E cls } := by
  rintro rs Q E ⟨m, d, rfl, q⟩
  unfold w_size c_size_of c_need_program
  try walk_at "dl"
  cases h : within m 0 4 with
  | false => simpa [h] using q
  | true =>
    obtain ⟨n, rfl, _⟩ := within_int h
    simp only [h, if_true] at q ⊢
    intro n' e
    cases e
    have q := q n rfl
    unfold isProg
    cases hz : szD n 4 d with
    | none => simpa [hz] using q
    | some z =>
      simp only [hz] at q
      simp only [Option.isSome, if_true]
      exact ⟨n, rfl, rfl, by simpa [hz, oD] using q⟩

/-! `_law_same` -/
mutual
def plainD : D → Bool
  | .none | .bool _ | .int _ => true
  | .str x => PyData.canLay0 (.str x)
  | .tuple xs => plainAll xs
  | .list _ | .dict _ => false
def plainAll : List D → Bool
  | [] => true
  | x :: xs => plainD x && plainAll xs
end
mutual
def nd : D → Nat
  | .tuple xs => ndAll xs + 1
  | .none | .bool _ | .int _ | .str _ | .list _ | .dict _ => 1
def ndAll : List D → Nat
  | [] => 0
  | x :: xs => nd x + ndAll xs
end
mutual
def same : D → D → Bool
  | a, .tuple ys => match a with
    | .tuple xs => xs.length == ys.length && sameAll xs ys
    | _ => false
  | a, .none => match a with | .none => true | _ => false
  | a, .bool k => match a with | .bool j => j == k | _ => false
  | a, .str k => match a with | .str j => j == k | _ => false
  | a, .int k => match a with | .int j => j == k | _ => false
  | _, .list _ => false
  | _, .dict _ => false
def sameAll : List D → List D → Bool
  | x :: xs, y :: ys => same x y && sameAll xs ys
  | _, _ => true
end
mutual
theorem same_refl : ∀ d : D, plainD d = true → same d d = true
  | .none, _ => by simp [same]
  | .bool b, _ => by simp [same]
  | .int b, _ => by simp [same]
  | .str b, _ => by simp [same]
  | .tuple xs, h => by
    simp only [plainD] at h
    simp [same, sameAll_refl xs h]
  | .list _, h => by simp [plainD] at h
  | .dict _, h => by simp [plainD] at h
theorem sameAll_refl : ∀ xs : List D, plainAll xs = true → sameAll xs xs = true
  | [], _ => by simp [sameAll]
  | x :: xs, h => by
    simp only [plainAll, Bool.and_eq_true] at h
    simp [sameAll, same_refl x h.1, sameAll_refl xs h.2]
end
theorem plainAll_mem : ∀ {xs : List D}, plainAll xs = true → ∀ x ∈ xs, plainD x = true
  | _ :: _, h, x, hx => by
    simp only [plainAll, Bool.and_eq_true] at h
    rcases List.mem_cons.mp hx with rfl | hx
    · exact h.1
    · exact plainAll_mem h.2 x hx
theorem layAll_mem : ∀ {xs : List D}, PyData.canLayAll0 xs = true → ∀ x ∈ xs, PyData.canLay0 x = true
  | _ :: _, h, x, hx => by
    simp only [PyData.canLayAll0, Bool.and_eq_true] at h
    rcases List.mem_cons.mp hx with rfl | hx
    · exact h.1
    · exact layAll_mem h.2 x hx
theorem ndAll_sum : ∀ xs : List D, ndAll xs = (xs.map nd).sum
  | [] => by simp [ndAll]
  | x :: xs => by simp [ndAll, ndAll_sum xs]
theorem nd_pos' (d : D) : 1 ≤ nd d := by cases d <;> simp [nd]
theorem nd_len (ys : List D) : ys.length ≤ (ys.map nd).sum := by
  induction ys with
  | nil => exact Nat.le_refl _
  | cons z ys ih => have := nd_pos' z; simp only [List.length_cons, List.map_cons, List.sum_cons]; omega
theorem nd_pos (d : D) : 1 ≤ nd d := by cases d <;> simp [nd]
theorem sameAll_zip : ∀ xs ys : List D, sameAll xs ys = (xs.zip ys).all fun p => same p.1 p.2
  | [], [] => by simp [sameAll]
  | [], _ :: _ => by simp [sameAll]
  | _ :: _, [] => by simp [sameAll]
  | x :: xs, y :: ys => by simp [sameAll, sameAll_zip xs ys]
def pairD (p : D × D) : D := .tuple [p.1, p.2]
def ndP : D → Nat
  | .tuple [_, b] => nd b
  | _ => 0
def muS (ρ : Rho) : Nat := match (ρ[2]? : Option (Option R)) with
  | some (some (R.l _ xs)) => (xs.map ndP).sum
  | _ => 0
def GoodP (p : D × D) : Prop := PyData.canLay0 p.1 = true ∧ plainD p.2 = true ∧ PyData.depth p.1 ≤ 60 ∧ PyData.depth p.2 ≤ 60
def c_same : Ct := fun rs Q _ => ∃ a b, rs = [.s a, .s b] ∧ PyData.canLay0 a = true ∧ plainD b = true ∧ PyData.depth a ≤ 60 ∧ PyData.depth b ≤ 60 ∧ nd b ≤ 100000 ∧ Q (.s (.bool (same a b)))
theorem sum_ndP (W : List (D × D)) : ((W.map pairD).map ndP).sum = (W.map fun p => nd p.2).sum := by
  rw [List.map_map]; rfl
theorem len_ndP (W : List (D × D)) : W.length ≤ (W.map fun p => nd p.2).sum := by
  induction W with
  | nil => exact Nat.le_refl _
  | cons p W ih =>
    have := nd_pos p.2
    simp only [List.length_cons, List.map_cons, List.sum_cons]
    omega
mutual
theorem plain_lay : ∀ d : D, plainD d = true → PyData.canLay0 d = true
  | .none, _ => by simp [PyData.canLay0]
  | .bool b, _ => by simp [PyData.canLay0]
  | .int b, _ => by simp [PyData.canLay0]
  | .str b, h => by simpa [plainD] using h
  | .tuple xs, h => by
    simp only [plainD] at h
    simp only [PyData.canLay0, plainAll_lay xs h]
  | .list _, h => by simp [plainD] at h
  | .dict _, h => by simp [plainD] at h
theorem plainAll_lay : ∀ xs : List D, plainAll xs = true → PyData.canLayAll0 xs = true
  | [], _ => by simp [PyData.canLayAll0]
  | x :: xs, h => by
    simp only [plainAll, Bool.and_eq_true] at h
    simp only [PyData.canLayAll0, plain_lay x h.1, plainAll_lay xs h.2, Bool.and_self]
end
theorem depthAll_mem : ∀ {xs : List D} {n : Nat}, PyData.depthAll xs ≤ n → ∀ x ∈ xs, PyData.depth x ≤ n
  | _ :: _, n, h, x, hx => by
    simp only [PyData.depthAll] at h
    rcases List.mem_cons.mp hx with rfl | hx
    · omega
    · exact depthAll_mem (by omega) x hx
theorem depthAll_le : ∀ {xs : List D} {n : Nat}, (∀ x ∈ xs, PyData.depth x ≤ n) → PyData.depthAll xs ≤ n
  | [], n, _ => by simp [PyData.depthAll]
  | x :: xs, n, h => by
    simp only [PyData.depthAll]
    have := h x List.mem_cons_self
    have := depthAll_le (xs := xs) fun y hy => h y (List.mem_cons_of_mem _ hy)
    omega
theorem layAll_of : ∀ {xs : List D}, (∀ x ∈ xs, PyData.canLay0 x = true) → PyData.canLayAll0 xs = true
  | [], _ => by simp [PyData.canLayAll0]
  | x :: xs, h => by
    simp only [PyData.canLayAll0, h x List.mem_cons_self, layAll_of fun y hy => h y (List.mem_cons_of_mem _ hy), Bool.and_self]
theorem sh_pairs {W : List (D × D)} (h : ∀ p ∈ W, GoodP p) : Sh (.list (W.map pairD)) := by
  have h1 : PyData.canLayAll0 (W.map pairD) = true := layAll_of fun x hx => by
    obtain ⟨p, hp, rfl⟩ := List.mem_map.mp hx
    obtain ⟨a, b, _⟩ := h p hp
    simp only [pairD, PyData.canLay0, PyData.canLayAll0, a, plain_lay _ b, Bool.and_self]
  have h2 : PyData.depthAll (W.map pairD) ≤ 61 := depthAll_le fun x hx => by
    obtain ⟨p, hp, rfl⟩ := List.mem_map.mp hx
    obtain ⟨_, _, a, b⟩ := h p hp
    simp only [pairD, PyData.depth, PyData.depthAll]
    omega
  unfold Sh SeqAt.shaped
  simp only [PyData.canLay0, PyData.depth, h1, Bool.true_and]
  exact decide_eq_true (by omega)
theorem last_of {α : Type} (l : List α) : l = [] ∨ ∃ L b, l = L ++ [b] := by
  rcases l.eq_nil_or_concat with h | ⟨L, b, h⟩
  · exact .inl h
  · exact .inr ⟨L, b, by rw [h, List.concat_eq_append]⟩
theorem lay_sh {d : D} (h : PyData.canLay0 d = true) (hd : PyData.depth d = 0) : Sh d := by
  unfold Sh SeqAt.shaped
  rw [h, hd]; rfl
theorem d_law_same {K : Frag} {cl : Ad} : ∀ rs Q E, c_same rs Q E → w_law_same K cl (rho N_law_same.length rs) { nx := fun _ => Q (.s .none), rt := Q, er := fun cls _ => E cls } := by
  rintro rs Q E ⟨a, b, rfl, ha, hb, da, db, hn, q⟩
  unfold w_law_same
  try walk_at "dl"
  refine ⟨fun (ρ : Rho) => ∃ (W : List (D × D)) (v3 v4 v5 : Option R), ρ = [some (.s a), some (.s b), some (.l true (W.map pairD)), v3, v4, v5] ∧ (∀ p ∈ W, GoodP p) ∧ (W.map fun p => nd p.2).sum ≤ 100000 ∧ same a b = W.all fun p => same p.1 p.2,
    ⟨[(a, b)], none, none, none, rfl, ?_, ?_, ?_⟩, muS, ?_⟩
  · intro p hp
    rw [List.mem_singleton] at hp
    subst hp
    exact ⟨ha, hb, da, db⟩
  · simpa using hn
  · simp
  rintro ρ ⟨W, v3, v4, v5, rfl, hg, hs, he⟩
  unfold w_law_same_b1
  have hl := len_ndP W
  rcases last_of W with rfl | ⟨W', ⟨x, y⟩, rfl⟩
  · rw [he] at q
    try walk_at "dl"
    exact ⟨sh_of rfl, sh_of rfl, by simpa [PyData.eqv, PyData.eqvAll] using q⟩
  have hxy := hg (x, y) (by simp)
  have hg' : ∀ p ∈ W', GoodP p := fun p hp => hg p (by simp [hp])
  rw [List.map_append, List.sum_append] at hs
  simp only [List.map_cons, List.map_nil, List.sum_cons, List.sum_nil] at hs
  rw [List.all_append] at he
  simp only [List.all_cons, List.all_nil, Bool.and_true] at he
  have fail : same x y = false → Q (.s (.bool false)) := fun h => by
    rw [he, h, Bool.and_false] at q
    exact q
  have mu : ∀ (z3 z4 z5 u3 u4 u5 : Option R) (Z : List (D × D)), (Z.map fun p => nd p.2).sum < nd y → muS [some (.s a), some (.s b), some (.l true ((W' ++ Z).map pairD)), z3, z4, z5] < muS [some (.s a), some (.s b), some (.l true ((W' ++ [(x, y)]).map pairD)), u3, u4, u5] := fun z3 z4 z5 u3 u4 u5 Z h => by
    show (((W' ++ Z).map pairD).map ndP).sum < (((W' ++ [(x, y)]).map pairD).map ndP).sum
    rw [sum_ndP, sum_ndP, List.map_append, List.map_append, List.sum_append, List.sum_append]
    simp only [List.map_cons, List.map_nil, List.sum_cons, List.sum_nil]
    omega
  have nxt : same x y = true → (∃ W : List (D × D), W'.map pairD = W.map pairD ∧ (∀ p ∈ W, GoodP p) ∧ (W.map fun p => nd p.2).sum ≤ 100000 ∧ same a b = W.all fun p => same p.1 p.2) ∧
      ∀ (z3 z4 z5 u3 u4 u5 : Option R), muS [some (.s a), some (.s b), some (.l true (W'.map pairD)), z3, z4, z5] < muS [some (.s a), some (.s b), some (.l true ((W' ++ [(x, y)]).map pairD)), u3, u4, u5] := fun h => by
    refine ⟨⟨W', rfl, hg', by omega, by rw [he, h, Bool.and_true]⟩, fun z3 z4 z5 u3 u4 u5 => ?_⟩
    have := mu z3 z4 z5 u3 u4 u5 [] (by have := nd_pos y; simp only [List.map_nil, List.sum_nil]; omega)
    simpa using this
  have shW : Sh (.list ((W' ++ [(x, y)]).map pairD)) := sh_pairs hg
  have ne : PyData.eqv (.list ((W' ++ [(x, y)]).map pairD)) (.list []) = false := by cases W' <;> simp [PyData.eqv, PyData.eqvAll]
  try walk_at "dl"
  refine ⟨shW, sh_of rfl, ?_⟩
  rw [ne]
  try walk_at "dl"
  refine ⟨W'.map pairD, pairD (x, y), by simp, ?_⟩
  simp only [pairD]
  try walk_at "dl"
  have scal : ∀ {c : Bool} {A : Prop}, same x y = c → (c = true → A) → if (!c) = true then Q (.s (.bool false)) else A := fun {c A} e h => by
    cases c with
    | true => simpa using h rfl
    | false => simpa using fail e
  cases y with
  | tuple ys =>
    simp only [isT, if_true]
    cases x with
    | tuple xs =>
      try walk_at "dl"
      have hlen : (!((xs.length : Int) == (ys.length : Int))) = !(xs.length == ys.length) := by
        rw [Bool.eq_iff_iff]; simp; omega
      rw [hlen]
      by_cases hc : xs.length = ys.length
      · have hnd : nd (.tuple ys) = (ys.map nd).sum + 1 := by rw [nd, ndAll_sum]
        have hb2 := nd_len ys
        have hwl := len_ndP W'
        simp only [hc, beq_self_eq_true, Bool.not_true, Bool.false_eq_true, if_false]
        refine ⟨by omega, by omega, fun k (acc : List D) => acc = ((xs.zip ys).take k).map pairD, rfl, fun k acc d hd e => ?_, fun acc e => ?_⟩
        · subst e
          have hk : k < ys.length := by
            have := (List.getElem?_eq_some_iff.mp hd).1
            simpa [rangeD] using this
          have ed : d = .int (k : Int) := by
            have : (rangeD 0 ys.length)[k]? = some (.int (0 + (k : Int))) := by simp [rangeD, hk]
            simp only [Int.toNat_natCast] at hd
            rw [this] at hd
            cases hd
            simp
          subst ed
          have hx : xs[k]? = some (xs[k]'(by omega)) := List.getElem?_eq_getElem (by omega)
          have hy : ys[k]? = some (ys[k]'hk) := List.getElem?_eq_getElem hk
          have hz : (xs.zip ys)[k]? = some (xs[k]'(by omega), ys[k]'hk) := by rw [List.getElem?_zip_eq_some]; exact ⟨hx, hy⟩
          refine ⟨k, rfl, _, atI_nat hx, k, rfl, _, atI_nat hy, ?_, ?_⟩
          · rw [List.length_map, List.length_take]; omega
          · dsimp only; rw [take_at hz, List.map_append]; rfl
        · subst e
          have el : (rangeD 0 (ys.length : Int).toNat).length = (xs.zip ys).length := by simp [rangeD, hc]
          rw [el, List.take_length]
          have sz : ((xs.zip ys).map fun p => nd p.2).sum = (ys.map nd).sum := by
            have : (xs.zip ys).map (fun p => nd p.2) = ((xs.zip ys).map Prod.snd).map nd := by rw [List.map_map]; rfl
            rw [this, List.map_snd_zip (by omega)]
          refine ⟨?_, ⟨W' ++ xs.zip ys, by rw [List.map_append], fun p hp => ?_, ?_, ?_⟩, ?_⟩
          · simp only [List.length_map, List.length_zip]; omega
          · rcases List.mem_append.mp hp with hp | hp
            · exact hg' p hp
            · obtain ⟨p1, p2⟩ := p
              have m1 := (List.of_mem_zip hp).1
              have m2 := (List.of_mem_zip hp).2
              obtain ⟨g1, g2, g3, g4⟩ := hxy
              simp only [PyData.canLay0, plainD, PyData.depth] at g1 g2 g3 g4
              exact ⟨layAll_mem g1 _ m1, plainAll_mem g2 _ m2, depthAll_mem (by omega) _ m1, depthAll_mem (by omega) _ m2⟩
          · rw [List.map_append, List.sum_append, sz]; omega
          · rw [he, List.all_append]
            congr 1
            simp only [same, hc, beq_self_eq_true, Bool.true_and, sameAll_zip]
          · rw [← List.map_append]
            exact mu _ _ _ _ _ _ _ (by rw [sz]; omega)
      · have hc' : (xs.length == ys.length) = false := by simpa using hc
        simp only [hc', Bool.not_false, if_true]
        exact fail (by simp [same, hc'])
    | _ => simpa [isT] using fail (by simp [same])
  | none =>
    simp only [isT, isN_none, Bool.false_eq_true, if_false, if_true]
    cases x <;> simp only [isN_none, isN_int, isN_bool, isN_str, isN_tup, R.isN, Bool.not_true, Bool.not_false, Bool.false_eq_true, if_false, if_true] <;> first | exact fail (by simp [same]) | exact ⟨(nxt (by simp [same])).1, (nxt (by simp [same])).2 _ _ _ _ _ _⟩
  | bool k =>
    simp only [isT, isN_bool, isB, Bool.false_eq_true, if_false, if_true]
    cases x <;> simp only [isB, Bool.not_true, Bool.not_false, Bool.false_eq_true, if_false, if_true] <;> try exact fail (by simp [same])
    refine ⟨sh_bool _, sh_bool _, ?_⟩
    rw [eqv_bool]
    exact scal (by simp [same]) fun h => ⟨(nxt (by simpa [same] using h)).1, (nxt (by simpa [same] using h)).2 _ _ _ _ _ _⟩
  | str k =>
    simp only [isT, isN_str, isB, DL.isS, Bool.false_eq_true, if_false, if_true]
    cases x <;> simp only [DL.isS, Bool.not_true, Bool.not_false, Bool.false_eq_true, if_false, if_true] <;> try exact fail (by simp [same])
    refine ⟨lay_sh hxy.1 (by simp [PyData.depth]), lay_sh (plain_lay _ hxy.2.1) (by simp [PyData.depth]), ?_⟩
    rw [eqv_str]
    exact scal (by simp [same]) fun h => ⟨(nxt (by simpa [same] using h)).1, (nxt (by simpa [same] using h)).2 _ _ _ _ _ _⟩
  | int k =>
    simp only [isT, isN_int, isB, DL.isS, Bool.false_eq_true, if_false, if_true]
    cases x <;> simp only [isI, isB, Bool.not_true, Bool.not_false, Bool.false_eq_true, if_false, if_true] <;> try exact fail (by simp [same])
    refine ⟨sh_int _, sh_int _, ?_⟩
    rw [eqv_int]
    exact scal (by simp [same]) fun h => ⟨(nxt (by simpa [same] using h)).1, (nxt (by simpa [same] using h)).2 _ _ _ _ _ _⟩
  | list ys => exact absurd hxy.2.1 (by simp [plainD])
  | dict ys => exact absurd hxy.2.1 (by simp [plainD])

def c_law_step : Ct := fun rs Q _ => ∃ m : Int, rs = [.g, .s (.int m)] ∧ 1 ≤ m ∧ m ≤ 4 ∧ ∀ d, isStep m d = true → Q (.s d)
theorem d_law_step {K : Frag} {cl : Ad} : ∀ rs Q E, c_law_step rs Q E → w_law_step K cl c_pick (rho N_law_step.length rs) { nx := fun _ => Q (.s .none), rt := Q, er := fun cls _ => E cls } := by
  rintro rs Q E ⟨m, rfl, h1, h2, q⟩
  unfold w_law_step c_pick
  try walk_at "dl"
  refine ⟨by decide, by decide, fun r r0 r1 => ?_⟩
  have hw : ∃ w, atI [PyData.str "set", .str "follow", .str "put", .str "new", .str "free", .str "follow", .str "put", .str "new"] r = some w ∧ isWord w W5 = true := by
    have : r = 0 ∨ r = 1 ∨ r = 2 ∨ r = 3 ∨ r = 4 ∨ r = 5 ∨ r = 6 ∨ r = 7 := by omega
    rcases this with rfl | rfl | rfl | rfl | rfl | rfl | rfl | rfl <;> exact ⟨_, rfl, by decide +kernel⟩
  obtain ⟨w, hw1, hw⟩ := hw
  obtain ⟨f1, f2, f3⟩ := w5_sh hw
  refine ⟨w, hw1, by omega, by omega, fun f g0 g1 => ?_⟩
  try walk_at "dl"
  simp only [f1, f2, f3, sh_follow, true_and]
  have hf : within (.int f) 0 (m - 1) = true := by simp [within]; omega
  cases h2 : isWord w W2 with
  | true =>
    refine (if_pos rfl).mpr (q _ ?_)
    simp [isStep, hw, h2, hf]
  | false =>
    refine (if_neg Bool.false_ne_true).mpr ?_
    refine ite_both (fun hff => ⟨by omega, by omega, fun r r0 r1 => q _ ?_⟩) (fun hff => ⟨by omega, by omega, fun r r0 r1 => q _ ?_⟩)
    · simp [isStep, hw, h2, hf, hff, within]; omega
    · simp [isStep, hw, h2, hf, hff, within]; omega
def c_law_condition : Ct := fun rs Q _ => ∃ m : Int, rs = [.g, .s (.int m)] ∧ 1 ≤ m ∧ m ≤ 4 ∧ ∀ w a b, isWord w [.str "same", .str "unlike"] = true → -1 ≤ a → a < m → -1 ≤ b → b < m → Q (.s (.tuple [w, .int a, .int b]))
theorem d_law_condition {K : Frag} {cl : Ad} : ∀ rs Q E, c_law_condition rs Q E → w_law_condition K cl c_pick (rho N_law_condition.length rs) { nx := fun _ => Q (.s .none), rt := Q, er := fun cls _ => E cls } := by
  rintro rs Q E ⟨m, rfl, h1, h2, q⟩
  unfold w_law_condition c_pick
  try walk_at "dl"
  refine ⟨by decide, by decide, fun r r0 r1 => ?_⟩
  have hw : ∃ w, atI [PyData.str "same", .str "unlike"] r = some w ∧ isWord w [.str "same", .str "unlike"] = true := by
    have : r = 0 ∨ r = 1 := by omega
    rcases this with rfl | rfl <;> exact ⟨_, rfl, by decide +kernel⟩
  obtain ⟨w, hw1, hw⟩ := hw
  refine ⟨w, hw1, by omega, by omega, fun a a0 a1 => ⟨by omega, by omega, fun b b0 b1 => ?_⟩⟩
  try walk_at "dl"
  exact q w _ _ hw (by omega) (by omega) (by omega) (by omega)
theorem cond_ok {m : Int} {w : D} {a b : Int} (hw : isWord w [.str "same", .str "unlike"] = true) (h1 : -1 ≤ a) (h2 : a < m) (h3 : -1 ≤ b) (h4 : b < m) : isCond m (.tuple [w, .int a, .int b]) = true := by
  simp [isCond, hw, within]; omega
/-! sizes -/
theorem br_mono {n : Int} {g g' : D → Option Int} (h : ∀ d z, g d = some z → g' d = some z) : ∀ p z, branchOf g n p = some z → branchOf g' n p = some z := by
  intro p z e
  unfold branchOf at e ⊢
  split at e
  · split at e
    · rename_i w c a b hc
      simp only [hc, if_true]
      cases ha : g a with
      | none => simp [ha] at e
      | some x =>
        cases hb : g b with
        | none => simp [ha, hb] at e
        | some y =>
          simp only [ha, hb] at e
          simp only [h a x ha, h b y hb]
          exact e
    · cases e
  · cases e
theorem sizeL_mono {f f' : D → Option Int} (h : ∀ p z, f p = some z → f' p = some z) : ∀ (l : List D) (t z : Int), sizeL f l t = some z → sizeL f' l t = some z
  | [], t, z, e => e
  | p :: ps, t, z, e => by
    unfold sizeL at e ⊢
    cases hp : f p with
    | none => simp [hp] at e
    | some m =>
      simp only [hp] at e
      simp only [h p m hp]
      by_cases q : t + m > 24
      · rw [if_pos q] at e; cases e
      · rw [if_neg q] at e ⊢; exact sizeL_mono h ps _ _ e
theorem row_mono {f f' : D → Option Int} (h : ∀ p z, f p = some z → f' p = some z) : ∀ d z, rowSize f d = some z → rowSize f' d = some z := by
  intro d z e
  cases d with
  | tuple l =>
    simp only [rowSize] at e ⊢
    by_cases q : l.length ≤ 24
    · rw [if_pos q] at e ⊢; exact sizeL_mono h l _ _ e
    · rw [if_neg q] at e; cases e
  | _ => simp [rowSize] at e
theorem sz_mono {n : Int} : ∀ k : Nat, (∀ d z, szD n k d = some z → szD n (k + 1) d = some z) ∧ (∀ p z, ptD n k p = some z → ptD n (k + 1) p = some z)
  | 0 => by
    have hp : ∀ p z, ptD n 0 p = some z → ptD n 1 p = some z := fun p z e => by
      unfold ptD at e ⊢
      cases hs : isStep n p with
      | true => rw [hs] at e; simpa using e
      | false => rw [hs] at e; simp [brD] at e
    exact ⟨fun d z e => by rw [szD_eq] at e ⊢; exact row_mono hp d z e, hp⟩
  | k + 1 => by
    obtain ⟨h1, h2⟩ := sz_mono (n := n) k
    have hp : ∀ p z, ptD n (k + 1) p = some z → ptD n (k + 2) p = some z := fun p z e => by
      unfold ptD at e ⊢
      cases hs : isStep n p with
      | true => rw [hs] at e; simpa using e
      | false =>
        rw [hs] at e
        simp only [Bool.false_eq_true, if_false, brD] at e ⊢
        exact br_mono h1 p z e
    exact ⟨fun d z e => by rw [szD_eq] at e ⊢; exact row_mono hp d z e, hp⟩
theorem pt_up {n : Int} {k : Nat} {p : D} {z : Int} (e : ptD n k p = some z) : ∀ j : Nat, ptD n (k + j) p = some z
  | 0 => e
  | j + 1 => (sz_mono (k + j)).2 p z (pt_up e j)
theorem size_up {n : Int} {k : Nat} {l : List D} {t z : Int} (e : sizeL (ptD n k) l t = some z) (j : Nat) : sizeL (ptD n (k + j)) l t = some z := sizeL_mono (fun p z h => pt_up h j) l t z e
theorem sizeL_app {f : D → Option Int} : ∀ (l : List D) (p : D) (t z m : Int), sizeL f l t = some z → f p = some m → z + m ≤ 24 → sizeL f (l ++ [p]) t = some (z + m)
  | [], p, t, z, m, e, h, hz => by
    cases e
    show sizeL f [p] t = some (t + m)
    simp only [sizeL, h]
    rw [if_neg (by omega)]
  | a :: l, p, t, z, m, e, h, hz => by
    rw [List.cons_append]
    unfold sizeL at e ⊢
    cases ha : f a with
    | none => simp [ha] at e
    | some y =>
      simp only [ha] at e ⊢
      by_cases q : t + y > 24
      · rw [if_pos q] at e; cases e
      · rw [if_neg q] at e ⊢; exact sizeL_app l p _ _ _ e h hz
theorem sizeL_sum {f : D → Option Int} : ∀ (l : List D) (t z : Int), sizeL f l t = some z → z = t + (l.map fun p => (f p).getD 0).sum
  | [], t, z, e => by cases e; simp
  | a :: l, t, z, e => by
    unfold sizeL at e
    cases ha : f a with
    | none => simp [ha] at e
    | some y =>
      simp only [ha] at e
      by_cases q : t + y > 24
      · rw [if_pos q] at e; cases e
      · rw [if_neg q] at e
        have := sizeL_sum l _ _ e
        simp only [List.map_cons, List.sum_cons, ha, Option.getD_some]
        omega
theorem sizeL_len {f : D → Option Int} (l : List D) (h : rowSize f (.tuple l) ≠ none) : l.length ≤ 24 := by
  simp only [rowSize] at h
  by_cases q : l.length ≤ 24
  · exact q
  · rw [if_neg q] at h; exact absurd rfl h
def c_law_size (k : Nat) : Ct := fun rs Q _ => ∃ (n : Int) (l : List D) (z : Int), rs = [.s (.tuple l)] ∧ l.length ≤ 24 ∧ sizeL (ptD n k) l 0 = some z ∧ Q (.s (.int z))
theorem sz_tuple {n : Int} {k : Nat} {d : D} {x : Int} (h : szD n k d = some x) : ∃ l, d = .tuple l ∧ l.length ≤ 24 ∧ sizeL (ptD n k) l 0 = some x := by
  rw [szD_eq] at h
  cases d with
  | tuple l =>
    simp only [rowSize] at h
    by_cases q : l.length ≤ 24
    · rw [if_pos q] at h; exact ⟨l, rfl, q, h⟩
    · rw [if_neg q] at h; cases h
  | _ => simp [rowSize] at h
theorem w5_if {w : D} (h : isWord w W5 = true) : PyData.eqv w (.str "if") = false := by
  obtain ⟨x, rfl, hx⟩ := word_cases (ws := ["set", "follow", "put", "new", "free"]) h
  simp only [List.mem_cons, List.not_mem_nil, or_false] at hx
  rcases hx with rfl | rfl | rfl | rfl | rfl <;> decide +kernel
theorem wif {w : D} (h : isWord w [.str "if"] = true) : w = .str "if" := by
  obtain ⟨x, rfl, hx⟩ := word_cases (ws := ["if"]) h
  simp only [List.mem_singleton] at hx
  rw [hx]
/-- a part: a step, or a branch -/
theorem pt_cases {n : Int} {k : Nat} {p : D} {z : Int} (h : ptD n k p = some z) : (∃ w r, p = .tuple (w :: r) ∧ Sh w ∧ PyData.eqv w (.str "if") = false ∧ isStep n p = true ∧ z = 1) ∨
    (∃ k' c a b x y, k = k' + 1 ∧ p = .tuple [.str "if", c, a, b] ∧ isStep n p = false ∧ szD n k' a = some x ∧ szD n k' b = some y ∧ z = 1 + x + y) := by
  unfold ptD at h
  cases hs : isStep n p with
  | true =>
    rw [hs] at h
    refine .inl ?_
    have e : z = 1 := by simpa using h.symm
    unfold isStep at hs
    split at hs
    · simp only [Bool.and_eq_true] at hs; exact ⟨_, _, rfl, (w5_sh hs.1.1).2.1, w5_if hs.1.1, rfl, e⟩
    · simp only [Bool.and_eq_true] at hs; exact ⟨_, _, rfl, (w5_sh hs.1.1.1).2.1, w5_if hs.1.1.1, rfl, e⟩
    · cases hs
  | false =>
    rw [hs, if_neg Bool.false_ne_true] at h
    cases k with
    | zero => cases h
    | succ k =>
      simp only [brD] at h
      unfold branchOf at h
      split at h
      · split at h
        · rename_i w c a b hc
          simp only [Bool.and_eq_true] at hc
          have e := wif hc.1
          subst e
          cases ha : szD n k a with
          | none => simp [ha] at h
          | some x =>
            cases hb : szD n k b with
            | none => simp [ha, hb] at h
            | some y =>
              simp only [ha, hb] at h
              cases h
              exact .inr ⟨k, c, a, b, x, y, rfl, rfl, rfl, ha, hb, rfl⟩
        · cases h
      · cases h
theorem d_law_size {K : Frag} {cl : Ad} (k : Nat) (c : Ct) (hc : ∀ k', k = k' + 1 → c = c_law_size k') : ∀ rs Q E, c_law_size k rs Q E → w_law_size K cl c (rho N_law_size.length rs) { nx := fun _ => Q (.s .none), rt := Q, er := fun cls _ => E cls } := by
  rintro rs Q E ⟨n, l, z, rfl, hl, hz, q⟩
  unfold w_law_size
  try walk_at "dl"
  refine ⟨fun i (acc : List D) => acc = ((l.take i).map fun p => .int ((ptD n k p).getD 0)), rfl, fun i acc d hd e => ?_, fun acc e => ?_⟩
  · subst e
    have hb : ((l.take i).map fun p => PyData.int ((ptD n k p).getD 0)).length < 16777216 := by rw [List.length_map, List.length_take]; omega
    have some_ : (ptD n k d).isSome = true := sizeL_mem (by rw [hz]; rfl) d (List.mem_of_getElem? hd)
    obtain ⟨m, hm⟩ := Option.isSome_iff_exists.mp some_
    have fin : ∀ v : Int, v = m → (l.take i).map (fun p => PyData.int ((ptD n k p).getD 0)) ++ [PyData.int v] = (l.take (i + 1)).map fun p => .int ((ptD n k p).getD 0) := fun v e => by
      rw [take_at hd, List.map_append]
      simp [hm, e]
    rcases pt_cases hm with ⟨w, r, rfl, hw, hi, _, rfl⟩ | ⟨k', cc, a, b, x, y, hk, rfl, _, ha, hb2, rfl⟩
    · try walk_at "dl"
      refine ⟨hw, sh_if, ?_⟩
      simp only [hi, Bool.false_eq_true, if_false]
      try walk_at "dl"
      exact ⟨hb, fin 1 rfl⟩
    · rw [hc k' hk]
      obtain ⟨la, rfl, hla, hsa⟩ := sz_tuple ha
      obtain ⟨lb, rfl, hlb, hsb⟩ := sz_tuple hb2
      have hi : PyData.eqv (.str "if") (.str "if") = true := by decide +kernel
      try walk_at "dl"
      simp only [c_law_size]
      try walk_at "dl"
      simp only [sh_if, true_and, beq_self_eq_true, if_true]
      exact ⟨hla, n, x, hsa, hlb, n, y, hsb, hb, fin _ (by omega)⟩
  · subst e
    refine ⟨l.map fun p => (ptD n k p).getD 0, by rw [List.take_length, List.map_map]; rfl, ?_⟩
    have := sizeL_sum l 0 z hz
    rw [this, Int.zero_add] at q
    exact q
def muP (ρ : Rho) : Nat := match (ρ[5]? : Option (Option R)) with
  | some (some (R.s (.int i))) => i.toNat
  | _ => 0
def c_law_program (k : Nat) : Ct := fun rs Q _ => ∃ n most : Int, rs = [.g, .s (.int n), .s (.int most), .s (.int k)] ∧ 1 ≤ n ∧ n ≤ 4 ∧ 0 ≤ most ∧ most ≤ 12 ∧ k ≤ 3 ∧ ∀ (l : List D) (z : Int), l.length ≤ 12 → sizeL (ptD n k) l 0 = some z → 0 ≤ z → z ≤ most → Q (.s (.tuple l))
theorem d_law_program {K : Frag} {cl : Ad} (k : Nat) (c : Ct) (hc : ∀ k', k = k' + 1 → c = c_law_program k') : ∀ rs Q E, c_law_program k rs Q E → w_law_program K cl c_pick c_law_step c_law_condition (c_law_size 3) c (rho N_law_program.length rs) { nx := fun _ => Q (.s .none), rt := Q, er := fun cls _ => E cls } := by
  rintro rs Q E ⟨n, most, rfl, hn1, hn2, hm1, hm2, hk3, q⟩
  unfold w_law_program c_law_step c_law_condition c_pick c_law_size
  try walk_at "dl"
  refine ⟨by omega, by omega, fun left l0 l1 => ?_⟩
  try walk_at "dl"
  refine ⟨fun (ρ : Rho) => ∃ (l : List D) (t left : Int) (v6 v7 : Option R), ρ = [some .g, some (.s (.int n)), some (.s (.int most)), some (.s (.int k)), some (.l true l), some (.s (.int left)), v6, v7] ∧
    sizeL (ptD n k) l 0 = some t ∧ 0 ≤ t ∧ 0 ≤ left ∧ t + left ≤ most ∧ (l.length : Int) + left ≤ 12, ⟨[], 0, left, none, none, rfl, rfl, by omega, by omega, by omega, by simp; omega⟩, muP, ?_⟩
  rintro ρ ⟨l, t, left, v6, v7, rfl, hs, ht, hl0, hl1, hl2⟩
  unfold w_law_program_b1
  try walk_at "dl"
  have mu : ∀ (a b : List D) (x y : Int) (u1 u2 u3 u4 : Option R), 0 ≤ x → x < y → muP [some .g, some (.s (.int n)), some (.s (.int most)), some (.s (.int k)), some (.l true a), some (.s (.int x)), u1, u2] < muP [some .g, some (.s (.int n)), some (.s (.int most)), some (.s (.int k)), some (.l true b), some (.s (.int y)), u3, u4] := fun a b x y u1 u2 u3 u4 h1 h2 => by
    show x.toNat < y.toNat
    omega
  have hll : l.length ≤ 12 := by omega
  have one : ∀ (d : D) (m : Int) (v6' v7' : Option R), ptD n k d = some m → 1 ≤ m → m ≤ left → l.length < 16777216 ∧
      (∃ x, sizeL (ptD n k) (l ++ [d]) 0 = some x ∧ 0 ≤ x ∧ 0 ≤ left - m ∧ x + (left - m) ≤ most ∧ ((l ++ [d]).length : Int) + (left - m) ≤ 12) ∧
      muP [some .g, some (.s (.int n)), some (.s (.int most)), some (.s (.int k)), some (.l true (l ++ [d])), some (.s (.int (left - m))), v6', v7'] < muP [some .g, some (.s (.int n)), some (.s (.int most)), some (.s (.int k)), some (.l true l), some (.s (.int left)), v6, v7] := fun d m v6' v7' hm m1 m2 => by
    refine ⟨by omega, ⟨t + m, sizeL_app l d 0 t m hs hm (by omega), by omega, by omega, by omega, ?_⟩, mu _ _ _ _ _ _ _ _ (by omega) (by omega)⟩
    rw [List.length_append]
    simp only [List.length_singleton]
    omega
  have pst : ∀ d, isStep n d = true → ptD n k d = some 1 := fun d hd => by unfold ptD; rw [hd]; rfl
  refine ite_both (fun h1 => ?_) (fun h1 => ?_)
  · have h1 := of_decide_eq_true h1
    have stp := fun (d : D) (hd : isStep n d = true) => one d 1 v6 v7 (pst d hd) (by omega) (by omega)
    refine ite_both (fun h2 => ?_) (fun _ => ⟨hn1, hn2, stp⟩)
    refine ite_both (fun h3 => ?_) (fun _ => ⟨hn1, hn2, stp⟩)
    have h2 := of_decide_eq_true h2
    have h3 := of_decide_eq_true h3
    refine ⟨by omega, by omega, fun r r0 r1 => ite_both (fun _ => ?_) (fun _ => ⟨hn1, hn2, stp⟩)⟩
    cases k with
    | zero => exact absurd h2 (by simp)
    | succ k' =>
      rw [hc k' rfl]
      have ek : (((k' + 1 : Nat) : Int)) - 1 = (k' : Int) := by omega
      have half0 : 0 ≤ (left - 1) / 2 := by omega
      have half1 : (left - 1) / 2 ≤ 12 := by omega
      refine ⟨⟨by decide, by decide⟩, n, (left - 1) / 2, by rw [ek], hn1, hn2, half0, half1, by omega, fun la za hla hsa za0 za1 => ?_⟩
      refine ⟨rfl, ⟨by decide, by decide⟩, n, (left - 1) / 2, by rw [ek], hn1, hn2, half0, half1, by omega, fun lb zb hlb hsb zb0 zb1 => ?_⟩
      try walk_at "dl"
      refine ⟨hn1, hn2, fun w a b hw a0 a1 b0 b1 => ⟨by omega, by omega, n, za, ?_, by omega, n, zb, ?_, ?_⟩⟩
      · have := size_up hsa (3 - k')
        rwa [show k' + (3 - k') = 3 by omega] at this
      · have := size_up hsb (3 - k')
        rwa [show k' + (3 - k') = 3 by omega] at this
      · have sza : szD n k' (.tuple la) = some za := by rw [szD_eq]; simp only [rowSize]; rw [if_pos (by omega)]; exact hsa
        have szb : szD n k' (.tuple lb) = some zb := by rw [szD_eq]; simp only [rowSize]; rw [if_pos (by omega)]; exact hsb
        have hp : ptD n (k' + 1) (.tuple [.str "if", .tuple [w, .int a, .int b], .tuple la, .tuple lb]) = some (1 + za + zb) := by
          have h1 : isStep n (.tuple [.str "if", .tuple [w, .int a, .int b], .tuple la, .tuple lb]) = false := by simp [isStep]
          have h2 : isWord (.str "if") [.str "if"] = true := by decide +kernel
          unfold ptD
          rw [h1, if_neg Bool.false_ne_true]
          simp only [brD, branchOf, h2, cond_ok hw a0 a1 b0 b1, Bool.and_self, if_true, sza, szb]
        have e : left - 1 - za - zb = left - (1 + za + zb) := by omega
        rw [e]
        exact (one _ _ _ _ hp (by omega) (by omega)).2
  · have h1 := of_decide_eq_false h1
    exact q l t hll hs ht (by omega)
/-! bad parts, towers -/
def badL (m : Int) : List D :=
  let none_ : D := .tuple [.str "same", .int (-1), .int (-1)]
  [.tuple [.str "set", .int m, .int (-1)], .tuple [.str "set", .int (-1), .int 0], .tuple [.str "set", .int 0], .tuple [.str "follow", .int 0, .int (-1)], .tuple [.str "follow", .int 0, .int m], .tuple [.str "put", .int 0, .int (-2)], .tuple [.str "new", .int 0, .int 0], .tuple [.str "new"],
    .tuple [.str "free", .int (-1)], .tuple [.str "take", .int 0], .list [.str "new", .int 0], .tuple [.str "new", .bool true], .none, .tuple [], .str "new", .tuple [.str "put", .int 0, .none], .tuple [.str "if", none_, .tuple []],
    .tuple [.str "if", none_, .tuple [], .list [], .tuple []], .tuple [.str "if", .tuple [.str "same", .int m, .int (-1)], .tuple [], .tuple []], .tuple [.str "if", .tuple [.str "is", .int 0, .int 0], .tuple [], .tuple []], .tuple [.str "if", none_, .tuple [], .tuple [.tuple [.str "free"]]],
    .tuple [.str "if", .list [.str "same", .int 0, .int 0], .tuple [], .tuple []], .tuple [.str "if", none_, .list [], .tuple []], .tuple [.str "if", none_, .tuple [], .none]]
theorem bad_ok : ∀ m ∈ [(1 : Int), 2, 3, 4], ∀ d ∈ badL m, isStep m d = false ∧ ∀ k ∈ [0, 1, 2, 3, 4], brD m k d = none := by decide +kernel
def c_law_bad_parts : Ct := fun rs Q _ => ∃ m : Int, rs = [.s (.int m)] ∧ Q (.l true (badL m))
theorem d_law_bad_parts {K : Frag} {cl : Ad} : ∀ rs Q E, c_law_bad_parts rs Q E → w_law_bad_parts K cl (rho N_law_bad_parts.length rs) { nx := fun _ => Q (.s .none), rt := Q, er := fun cls _ => E cls } := by
  rintro rs Q E ⟨m, rfl, q⟩
  unfold w_law_bad_parts
  try walk_at "dl"
  unfold badL at q
  exact q
def deepD : Nat → D
  | 0 => .tuple []
  | c + 1 => .tuple [.tuple [.str "if", .tuple [.str "unlike", .int 0, .int (-1)], deepD c, .tuple [.tuple [.str "new", .int 0]]]]
theorem deep_ok : ∀ m ∈ [(1 : Int), 2, 3, 4], isProg m (deepD 3) = true ∧ isProg m (deepD 4) = true ∧ isProg m (deepD 5) = false := by decide +kernel
def c_law_deep : Ct := fun rs Q _ => ∃ c : Nat, rs = [.s (.int c)] ∧ c ≤ 10 ∧ Q (.s (deepD c))
theorem d_law_deep {K : Frag} {cl : Ad} : ∀ rs Q E, c_law_deep rs Q E → w_law_deep K cl (rho N_law_deep.length rs) { nx := fun _ => Q (.s .none), rt := Q, er := fun cls _ => E cls } := by
  rintro rs Q E ⟨c, rfl, hc, q⟩
  unfold w_law_deep
  try walk_at "dl"
  refine ⟨by omega, by omega, fun i (ρ : Rho) => ∃ v2, ρ = [some (.s (.int c)), some (.s (deepD i)), v2], ⟨none, rfl⟩, ?_, ?_⟩
  · rintro i d ρ hd ⟨v2, rfl⟩
    unfold w_law_deep_b1
    try walk_at "dl"
    rfl
  · rintro ρ ⟨v2, rfl⟩
    try walk_at "dl"
    have e : (rangeD 0 (c : Int).toNat).length = c := by simp [rangeD]
    rw [e]
    exact q

def c_law_refused (cl : Ad) : Ct := fun rs Q _ => ∃ (i : Int) (m d : D), rs = [.s (.int i), .s m, .s d] ∧ if within m 0 4 = true then (∀ n, m = .int n → isProg n d = false) ∧ Q (.s (.str "program")) else Q (.s (.str "many"))
theorem d_law_refused {K : Frag} {mg : Str → Option Value} {cl : Ad} (T : Txt K mg cl) : ∀ rs Q E, c_law_refused cl rs Q E → w_law_refused K cl (c_is_straight cl) (c_size cl) (rho N_law_refused.length rs) { nx := fun _ => Q (.s .none), rt := Q, er := fun cls _ => E cls } := by
  rintro rs Q E ⟨i, m, d, rfl, q⟩
  unfold w_law_refused c_is_straight c_size
  try walk_at "dl"
  simp only [T.e_BadMany_BadMany, T.e_BadProgram_BadMany, T.e_BadProgram_BadProgram, Option.some.injEq, exists_eq_left', true_implies, Bool.true_eq_false, false_implies, and_true, Bool.false_eq_true, true_and]
  cases h : within m 0 4 with
  | false =>
    simp only [h, Bool.false_eq_true, if_false] at q ⊢
    exact ite_both (fun _ => q) (fun _ => q)
  | true =>
    obtain ⟨n, rfl, _⟩ := within_int h
    simp only [h, if_true] at q ⊢
    have hp := q.1 n rfl
    refine ite_both (fun _ n' e => ?_) (fun _ n' e => ?_)
    · cases e
      rw [hp, if_neg Bool.false_ne_true]
      exact q.2
    · cases e
      unfold isProg at hp
      cases hz : szD n 4 d with
      | some z => rw [hz] at hp; cases hp
      | none => exact q.2
theorem within_lay {d : D} {a b : Int} (h : within d a b = true) : PyData.canLay0 d = true ∧ PyData.depth d = 0 := by
  obtain ⟨n, rfl, _⟩ := within_int h
  exact ⟨by simp [PyData.canLay0], by simp [PyData.depth]⟩
theorem word_lay {w : D} {ws : List Str} (h : isWord w (ws.map PyData.str) = true) (hs : ∀ x ∈ ws, PyData.canLay0 (.str x) = true) : PyData.canLay0 w = true ∧ PyData.depth w = 0 := by
  obtain ⟨x, rfl, hx⟩ := word_cases h
  exact ⟨hs x hx, by simp [PyData.depth]⟩
theorem w5_lay {w : D} (h : isWord w W5 = true) : PyData.canLay0 w = true ∧ PyData.depth w = 0 := word_lay (ws := ["set", "follow", "put", "new", "free"]) h (by decide +kernel)
theorem step_lay {n : Int} {p : D} (h : isStep n p = true) : PyData.canLay0 p = true ∧ PyData.depth p ≤ 1 := by
  unfold isStep at h
  split at h
  · simp only [Bool.and_eq_true] at h
    obtain ⟨a1, a2⟩ := w5_lay h.1.1
    obtain ⟨b1, b2⟩ := within_lay h.1.2
    exact ⟨by simp [PyData.canLay0, PyData.canLayAll0, a1, b1], by simp [PyData.depth, PyData.depthAll, a2, b2]⟩
  · simp only [Bool.and_eq_true] at h
    obtain ⟨a1, a2⟩ := w5_lay h.1.1.1
    obtain ⟨b1, b2⟩ := within_lay h.1.1.2
    obtain ⟨c1, c2⟩ := within_lay h.2
    exact ⟨by simp [PyData.canLay0, PyData.canLayAll0, a1, b1, c1], by simp [PyData.depth, PyData.depthAll, a2, b2, c2]⟩
  · cases h
theorem cond_lay {n : Int} {p : D} (h : isCond n p = true) : PyData.canLay0 p = true ∧ PyData.depth p ≤ 1 := by
  unfold isCond at h
  split at h
  · simp only [Bool.and_eq_true] at h
    obtain ⟨a1, a2⟩ := word_lay (ws := ["same", "unlike"]) h.1.1 (by decide +kernel)
    obtain ⟨b1, b2⟩ := within_lay h.1.2
    obtain ⟨c1, c2⟩ := within_lay h.2
    exact ⟨by simp [PyData.canLay0, PyData.canLayAll0, a1, b1, c1], by simp [PyData.depth, PyData.depthAll, a2, b2, c2]⟩
  · cases h
theorem row_lay {f : D → Option Int} {m : Nat} (h : ∀ p z, f p = some z → PyData.canLay0 p = true ∧ PyData.depth p ≤ m) {d : D} {z : Int} (e : rowSize f d = some z) : PyData.canLay0 d = true ∧ PyData.depth d ≤ m + 1 := by
  cases d with
  | tuple l =>
    simp only [rowSize] at e
    by_cases q : l.length ≤ 24
    · rw [if_pos q] at e
      have hm : ∀ p ∈ l, PyData.canLay0 p = true ∧ PyData.depth p ≤ m := fun p hp => by
        obtain ⟨v, hv⟩ := Option.isSome_iff_exists.mp (sizeL_mem (by rw [e]; rfl) p hp)
        exact h p v hv
      have h1 := layAll_of fun p hp => (hm p hp).1
      have h2 := depthAll_le fun p hp => (hm p hp).2
      exact ⟨by simp only [PyData.canLay0, h1], by simp only [PyData.depth]; omega⟩
    · rw [if_neg q] at e; cases e
  | _ => simp [rowSize] at e
theorem pt_lay {n : Int} : ∀ k : Nat, ∀ p z, ptD n k p = some z → PyData.canLay0 p = true ∧ PyData.depth p ≤ 2 * k + 1
  | 0, p, z, e => by
    unfold ptD at e
    cases hs : isStep n p with
    | true => exact step_lay hs
    | false => rw [hs] at e; simp [brD] at e
  | k + 1, p, z, e => by
    rcases pt_cases e with ⟨w, r, rfl, _, _, hs, _⟩ | ⟨k', c, a, b, x, y, hk, rfl, hns, ha, hb, _⟩
    · obtain ⟨h1, h2⟩ := step_lay hs
      exact ⟨h1, by omega⟩
    · cases hk
      rw [szD_eq] at ha hb
      obtain ⟨a1, a2⟩ := row_lay (pt_lay k) ha
      obtain ⟨b1, b2⟩ := row_lay (pt_lay k) hb
      have hc : isCond n c = true := by
        unfold ptD at e
        rw [hns, if_neg Bool.false_ne_true] at e
        simp only [brD, branchOf] at e
        split at e
        · rename_i h
          simp only [Bool.and_eq_true] at h
          exact h.2
        · cases e
      obtain ⟨c1, c2⟩ := cond_lay hc
      have i1 : PyData.canLay0 (.str "if") = true := by decide +kernel
      exact ⟨by simp [PyData.canLay0, PyData.canLayAll0, i1, a1, b1, c1]; simpa [PyData.canLay0] using i1, by simp [PyData.depth, PyData.depthAll]; omega⟩
theorem sh_list {l : List D} {m : Nat} (h : ∀ p ∈ l, PyData.canLay0 p = true ∧ PyData.depth p ≤ m) (hm : m ≤ 60) : Sh (.list l) := by
  have h1 := layAll_of fun p hp => (h p hp).1
  have h2 := depthAll_le fun p hp => (h p hp).2
  unfold Sh SeqAt.shaped
  simp only [PyData.canLay0, PyData.depth, h1, Bool.true_and]
  exact decide_eq_true (by omega)
theorem cutD_len (l : List D) (a b : Option Int) : (DL.cutD l a b).length ≤ l.length := by
  unfold DL.cutD
  rw [List.length_take, List.length_drop]
  omega
theorem range_int {a : Int} {n k : Nat} {d : D} (h : (rangeD a n)[k]? = some d) : ∃ j, d = .int j := by
  have := List.mem_of_getElem? h
  simp [rangeD] at this
  obtain ⟨i, _, rfl⟩ := this
  exact ⟨_, rfl⟩
theorem new_ok : ∀ m ∈ [(1 : Int), 2, 3, 4], isProg m (.tuple (List.replicate (23 : Int).toNat [PyData.tuple [.str "new", .int 0]]).flatten) = true ∧ isProg m (.tuple (List.replicate (24 : Int).toNat [PyData.tuple [.str "new", .int 0]]).flatten) = true ∧
    isProg m (.tuple (List.replicate (25 : Int).toNat [PyData.tuple [.str "new", .int 0]]).flatten) = false := by decide +kernel
theorem free_ok : ∀ m ∈ [(1 : Int), 2, 3, 4], ∀ k ∈ [(22, 22), (23, 23), (24, 24)], szD m 3 (.tuple (List.replicate (Prod.fst k : Int).toNat [PyData.tuple [.str "free", .int 0]]).flatten) = some (Prod.snd k : Int) := by decide +kernel
/-! the law -/
theorem d_law {K : Frag} {mg : Str → Option Value} {cl : Ad} (T : Txt K mg cl) (ns : List Int) (hns : ns.length ≤ 63) :
    w_law K cl (c_judge cl isStep) (c_judge cl isCond) (c_judge cl isProg) (c_is_straight cl) (c_size cl) c_pick c_same c_law_condition (c_law_size 3) (c_law_program 3) c_law_bad_parts (c_law_refused cl) c_law_deep
      (some (.s (.list (ns.map PyData.int))) :: some .g :: List.replicate (N_law.length - 2) none) { nx := fun _ => False, rt := fun r => r = .s (.bool true) } := by
  unfold w_law
  try walk_at "dl"
  refine ⟨?_, ?_, fun i (ρ : Rho) => ∃ v2 v3 v4 v5 v6 v7 v8 v9 v10 v11 v12, ρ = [some (.s (.list (ns.map PyData.int))), some .g, v2, v3, v4, v5, v6, v7, v8, v9, v10, v11, v12],
    ⟨_, _, _, _, _, _, _, _, _, _, _, rfl⟩, ?_, fun _ _ => trivial⟩
  · split <;> omega
  · split <;> omega
  rintro i d ρ hd ⟨v2, v3, v4, v5, v6, v7, v8, v9, v10, v11, v12, rfl⟩
  unfold w_law_b17
  try walk_at "dl"
  refine ⟨4, rfl, by decide, by decide, fun r r0 r1 => ⟨r, rfl, ?_⟩⟩
  generalize hE : (DEnds.mk _ _ _ _ _ : DEnds) = E
  have m1 : 1 ≤ 1 + r := by omega
  have m2 : 1 + r ≤ 4 := by omega
  generalize 1 + r = m at m1 m2 ⊢
  have hm4 : within (.int m) 0 4 = true := by simp [within]; omega
  have hmem : m ∈ [(1 : Int), 2, 3, 4] := by simp; omega
  unfold w_law_t16
  try walk_at "dl"
  refine ⟨m, 12, rfl, m1, m2, by decide, by decide, by decide, fun l z hl hs z0 z1 => ⟨rfl, ?_⟩⟩
  have hs4 : sizeL (ptD m 4) l 0 = some z := size_up hs 1
  have hsz : szD m 4 (.tuple l) = some z := by rw [szD_eq]; simp only [rowSize]; rw [if_pos (by omega)]; exact hs4
  have hpr : isProg m (.tuple l) = true := by unfold isProg; rw [hsz]; rfl
  have hpt : ∀ p ∈ l, ∃ v, ptD m 4 p = some v := fun p hp => Option.isSome_iff_exists.mp (sizeL_mem (by rw [hs4]; rfl) p hp)
  have judge : ∀ (f : Int → D → Bool) (x : D) (Q : R → Prop) (X : Value → Prop), Q (.s (.bool (f m x))) → c_judge cl f [.s (.int m), .s x] Q X := fun f x Q X h => ⟨_, _, rfl, by rw [if_pos hm4]; intro n e; cases e; exact h⟩
  have smi : ∀ (a b : Int) (Q : R → Prop) (X : Value → Prop), a = b → Q (.s (.bool true)) → c_same [.s (.int a), .s (.int b)] Q X := fun a b Q X e h => by
    subst e
    exact ⟨_, _, rfl, by simp [PyData.canLay0], by simp [plainD], by simp [PyData.depth], by simp [PyData.depth], by simp [nd], by rw [same_refl _ (by simp [plainD])]; exact h⟩
  have smb : ∀ (a b : Bool) (Q : R → Prop) (X : Value → Prop), a = b → Q (.s (.bool true)) → c_same [.s (.bool a), .s (.bool b)] Q X := fun a b Q X e h => by
    subst e
    exact ⟨_, _, rfl, by simp [PyData.canLay0], by simp [plainD], by simp [PyData.depth], by simp [PyData.depth], by simp [nd], by rw [same_refl _ (by simp [plainD])]; exact h⟩
  unfold w_law_t15
  walk_at "dm"
  refine judge _ _ _ _ ?_
  rw [hpr]
  try walk_at "dm"
  have sizeC : ∀ (Q : R → Prop) (X : Value → Prop), Q (.s (.int z)) → c_size cl [.s (.int m), .s (.tuple l)] Q X := fun Q X h => ⟨_, _, rfl, by rw [if_pos hm4]; intro n e; cases e; rw [hsz]; exact h⟩
  have straightC : ∀ (Q : R → Prop) (X : Value → Prop), Q (.s (.bool (!l.any isBr))) → c_is_straight cl [.s (.int m), .s (.tuple l)] Q X := fun Q X h => ⟨_, _, rfl, by rw [if_pos hm4]; intro n e; cases e; rw [if_pos hpr]; intro l' e; cases e; exact h⟩
  refine sizeC _ _ ?_
  refine ⟨m, l, z, rfl, by omega, hs, ?_⟩
  refine smi _ _ _ _ rfl ?_
  try walk_at "dm"
  unfold w_law_t14
  try walk_at "dm"
  refine straightC _ _ ?_
  try walk_at "dm"
  have hlay : ∀ p ∈ l, PyData.canLay0 p = true ∧ PyData.depth p ≤ 9 := fun p hp => by
    obtain ⟨v, hv⟩ := hpt p hp
    exact pt_lay 4 p v hv
  refine ⟨fun k (acc : List D) => acc = (l.take k).filter isBr, rfl, fun k acc d hd e => ?_, fun acc e => ?_⟩
  · subst e
    obtain ⟨v, hv⟩ := hpt d (List.mem_of_getElem? hd)
    obtain ⟨w, rr, rfl, hw⟩ := ptD_shape (n := m) (k := 4) (p := d) (by rw [hv]; rfl)
    walk_at "dm"
    refine ⟨hw, sh_if, ?_⟩
    have hbr : isBr (.tuple (w :: rr)) = PyData.eqv w (.str "if") := rfl
    have hlen : ((l.take k).filter isBr).length < 16777216 := by
      have := List.length_filter_le isBr (l.take k)
      rw [List.length_take] at this
      omega
    refine ite_both (fun h => ⟨hlen, ?_⟩) (fun h => ?_)
    · rw [take_at hd, List.filter_append, List.filter_cons, hbr, h]
      rfl
    · rw [take_at hd, List.filter_append, List.filter_cons, hbr, h]
      simp
  dsimp only at e
  rw [List.take_length] at e
  subst e
  refine ⟨sh_list (m := 9) (fun p hp => hlay p (List.mem_filter.mp hp).1) (by decide), sh_of rfl, smb _ _ _ _ ?_ ?_⟩
  · rw [Bool.eq_iff_iff]
    cases hf : l.filter isBr with
    | nil =>
      have := List.filter_eq_nil_iff.mp hf
      simp [PyData.eqv, PyData.eqvAll]
      intro x hx
      simpa using this x hx
    | cons y ys =>
      have hy : y ∈ l.filter isBr := by rw [hf]; exact List.mem_cons_self
      obtain ⟨h1, h2⟩ := List.mem_filter.mp hy
      simp [PyData.eqv, PyData.eqvAll]
      exact ⟨y, h1, h2⟩
  unfold w_law_t13
  walk_at "dm"
  have parts : ∀ p ∈ l, ∃ w rr, p = .tuple (w :: rr) ∧ Sh w ∧ isStep m p = !PyData.eqv w (.str "if") := fun p hp => by
    obtain ⟨v, hv⟩ := hpt p hp
    rcases pt_cases hv with ⟨w, rr, rfl, hw, he, hs, _⟩ | ⟨k', c, a, b, x, y, hk, rfl, hns, ha, hb, _⟩
    · exact ⟨w, rr, rfl, hw, by rw [he, hs]; rfl⟩
    · exact ⟨_, _, rfl, sh_if, by rw [hns]; decide +kernel⟩
  refine ⟨fun i (ρ : Rho) => ∃ v5, ρ = [some (.s (.list (ns.map PyData.int))), some .g, some (.s d), some (.s (.int m)), some (.s (.tuple l)), v5, v6, v7, v8, v9, v10, v11, v12], ⟨v5, rfl⟩, ?_, ?_⟩
  · rintro i p ρ hi ⟨u5, rfl⟩
    obtain ⟨w, rr, rfl, hw, he⟩ := parts p (List.mem_of_getElem? hi)
    unfold w_law_b1
    walk_at "dm"
    refine judge _ _ _ _ ?_
    walk_at "dm"
    refine ⟨hw, sh_if, smb _ _ _ _ he ?_⟩
    walk_at "dm"
    try exact ⟨_, rfl⟩
  rintro ρ ⟨u5, rfl⟩
  unfold w_law_t12
  walk_at "dm"
  refine ⟨_, rfl, by omega, by omega, fun at0 a0 a1 => ⟨m, rfl, ?_⟩⟩
  try walk_at "dm"
  unfold w_law_t11
  walk_at "dm"
  refine ⟨24, rfl, by decide, by decide, fun q0 q1 q2 => ⟨q0, rfl, ?_⟩⟩
  have hq : q0.toNat < (badL m).length := by show q0.toNat < 24; omega
  refine ⟨(badL m)[q0.toNat], ?_, ?_⟩
  · have h1 : atI (badL m) ((q0.toNat : Nat) : Int) = some (badL m)[q0.toNat] := atI_nat (by simp [hq])
    have h2 : ((q0.toNat : Nat) : Int) = q0 := Int.toNat_of_nonneg q1
    simpa only [h2] using h1
  have hbad := bad_ok m hmem _ (List.getElem_mem hq)
  generalize (badL m)[q0.toNat] = thing at hbad ⊢
  have hpn : ∀ k ∈ [0, 1, 2, 3, 4], ptD m k thing = none := fun k hk => by unfold ptD; rw [hbad.1, if_neg Bool.false_ne_true]; exact hbad.2 k hk
  have notp : ∀ l' : List D, thing ∈ l' → isProg m (.tuple l') = false := fun l' h => by
    cases hp : isProg m (.tuple l') with
    | false => rfl
    | true =>
      obtain ⟨l2, e, _, hs2⟩ := prog_len hp
      cases e
      have := sizeL_mem hs2 thing h
      rw [hpn 4 (by simp)] at this
      cases this
  unfold w_law_t10
  walk_at "dm"
  have c1 := cutD_len l none (some at0)
  have c2 := cutD_len l (some at0) none
  have ns1 : isProg m (.tuple (DL.cutD l none (some at0) ++ [thing] ++ DL.cutD l (some at0) none)) = false := notp _ (by simp)
  have ns2 : isProg m (.list l) = false := by unfold isProg; rw [szD_eq]; rfl
  have ns3 : isProg m (.tuple [.tuple [.str "if", .tuple [.str "same", .int 0, .int 0], .tuple [thing], .tuple []]]) = false := by
    cases hp : isProg m (.tuple [.tuple [.str "if", .tuple [.str "same", .int 0, .int 0], .tuple [thing], .tuple []]]) with
    | false => rfl
    | true =>
      obtain ⟨l2, e, _, hs2⟩ := prog_len hp
      cases e
      obtain ⟨v, hv⟩ := Option.isSome_iff_exists.mp (sizeL_mem hs2 _ List.mem_cons_self)
      rcases pt_cases hv with ⟨w, rr, e, _, he, _⟩ | ⟨k', c, a, b, x, y, hk, e, hns, ha, hb, _⟩
      · cases e
        exact absurd he (by decide +kernel)
      · cases e
        cases hk
        obtain ⟨la, e, _, hsa⟩ := sz_tuple ha
        cases e
        have := sizeL_mem (by rw [hsa]; rfl) thing List.mem_cons_self
        rw [hpn 3 (by simp)] at this
        cases this
  refine ⟨by omega, by rw [List.length_append]; simp only [List.length_singleton]; omega, fun i (ρ : Rho) => ∃ v9 v10, ρ = [some (.s (.list (ns.map PyData.int))), some .g, some (.s d), some (.s (.int m)), some (.s (.tuple l)), u5, some (.s (.int at0)), some (.l true (badL m)), some (.s thing), v9, v10, v11, v12], ⟨v9, v10, rfl⟩, ?_, ?_⟩
  · rintro i sp ρ hi ⟨u9, u10, rfl⟩
    have hsp : isProg m sp = false := by
      have hmem2 := List.mem_of_getElem? hi
      simp only [List.mem_cons, List.not_mem_nil, or_false] at hmem2
      rcases hmem2 with rfl | rfl | rfl
      · exact ns1
      · exact ns2
      · exact ns3
    unfold w_law_b2
    walk_at "dm"
    refine judge _ _ _ _ ?_
    rw [hsp]
    walk_at "dm"
    refine ⟨by decide, by decide, fun k (acc : List D) => acc = List.replicate k (PyData.str "program"), rfl, fun k acc i hk e => ?_, fun acc e => ?_⟩
    · subst e
      obtain ⟨i, rfl⟩ := range_int hk
      walk_at "dm"
      refine ⟨i, .int m, sp, rfl, ?_⟩
      rw [if_pos hm4]
      refine ⟨fun n e => by cases e; exact hsp, ?_⟩
      walk_at "dm"
      exact ⟨by have := List.getElem?_eq_some_iff.mp hk; obtain ⟨h, _⟩ := this; simp [rangeD] at h ⊢; omega, List.replicate_succ'.symm⟩
    dsimp only at e
    subst e
    refine ⟨by unfold Sh; decide +kernel, by unfold Sh; decide +kernel, ?_⟩
    have ee : (PyData.list (List.replicate (rangeD 0 (Int.toNat 2)).length (PyData.str (Str.ofString "program")))).eqv (PyData.list [PyData.str (Str.ofString "program"), PyData.str (Str.ofString "program")]) = true := by decide +kernel
    rw [ee]
    trivial
  rintro ρ ⟨u9, u10, rfl⟩
  unfold w_law_t9
  walk_at "dm"
  refine judge _ _ _ _ ?_
  rw [hbad.1]
  walk_at "dm"
  refine judge _ _ _ _ ?_
  have hc0 : isCond m (.tuple [.str "same", .int 0, .int m]) = false := by simp [isCond, within]; omega
  rw [hc0]
  walk_at "dm"
  unfold w_law_t8
  walk_at "dm"
  refine ⟨m, rfl, m1, m2, fun w a b hw wa0 wa1 wb0 wb1 => ⟨rfl, ?_⟩⟩
  try walk_at "dm"
  have hcond := cond_ok hw wa0 wa1 wb0 wb1
  unfold w_law_t7
  walk_at "dm"
  refine judge _ _ _ _ ?_
  rw [hcond]
  walk_at "dm"
  refine judge _ _ _ _ ?_
  have hcl : isCond m (.list [w, .int a, .int b]) = false := by simp [isCond]
  rw [hcl]
  walk_at "dm"
  unfold w_law_t6
  walk_at "dm"
  refine ⟨3, rfl, by decide, by decide, fun q3 q4 q5 => ⟨q3, rfl, ?_⟩⟩
  unfold w_law_t5
  walk_at "dm"
  have hcase : q3 = 0 ∨ q3 = 1 ∨ q3 = 2 := by omega
  have hnew : isProg m (.tuple (List.replicate (23 + q3).toNat [PyData.tuple [.str "new", .int 0]]).flatten) = decide (23 + q3 < 25) := by
    obtain ⟨n1, n2, n3⟩ := new_ok m hmem
    rcases hcase with rfl | rfl | rfl
    · exact n1
    · exact n2
    · exact n3
  refine ⟨by simp, by omega, by omega, judge _ _ _ _ ?_⟩
  rw [hnew]
  walk_at "dm"
  refine ⟨2, rfl, by decide, by decide, fun j4 j0 j1 => ⟨j4, rfl, ?_⟩⟩
  obtain ⟨dp3, dp4, dp5⟩ := deep_ok m hmem
  have hj4 : ∃ c : Nat, (3 + j4 : Int) = (c : Int) ∧ c ≤ 10 ∧ isProg m (deepD c) = true := by
    have : j4 = 0 ∨ j4 = 1 := by omega
    rcases this with rfl | rfl
    · exact ⟨3, rfl, by decide, dp3⟩
    · exact ⟨4, rfl, by decide, dp4⟩
  obtain ⟨c, ce, c10, cp⟩ := hj4
  refine ⟨c, by rw [ce], c10, ?_⟩
  walk_at "dm"
  refine judge _ _ _ _ ?_
  rw [cp]
  walk_at "dm"
  unfold w_law_t4
  walk_at "dm"
  refine ⟨5, rfl, by decide, ?_⟩
  walk_at "dm"
  refine judge _ _ _ _ ?_
  rw [dp5]
  walk_at "dm"
  have hbig : isProg m (.tuple [.tuple [.str "if", .tuple [w, .int a, .int b], .tuple (List.replicate (23 + q3 - 1).toNat [PyData.tuple [.str "free", .int 0]]).flatten, .tuple []]]) = decide (23 + q3 < 25) := by
    have f1 : szD m 3 (.tuple (List.replicate (23 + q3 - 1).toNat [PyData.tuple [.str "free", .int 0]]).flatten) = some (22 + q3) := by
      rcases hcase with rfl | rfl | rfl
      · exact free_ok m hmem (22, 22) (by simp)
      · exact free_ok m hmem (23, 23) (by simp)
      · exact free_ok m hmem (24, 24) (by simp)
    have f2 : szD m 3 (.tuple []) = some 0 := by rw [szD_eq]; rfl
    have f3 : isWord (.str "if") [.str "if"] = true := by decide +kernel
    unfold isProg
    rw [szD_eq]
    simp only [rowSize, List.length_singleton, show (1 ≤ 24) = True from by simp, if_true, sizeL, ptD, isStep, Bool.false_eq_true, if_false, brD, branchOf, f1, f2, f3, hcond, Bool.and_self]
    rcases hcase with rfl | rfl | rfl <;> rfl
  refine ⟨by simp, by omega, by omega, judge _ _ _ _ ?_⟩
  rw [hbig]
  walk_at "dm"
  unfold w_law_t3
  walk_at "dm"
  refine ⟨by decide, by decide, fun k (acc : List D) => acc = List.replicate k (PyData.str "many"), rfl, fun k acc i hk e => ?_, fun acc e => ?_⟩
  · subst e
    obtain ⟨i, rfl⟩ := range_int hk
    refine ⟨i, .int 5, .none, rfl, ?_⟩
    rw [if_neg (by decide)]
    walk_at "dm"
    exact ⟨by have := List.getElem?_eq_some_iff.mp hk; obtain ⟨h, _⟩ := this; simp [rangeD] at h ⊢; omega, List.replicate_succ'.symm⟩
  dsimp only at e
  subst e
  have ee : (PyData.list (List.replicate (rangeD 0 (Int.toNat 2)).length (PyData.str (Str.ofString "many")))).eqv (PyData.list [PyData.str (Str.ofString "many"), PyData.str (Str.ofString "many")]) = true := by decide +kernel
  rw [ee]
  refine ⟨by unfold Sh; decide +kernel, by unfold Sh; decide +kernel, ?_⟩
  walk_at "dm"
  refine ⟨_, _, rfl, ?_⟩
  rw [if_pos (by decide)]
  intro n e
  cases e
  walk_at "dm"
  rw [← hE]
  exact ⟨_, _, _, _, _, _, _, _, _, _, _, rfl⟩

local macro_rules | `(tactic| walk_at "hl") => `(tactic| (intro rs Q E h; first | (obtain ⟨e, _⟩ := h; cases e; rfl) | (obtain ⟨_, e, _⟩ := h; cases e; rfl) | (obtain ⟨_, _, e, _⟩ := h; cases e; rfl) | (obtain ⟨_, _, _, e, _⟩ := h; cases e; rfl) | (obtain ⟨_, _, _, _, e, _⟩ := h; cases e; rfl) | (obtain ⟨_, _, _, _, _, e, _⟩ := h; cases e; rfl)))
theorem all_ok {P : Program} {wd : World} {K : Frag} {mg : Str → Option Value} {base : Heap} {cl : Ad} (T : Txt K mg cl) : FnOk P wd K mg base CX0 18 cl.f_law cl.d_law P_law (spLaw K) := by
  have G_law_pick := ok_law_pick (P := P) (wd := wd) (base := base) T
  have G_is_int := ok_is_int (P := P) (wd := wd) (base := base) T (k := 0) (by walk_at "hl") (d_is_int)
  have G_within := ok_within (P := P) (wd := wd) (base := base) T (k := 1) G_is_int (by decide) (by walk_at "hl") (d_within)
  have G_is_row := ok_is_row (P := P) (wd := wd) (base := base) T (k := 0) (by walk_at "hl") (d_is_row)
  have G_is_word := ok_is_word (P := P) (wd := wd) (base := base) T (k := 0) (by walk_at "hl") (d_is_word)
  have G_is_many := ok_is_many (P := P) (wd := wd) (base := base) T (k := 2) G_within (by decide) (by walk_at "hl") (d_is_many)
  have G_need_many := ok_need_many (P := P) (wd := wd) (base := base) T (k := 3) G_is_many (by decide) (by walk_at "hl") (d_need_many)
  have G_is_step_of := ok_is_step_of (P := P) (wd := wd) (base := base) T (k := 2) G_within (by decide) G_is_row (by decide) G_is_word (by decide) (by walk_at "hl") (d_is_step_of)
  have G_is_condition_of := ok_is_condition_of (P := P) (wd := wd) (base := base) T (k := 2) G_within (by decide) G_is_row (by decide) G_is_word (by decide) (by walk_at "hl") (d_is_condition_of)
  have G_is_step := ok_is_step (P := P) (wd := wd) (base := base) T (k := 4) G_need_many (by decide) G_is_step_of (by decide) (by walk_at "hl") (d_is_step)
  have G_is_condition := ok_is_condition (P := P) (wd := wd) (base := base) T (k := 4) G_need_many (by decide) G_is_condition_of (by decide) (by walk_at "hl") (d_is_condition)
  have G_is_branch := ok_is_branch (P := P) (wd := wd) (base := base) T (k := 0) (by walk_at "hl") (d_is_branch)
  have G_B0 := ok_branch_size (P := P) (wd := wd) (base := base) T (k := 3) G_is_row (by decide) G_is_word (by decide) G_is_condition_of (by decide) (fn_never (k := 0)) (by decide) (by walk_at "hl") (d_branch_size 0 c_never (fun k e => by cases e))
  have G_S0 := ok_size_of (P := P) (wd := wd) (base := base) T (k := 4) G_is_row (by decide) G_is_step_of (by decide) G_B0 (by decide) (by walk_at "hl") (d_size_of 0)
  have G_B1 := ok_branch_size (P := P) (wd := wd) (base := base) T (k := 5) G_is_row (by decide) G_is_word (by decide) G_is_condition_of (by decide) G_S0 (by decide) (by walk_at "hl") (d_branch_size 1 (c_size_of 0) (fun k e => by cases e; rfl))
  have G_S1 := ok_size_of (P := P) (wd := wd) (base := base) T (k := 6) G_is_row (by decide) G_is_step_of (by decide) G_B1 (by decide) (by walk_at "hl") (d_size_of 1)
  have G_B2 := ok_branch_size (P := P) (wd := wd) (base := base) T (k := 7) G_is_row (by decide) G_is_word (by decide) G_is_condition_of (by decide) G_S1 (by decide) (by walk_at "hl") (d_branch_size 2 (c_size_of 1) (fun k e => by cases e; rfl))
  have G_S2 := ok_size_of (P := P) (wd := wd) (base := base) T (k := 8) G_is_row (by decide) G_is_step_of (by decide) G_B2 (by decide) (by walk_at "hl") (d_size_of 2)
  have G_B3 := ok_branch_size (P := P) (wd := wd) (base := base) T (k := 9) G_is_row (by decide) G_is_word (by decide) G_is_condition_of (by decide) G_S2 (by decide) (by walk_at "hl") (d_branch_size 3 (c_size_of 2) (fun k e => by cases e; rfl))
  have G_S3 := ok_size_of (P := P) (wd := wd) (base := base) T (k := 10) G_is_row (by decide) G_is_step_of (by decide) G_B3 (by decide) (by walk_at "hl") (d_size_of 3)
  have G_B4 := ok_branch_size (P := P) (wd := wd) (base := base) T (k := 11) G_is_row (by decide) G_is_word (by decide) G_is_condition_of (by decide) G_S3 (by decide) (by walk_at "hl") (d_branch_size 4 (c_size_of 3) (fun k e => by cases e; rfl))
  have G_S4 := ok_size_of (P := P) (wd := wd) (base := base) T (k := 12) G_is_row (by decide) G_is_step_of (by decide) G_B4 (by decide) (by walk_at "hl") (d_size_of 4)
  have G_is_program_of := ok_is_program_of (P := P) (wd := wd) (base := base) T (k := 13) G_S4 (by decide) (by walk_at "hl") (d_is_program_of)
  have G_is_program := ok_is_program (P := P) (wd := wd) (base := base) T (k := 14) G_need_many (by decide) G_is_program_of (by decide) (by walk_at "hl") (d_is_program)
  have G_need_program := ok_need_program (P := P) (wd := wd) (base := base) T (k := 14) G_need_many (by decide) G_is_program_of (by decide) (by walk_at "hl") (d_need_program)
  have G_is_straight_of := ok_is_straight_of (P := P) (wd := wd) (base := base) T (k := 1) G_is_branch (by decide) (by walk_at "hl") (d_is_straight_of)
  have G_is_straight := ok_is_straight (P := P) (wd := wd) (base := base) T (k := 15) G_need_program (by decide) G_is_straight_of (by decide) (by walk_at "hl") (d_is_straight)
  have G_size := ok_size (P := P) (wd := wd) (base := base) T (k := 15) G_S4 (by decide) G_need_program (by decide) (by walk_at "hl") (d_size)
  have G_law_same := ok_law_same (P := P) (wd := wd) (base := base) T (k := 0) (by walk_at "hl") (d_law_same)
  have G_law_step := ok_law_step (P := P) (wd := wd) (base := base) T (k := 1) G_law_pick (by decide) (by walk_at "hl") (d_law_step)
  have G_law_condition := ok_law_condition (P := P) (wd := wd) (base := base) T (k := 1) G_law_pick (by decide) (by walk_at "hl") (d_law_condition)
  have G_Z0 := ok_law_size (P := P) (wd := wd) (base := base) T (k := 0) (fn_never (k := 0)) (by decide) (by walk_at "hl") (d_law_size 0 c_never (fun k e => by cases e))
  have G_Z1 := ok_law_size (P := P) (wd := wd) (base := base) T (k := 1) G_Z0 (by decide) (by walk_at "hl") (d_law_size 1 (c_law_size 0) (fun k e => by cases e; rfl))
  have G_Z2 := ok_law_size (P := P) (wd := wd) (base := base) T (k := 2) G_Z1 (by decide) (by walk_at "hl") (d_law_size 2 (c_law_size 1) (fun k e => by cases e; rfl))
  have G_Z3 := ok_law_size (P := P) (wd := wd) (base := base) T (k := 3) G_Z2 (by decide) (by walk_at "hl") (d_law_size 3 (c_law_size 2) (fun k e => by cases e; rfl))
  have G_P0 := ok_law_program (P := P) (wd := wd) (base := base) T (k := 4) G_law_pick (by decide) G_law_step (by decide) G_law_condition (by decide) G_Z3 (by decide) (fn_never (k := 0)) (by decide) (by walk_at "hl") (d_law_program 0 c_never (fun k e => by cases e))
  have G_P1 := ok_law_program (P := P) (wd := wd) (base := base) T (k := 5) G_law_pick (by decide) G_law_step (by decide) G_law_condition (by decide) G_Z3 (by decide) G_P0 (by decide) (by walk_at "hl") (d_law_program 1 (c_law_program 0) (fun k e => by cases e; rfl))
  have G_P2 := ok_law_program (P := P) (wd := wd) (base := base) T (k := 6) G_law_pick (by decide) G_law_step (by decide) G_law_condition (by decide) G_Z3 (by decide) G_P1 (by decide) (by walk_at "hl") (d_law_program 2 (c_law_program 1) (fun k e => by cases e; rfl))
  have G_P3 := ok_law_program (P := P) (wd := wd) (base := base) T (k := 7) G_law_pick (by decide) G_law_step (by decide) G_law_condition (by decide) G_Z3 (by decide) G_P2 (by decide) (by walk_at "hl") (d_law_program 3 (c_law_program 2) (fun k e => by cases e; rfl))
  have G_law_bad_parts := ok_law_bad_parts (P := P) (wd := wd) (base := base) T (k := 0) (by walk_at "hl") (d_law_bad_parts)
  have G_law_refused := ok_law_refused (P := P) (wd := wd) (base := base) T (k := 16) G_is_straight (by decide) G_size (by decide) (by walk_at "hl") (d_law_refused T)
  have G_law_deep := ok_law_deep (P := P) (wd := wd) (base := base) T (k := 0) (by walk_at "hl") (d_law_deep)
  exact ok_law (P := P) (wd := wd) (base := base) T (k := 17) (by decide) G_is_step (by decide) G_is_condition (by decide) G_is_program (by decide) G_is_straight (by decide) G_size (by decide) G_law_pick (by decide) G_law_same (by decide) G_law_condition (by decide) G_Z3 (by decide) G_P3 (by decide) G_law_bad_parts (by decide) G_law_refused (by decide) G_law_deep (by decide) (d_law T)
theorem all_mk {P : Program} {wd : World} {K : Frag} {mg : Str → Option Value} {cl : Ad} (e : cl.f_law = cl.f_law) (T : Txt K mg cl) {fa : Addr} (hfa : mg "law" = some (.ref fa)) :
    ∃ fd : FuncData, (∀ (s : Shared) (v : Value), BindsTo s fd ⟨[v], []⟩ [("script", v)]) ∧ ∀ base : Heap, K.In base → base.Ns mainGlobals mg → FnOk P wd K mg base CX0 18 fa fd ["script"] (spLaw K) := by
  have z := hfa.symm.trans T.m_law
  cases z
  refine ⟨cl.d_law, ?_, fun base _ _ => all_ok T⟩
  obtain ⟨⟨_, _, _, _, _, _, _, _, _, e, _⟩, _⟩ := T.F_law
  rw [e]
  exact fun s v => .of_eq rfl
theorem walk {l : PySem.W.OpenLaw} {q : Program} {loose : List Str} {XP : (Str → Option Value) → Heap → Prop} {YP : World → Heap → Prop} {d : DefRec} {K : Params → PySem.W.Frag} (hn : l.most = some 63) (hdf : d.params.defaults = [])
    (hY : ∀ (w : World) (h : Heap), YP w h → (K w.params).In h)
    (F : ∀ (w : World) (mg : Str → Option Value) (fa : Addr) (h : Heap), (K w.params).In h → h.Ns mainGlobals mg → mg d.name = some (.ref fa) →
      ∃ fd : FuncData, (∀ (s : Shared) (u : Value), BindsTo s fd ⟨[u], []⟩ [("script", u)]) ∧ ∀ base : Heap, (K w.params).In base → base.Ns mainGlobals mg → FnOk l.prog w (K w.params) mg base CX0 18 fa fd ["script"] (spLaw (K w.params))) :
    PySem.W.WalkO q loose XP YP l.row.toRowW d [] (fun f vs => PySem.call f vs) :=
  L2.walk_of (n := 63) (k := 18) (x := "script") (CX := fun _ => CX0) (sp := fun w => spLaw (K w.params)) hn (by decide) hdf ⟨rfl, by decide, by decide⟩ hY F (fun _ _ a ns hl _ hS => ⟨a, ns, rfl, hS, hl, fun _ => rfl⟩) fun _ _ _ _ _ z => z

end LK
open PySem PySem.W PyProof.Rows in
set_option maxRecDepth 100000 in
set_option maxHeartbeats 0 in
theorem PySem.Challenge.cw_heapsworn_k53_programs_judged_holds : PySem.Challenge.rw_heapsworn_k53_programs_judged.Holds := by
  w_on; o_law; k_head; (case hw => w_witness2)
  k_fill
  refine LK.walk (l := PySem.Challenge.rw_heapsworn_k53_programs_judged) rfl rfl (fun w h Y => PySem.W.kIn_of Y) ?F
  case F =>
    intro w mg fa h KX G hmg
    refine' LK.all_mk rfl (LK.txt_mk KX G ?g_HeapError ?x_HeapError ?k_HeapError ?s_HeapError ?t_HeapError ?g_BadMany ?x_BadMany ?k_BadMany ?s_BadMany ?t_BadMany ?g_BadProgram ?x_BadProgram ?k_BadProgram ?s_BadProgram ?t_BadProgram ?e_HeapError_BadMany ?e_HeapError_BadProgram ?e_BadMany_BadMany ?e_BadMany_BadProgram ?e_BadProgram_BadMany ?e_BadProgram_BadProgram ?m_is_int ?F_is_int ?m_within ?F_within ?m_is_row ?F_is_row ?m_is_word ?F_is_word ?m_is_many ?F_is_many ?m_need_many ?F_need_many ?m_is_step_of ?F_is_step_of ?m_is_condition_of ?F_is_condition_of ?m_is_step ?F_is_step ?m_is_condition ?F_is_condition ?m_is_branch ?F_is_branch ?m_size_of ?F_size_of ?m_branch_size ?F_branch_size ?m_is_program_of ?F_is_program_of ?m_is_program ?F_is_program ?m_need_program ?F_need_program ?m_is_straight_of ?F_is_straight_of ?m_is_straight ?F_is_straight ?m_size ?F_size ?m_law_deck ?F_law_deck ?m_law_pick ?F_law_pick ?m_law_same ?F_law_same ?m_law_step ?F_law_step ?m_law_condition ?F_law_condition ?m_law_size ?F_law_size ?m_law_program ?F_law_program ?m_law_bad_parts ?F_law_bad_parts ?m_law_refused ?F_law_refused ?m_law_deep ?F_law_deep ?m_law ?F_law ?n_any ?n_bool ?n_int ?n_isinstance ?n_len ?n_list ?n_min ?n_range ?n_str ?n_sum ?n_tuple ?v_DEEPEST ?v_MOST_PARTS ?v_MOST_VARIABLES ?v_WORDS ?l_WORDS) hmg
    (case g_HeapError => k_is)
    (case x_HeapError => k_exc)
    (case k_HeapError => k_is)
    (case s_HeapError => k_is)
    (case t_HeapError => k_is)
    (case g_BadMany => k_is)
    (case x_BadMany => k_exc)
    (case k_BadMany => k_is)
    (case s_BadMany => k_is)
    (case t_BadMany => k_is)
    (case g_BadProgram => k_is)
    (case x_BadProgram => k_exc)
    (case k_BadProgram => k_is)
    (case s_BadProgram => k_is)
    (case t_BadProgram => k_is)
    (case e_HeapError_BadMany => first | rfl | k_is)
    (case e_HeapError_BadProgram => first | rfl | k_is)
    (case e_BadMany_BadMany => first | rfl | k_is)
    (case e_BadMany_BadProgram => first | rfl | k_is)
    (case e_BadProgram_BadMany => first | rfl | k_is)
    (case e_BadProgram_BadProgram => first | rfl | k_is)
    (case m_is_int => k_is)
    (case F_is_int => (refine' L2.fun_mk ?l ?c ?k; (case l => k_is); (case c => k_is); (case k => k_is)))
    (case m_within => k_is)
    (case F_within => (refine' L2.fun_mk ?l ?c ?k; (case l => k_is); (case c => k_is); (case k => k_is)))
    (case m_is_row => k_is)
    (case F_is_row => (refine' L2.fun_mk ?l ?c ?k; (case l => k_is); (case c => k_is); (case k => k_is)))
    (case m_is_word => k_is)
    (case F_is_word => (refine' L2.fun_mk ?l ?c ?k; (case l => k_is); (case c => k_is); (case k => k_is)))
    (case m_is_many => k_is)
    (case F_is_many => (refine' L2.fun_mk ?l ?c ?k; (case l => k_is); (case c => k_is); (case k => k_is)))
    (case m_need_many => k_is)
    (case F_need_many => (refine' L2.fun_mk ?l ?c ?k; (case l => k_is); (case c => k_is); (case k => k_is)))
    (case m_is_step_of => k_is)
    (case F_is_step_of => (refine' L2.fun_mk ?l ?c ?k; (case l => k_is); (case c => k_is); (case k => k_is)))
    (case m_is_condition_of => k_is)
    (case F_is_condition_of => (refine' L2.fun_mk ?l ?c ?k; (case l => k_is); (case c => k_is); (case k => k_is)))
    (case m_is_step => k_is)
    (case F_is_step => (refine' L2.fun_mk ?l ?c ?k; (case l => k_is); (case c => k_is); (case k => k_is)))
    (case m_is_condition => k_is)
    (case F_is_condition => (refine' L2.fun_mk ?l ?c ?k; (case l => k_is); (case c => k_is); (case k => k_is)))
    (case m_is_branch => k_is)
    (case F_is_branch => (refine' L2.fun_mk ?l ?c ?k; (case l => k_is); (case c => k_is); (case k => k_is)))
    (case m_size_of => k_is)
    (case F_size_of => (refine' L2.fun_mk ?l ?c ?k; (case l => k_is); (case c => k_is); (case k => k_is)))
    (case m_branch_size => k_is)
    (case F_branch_size => (refine' L2.fun_mk ?l ?c ?k; (case l => k_is); (case c => k_is); (case k => k_is)))
    (case m_is_program_of => k_is)
    (case F_is_program_of => (refine' L2.fun_mk ?l ?c ?k; (case l => k_is); (case c => k_is); (case k => k_is)))
    (case m_is_program => k_is)
    (case F_is_program => (refine' L2.fun_mk ?l ?c ?k; (case l => k_is); (case c => k_is); (case k => k_is)))
    (case m_need_program => k_is)
    (case F_need_program => (refine' L2.fun_mk ?l ?c ?k; (case l => k_is); (case c => k_is); (case k => k_is)))
    (case m_is_straight_of => k_is)
    (case F_is_straight_of => (refine' L2.fun_mk ?l ?c ?k; (case l => k_is); (case c => k_is); (case k => k_is)))
    (case m_is_straight => k_is)
    (case F_is_straight => (refine' L2.fun_mk ?l ?c ?k; (case l => k_is); (case c => k_is); (case k => k_is)))
    (case m_size => k_is)
    (case F_size => (refine' L2.fun_mk ?l ?c ?k; (case l => k_is); (case c => k_is); (case k => k_is)))
    (case m_law_deck => k_is)
    (case F_law_deck => (refine' L2.fun_mk ?l ?c ?k; (case l => k_is); (case c => k_is); (case k => k_is)))
    (case m_law_pick => k_is)
    (case F_law_pick => (refine' L2.fun_mk ?l ?c ?k; (case l => k_is); (case c => k_is); (case k => k_is)))
    (case m_law_same => k_is)
    (case F_law_same => (refine' L2.fun_mk ?l ?c ?k; (case l => k_is); (case c => k_is); (case k => k_is)))
    (case m_law_step => k_is)
    (case F_law_step => (refine' L2.fun_mk ?l ?c ?k; (case l => k_is); (case c => k_is); (case k => k_is)))
    (case m_law_condition => k_is)
    (case F_law_condition => (refine' L2.fun_mk ?l ?c ?k; (case l => k_is); (case c => k_is); (case k => k_is)))
    (case m_law_size => k_is)
    (case F_law_size => (refine' L2.fun_mk ?l ?c ?k; (case l => k_is); (case c => k_is); (case k => k_is)))
    (case m_law_program => k_is)
    (case F_law_program => (refine' L2.fun_mk ?l ?c ?k; (case l => k_is); (case c => k_is); (case k => k_is)))
    (case m_law_bad_parts => k_is)
    (case F_law_bad_parts => (refine' L2.fun_mk ?l ?c ?k; (case l => k_is); (case c => k_is); (case k => k_is)))
    (case m_law_refused => k_is)
    (case F_law_refused => (refine' L2.fun_mk ?l ?c ?k; (case l => k_is); (case c => k_is); (case k => k_is)))
    (case m_law_deep => k_is)
    (case F_law_deep => (refine' L2.fun_mk ?l ?c ?k; (case l => k_is); (case c => k_is); (case k => k_is)))
    (case m_law => k_is)
    (case F_law => (refine' L2.fun_mk ?l ?c ?k; (case l => k_is); (case c => k_is); (case k => k_is)))
    (case n_any => k_is)
    (case n_bool => k_is)
    (case n_int => k_is)
    (case n_isinstance => k_is)
    (case n_len => k_is)
    (case n_list => k_is)
    (case n_min => k_is)
    (case n_range => k_is)
    (case n_str => k_is)
    (case n_sum => k_is)
    (case n_tuple => k_is)
    (case v_DEEPEST => k_is)
    (case v_MOST_PARTS => k_is)
    (case v_MOST_VARIABLES => k_is)
    (case v_WORDS => k_is)
    (case l_WORDS => k_is)
