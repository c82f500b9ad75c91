import PyProof.Rows.All
import Wide.All
import OpenK.AllK
import Wide.FinOn
import HandS.ForMost
import HandS.ForExc
import HandS.IsInst
import HandS.TryMany
import HandS.Deep
import HandS.TupAny
import HandS.TupMul
import HandS.Conv
import HandS.More
import HandS.Style
import HandS.Small
import HandS.WordsDict
import HandS.Zip
import KE.KDictPairs
import HandS.TupLe
import KE.SortData
import HandS.DictTup
import HandS.SetBool
import HandS.SetFor
import HandS.Strs
import PyProof.Rows.SortShellAny
import PyProof.AutoSeq1
import PyProof.EqAt
import PySem.Challenge.RW_heapsworn_k02_going_on
set_option Elab.async false
set_option linter.all false
set_option maxRecDepth 100000
set_option maxHeartbeats 4000000
/-! The data layer: tuples that are known to have no dict of their own (dict(t) asks for its keys by name). -/
namespace DL
open PySem PySem.Spec PyProof.Rows L2
abbrev Frag := PySem.W.Frag
def Neat (o : Obj) : Prop := o.cls = .type "tuple" ∧ o.dict = none
/-- the tuple at a, a neat one -/
def SqN (K : Frag) (H : Hp) (a : Addr) (xs : List V) : Prop := (∃ o, H a = some (.frz o (.tup xs)) ∧ Neat o) ∨
  ∃ (o : Obj) (its : Array Value) (n : Nat), K.lookup a = some o ∧ Neat o ∧ o.data = .seq its n ∧ its.size ≤ sizeLine ∧ Vals xs its.toList
theorem SqN.t {K : Frag} {H : Hp} {a : Addr} {xs : List V} (h : SqN K H a xs) : SqT K H a xs := by
  rcases h with ⟨o, h, _⟩ | ⟨o, its, n, h1, h2, h3, h4, h5⟩
  · exact .inl (.inr ⟨o, h⟩)
  · exact .inr ⟨o, its, n, h1, h2.1, h3, h4, h5⟩
theorem SqN.up {K : Frag} {H H' : Hp} (e : Same H H') {a : Addr} {xs : List V} (h : SqN K H a xs) : SqN K H' a xs := by
  rcases h with ⟨o, h, n⟩ | h
  · exact .inl ⟨o, e _ _ h, n⟩
  · exact .inr h
/-- every new tuple that a rule below makes -/
def NewT (xs : List V) (H : Hp) (Q : VK) : Prop := ∀ p o, H p = none → Neat o → Q (.ref p) (upd H p (.frz o (.tup xs)))
section
variable {X : Cx}
theorem new_t {pins : List (Addr × Obj)} {σ : L2.St} {H : Hp} {s : Shared} {h' : Heap} {its : List Value} {xs : List V} {Q : VK} (I : Inv X pins σ H { s with heap := h' }) (r : Vals xs its) (hz : xs.length ≤ sizeLine) (q : NewT xs H Q) :
    EP X pins σ Q (.ref h'.objs.size) { s with heap := h'.push { cls := .type "tuple", data := .seq its.toArray } } := by
  have hf : H h'.objs.size = none := I.hok.fresh (Nat.le_refl _)
  have there : (h'.push { cls := .type "tuple", data := .seq its.toArray }).get? h'.objs.size = some { cls := .type "tuple", data := .seq its.toArray } := Heap.get?_push_size _ rfl
  have obj : ObjOk X.prog X.w (upd H h'.objs.size (.frz { cls := .type "tuple", data := .seq its.toArray } (.tup xs))) (h'.push { cls := .type "tuple", data := .seq its.toArray }) h'.objs.size (.frz { cls := .type "tuple", data := .seq its.toArray } (.tup xs)) :=
    ⟨there, hz, its, r, _, there, rfl, _, rfl⟩
  exact ⟨.ref h'.objs.size, _, I.laid (t' := s.toks) (fun _ _ z => Heap.get?_push_of_some _ z) (Nat.le_refl _) obj, rfl, q _ _ hf ⟨rfl, rfl⟩⟩
def tTupN (t : TA) : TE := fun σ H Q => t σ H fun xs H1 => xs.length ≤ sizeLine ∧ NewT xs H1 Q
theorem peN_tup {es : List Expr} {t : TA} {x1} {pos : Pos} (h : PA X es t) : PE X (.Tuple es x1 pos) (tTupN t) :=
  ⟨fun pins s σ H Q I hq => wpAny_Tuple_spliced (thn (h.run pos pins s σ H _ I hq) fun us s1 ⟨xs, H1, I1, r, z, q⟩ => ⟨r.length ▸ z, new_t I1 r z q⟩)⟩
theorem callN_tuple : CallR X (.type "tuple") (fun vs H Q => ∃ p ys, vs = [.ref p] ∧ ((SqL X.K H p ys ∧ NewT ys H Q) ∨ (SqT X.K H p ys ∧ Q (.ref p) H))) := by
  intro pins s σ H vs us Q I r ⟨p, ys, ev, h⟩
  subst ev
  obtain ⟨u, eu, rx⟩ := vals1 r
  subst eu
  cases rx
  rcases h with ⟨hq, q⟩ | ⟨hq, q⟩
  · obtain ⟨its, r', pl, hz⟩ := I.list hq
    have hl := r'.length
    exact call_tuple_list pl.isList (fun h' kp => new_t (I.kept (t' := s.toks) kp) r' hz q) (by rw [List.size_toArray]; omega)
  · obtain ⟨its, _, pl, _⟩ := I.tuple hq
    exact call_tuple_same pl ⟨.ref p, H, I, rfl, q⟩
def rCatN (K : Frag) : R2 := fun x y H Q => ∃ a b xs ys, x = .ref a ∧ y = .ref b ∧ SqT K H a xs ∧ SqT K H b ys ∧ xs.length + ys.length ≤ sizeLine ∧ (xs = [] → Q (.ref b) H) ∧ (xs ≠ [] → ys = [] → Q (.ref a) H) ∧ (xs ≠ [] → ys ≠ [] → NewT (xs ++ ys) H Q)
theorem opN_cat : OpR X (binaryOp .Add) (rCatN X.K) := by
  intro pins s σ H x y v u Q I rx ry ⟨a, b, xs, ys, ex, ey, ha, hb, hz, q0, q1, q2⟩
  subst ex ey
  by_cases hx : xs = []
  · exact op_catA pins s σ H _ _ v u Q I rx ry ⟨a, b, xs, ys, rfl, rfl, ha, hb, hz, q0, fun z => absurd hx z, fun z => absurd hx z⟩
  · cases rx
    cases ry
    obtain ⟨its, r1, p1, _⟩ := I.tuple ha
    obtain ⟨jts, r2, p2, _⟩ := I.tuple hb
    exact HT.cat_tup p1 p2 (fun z => hx (r1.nil_iff.mp z)) (fun z => ⟨.ref a, H, I, rfl, q1 hx (r2.nil_iff.mp z)⟩) (fun z => new_t I (r1.append r2) (by rw [List.length_append]; exact hz) (q2 hx fun w => z (r2.nil_iff.mpr w))) (by rw [← r1.length, ← r2.length]; exact hz)
def rSlN (K : Frag) : V → Option Int → Option Int → Hp → VK → Prop := fun x lo hi H Q => ∃ a xs, x = .ref a ∧ SqT K H a xs ∧
  (HT.sIx xs.length 0 lo = 0 ∧ HT.sIx xs.length xs.length hi = xs.length → Q (.ref a) H) ∧ (¬ (HT.sIx xs.length 0 lo = 0 ∧ HT.sIx xs.length xs.length hi = xs.length) → NewT (cutV xs lo hi) H Q)
theorem slN_tup : L2.SlR X (rSlN X.K) := by
  intro pins s σ H x v vl vu lo hi sl Q I rx hs pl pu ⟨a, xs, ex, hx, q1, q2⟩
  subst ex
  by_cases hw : HT.sIx xs.length 0 lo = 0 ∧ HT.sIx xs.length xs.length hi = xs.length
  · exact sl_tupA pins s σ H _ v vl vu lo hi sl Q I rx hs pl pu ⟨a, xs, rfl, hx, q1, fun z => absurd hw z⟩
  · cases rx
    obtain ⟨its, r, ht, hz⟩ := I.tuple hx
    have e1 : its.toArray.size = xs.length := by rw [List.size_toArray]; exact r.length.symm
    refine ⟨"tuple", _, PyProof.Rows.slot_tuple_getitem.lookup, ht.typeIs, HT.getItem_tuple_cut ht hs pl pu (by rw [e1]; exact hw) ?_ (by rw [e1]; exact hz)⟩
    rw [e1]
    exact new_t I ((r.drop _).take _) (Nat.le_trans (cutV_length xs lo hi) hz) (q2 hw)
def rRepN (K : Frag) : R2 := fun x y H Q => ∃ l k xs, x = .ref l ∧ y = .int k ∧ SqT K H l xs ∧ xs ≠ [] ∧ 2 ≤ k ∧ k ≤ 1000 ∧ xs.length ≤ 1000 ∧ NewT (List.replicate k.toNat xs).flatten H Q
theorem opN_rep : OpR X (binaryOp .Mult) (rRepN X.K) := by
  intro pins s σ H x y v u Q I rx ry ⟨l, k, xs, ex, ey, hT, hne, g1, g2, gz, q⟩
  subst ex ey
  cases rx
  obtain ⟨t, rfl⟩ := ry
  obtain ⟨its, r, ⟨⟨cls, dd, data, sl⟩, ho, hc, n, hd⟩, _⟩ := I.tuple hT
  obtain rfl : cls = .type "tuple" := hc
  obtain rfl : data = .seq its.toArray n := hd
  have e0 : its.length = xs.length := r.length.symm
  have full : its.toArray.isEmpty = false := by
    cases its with
    | nil => exact absurd (List.eq_nil_of_length_eq_zero (by rw [← e0]; rfl)) hne
    | cons _ _ => rfl
  have n0 : its.toArray.size = xs.length := by rw [List.size_toArray, e0]
  have prod : k.toNat * xs.length ≤ 1000 * 1000 := Nat.mul_le_mul (by omega) gz
  have many : ((its.toArray.size : Nat) : Int) * k ≤ 1000000 := by
    rw [n0]
    exact Int.le_trans (Int.mul_le_mul_of_nonneg_right (show ((xs.length : Nat) : Int) ≤ 1000 by omega) (by omega)) (by omega)
  have fl : (List.replicate k.toNat xs).flatten.length ≤ sizeLine := by rw [PyProof.Rows.lm_len_rep_flat, sizeLine_eq]; omega
  have fl' : (List.replicate k.toNat its).flatten.toArray.size ≤ sizeLine := by rw [List.size_toArray, PyProof.Rows.lm_len_rep_flat, e0, sizeLine_eq]; omega
  have w0 : (decide (k < -(2 ^ 63)) || decide (k ≥ 2 ^ 63)) = false := by simp only [decide_eq_false (show ¬ k < -(2 ^ 63) by omega), decide_eq_false (show ¬ k ≥ 2 ^ 63 by omega), Bool.or_self]
  have w1 : (its.toArray.isEmpty || k == 1) = false := by simp only [full, Bool.false_or]; exact beq_eq_false_iff_ne.mpr (by omega)
  have w2 : (decide (k ≤ 0) || its.toArray.isEmpty) = false := by simp only [full, Bool.or_false]; exact decide_eq_false (by omega)
  have w4 : Builtin.Tuple.tupleTooMany (((its.toArray.size : Nat) : Int) * k) = false := by unfold Builtin.Tuple.tupleTooMany; rw [sizeLine_eq]; exact decide_eq_false (by omega)
  have TT : s.TypeIs (.ref l) "tuple" := ⟨_, ho, rfl⟩
  have fin : EP X pins σ Q (.ref s.heap.objs.size) { s with heap := s.heap.push { cls := .type "tuple", data := .seq (List.replicate k.toNat its).flatten.toArray } } := new_t I (r.rep k.toNat) fl q
  have back := int_rmul_tuple k t l its.toArray n dd sl
  have forth := tuple_mulW l its.toArray n dd sl k t w0 w1 w2 (by omega) w4 (by rw [size_rep]; exact fl')
  exact wpAny_binaryOp_repeat_ref (by decide) TT (fun s' => typeIs_int s' k t) noFill_tuple_mul F.fills_int_mul F.slot_int_rmul repeat_tuple F.slot_int_index.lookup
    (call_meets F.slot_int_rmul (typeIs_int s k t) F.entry_int_rmul (F.args_int_rmul_2 _ _) back
      ⟨ho, rfl, TT, call_meets F.slot_tuple_mul TT F.entry_tuple_mul (F.args_tuple_mul_2 _ _) forth ⟨ho, by rw [size_rep]; exact fin⟩⟩)
end
/-! zip of two tuples, with neat pairs -/
def ItzN (K : Frag) (a b : Addr) : It := { RZ.ItzT K a b with yld := fun i H v H' => ∃ T o x y, v = .ref T ∧ H T = none ∧ Neat o ∧ H' = upd H T (.frz o (.tup [x, y])) ∧ (∀ xs, SqT K H a xs → xs[i]? = some x) ∧ ∀ ys, SqT K H b ys → ys[i]? = some y }
theorem turn_zipN {P : Program} {w : World} {K : Frag} {elts : List Expr} {kk : Nat} {tpos : Pos} {a b z t1 t2 i1 i2 : Addr} (D : ZipApart z t1 t2 i1 i2 a b) :
    Turn P w K (.Tuple elts kk tpos) (ItzN K a b) [z, t1, t2, i1, i2] z (fun i h => IsZip h z t1 t2 .none ∧ IsPair h t1 (.ref i1) (.ref i2) ∧ (∃ x y, IsPair h t2 x y) ∧ h.IsTupleIter i1 a i ∧ h.IsTupleIter i2 b i) :=
  let old := RZ.turn_zipT (P := P) (w := w) (K := K) (elts := elts) (kk := kk) (tpos := tpos) D
  { mem := old.mem, obj := old.obj, keep := old.keep, done := old.done, self := old.self
    item := by
      intro X hP hw hK hc i pins s σ H E I hf st hg
      subst hP hw hK
      obtain ⟨hz, hp, ⟨x0, y0, hq⟩, g1, g2⟩ := st
      obtain ⟨xs, ys, x, y, qx, qy, ex, ey⟩ := hg
      obtain ⟨its, rv, p, _⟩ := I.tuple qx
      obtain ⟨jts, rw', q, _⟩ := I.tuple qy
      obtain ⟨u, eu, ru⟩ := rv.get ex
      obtain ⟨v, ev, rv'⟩ := rw'.get ey
      have below : ∀ c ∈ [z, t1, t2, i1, i2], c < s.heap.objs.size := fun c hcm => let ⟨_, e, _⟩ := old.obj i s.heap ⟨hz, hp, ⟨x0, y0, hq⟩, g1, g2⟩ c hcm; Heap.lt_size e
      refine RZ.pyNext_zipT_item D hz hp hq g1 g2 p q (x := u) (y := v) (by simpa using eu) (by simpa using ev) fun h' z' q' g1' g2' made hsz hk => ⟨_, rfl, wpAny_letOwnedTupleGo_zip (s := { s with heap := h' }) z' fun h'' z'' sb => ?_⟩
      have made2 : h''.get? s.heap.objs.size = some { cls := .type "tuple", data := .seq #[u, v] } := (sb.2 _ (Nat.ne_of_gt (below z (by simp)))).trans made
      have obj : ObjOk X.prog X.w (upd H s.heap.objs.size (.frz { cls := .type "tuple", data := .seq #[u, v] } (.tup [x, y]))) h'' s.heap.objs.size (.frz { cls := .type "tuple", data := .seq #[u, v] } (.tup [x, y])) :=
        ⟨made2, by show 2 ≤ sizeLine; decide, [u, v], .cons ru (.cons rv' .nil), _, made2, rfl, _, rfl⟩
      have stays : ∀ c o, c ∉ [z, t1, t2, i1, i2] → s.heap.get? c = some o → h''.get? c = some o := fun c o hn e =>
        (sb.2 c fun e' => hn (by simp [e'])).trans (hk c o (fun e' => hn (by simp [e'])) (fun e' => hn (by simp [e'])) (fun e' => hn (by simp [e'])) (fun e' => hn (by simp [e'])) e)
      have I1 := I.turnedNew (t' := s.toks) (ch := [z, t1, t2, i1, i2]) stays hf (Nat.le_refl _) obj
      refine ⟨.ref s.heap.objs.size, _, I1, rfl, ⟨_, _, x, y, rfl, I.hok.fresh (Nat.le_refl _), ⟨rfl, rfl⟩, rfl, fun l hl => by rw [I.tuple_inj hl qx]; exact ex, fun l hl => by rw [I.tuple_inj hl qy]; exact ey⟩, ⟨z'', ?_, ⟨u, v, ?_⟩, ?_, ?_⟩, fun c hcm => ?_⟩
      · exact (sb.2 _ D.TIz).trans (hk _ _ D.TIz D.TITO D.TIi1 D.TIi2 hp)
      · exact (sb.2 _ D.TOz).trans q'
      · exact g1'.at fun o e => (sb.2 _ D.i1z).trans e
      · exact g2'.at fun o e => (sb.2 _ D.i2z).trans e
      · rw [upd_ne (Nat.ne_of_lt (below c hcm))]
        exact (hf c hcm).1 }
def iZipN (K : Frag) (ta : TA) : TI := fun σ H R => ta σ H fun vs H1 => ∃ a b xs ys, vs = [.ref a, .ref b] ∧ SqT K H1 a xs ∧ SqT K H1 b ys ∧ R (ItzN K a b) H1
theorem pi_zipN {X : Cx} {e e2 : Expr} {ta : TA} {p pos tpos : Pos} {elts : List Expr} {kk : Nat} (hg : Gl X "zip") (hm : X.mg "zip" = none) (ha : PA X [e, e2] ta)
    (hs : starEach [e, e2] X.env = (false, eval e X.env) :: starEach [e2] X.env := by rfl) (hpl : (backTo pos (starEach [e2] X.env)).any (·.1) = false := by rfl) : PI X (.Tuple elts kk tpos) (.Call (.Name "zip" p) [e, e2] [] pos) (iZipN X.K ta) := by
  refine ⟨fun pins s σ H R I h => Call_ (ld_blt I hg hm PyProof.Rows.boot_zip (PyProof.Rows.callWith_type1 (thn (ha.run pos pins s σ H _ I h) fun us s1 ⟨vs, H1, I1, r1, q1⟩ => ?_) hs hpl))⟩
  obtain ⟨a, b, xs, ys, ev, hx, hy, q⟩ := q1
  subst ev
  obtain ⟨u, v, eu, ru, rv⟩ : ∃ u v, us = [u, v] ∧ RelV (.ref a) u ∧ RelV (.ref b) v := by
    cases r1 with
    | cons r t =>
      cases t with
      | cons r' t => cases t; exact ⟨_, _, rfl, r, r'⟩
  subst eu
  cases ru
  cases rv
  obtain ⟨its, _, p1, _⟩ := I1.tuple hx
  obtain ⟨jts, _, p2, _⟩ := I1.tuple hy
  obtain ⟨_, o1, _⟩ := id p1
  obtain ⟨_, o2, _⟩ := id p2
  refine RZ.call_zipT (show s1.heap.IsTuple a its.toArray from p1) (show s1.heap.IsTuple b jts.toArray from p2) fun h' hz hp hq g1 g2 _ hk => wpAny_pyIter_zip hz ?_
  refine ⟨s1.heap.objs.size + 4, [s1.heap.objs.size + 4, s1.heap.objs.size + 2, s1.heap.objs.size + 3, s1.heap.objs.size, s1.heap.objs.size + 1], _, _, H1, rfl, I1.kept (t' := s1.toks) hk,
    turn_zipN (PySem.W.ktu_apart s1.heap.objs.size a b (Heap.lt_size o1) (Heap.lt_size o2)), ⟨hz, hp, ⟨_, _, hq⟩, g1, g2⟩, fun c hcm => ?_, q⟩
  have le : s1.heap.objs.size ≤ c := by
    simp only [List.mem_cons, List.not_mem_nil, or_false] at hcm
    rcases hcm with rfl | rfl | rfl | rfl | rfl <;> first | exact Nat.le_refl _ | exact Nat.le_add_right _ _
  exact I1.fpOk le (I1.hok.fresh le)
end DL

set_option Elab.async false
set_option linter.all false
set_option maxRecDepth 100000
/-! The data layer: readings of the hand layer over plain data (PyData), with tuples as values, lists and dicts of one's own by slot, and a hidden ghost (the deck). -/
namespace DL
open PySem PySem.Spec PyProof.Rows L2

abbrev D := PyData
/-- what a value is known as: a datum; a list with stable items; a dict; the ghost. own: a fresh one, of one's own -/
inductive R where
  | s (d : D)
  | l (own : Bool) (xs : List D)
  | k (own : Bool) (kvs : List (Key × D))
  | t (own : Bool) (kvs : List (List Key × D))
  | g
abbrev Rho := List (Option R)

/-- the ghost: where it stands, what holds of it, the value that is handed about -/
structure Gh where
  at_ : List Addr
  ok : Hp → Prop
  val : V
  stay : ∀ H H' : Hp, (∀ a ∈ at_, H' a = H a) → ok H → ok H'
  here : ∀ H : Hp, ok H → ∀ a ∈ at_, H a ≠ none
def G0 : Gh := ⟨[], fun _ => True, .non, fun _ _ _ _ => trivial, fun _ _ _ h => nomatch h⟩
/-- the deck: [cells, what is left of a great cell, a mixed number] -/
def deckOk (a c : Addr) (H : Hp) : Prop := ∃ (cells : List Int) (s m : Int), H a = some (.lst [.ref c, .int s, .int m]) ∧ H c = some (.lst (cells.map V.int)) ∧ (∀ x ∈ cells, 0 ≤ x ∧ x < 10 ^ 60) ∧ 0 ≤ s ∧ s < 10 ^ 60 ∧ 0 ≤ m ∧ m < 2147483647 ∧ cells.length ≤ 1000
def deckG (a c : Addr) : Gh := ⟨[a, c], deckOk a c, .ref a, fun H H' h ⟨cells, s, m, h1, h2, h3⟩ => ⟨cells, s, m, by rw [h a (by simp)]; exact h1, by rw [h c (by simp)]; exact h2, h3⟩,
  fun H ⟨cells, s, m, h1, h2, h3⟩ b hb => by
    rcases List.mem_cons.mp hb with rfl | hb
    · rw [h1]; exact fun z => nomatch z
    · rcases List.mem_cons.mp hb with rfl | hb
      · rw [h2]; exact fun z => nomatch z
      · cases hb⟩
def hide (G : Gh) (H : Hp) : Hp := fun a => if a ∈ G.at_ then none else H a
section
variable {G : Gh} {H H' B : Hp} {a p : Addr} {o : HO}
theorem hide_in (h : a ∈ G.at_) : hide G H a = none := if_pos h
theorem hide_out (h : a ∉ G.at_) : hide G H a = H a := if_neg h
theorem hide_some (h : hide G H a = some o) : a ∉ G.at_ ∧ H a = some o := by
  by_cases q : a ∈ G.at_
  · rw [hide_in q] at h; cases h
  · rw [hide_out q] at h; exact ⟨q, h⟩
theorem hide_free (h : H a = none) : hide G H a = none := by
  by_cases q : a ∈ G.at_
  · exact hide_in q
  · rw [hide_out q]; exact h
theorem hide_upd (h : p ∉ G.at_) : hide G (upd H p o) = upd (hide G H) p o := by
  funext b
  by_cases q : b = p
  · subst q; rw [hide_out h, upd_same, upd_same]
  · by_cases z : b ∈ G.at_
    · rw [hide_in z, upd_ne q, hide_in z]
    · rw [hide_out z, upd_ne q, upd_ne q, hide_out z]
theorem ghost_upd (h : p ∉ G.at_) (q : G.ok H) : G.ok (upd H p o) := G.stay _ _ (fun b hb => upd_ne (fun e => h (e ▸ hb))) q
end

def kD : Key → D
  | .inl i => .int i
  | .inr x => .str x
/-! data in the heap, dicts that nobody changes among them -/
mutual
inductive Dp (K : Frag) (H : Hp) : V → D → Prop
  | non : Dp K H .non .none
  | bl (b : Bool) : Dp K H (.bl b) (.bool b)
  | int (i : Int) : Dp K H (.int i) (.int i)
  | str (x : Str) : Dp K H (.str x) (.str x)
  | lst {a : Addr} {xs : List V} {ds : List D} : SqL K H a xs → DpAll K H xs ds → Dp K H (.ref a) (.list ds)
  | tup {a : Addr} {xs : List V} {ds : List D} : SqN K H a xs → DpAll K H xs ds → Dp K H (.ref a) (.tuple ds)
  | dic {a : Addr} {xs : List (Key × V)} {ds : List (D × D)} : H a = some (.dK xs) → DpKv K H xs ds → Dp K H (.ref a) (.dict ds)
inductive DpAll (K : Frag) (H : Hp) : List V → List D → Prop
  | nil : DpAll K H [] []
  | cons {v : V} {vs : List V} {d : D} {ds : List D} : Dp K H v d → DpAll K H vs ds → DpAll K H (v :: vs) (d :: ds)
inductive DpKv (K : Frag) (H : Hp) : List (Key × V) → List (D × D) → Prop
  | nil : DpKv K H [] []
  | cons {k : Key} {v : V} {vs : List (Key × V)} {d : D} {ds : List (D × D)} : Dp K H v d → DpKv K H vs ds → DpKv K H ((k, v) :: vs) ((kD k, d) :: ds)
end
/-- lists of one key kind and their values -/
inductive KvP (K : Frag) (B : Hp) {κ : Type} : List (κ × V) → List (κ × D) → Prop
  | nil : KvP K B [] []
  | cons {k : κ} {x : V} {d : D} {xs : List (κ × V)} {ds : List (κ × D)} : Dp K B x d → KvP K B xs ds → KvP K B ((k, x) :: xs) ((k, d) :: ds)

end DL
namespace L2
open PySem PySem.Spec PyProof.Rows
section
variable {K : PySem.W.Frag} {H H' : Hp}
theorem Same.sqL (e : Same H H') {a : Addr} {xs : List V} (h : SqL K H a xs) : SqL K H' a xs := Same.seq e h
theorem Same.sqT (e : Same H H') {a : Addr} {xs : List V} (h : SqT K H a xs) : SqT K H' a xs := by
  rcases h with (h | ⟨o, h⟩) | h
  · exact .inl (.inl (e _ _ h))
  · exact .inl (.inr ⟨o, e _ _ h⟩)
  · exact .inr h
end
end L2
namespace DL
open PySem PySem.Spec PyProof.Rows L2
section
variable {K : PySem.W.Frag} {H H' : Hp}
mutual
theorem Dp.mono (e : Same H H') : ∀ {x : V} {d : PyData}, Dp K H x d → Dp K H' x d
  | _, _, .non => .non
  | _, _, .bl b => .bl b
  | _, _, .int i => .int i
  | _, _, .str x => .str x
  | _, _, .lst h t => .lst (Same.sqL e h) (DpAll.mono e t)
  | _, _, .tup h t => .tup (h.up e) (DpAll.mono e t)
  | _, _, .dic h t => .dic (e _ _ h) (DpKv.mono e t)
theorem DpAll.mono (e : Same H H') : ∀ {xs : List V} {ds : List PyData}, DpAll K H xs ds → DpAll K H' xs ds
  | _, _, .nil => .nil
  | _, _, .cons h t => .cons (Dp.mono e h) (DpAll.mono e t)
theorem DpKv.mono (e : Same H H') : ∀ {xs : List (Key × V)} {ds : List (D × D)}, DpKv K H xs ds → DpKv K H' xs ds
  | _, _, .nil => .nil
  | _, _, .cons h t => .cons (Dp.mono e h) (DpKv.mono e t)
end
mutual
theorem Dp.old : ∀ {d : D} {x : V}, Dp K H x d → d.canLay0 = true → L2.Dp K H x d
  | _, _, .non, _ => .non
  | _, _, .bl b, _ => .bl b
  | _, _, .int i, _ => .int i
  | _, _, .str x, _ => .str x
  | _, _, .lst h t, c => .lst h (DpAll.old t (by simpa only [PyData.canLay0] using c))
  | _, _, .tup h t, c => .tup h.t (DpAll.old t (by simpa only [PyData.canLay0] using c))
theorem DpAll.old : ∀ {ds : List D} {xs : List V}, DpAll K H xs ds → PyData.canLayAll0 ds = true → L2.DpAll K H xs ds
  | _, _, .nil, _ => .nil
  | _, _, .cons h t, c => have c' := Bool.and_eq_true_iff.mp (by simpa only [PyData.canLayAll0] using c); .cons (Dp.old h c'.1) (DpAll.old t c'.2)
end
theorem DpAll.length : ∀ {xs : List V} {ds : List PyData}, DpAll K H xs ds → xs.length = ds.length
  | _, _, .nil => rfl
  | _, _, .cons _ t => congrArg (· + 1) (DpAll.length t)
theorem DpAll.append : ∀ {xs ys : List V} {ds es : List PyData}, DpAll K H xs ds → DpAll K H ys es → DpAll K H (xs ++ ys) (ds ++ es)
  | _, _, _, _, .nil, h => h
  | _, _, _, _, .cons h t, h' => .cons h (DpAll.append t h')
theorem DpAll.get : ∀ {xs : List V} {ds : List PyData} {i : Nat} {d : PyData}, DpAll K H xs ds → ds[i]? = some d → ∃ x, xs[i]? = some x ∧ Dp K H x d
  | _, _, _, _, .nil, e => by simp at e
  | _, _, 0, _, .cons h _, e => by simp at e; subst e; exact ⟨_, by simp, h⟩
  | _, _, i + 1, _, .cons _ t, e => by
    obtain ⟨x, h1, h2⟩ := DpAll.get (i := i) t (by simpa using e)
    exact ⟨x, by simpa using h1, h2⟩
theorem DpAll.get' : ∀ {xs : List V} {ds : List PyData} {i : Nat} {x : V}, DpAll K H xs ds → xs[i]? = some x → ∃ d, ds[i]? = some d ∧ Dp K H x d
  | _, _, _, _, .nil, e => by simp at e
  | _, _, 0, _, .cons h _, e => by simp at e; subst e; exact ⟨_, by simp, h⟩
  | _, _, i + 1, _, .cons _ t, e => by
    obtain ⟨x, h1, h2⟩ := DpAll.get' (i := i) t (by simpa using e)
    exact ⟨x, by simpa using h1, h2⟩
theorem DpAll.take : ∀ {xs : List V} {ds : List PyData} (n : Nat), DpAll K H xs ds → DpAll K H (xs.take n) (ds.take n)
  | _, _, 0, _ => .nil
  | _, _, _ + 1, .nil => .nil
  | _, _, n + 1, .cons h t => .cons h (DpAll.take n t)
theorem DpAll.drop : ∀ {xs : List V} {ds : List PyData} (n : Nat), DpAll K H xs ds → DpAll K H (xs.drop n) (ds.drop n)
  | _, _, 0, h => h
  | _, _, _ + 1, .nil => .nil
  | _, _, n + 1, .cons _ t => DpAll.drop n t
theorem DpAll.set : ∀ {xs : List V} {ds : List PyData} {x : V} {d : PyData} (n : Nat), DpAll K H xs ds → Dp K H x d → DpAll K H (xs.set n x) (ds.set n d)
  | _, _, _, _, _, .nil, _ => .nil
  | _, _, _, _, 0, .cons _ t, r => .cons r t
  | _, _, _, _, n + 1, .cons h t, r => .cons h (DpAll.set n t r)
theorem DpAll.reverse : ∀ {xs : List V} {ds : List PyData}, DpAll K H xs ds → DpAll K H xs.reverse ds.reverse
  | _, _, .nil => .nil
  | _, _, .cons h t => by rw [List.reverse_cons, List.reverse_cons]; exact DpAll.append (DpAll.reverse t) (.cons h .nil)
theorem DpAll.ints : ∀ (ns : List Int), DpAll K H (ns.map V.int) (ns.map PyData.int)
  | [] => .nil
  | n :: ns => .cons (.int n) (DpAll.ints ns)
theorem old_ints : ∀ (ns : List Int), L2.DpAll K H (ns.map V.int) (ns.map PyData.int)
  | [] => .nil
  | n :: ns => .cons (.int n) (old_ints ns)
theorem DpAll.ints' : ∀ {xs : List V} {ns : List Int}, DpAll K H xs (ns.map PyData.int) → xs = ns.map V.int
  | _, [], .nil => rfl
  | _, n :: ns, .cons h t => by cases h; rw [DpAll.ints' t]; rfl
theorem DpAll.bls' : ∀ {xs : List V} {bs : List Bool}, DpAll K H xs (bs.map PyData.bool) → xs = bs.map V.bl
  | _, [], .nil => rfl
  | _, n :: ns, .cons h t => by cases h; rw [DpAll.bls' t]; rfl
end
section
variable {K : Frag} {H H' : Hp}
theorem KvP.mono {κ : Type} (e : Same H H') : ∀ {xs : List (κ × V)} {ds : List (κ × D)}, KvP K H xs ds → KvP K H' xs ds
  | _, _, .nil => .nil
  | _, _, .cons h t => .cons (Dp.mono e h) (KvP.mono e t)
end
section
variable {K : Frag} {H : Hp}
def kvD (kvs : List (Key × D)) : List (D × D) := kvs.map fun p => (kD p.1, p.2)
theorem KvP.kv : ∀ {xs : List (Key × V)} {ds : List (Key × D)}, KvP K H xs ds → DpKv K H xs (kvD ds)
  | _, _, .nil => .nil
  | _, _, .cons h t => .cons h (KvP.kv t)
theorem kD_inj : ∀ {a b : Key}, kD a = kD b → a = b
  | .inl _, .inl _, e => by cases e; rfl
  | .inr _, .inr _, e => by cases e; rfl
  | .inl _, .inr _, e => by cases e
  | .inr _, .inl _, e => by cases e
theorem DpKv.pk : ∀ {ds : List (Key × D)} {xs : List (Key × V)}, DpKv K H xs (kvD ds) → KvP K H xs ds
  | [], _, .nil => .nil
  | (k, d) :: ds, _, h => by
    generalize e : kvD ((k, d) :: ds) = l at h
    cases h with
    | nil => cases e
    | @cons k' v vs d' ds' h t =>
      have e1 : kD k = kD k' := congrArg Prod.fst (List.cons.inj e).1
      have e2 : d = d' := congrArg Prod.snd (List.cons.inj e).1
      have e3 : kvD ds = ds' := (List.cons.inj e).2
      subst e2 e3
      rw [kD_inj e1]
      exact .cons h (DpKv.pk t)
end
/-! ### steps and states -/
/-- from (B, H) to (B', H'): what was stable stays, what was tracked stays (but for the ghost), and what was not stable does not become so if it stood there -/
structure Stp (G : Gh) (B H B' H' : Hp) : Prop where
  bb : Same B B'
  hh : Same (hide G H) (hide G H')
  nw : ∀ a o, B a = none → hide G H a = some o → B' a = none
section
variable {G : Gh} {B H B1 H1 B2 H2 : Hp}
theorem Stp.refl (G : Gh) (B H : Hp) : Stp G B H B H := ⟨Same.refl _, Same.refl _, fun _ _ h _ => h⟩
theorem Stp.trans (s : Stp G B H B1 H1) (t : Stp G B1 H1 B2 H2) : Stp G B H B2 H2 :=
  ⟨s.bb.trans t.bb, s.hh.trans t.hh, fun a o h1 h2 => t.nw a o (s.nw a o h1 h2) (s.hh a o h2)⟩
/-- a new object, not stable -/
theorem Stp.new {p : Addr} {o : HO} (h : H p = none) : Stp G B H B (upd H p o) := ⟨Same.refl _, fun a u e => by
    obtain ⟨z, e⟩ := hide_some e
    rw [hide_out z, upd_ne (ne_of_none e h)]; exact e, fun _ _ h _ => h⟩
/-- a new object, stable at once -/
theorem Stp.newS {p : Addr} {o : HO} (h : H p = none) (hb : B p = none) : Stp G B H (upd B p o) (upd H p o) := ⟨fun a u e => by
    rw [upd_ne (ne_of_none e hb)]; exact e, (Stp.new (G := G) (B := B) h).hh, fun a u h1 h2 => by
    rw [upd_ne (ne_of_none (hide_some h2).2 h)]; exact h1⟩
end

/-- what a slot's value is -/
def SlotR (K : Frag) (G : Gh) (B0 H0 B H : Hp) (x : V) : R → Prop
  | .s d => Dp K B x d
  | .l false ds => ∃ p xs, x = .ref p ∧ hide G H0 p = some (.lst xs) ∧ DpAll K B xs ds
  | .l true ds => ∃ p xs, x = .ref p ∧ H p = some (.lst xs) ∧ DpAll K B xs ds ∧ B p = none ∧ p ∉ G.at_ ∧ hide G H0 p = none
  | .k false ds => ∃ p xs, x = .ref p ∧ hide G H0 p = some (.dK xs) ∧ KvP K B xs ds
  | .k true ds => ∃ p xs, x = .ref p ∧ H p = some (.dK xs) ∧ KvP K B xs ds ∧ B p = none ∧ p ∉ G.at_ ∧ hide G H0 p = none
  | .t false ds => ∃ p xs, x = .ref p ∧ hide G H0 p = some (.dT xs) ∧ KvP K B xs ds
  | .t true ds => ∃ p xs, x = .ref p ∧ H p = some (.dT xs) ∧ KvP K B xs ds ∧ B p = none ∧ p ∉ G.at_ ∧ hide G H0 p = none
  | .g => ∃ a c, x = .ref a ∧ G = deckG a c
def owns : R → Bool
  | .l true _ | .k true _ | .t true _ => true
  | _ => false
structure Stt (K : Frag) (G : Gh) (B0 H0 B H : Hp) (σ : L2.St) (ρ : Rho) : Prop where
  len : ρ.length = σ.length
  bh : Same B (hide G H)
  gok : G.ok H
  st : Stp G B0 H0 B H
  sl : ∀ (i : Nat) (r : R), ρ[i]? = some (some r) → ∃ x, σ[i]? = some (some x) ∧ SlotR K G B0 H0 B H x r
  dis : ∀ (i j : Nat) (r u : R) (x : V), i ≠ j → ρ[i]? = some (some r) → ρ[j]? = some (some u) → owns r = true → owns u = true → σ[i]? = some (some x) → σ[j]? = some (some x) → False

/-- what an expression's value is, from H on -/
def Rs (K : Frag) (G : Gh) (H B' H' : Hp) (x : V) : R → Prop
  | .s d => Dp K B' x d
  | .l own ds => ∃ p xs, x = .ref p ∧ hide G H' p = some (.lst xs) ∧ DpAll K B' xs ds ∧ (own = true → B' p = none ∧ hide G H p = none)
  | .k own ds => ∃ p xs, x = .ref p ∧ hide G H' p = some (.dK xs) ∧ KvP K B' xs ds ∧ (own = true → B' p = none ∧ hide G H p = none)
  | .t own ds => ∃ p xs, x = .ref p ∧ hide G H' p = some (.dT xs) ∧ KvP K B' xs ds ∧ (own = true → B' p = none ∧ hide G H p = none)
  | .g => ∃ a c, x = .ref a ∧ G = deckG a c

section
variable {K : Frag} {G : Gh} {B0 H0 B H B' H' B1 H1 : Hp} {σ : L2.St} {ρ : Rho} {x : V} {r : R}
theorem SlotR.step (h : SlotR K G B0 H0 B H x r) (s : Stp G B H B' H') : SlotR K G B0 H0 B' H' x r := by
  have up : ∀ {p : Addr} {o : HO}, H p = some o → p ∉ G.at_ → H' p = some o := fun {p o} e z => by
    have := s.hh p o (by rw [hide_out z]; exact e)
    exact (hide_some this).2
  match r, h with
  | .s d, h => exact Dp.mono s.bb h
  | .l false ds, ⟨p, xs, e, h1, h2⟩ => exact ⟨p, xs, e, h1, DpAll.mono s.bb h2⟩
  | .l true ds, ⟨p, xs, e, h1, h2, h3, h4, h5⟩ => exact ⟨p, xs, e, up h1 h4, DpAll.mono s.bb h2, s.nw p _ h3 (by rw [hide_out h4]; exact h1), h4, h5⟩
  | .k false ds, ⟨p, xs, e, h1, h2⟩ => exact ⟨p, xs, e, h1, KvP.mono s.bb h2⟩
  | .k true ds, ⟨p, xs, e, h1, h2, h3, h4, h5⟩ => exact ⟨p, xs, e, up h1 h4, KvP.mono s.bb h2, s.nw p _ h3 (by rw [hide_out h4]; exact h1), h4, h5⟩
  | .t false ds, ⟨p, xs, e, h1, h2⟩ => exact ⟨p, xs, e, h1, KvP.mono s.bb h2⟩
  | .t true ds, ⟨p, xs, e, h1, h2, h3, h4, h5⟩ => exact ⟨p, xs, e, up h1 h4, KvP.mono s.bb h2, s.nw p _ h3 (by rw [hide_out h4]; exact h1), h4, h5⟩
  | .g, h => exact h
theorem Stt.step (h : Stt K G B0 H0 B H σ ρ) (s : Stp G B H B' H') (bh : Same B' (hide G H')) (gok : G.ok H') : Stt K G B0 H0 B' H' σ ρ :=
  ⟨h.len, bh, gok, h.st.trans s, fun i r e => let ⟨x, e1, e2⟩ := h.sl i r e; ⟨x, e1, e2.step s⟩, h.dis⟩
theorem Rs.step (h : Rs K G H B1 H1 x r) (s : Stp G B1 H1 B' H') : Rs K G H B' H' x r := by
  match r, h with
  | .s d, h => exact Dp.mono s.bb h
  | .l own ds, ⟨p, xs, e, h1, h2, h3⟩ =>
    exact ⟨p, xs, e, s.hh _ _ h1, DpAll.mono s.bb h2, fun o => let ⟨a, b⟩ := h3 o; ⟨s.nw p _ a h1, b⟩⟩
  | .k own ds, ⟨p, xs, e, h1, h2, h3⟩ => exact ⟨p, xs, e, s.hh _ _ h1, KvP.mono s.bb h2, fun o => let ⟨a, b⟩ := h3 o; ⟨s.nw p _ a h1, b⟩⟩
  | .t own ds, ⟨p, xs, e, h1, h2, h3⟩ => exact ⟨p, xs, e, s.hh _ _ h1, KvP.mono s.bb h2, fun o => let ⟨a, b⟩ := h3 o; ⟨s.nw p _ a h1, b⟩⟩
  | .g, h => exact h
/-- from an earlier start -/
theorem Rs.from (h : Rs K G H1 B' H' x r) (s : Stp G B H B1 H1) : Rs K G H B' H' x r := by
  have fr : ∀ {p : Addr}, hide G H1 p = none → hide G H p = none := fun e => s.hh.free e
  match r, h with
  | .s d, h => exact h
  | .l own ds, ⟨p, xs, e, h1, h2, h3⟩ => exact ⟨p, xs, e, h1, h2, fun o => let ⟨a, b⟩ := h3 o; ⟨a, fr b⟩⟩
  | .k own ds, ⟨p, xs, e, h1, h2, h3⟩ => exact ⟨p, xs, e, h1, h2, fun o => let ⟨a, b⟩ := h3 o; ⟨a, fr b⟩⟩
  | .t own ds, ⟨p, xs, e, h1, h2, h3⟩ => exact ⟨p, xs, e, h1, h2, fun o => let ⟨a, b⟩ := h3 o; ⟨a, fr b⟩⟩
  | .g, h => exact h
theorem Stt.notG (h : Stt K G B0 H0 B H σ ρ) {p : Addr} (e : H p = none) : p ∉ G.at_ := fun z => G.here _ h.gok _ z e
theorem Stt.freeB (h : Stt K G B0 H0 B H σ ρ) {p : Addr} (e : H p = none) : B p = none := h.bh.free (hide_free e)
/-- a slot read: never as one's own -/
def peek : R → R
  | .l _ xs => .l false xs
  | .k _ xs => .k false xs
  | .t _ xs => .t false xs
  | r => r
theorem SlotR.rs (h : SlotR K G B0 H0 B H x r) (s : Stp G B0 H0 B H) : Rs K G H B H x (peek r) := by
  match r, h with
  | .s d, h => exact h
  | .l false ds, ⟨p, xs, e, h1, h2⟩ => exact ⟨p, xs, e, s.hh _ _ h1, h2, fun o => by cases o⟩
  | .l true ds, ⟨p, xs, e, h1, h2, h3, h4, h5⟩ => exact ⟨p, xs, e, by rw [hide_out h4]; exact h1, h2, fun o => by cases o⟩
  | .k false ds, ⟨p, xs, e, h1, h2⟩ => exact ⟨p, xs, e, s.hh _ _ h1, h2, fun o => by cases o⟩
  | .k true ds, ⟨p, xs, e, h1, h2, h3, h4, h5⟩ => exact ⟨p, xs, e, by rw [hide_out h4]; exact h1, h2, fun o => by cases o⟩
  | .t false ds, ⟨p, xs, e, h1, h2⟩ => exact ⟨p, xs, e, s.hh _ _ h1, h2, fun o => by cases o⟩
  | .t true ds, ⟨p, xs, e, h1, h2, h3, h4, h5⟩ => exact ⟨p, xs, e, by rw [hide_out h4]; exact h1, h2, fun o => by cases o⟩
  | .g, h => exact h
/-- the owner of an object is away from all that is stable or older -/
theorem SlotR.own (h : SlotR K G B0 H0 B H x r) (o : owns r = true) : ∃ p u, x = .ref p ∧ H p = some u ∧ B p = none ∧ p ∉ G.at_ ∧ hide G H0 p = none := by
  match r, h with
  | .l true ds, ⟨p, xs, e, h1, h2, h3, h4, h5⟩ => exact ⟨p, _, e, h1, h3, h4, h5⟩
  | .k true ds, ⟨p, xs, e, h1, h2, h3, h4, h5⟩ => exact ⟨p, _, e, h1, h3, h4, h5⟩
  | .t true ds, ⟨p, xs, e, h1, h2, h3, h4, h5⟩ => exact ⟨p, _, e, h1, h3, h4, h5⟩
  | .s d, _ => cases o
  | .l false ds, _ => cases o
  | .k false ds, _ => cases o
  | .t false ds, _ => cases o
  | .g, _ => cases o
/-- what may be kept in a slot: data, and what is fresh -/
def keeps : R → Bool
  | .s _ => true
  | .g => true
  | .l o _ | .k o _ | .t o _ => o
theorem Rs.own_new (h : Rs K G H B' H' x r) (o : owns r = true) : ∃ p, x = .ref p ∧ hide G H p = none := by
  match r, o, h with
  | .l true ds, _, ⟨p, xs, e, h1, h2, h3⟩ => exact ⟨p, e, (h3 rfl).2⟩
  | .k true ds, _, ⟨p, xs, e, h1, h2, h3⟩ => exact ⟨p, e, (h3 rfl).2⟩
  | .t true ds, _, ⟨p, xs, e, h1, h2, h3⟩ => exact ⟨p, e, (h3 rfl).2⟩
theorem Rs.own_at (h : Rs K G H B' H' x r) (o : owns r = true) : ∃ p u, x = .ref p ∧ hide G H' p = some u := by
  match r, o, h with
  | .l true ds, _, ⟨p, xs, e, h1, h2, h3⟩ => exact ⟨p, _, e, h1⟩
  | .k true ds, _, ⟨p, xs, e, h1, h2, h3⟩ => exact ⟨p, _, e, h1⟩
  | .t true ds, _, ⟨p, xs, e, h1, h2, h3⟩ => exact ⟨p, _, e, h1⟩
/-- a kept result as a slot's value -/
theorem Rs.slot (hr : Rs K G H B' H' x r) (k : keeps r = true) (s : Same (hide G H0) (hide G H)) : SlotR K G B0 H0 B' H' x r := by
  match r, k, hr with
  | .s d, _, hr => exact hr
  | .l true ds, _, ⟨p, xs, e, h1, h2, h3⟩ => obtain ⟨a, b⟩ := h3 rfl; obtain ⟨z, y⟩ := hide_some h1; exact ⟨p, xs, e, y, h2, a, z, s.free b⟩
  | .k true ds, _, ⟨p, xs, e, h1, h2, h3⟩ => obtain ⟨a, b⟩ := h3 rfl; obtain ⟨z, y⟩ := hide_some h1; exact ⟨p, xs, e, y, h2, a, z, s.free b⟩
  | .t true ds, _, ⟨p, xs, e, h1, h2, h3⟩ => obtain ⟨a, b⟩ := h3 rfl; obtain ⟨z, y⟩ := hide_some h1; exact ⟨p, xs, e, y, h2, a, z, s.free b⟩
  | .g, _, hr => exact hr
/-- a new object is away from the slots' own ones -/
theorem Stt.away (h : Stt K G B0 H0 B H σ ρ) (hr : Rs K G H B' H' x r) (o1 : owns r = true) (j : Nat) (u : R) (y : V) (e1 : ρ[j]? = some (some u)) (o2 : owns u = true) (e2 : σ[j]? = some (some y)) : y ≠ x := by
  intro e3
  obtain ⟨z, f1, f2⟩ := h.sl j u e1
  rw [f1] at e2; cases e2
  obtain ⟨p, ob, ep, f3, f4, f5, f6⟩ := f2.own o2
  obtain ⟨q, eq, hq⟩ := hr.own_new o1
  rw [ep, eq] at e3
  cases e3
  rw [hide_out f5, f3] at hq; cases hq
/-- a slot is filled, in general -/
theorem Stt.fillG (hn : Stt K G B0 H0 B' H' σ ρ) (base : SlotR K G B0 H0 B' H' x r) (i : Nat) (hi : i < σ.length)
    (apart : ∀ (j : Nat) (u : R) (y : V), j ≠ i → ρ[j]? = some (some u) → owns r = true → owns u = true → σ[j]? = some (some y) → y = x → False) :
    Stt K G B0 H0 B' H' (σ.set i (some x)) (ρ.set i (some r)) := by
  have hi' : i < ρ.length := by rw [hn.len]; exact hi
  refine ⟨by simp [hn.len], hn.bh, hn.gok, hn.st, fun j u e => ?_, fun j m u v y hjm e1 e2 o1 o2 e3 e4 => ?_⟩
  · by_cases q : j = i
    · subst q
      rw [List.getElem?_set_self hi'] at e; cases e
      exact ⟨x, List.getElem?_set_self hi, base⟩
    · rw [List.getElem?_set_ne (Ne.symm q)] at e ⊢
      exact hn.sl j u e
  · by_cases qj : j = i
    · subst qj
      rw [List.getElem?_set_self hi'] at e1; cases e1
      rw [List.getElem?_set_self hi] at e3; cases e3
      rw [List.getElem?_set_ne hjm] at e2 e4
      exact apart m v _ (Ne.symm hjm) e2 o1 o2 e4 rfl
    · rw [List.getElem?_set_ne (Ne.symm qj)] at e1 e3
      by_cases qm : m = i
      · subst qm
        rw [List.getElem?_set_self hi'] at e2; cases e2
        rw [List.getElem?_set_self hi] at e4; cases e4
        exact apart j u _ qj e1 o2 o1 e3 rfl
      · rw [List.getElem?_set_ne (Ne.symm qm)] at e2 e4
        exact hn.dis j m u v y hjm e1 e2 o1 o2 e3 e4
theorem Stt.fill (h : Stt K G B0 H0 B H σ ρ) (s : Stp G B H B' H') (hn : Stt K G B0 H0 B' H' σ ρ) (k : keeps r = true) (hr : Rs K G H B' H' x r) (i : Nat) (hi : i < σ.length) :
    Stt K G B0 H0 B' H' (σ.set i (some x)) (ρ.set i (some r)) :=
  hn.fillG (hr.slot k h.st.hh) i hi fun j u y _ e1 o1 o2 e2 e3 => h.away hr o1 j u y e1 o2 e2 e3
/-- what stands in a slot of one's own is written -/
theorem Stt.mut {i : Nat} {p : Addr} {o : HO} {r' : R} (h : Stt K G B0 H0 B H σ ρ) (e1 : ρ[i]? = some (some r)) (ho : owns r = true) (e2 : σ[i]? = some (some (.ref p))) (hr : SlotR K G B0 H0 B (upd H p o) (.ref p) r') :
    Stt K G B0 H0 B (upd H p o) σ (ρ.set i (some r')) := by
  obtain ⟨x, f1, f2⟩ := h.sl i r e1
  rw [e2] at f1; cases f1
  obtain ⟨q, u, eq, h1, h2, h3, h4⟩ := f2.own ho
  cases eq
  have hi : i < ρ.length := (List.getElem?_eq_some_iff.mp e1).1
  have hu : hide G (upd H p o) = upd (hide G H) p o := hide_upd h3
  refine ⟨by rw [List.length_set]; exact h.len, fun b v e => ?_, ghost_upd h3 h.gok, ⟨h.st.bb, fun b v e => ?_, h.st.nw⟩, fun j v e => ?_, fun j m v w y hjm z1 z2 o1 o2 z3 z4 => ?_⟩
  · rw [hu, upd_ne (ne_of_none e h2)]; exact h.bh _ _ e
  · rw [hu, upd_ne (ne_of_none e h4)]; exact h.st.hh _ _ e
  · by_cases qj : j = i
    · subst qj
      rw [List.getElem?_set_self hi] at e; cases e
      exact ⟨_, e2, hr⟩
    · rw [List.getElem?_set_ne (Ne.symm qj)] at e
      obtain ⟨y, g1, g2⟩ := h.sl j v e
      refine ⟨y, g1, ?_⟩
      have ne : ∀ q, y = .ref q → owns v = true → q ≠ p := fun q ey ov eqp => by
        subst ey; subst eqp
        exact h.dis j i v r _ qj e e1 ov ho g1 e2
      match v, g2, ne with
      | .s d, g2, _ => exact g2
      | .l false ds, g2, _ => exact g2
      | .l true ds, ⟨q, xs, e, k1, k2, k3, k4, k5⟩, ne => exact ⟨q, xs, e, by rw [upd_ne (ne q e rfl)]; exact k1, k2, k3, k4, k5⟩
      | .k false ds, g2, _ => exact g2
      | .k true ds, ⟨q, xs, e, k1, k2, k3, k4, k5⟩, ne => exact ⟨q, xs, e, by rw [upd_ne (ne q e rfl)]; exact k1, k2, k3, k4, k5⟩
      | .t false ds, g2, _ => exact g2
      | .t true ds, ⟨q, xs, e, k1, k2, k3, k4, k5⟩, ne => exact ⟨q, xs, e, by rw [upd_ne (ne q e rfl)]; exact k1, k2, k3, k4, k5⟩
      | .g, g2, _ => exact g2
  · by_cases qj : j = i
    · subst qj
      rw [List.getElem?_set_ne hjm] at z2
      exact h.dis j m r w y hjm e1 z2 ho o2 z3 z4
    · rw [List.getElem?_set_ne (Ne.symm qj)] at z1
      by_cases qm : m = i
      · subst qm
        exact h.dis j m v r y hjm z1 e1 o1 ho z3 z4
      · rw [List.getElem?_set_ne (Ne.symm qm)] at z2
        exact h.dis j m v w y hjm z1 z2 o1 o2 z3 z4
/-- an object of one's own becomes stable -/
theorem Stt.freezeG {i : Nat} {d : D} {p : Addr} {o : HO} (h : Stt K G B0 H0 B H σ ρ) (e1 : ρ[i]? = some (some r)) (ho : owns r = true) (f1 : σ[i]? = some (some (.ref p))) (h1 : H p = some o) (h3 : B p = none) (h4 : p ∉ G.at_) (h5 : hide G H0 p = none)
    (hd : Same B (upd B p o) → Dp K (upd B p o) (.ref p) d) : ∃ B', Stt K G B0 H0 B' H σ (ρ.set i (some (.s d))) ∧ Same B B' := by
  have hi : i < ρ.length := (List.getElem?_eq_some_iff.mp e1).1
  have bb : Same B (upd B p o) := fun b u e => by rw [upd_ne (ne_of_none e h3)]; exact e
  have bh : Same (upd B p o) (hide G H) := fun b u e => by
    by_cases z : b = p
    · subst z; rw [upd_same] at e; cases e; rw [hide_out h4]; exact h1
    · rw [upd_ne z] at e; exact h.bh _ _ e
  refine ⟨upd B p o, ⟨by rw [List.length_set]; exact h.len, bh, h.gok, ⟨h.st.bb.trans bb, h.st.hh, fun b u z1 z2 => ?_⟩, fun j v e => ?_, fun j m v w y hjm z1 z2 o1 o2 z3 z4 => ?_⟩, bb⟩
  · rw [upd_ne (ne_of_none z2 h5)]; exact h.st.nw b u z1 z2
  · by_cases qj : j = i
    · subst qj
      rw [List.getElem?_set_self hi] at e; cases e
      exact ⟨_, f1, hd bb⟩
    · rw [List.getElem?_set_ne (Ne.symm qj)] at e
      obtain ⟨y, g1, g2⟩ := h.sl j v e
      refine ⟨y, g1, ?_⟩
      have ne : ∀ q, y = .ref q → owns v = true → q ≠ p := fun q ey ov eqp => by
        subst ey; subst eqp
        exact h.dis j i v _ _ qj e e1 ov ho g1 f1
      match v, g2, ne with
      | .s d, g2, _ => exact Dp.mono bb g2
      | .l false ds, ⟨q, xs, e, k1, k2⟩, _ => exact ⟨q, xs, e, k1, DpAll.mono bb k2⟩
      | .l true ds, ⟨q, xs, e, k1, k2, k3, k4, k5⟩, ne => exact ⟨q, xs, e, k1, DpAll.mono bb k2, by rw [upd_ne (ne q e rfl)]; exact k3, k4, k5⟩
      | .k false ds, ⟨q, xs, e, k1, k2⟩, _ => exact ⟨q, xs, e, k1, KvP.mono bb k2⟩
      | .k true ds, ⟨q, xs, e, k1, k2, k3, k4, k5⟩, ne => exact ⟨q, xs, e, k1, KvP.mono bb k2, by rw [upd_ne (ne q e rfl)]; exact k3, k4, k5⟩
      | .t false ds, ⟨q, xs, e, k1, k2⟩, _ => exact ⟨q, xs, e, k1, KvP.mono bb k2⟩
      | .t true ds, ⟨q, xs, e, k1, k2, k3, k4, k5⟩, ne => exact ⟨q, xs, e, k1, KvP.mono bb k2, by rw [upd_ne (ne q e rfl)]; exact k3, k4, k5⟩
      | .g, g2, _ => exact g2
  · by_cases qj : j = i
    · subst qj
      rw [List.getElem?_set_self hi] at z1; cases z1; cases o1
    · rw [List.getElem?_set_ne (Ne.symm qj)] at z1
      by_cases qm : m = i
      · subst qm
        rw [List.getElem?_set_self hi] at z2; cases z2; cases o2
      · rw [List.getElem?_set_ne (Ne.symm qm)] at z2
        exact h.dis j m v w y hjm z1 z2 o1 o2 z3 z4
theorem Stt.freeze {i : Nat} {ds : List D} (h : Stt K G B0 H0 B H σ ρ) (e1 : ρ[i]? = some (some (.l true ds))) : ∃ B', Stt K G B0 H0 B' H σ (ρ.set i (some (.s (.list ds)))) ∧ Same B B' := by
  obtain ⟨x, f1, ⟨p, xs, rfl, h1, h2, h3, h4, h5⟩⟩ := h.sl i _ e1
  exact h.freezeG e1 rfl f1 h1 h3 h4 h5 fun bb => .lst (.inl (.inl upd_same)) (DpAll.mono bb h2)
theorem Stt.freezeK {i : Nat} {ds : List (Key × D)} (h : Stt K G B0 H0 B H σ ρ) (e1 : ρ[i]? = some (some (.k true ds))) : ∃ B', Stt K G B0 H0 B' H σ (ρ.set i (some (.s (.dict (kvD ds))))) ∧ Same B B' := by
  obtain ⟨x, f1, ⟨p, xs, rfl, h1, h2, h3, h4, h5⟩⟩ := h.sl i _ e1
  exact h.freezeG e1 rfl f1 h1 h3 h4 h5 fun bb => .dic upd_same (KvP.kv (KvP.mono bb h2))
end
end DL

set_option Elab.async false
set_option linter.all false
set_option maxRecDepth 100000
/-! The data layer: expressions. -/
namespace DL
open PySem PySem.Spec PyProof.Rows L2

/-- a weakest precondition over data: of an expression, a test, an argument list -/
abbrev EW := Rho → (R → Prop) → (Value → Prop) → Prop
abbrev TW := Rho → (Bool → Prop) → (Value → Prop) → Prop
abbrev AW := Rho → (List R → Prop) → (Value → Prop) → Prop

inductive RsAll (K : Frag) (G : Gh) (H B' H' : Hp) : List V → List R → Prop
  | nil : RsAll K G H B' H' [] []
  | cons {x : V} {r : R} {xs : List V} {rs : List R} : Rs K G H B' H' x r → RsAll K G H B' H' xs rs → RsAll K G H B' H' (x :: xs) (r :: rs)

/-- results of one's own stand apart -/
def Apart : List V → List R → Prop
  | x :: xs, r :: rs => (owns r = true → ∀ (j : Nat) (u : R), rs[j]? = some u → owns u = true → xs[j]? ≠ some x) ∧ Apart xs rs
  | _, _ => True
theorem RsAll.get {K : Frag} {G : Gh} {H B' H' : Hp} : ∀ {xs : List V} {rs : List R} {j : Nat} {u : R}, RsAll K G H B' H' xs rs → rs[j]? = some u → ∃ y, xs[j]? = some y ∧ Rs K G H B' H' y u
  | _, _, _, _, .nil, e => by simp at e
  | _, _, 0, _, .cons h _, e => by simp at e; subst e; exact ⟨_, by simp, h⟩
  | _, _, j + 1, _, .cons _ t, e => by
    obtain ⟨y, h1, h2⟩ := RsAll.get (j := j) t (by simpa using e)
    exact ⟨y, by simpa using h1, h2⟩
/-- the readings that such words make -/
def TDe (K : Frag) (W : WX) (w : EW) : TE := fun σ H Q => ∃ (G : Gh) (B0 H0 B : Hp) (ρ : Rho) (Qd : R → Prop) (Qe : Value → Prop), Stt K G B0 H0 B H σ ρ ∧ w ρ Qd Qe ∧
  (∀ r x B' H', Stt K G B0 H0 B' H' σ ρ → Stp G B H B' H' → Rs K G H B' H' x r → Qd r → Q x H') ∧ (∀ cls d B' H', Qe cls → Stt K G B0 H0 B' H' σ ρ → Stp G B H B' H' → W cls d σ H')
def TDt (K : Frag) (W : WX) (w : TW) : TT := fun σ H Q => ∃ (G : Gh) (B0 H0 B : Hp) (ρ : Rho) (Qd : Bool → Prop) (Qe : Value → Prop), Stt K G B0 H0 B H σ ρ ∧ w ρ Qd Qe ∧
  (∀ b B' H', Stt K G B0 H0 B' H' σ ρ → Stp G B H B' H' → Qd b → Q b H') ∧ (∀ cls d B' H', Qe cls → Stt K G B0 H0 B' H' σ ρ → Stp G B H B' H' → W cls d σ H')
def TDa (K : Frag) (W : WX) (w : AW) : TA := fun σ H Q => ∃ (G : Gh) (B0 H0 B : Hp) (ρ : Rho) (Qd : List R → Prop) (Qe : Value → Prop), Stt K G B0 H0 B H σ ρ ∧ w ρ Qd Qe ∧
  (∀ rs xs B' H', Stt K G B0 H0 B' H' σ ρ → Stp G B H B' H' → RsAll K G H B' H' xs rs → Apart xs rs → Qd rs → Q xs H') ∧ (∀ cls d B' H', Qe cls → Stt K G B0 H0 B' H' σ ρ → Stp G B H B' H' → W cls d σ H')
abbrev PD (X : Cx) (W : WX) (e : Expr) (w : EW) : Prop := PE X e (TDe X.K W w)
abbrev PDt (X : Cx) (W : WX) (e : Expr) (w : TW) : Prop := PT X e (TDt X.K W w)
abbrev PDa (X : Cx) (W : WX) (es : List Expr) (w : AW) : Prop := PA X es (TDa X.K W w)

theorem pe_imp {X : Cx} {e : Expr} {t t' : TE} (h : PE X e t) (i : ∀ σ H Q, t' σ H Q → t σ H Q) : PE X e t' := ⟨fun pins s σ H Q I q => h.run pins s σ H Q I (i _ _ _ q)⟩
theorem pt_imp {X : Cx} {e : Expr} {t t' : TT} (h : PT X e t) (i : ∀ σ H Q, t' σ H Q → t σ H Q) : PT X e t' := ⟨fun pins s σ H Q I q => h.run pins s σ H Q I (i _ _ _ q)⟩
theorem pa_imp {X : Cx} {es : List Expr} {t t' : TA} (h : PA X es t) (i : ∀ σ H Q, t' σ H Q → t σ H Q) : PA X es t' := ⟨fun c pins s σ H Q I q => h.run c pins s σ H Q I (i _ _ _ q)⟩

section
variable {K : Frag} {G : Gh} {H B' H' B1 H1 B : Hp} {xs : List V} {rs : List R}
theorem RsAll.step (s : Stp G B1 H1 B' H') : ∀ {xs : List V} {rs : List R}, RsAll K G H B1 H1 xs rs → RsAll K G H B' H' xs rs
  | _, _, .nil => .nil
  | _, _, .cons h t => .cons (h.step s) (RsAll.step s t)
theorem RsAll.from (s : Stp G B H B1 H1) : ∀ {xs : List V} {rs : List R}, RsAll K G H1 B' H' xs rs → RsAll K G H B' H' xs rs
  | _, _, .nil => .nil
  | _, _, .cons h t => .cons (h.from s) (RsAll.from s t)
end

def erT {K : Frag} {W : WX} {G : Gh} {B0 H0 B H B1 H1 : Hp} {σ : L2.St} {ρ : Rho} {Qe : Value → Prop} (er : ∀ cls d B' H', Qe cls → Stt K G B0 H0 B' H' σ ρ → Stp G B H B' H' → W cls d σ H') (s1 : Stp G B H B1 H1) :
    ∀ cls d B' H', Qe cls → Stt K G B0 H0 B' H' σ ρ → Stp G B1 H1 B' H' → W cls d σ H' := fun cls d B' H' q S s => er cls d B' H' q S (s1.trans s)
/-! ### what a value is taken for -/
/-- a datum that may be stored -/
def R.dat : R → Option D
  | .s d => some d
  | _ => none
/-- a datum to be looked at -/
def R.look : R → Option D
  | .s d => some d
  | .l _ xs => some (.list xs)
  | _ => none
/-- the items of a list -/
def R.lst : R → Option (List D)
  | .l _ xs => some xs
  | _ => none
/-- the items of a list or a tuple -/
def R.seq : R → Option (List D)
  | .l _ xs => some xs
  | .s (.list xs) => some xs
  | .s (.tuple xs) => some xs
  | _ => none
def dats : List R → Option (List D)
  | [] => some []
  | r :: rs => match r.dat, dats rs with
    | some d, some ds => some (d :: ds)
    | _, _ => none
section
variable {K : Frag} {G : Gh} {H B' H' : Hp} {x : V} {r : R} {d : D}
theorem Rs.dat (h : Rs K G H B' H' x r) (e : r.dat = some d) : Dp K B' x d := by
  cases r with
  | s d' => cases e; exact h
  | _ => cases e
theorem hide_le (H : Hp) : Same (hide G H) H := fun a o e => (hide_some e).2
theorem Rs.look (h : Rs K G H B' H' x r) (e : r.look = some d) (bh : Same B' (hide G H')) : Dp K H' x d := by
  cases r with
  | s d' => cases e; exact Dp.mono (bh.trans (hide_le H')) h
  | l own xs =>
    cases e
    obtain ⟨p, vs, rfl, h1, h2, _⟩ := h
    exact .lst (.inl (.inl (hide_some h1).2)) (DpAll.mono (bh.trans (hide_le H')) h2)
  | _ => cases e
theorem dats_all : ∀ {xs : List V} {rs : List R} {ds : List D}, RsAll K G H B' H' xs rs → dats rs = some ds → DpAll K B' xs ds
  | _, _, _, .nil, e => by cases e; exact .nil
  | _, _, _, .cons (r := r) (rs := rs) h t, e => by
    unfold dats at e
    cases q : r.dat with
    | none => rw [q] at e; cases e
    | some d =>
      cases z : dats rs with
      | none => rw [q, z] at e; cases e
      | some ds =>
        rw [q, z] at e
        cases e
        exact .cons (h.dat q) (dats_all t z)
/-- the items of a list or tuple: where they stand, stable -/
theorem Rs.seq {ds : List D} (h : Rs K G H B' H' x r) (e : r.seq = some ds) (bh : Same B' (hide G H')) : ∃ p xs, x = .ref p ∧ DpAll K B' xs ds ∧ (SqL K H' p xs ∨ SqT K H' p xs) := by
  have up := bh.trans (hide_le H')
  cases r with
  | s d' =>
    cases d' with
    | list es =>
      cases e
      cases h with
      | lst h1 h2 => exact ⟨_, _, rfl, h2, .inl (Same.sqL up h1)⟩
    | tuple es =>
      cases e
      cases h with
      | tup h1 h2 => exact ⟨_, _, rfl, h2, .inr (Same.sqT up h1.t)⟩
    | _ => cases e
  | l own xs =>
    cases e
    obtain ⟨p, vs, rfl, h1, h2, _⟩ := h
    exact ⟨p, vs, rfl, h2, .inl (.inl (.inl (hide_some h1).2))⟩
  | _ => cases e
end

/-! ### dicts with int and text keys -/
def ofK : D → Option Key
  | .int i => some (.inl i)
  | .str x => some (.inr x)
  | _ => none
theorem ofK_kD : ∀ k : Key, ofK (kD k) = some k
  | .inl _ => rfl
  | .inr _ => rfl
theorem ofK_eq : ∀ {d : D} {k : Key}, ofK d = some k → d = kD k
  | .int _, _, e => by cases e; rfl
  | .str _, _, e => by cases e; rfl
  | .none, _, e => by cases e
  | .bool _, _, e => by cases e
  | .list _, _, e => by cases e
  | .tuple _, _, e => by cases e
  | .dict _, _, e => by cases e
def unK : List (D × D) → Option (List (Key × D))
  | [] => some []
  | (a, d) :: r => match ofK a, unK r with
    | some k, some s => some ((k, d) :: s)
    | _, _ => none
theorem unK_kvD : ∀ kvs : List (Key × D), unK (kvD kvs) = some kvs
  | [] => rfl
  | (k, d) :: r => by
    show (match ofK (kD k), unK (kvD r) with | some k, some s => some ((k, d) :: s) | _, _ => none) = _
    rw [ofK_kD, unK_kvD r]
theorem unK_eq : ∀ {l : List (D × D)} {kvs : List (Key × D)}, unK l = some kvs → l = kvD kvs
  | [], _, e => by cases e; rfl
  | (a, d) :: r, kvs, e => by
    unfold unK at e
    cases h1 : ofK a with
    | none => rw [h1] at e; cases e
    | some k =>
      cases h2 : unK r with
      | none => rw [h1, h2] at e; cases e
      | some s =>
        rw [h1, h2] at e
        cases e
        rw [unK_eq h2, ofK_eq h1]
        rfl
def kGet (kvs : List (Key × D)) (k : Key) : Option D := (kvs.find? fun p => decide (p.1 = k)).map (·.2)
def kPut (kvs : List (Key × D)) (k : Key) (d : D) : List (Key × D) := if (kvs.any fun p => decide (p.1 = k)) = true then kvs.map (fun p => if p.1 = k then (p.1, d) else p) else kvs ++ [(k, d)]
def kDrop (kvs : List (Key × D)) (k : Key) : List (Key × D) := kvs.filter fun p => decide (p.1 ≠ k)
def kMerge (kvs more : List (Key × D)) : List (Key × D) := more.foldl (fun acc p => kPut acc p.1 p.2) kvs
section
variable {K : Frag} {H : Hp}
theorem KvP.length : ∀ {xs : List (Key × V)} {ds : List (Key × D)}, KvP K H xs ds → xs.length = ds.length
  | _, _, .nil => rfl
  | _, _, .cons _ t => congrArg (· + 1) (KvP.length t)
theorem KvP.append : ∀ {xs ys : List (Key × V)} {ds es : List (Key × D)}, KvP K H xs ds → KvP K H ys es → KvP K H (xs ++ ys) (ds ++ es)
  | _, _, _, _, .nil, h => h
  | _, _, _, _, .cons h t, h' => .cons h (KvP.append t h')
theorem KvP.find (k : Key) : ∀ {xs : List (Key × V)} {ds : List (Key × D)}, KvP K H xs ds → (valV xs k = none ∧ kGet ds k = none) ∨ ∃ v d, valV xs k = some v ∧ kGet ds k = some d ∧ Dp K H v d
  | _, _, .nil => .inl ⟨rfl, rfl⟩
  | _, _, .cons (k := k') (x := x) (d := d) (xs := xs) (ds := ds) h t => by
    by_cases e : k' = k
    · refine .inr ⟨x, d, valV_pos (p := (k', x)) e, ?_, h⟩
      simp [kGet, e]
    · rw [valV_neg (p := (k', x)) e]
      have z : kGet ((k', d) :: ds) k = kGet ds k := by simp [kGet, List.find?_cons, e]
      rw [z]
      exact KvP.find k t
theorem KvP.any (k : Key) : ∀ {xs : List (Key × V)} {ds : List (Key × D)}, KvP K H xs ds → (xs.any fun p => decide (p.1 = k)) = ds.any fun p => decide (p.1 = k)
  | _, _, .nil => rfl
  | _, _, .cons h t => by rw [List.any_cons, List.any_cons, KvP.any k t]
theorem KvP.subst {v : V} {d : D} (k : Key) (hv : Dp K H v d) : ∀ {xs : List (Key × V)} {ds : List (Key × D)}, KvP K H xs ds → KvP K H (xs.map fun p => if p.1 = k then (p.1, v) else p) (ds.map fun p => if p.1 = k then (p.1, d) else p)
  | _, _, .nil => .nil
  | _, _, .cons (k := k') (x := x) (d := d') h t => by
    rw [List.map_cons, List.map_cons]
    by_cases e : k' = k
    · simp only [e, if_true]; exact .cons hv (KvP.subst k hv t)
    · simp only [e, if_false]; exact .cons h (KvP.subst k hv t)
theorem KvP.put {v : V} {d : D} {xs : List (Key × V)} {ds : List (Key × D)} (h : KvP K H xs ds) (k : Key) (hv : Dp K H v d) : KvP K H (putK xs k v) (kPut ds k d) := by
  unfold putK kPut
  rw [h.any k]
  by_cases e : (ds.any fun p => decide (p.1 = k)) = true
  · rw [if_pos e, if_pos e]; exact h.subst k hv
  · rw [if_neg e, if_neg e]; exact h.append (.cons hv .nil)
theorem KvP.drop (k : Key) : ∀ {xs : List (Key × V)} {ds : List (Key × D)}, KvP K H xs ds → KvP K H (dropK xs k) (kDrop ds k)
  | _, _, .nil => .nil
  | _, _, .cons (k := k') (x := x) (d := d') (xs := xs) (ds := ds) h t => by
    by_cases e : k' = k
    · have z1 : dropK ((k', x) :: xs) k = dropK xs k := by simp [dropK, e]
      have z2 : kDrop ((k', d') :: ds) k = kDrop ds k := by simp [kDrop, e]
      rw [z1, z2]; exact KvP.drop k t
    · have z1 : dropK ((k', x) :: xs) k = (k', x) :: dropK xs k := by simp [dropK, e]
      have z2 : kDrop ((k', d') :: ds) k = (k', d') :: kDrop ds k := by simp [kDrop, e]
      rw [z1, z2]; exact .cons h (KvP.drop k t)
theorem KvP.merge : ∀ {more : List (Key × V)} {md : List (Key × D)} {xs : List (Key × V)} {ds : List (Key × D)}, KvP K H more md → KvP K H xs ds → KvP K H (mergeK xs more) (kMerge ds md)
  | _, _, _, _, .nil, h => h
  | _, _, xs, ds, .cons (k := k) (x := x) (d := d) (xs := ms) (ds := md) hd t, h => have z : KvP K H (mergeK (putK xs k x) ms) (kMerge (kPut ds k d) md) := KvP.merge t (h.put k hd); z
end
/-- what is known of a dict -/
def R.kv : R → Option (List (Key × D))
  | .k _ kvs => some kvs
  | .s (.dict es) => unK es
  | _ => none
theorem Rs.kv {K : Frag} {G : Gh} {H B' H' : Hp} {x : V} {r : R} {kvs : List (Key × D)} (h : Rs K G H B' H' x r) (e : r.kv = some kvs) (bh : Same B' (hide G H')) : ∃ p xs, x = .ref p ∧ H' p = some (.dK xs) ∧ KvP K B' xs kvs := by
  cases r with
  | s d =>
    cases d with
    | dict l =>
      cases h with
      | dic h1 h2 =>
        have e2 := unK_eq (show unK l = some kvs from e)
        subst e2
        exact ⟨_, _, rfl, (hide_some (bh _ _ h1)).2, h2.pk⟩
    | _ => cases e
  | k own l =>
    cases e
    obtain ⟨p, xs, rfl, h1, h2, _⟩ := h
    exact ⟨p, xs, rfl, (hide_some h1).2, h2⟩
  | _ => cases e

/-! ### names, constants -/
def wVar (i : Nat) : EW := fun ρ Q _ => ∃ r, ρ[i]? = some (some r) ∧ Q (peek r)
def wC (r : R) : EW := fun _ Q _ => Q r
section
variable {X : Cx} {W : WX} {e a b c : Expr} {es : List Expr} {wa wb wc w : EW} {ws : AW} {wt wt' : TW} {pos : Pos}
theorem pd_var {i : Nat} (h : PE X e (tVar i)) : PD X W e (wVar i) := pe_imp h fun σ H Q ⟨G, B0, H0, B, ρ, Qd, Qe, S, ⟨r, e1, q⟩, ok, _⟩ => by
  obtain ⟨x, e2, hr⟩ := S.sl i r e1
  exact ⟨x, e2, ok _ _ _ _ S (Stp.refl ..) (hr.rs S.st) q⟩
theorem pd_const {v : V} {d : D} (h : PE X e (tC v)) (hd : ∀ B, Dp X.K B v d) : PD X W e (wC (.s d)) := pe_imp h fun σ H Q ⟨G, B0, H0, B, ρ, Qd, Qe, S, q, ok, _⟩ =>
  ok (.s d) _ _ _ S (Stp.refl ..) (hd B) q
theorem pd_int {i : Int} {j pos} : PD X W (.Constant (.int i) j pos) (wC (.s (.int i))) := pd_const pe_int fun _ => .int i
theorem pd_bl {b : Bool} {j pos} : PD X W (.Constant (.bool b) j pos) (wC (.s (.bool b))) := pd_const pe_bl fun _ => .bl b
theorem pd_non {j pos} : PD X W (.Constant .none j pos) (wC (.s .none)) := pd_const pe_non fun _ => .non
theorem pd_str {z : Str} {j pos} : PD X W (.Constant (.str z) j pos) (wC (.s (.str z))) := pd_const pe_str fun _ => .str z
/-- an exception class of the module, or a type, is no datum: they stand only where they are named -/
theorem pd_weak {w w' : EW} (h : PD X W e w) (i : ∀ ρ Q E, w' ρ Q E → w ρ Q E) : PD X W e w' := pe_imp h fun σ H Q ⟨G, B0, H0, B, ρ, Qd, Qe, S, q, r⟩ => ⟨G, B0, H0, B, ρ, Qd, Qe, S, i _ _ _ q, r⟩

/-! ### arguments, displays -/
def wNil : AW := fun _ Q _ => Q []
def wCons (w : EW) (ws : AW) : AW := fun ρ Q E => w ρ (fun r => ws ρ (fun rs => Q (r :: rs)) E) E
theorem pda_nil : PDa X W [] wNil := pa_imp pa_nil fun σ H Q ⟨G, B0, H0, B, ρ, Qd, Qe, S, q, ok, _⟩ => ok _ _ _ _ S (Stp.refl ..) .nil trivial q
theorem pda_cons (ha : PD X W e w) (hr : PDa X W es ws) (hs : starEach (e :: es) X.env = (false, eval e X.env) :: starEach es X.env := by rfl) : PDa X W (e :: es) (wCons w ws) :=
  pa_imp (pa_cons ha hr hs) fun σ H Q ⟨G, B0, H0, B, ρ, Qd, Qe, S, q, ok, er⟩ => by
    refine ⟨G, B0, H0, B, ρ, _, Qe, S, q, fun r x B1 H1 S1 s1 r1 q1 => ?_, er⟩
    refine ⟨G, B0, H0, B1, ρ, _, Qe, S1, q1, fun rs xs B2 H2 S2 s2 r2 a2 q2 => ok _ _ _ _ S2 (s1.trans s2) (.cons (r1.step s2) (r2.from s1)) ⟨fun o1 j u e1 o2 e2 => ?_, a2⟩ q2, erT er s1⟩
    obtain ⟨y, f1, f2⟩ := r2.get e1
    rw [e2] at f1; cases f1
    obtain ⟨p, ep, hp⟩ := f2.own_new o2
    obtain ⟨q', v, eq, hq⟩ := r1.own_at o1
    rw [ep] at eq; cases eq
    rw [hp] at hq; cases hq
/-- a fresh list that is stored: from now on a datum -/
def frz : R → R
  | .l true xs => .s (.list xs)
  | .k true kvs => .s (.dict (kvD kvs))
  | r => r
def wFrz (w : EW) : EW := fun ρ Q E => w ρ (fun r => Q (frz r)) E
theorem pd_frz (h : PD X W e w) : PD X W e (wFrz w) := pe_imp h fun σ H Q ⟨G, B0, H0, B, ρ, Qd, Qe, S, q, ok, er⟩ => by
  refine ⟨G, B0, H0, B, ρ, _, Qe, S, q, fun r x B1 H1 S1 s1 r1 q1 => ?_, er⟩
  cases r with
  | l own ds =>
    cases own with
    | false => exact ok _ _ _ _ S1 s1 r1 q1
    | true =>
      obtain ⟨p, xs, rfl, h1, h2, h3⟩ := r1
      obtain ⟨hb, hn⟩ := h3 rfl
      have bb : Same B1 (upd B1 p (.lst xs)) := fun b o e => by rw [upd_ne (ne_of_none e hb)]; exact e
      have bh : Same (upd B1 p (.lst xs)) (hide G H1) := fun b o e => by
        by_cases z : b = p
        · subst z; rw [upd_same] at e; cases e; exact h1
        · rw [upd_ne z] at e; exact S1.bh _ _ e
      have s2 : Stp G B H (upd B1 p (.lst xs)) H1 := ⟨s1.bb.trans bb, s1.hh, fun b o e1 e2 => by
        rw [upd_ne (ne_of_none e2 hn)]; exact s1.nw b o e1 e2⟩
      exact ok (.s (.list ds)) _ _ _ (S.step s2 bh S1.gok) s2 (.lst (.inl (.inl upd_same)) (DpAll.mono bb h2)) q1
  | k own ds =>
    cases own with
    | false => exact ok _ _ _ _ S1 s1 r1 q1
    | true =>
      obtain ⟨p, xs, rfl, h1, h2, h3⟩ := r1
      obtain ⟨hb, hn⟩ := h3 rfl
      have bb : Same B1 (upd B1 p (.dK xs)) := fun b o e => by rw [upd_ne (ne_of_none e hb)]; exact e
      have bh : Same (upd B1 p (.dK xs)) (hide G H1) := fun b o e => by
        by_cases z : b = p
        · subst z; rw [upd_same] at e; cases e; exact h1
        · rw [upd_ne z] at e; exact S1.bh _ _ e
      have s2 : Stp G B H (upd B1 p (.dK xs)) H1 := ⟨s1.bb.trans bb, s1.hh, fun b o e1 e2 => by
        rw [upd_ne (ne_of_none e2 hn)]; exact s1.nw b o e1 e2⟩
      exact ok (.s (.dict (kvD ds))) _ _ _ (S.step s2 bh S1.gok) s2 (.dic upd_same (KvP.kv (KvP.mono bb h2))) q1
  | _ => exact ok _ _ _ _ S1 s1 r1 q1
def wTup (ws : AW) : EW := fun ρ Q E => ws ρ (fun rs => ∃ ds, dats rs = some ds ∧ ds.length ≤ 16777216 ∧ Q (.s (.tuple ds))) E
def wLst (ws : AW) : EW := fun ρ Q E => ws ρ (fun rs => ∃ ds, dats rs = some ds ∧ ds.length ≤ 16777216 ∧ Q (.l true ds)) E
theorem line_eq : sizeLine = 16777216 := sizeLine_eq
/-- a new object that nobody else has: the state behind it, stable or not -/
theorem Stt.new {K : Frag} {G : Gh} {B0 H0 B H : Hp} {σ : L2.St} {ρ : Rho} {p : Addr} {o : HO} (S : Stt K G B0 H0 B H σ ρ) (h : H p = none) : Stt K G B0 H0 B (upd H p o) σ ρ := have hg := S.notG h
  S.step (Stp.new h) (fun b u e => by rw [hide_upd hg, upd_ne (ne_of_none e (S.freeB h))]; exact S.bh _ _ e) (ghost_upd hg S.gok)
theorem Stt.newS {K : Frag} {G : Gh} {B0 H0 B H : Hp} {σ : L2.St} {ρ : Rho} {p : Addr} {o : HO} (S : Stt K G B0 H0 B H σ ρ) (h : H p = none) : Stt K G B0 H0 (upd B p o) (upd H p o) σ ρ := have hg := S.notG h
  S.step (Stp.newS h (S.freeB h)) (fun b u e => by
    rw [hide_upd hg]
    by_cases z : b = p
    · subst z; rw [upd_same] at e ⊢; exact e
    · rw [upd_ne z] at e ⊢; exact S.bh _ _ e) (ghost_upd hg S.gok)
end
end DL

set_option Elab.async false
set_option linter.all false
set_option maxRecDepth 100000
/-! The data layer: operators, comparisons, subscripts, built-ins. -/
namespace DL
open PySem PySem.Spec PyProof.Rows L2

abbrev F1 := R → (R → Prop) → Prop
abbrev F2 := R → R → (R → Prop) → Prop
abbrev FL := List R → (R → Prop) → Prop
/-- what an operation finds, and what it hands on -/
structure Ctx (K : Frag) (G : Gh) (B H : Hp) : Prop where
  bh : Same B (hide G H)
  ok : G.ok H
def Cont (K : Frag) (G : Gh) (B H : Hp) (Qd : R → Prop) (Q : VK) : Prop := ∀ r z B' H', Stp G B H B' H' → Same B' (hide G H') → G.ok H' → Rs K G H B' H' z r → Qd r → Q z H'
def lift1 (K : Frag) (f : F1) : V → Hp → VK → Prop := fun x H Q => ∃ G Hs B a Qd, Ctx K G B H ∧ Rs K G Hs B H x a ∧ f a Qd ∧ Cont K G B H Qd Q
def lift2 (K : Frag) (f : F2) : R2 := fun x y H Q => ∃ G Hs B a b Qd, Ctx K G B H ∧ Rs K G Hs B H x a ∧ Rs K G Hs B H y b ∧ f a b Qd ∧ Cont K G B H Qd Q
def liftL (K : Frag) (f : FL) : List V → Hp → VK → Prop := fun xs H Q => ∃ G Hs B rs Qd, Ctx K G B H ∧ RsAll K G Hs B H xs rs ∧ f rs Qd ∧ Cont K G B H Qd Q
section
variable {K : Frag} {G : Gh} {B H : Hp} {Qd : R → Prop} {Q : VK}
theorem Cont.here (c : Ctx K G B H) (k : Cont K G B H Qd Q) {z : V} {r : R} (h : Rs K G H B H z r) (q : Qd r) : Q z H := k r z B H (Stp.refl ..) c.bh c.ok h q
theorem Cont.dat (c : Ctx K G B H) (k : Cont K G B H Qd Q) {z : V} {d : D} (h : Dp K B z d) (q : Qd (.s d)) : Q z H := k (.s d) z B H (Stp.refl ..) c.bh c.ok h q
theorem Ctx.notG (c : Ctx K G B H) {p : Addr} (e : H p = none) : p ∉ G.at_ := fun z => G.here _ c.ok _ z e
theorem Ctx.free (c : Ctx K G B H) {p : Addr} (e : H p = none) : B p = none := c.bh.free (hide_free e)
/-- a new tuple -/
theorem Cont.tup (c : Ctx K G B H) (k : Cont K G B H Qd Q) {xs : List V} {ds : List D} (h : DpAll K B xs ds) (q : Qd (.s (.tuple ds))) : NewT xs H Q := fun p o hp hn => by
  have s : Stp G B H (upd B p (.frz o (.tup xs))) (upd H p (.frz o (.tup xs))) := Stp.newS hp (c.free hp)
  refine k (.s (.tuple ds)) _ _ _ s (fun b u e => ?_) (ghost_upd (c.notG hp) c.ok) (.tup (.inl ⟨o, upd_same, hn⟩) (DpAll.mono s.bb h)) q
  rw [hide_upd (c.notG hp)]
  by_cases z : b = p
  · subst z; rw [upd_same] at e ⊢; exact e
  · rw [upd_ne z] at e ⊢; exact c.bh _ _ e
/-- a new list -/
theorem Cont.lst (c : Ctx K G B H) (k : Cont K G B H Qd Q) {p : Addr} (hp : H p = none) {xs : List V} {ds : List D} (h : DpAll K B xs ds) (q : Qd (.l true ds)) : Q (.ref p) (upd H p (.lst xs)) := by
  have g := c.notG hp
  refine k (.l true ds) _ B _ (Stp.new hp) (fun b u e => ?_) (ghost_upd g c.ok) ⟨p, xs, rfl, by rw [hide_out g, upd_same], h, fun _ => ⟨c.free hp, hide_free hp⟩⟩ q
  rw [hide_upd g, upd_ne (ne_of_none e (c.free hp))]; exact c.bh _ _ e
/-- a new dict -/
theorem Cont.dk (c : Ctx K G B H) (k : Cont K G B H Qd Q) {p : Addr} (hp : H p = none) {xs : List (Key × V)} {ds : List (Key × D)} (h : KvP K B xs ds) (q : Qd (.k true ds)) : Q (.ref p) (upd H p (.dK xs)) := by
  have g := c.notG hp
  refine k (.k true ds) _ B _ (Stp.new hp) (fun b u e => ?_) (ghost_upd g c.ok) ⟨p, xs, rfl, by rw [hide_out g, upd_same], h, fun _ => ⟨c.free hp, hide_free hp⟩⟩ q
  rw [hide_upd g, upd_ne (ne_of_none e (c.free hp))]; exact c.bh _ _ e
theorem Ctx.le (c : Ctx K G B H) : Same B H := c.bh.trans (hide_le H)
end

def wOp (f : F2) (wa wb : EW) : EW := fun ρ Q E => wa ρ (fun x => wb ρ (fun y => f x y Q) E) E
def wUn (f : F1) (wa : EW) : EW := fun ρ Q E => wa ρ (fun x => f x Q) E
def wCall1 (f : FL) (ws : AW) : EW := fun ρ Q E => ws ρ (fun rs => f rs Q) E
def wMeth (f : R → FL) (w : EW) (ws : AW) : EW := fun ρ Q E => w ρ (fun r => ws ρ (fun rs => f r rs Q) E) E

section
variable {X : Cx} {W : WX} {e a b c : Expr} {es : List Expr} {wa wb wc w : EW} {ws : AW} {wt wt' : TW} {pos : Pos}
/-- the end of two parts -/
theorem op_core {f : F2} {t : TE} (h : PE X e (tOp (lift2 X.K f) (TDe X.K W wa) (TDe X.K W wb))) : PD X W e (wOp f wa wb) :=
  pe_imp h fun σ H Q ⟨G, B0, H0, B, ρ, Qd, Qe, S, q, ok, er⟩ => by
    refine ⟨G, B0, H0, B, ρ, _, Qe, S, q, fun r x B1 H1 S1 s1 r1 q1 => ?_, er⟩
    refine ⟨G, B0, H0, B1, ρ, _, Qe, S1, q1, fun r' y B2 H2 S2 s2 r2 q2 => ?_, erT er s1⟩
    exact ⟨G, H, B2, r, r', _, ⟨S2.bh, S2.gok⟩, r1.step s2, r2.from s1, q2, fun r3 z B3 H3 s3 bh gk rz qz => ok _ _ _ _ (S2.step s3 bh gk) ((s1.trans s2).trans s3) (rz.from (s1.trans s2)) qz⟩
theorem pd_op {op : Operator} {f : F2} (ho : OpR X (binaryOp op) (lift2 X.K f)) (ha : PD X W a wa) (hb : PD X W b wb) : PD X W (.BinOp a op b pos) (wOp f wa wb) := op_core (t := fun _ _ _ => True) (pe_op ho ha hb)
theorem pd_cmp {op : CmpOp} {f : F2} (ho : OpR X (compareOp op) (lift2 X.K f)) (ha : PD X W a wa) (hb : PD X W b wb) (hm : behindInMarks op b = false) : PD X W (.Compare a [op] [b] pos) (wOp f wa wb) :=
  op_core (t := fun _ _ _ => True) (pe_cmpR ho ha hb hm)
theorem pd_ix {f : F2} (hr : IxR X (lift2 X.K f)) (ha : PD X W a wa) (hb : PD X W b wb) (hs : PlainIx b) : PD X W (.Subscript a b pos) (wOp f wa wb) := op_core (t := fun _ _ _ => True) (pe_ix hr ha hb hs)
theorem pd_un {op : UnaryOp} {f : F1} (ho : UnR X (unaryOp op) (lift1 X.K f)) (ha : PD X W a wa) : PD X W (.UnaryOp op a pos) (wUn f wa) :=
  pe_imp (pe_un ho ha) fun σ H Q ⟨G, B0, H0, B, ρ, Qd, Qe, S, q, ok, er⟩ => by
    refine ⟨G, B0, H0, B, ρ, _, Qe, S, q, fun r x B1 H1 S1 s1 r1 q1 => ?_, er⟩
    exact ⟨G, H, B1, r, _, ⟨S1.bh, S1.gok⟩, r1, q1, fun r3 z B3 H3 s3 bh gk rz qz => ok _ _ _ _ (S1.step s3 bh gk) (s1.trans s3) (rz.from s1) qz⟩
/-- a built-in called by its name -/
theorem call_core {f : FL} {t : TA} (h : PE X e (tCB (liftL X.K f) (TDa X.K W ws))) : PD X W e (wCall1 f ws) :=
  pe_imp h fun σ H Q ⟨G, B0, H0, B, ρ, Qd, Qe, S, q, ok, er⟩ => by
    refine ⟨G, B0, H0, B, ρ, _, Qe, S, q, fun rs xs B1 H1 S1 s1 r1 _ q1 => ?_, er⟩
    exact ⟨G, H, B1, rs, _, ⟨S1.bh, S1.gok⟩, r1, q1, fun r3 z B3 H3 s3 bh gk rz qz => ok _ _ _ _ (S1.step s3 bh gk) (s1.trans s3) (rz.from s1) qz⟩

/-! ### a test -/
def wTst (w : EW) : TW := fun ρ Q E => w ρ (fun r => ∃ b, r = .s (.bool b) ∧ Q b) E
theorem pdt_val (h : PD X W e w) (he : ∀ whole, isTrue e X.env whole = (do let v ← whole; standAt e.pos; holding [v] (truthy v)) := by intro _; rfl) : PDt X W e (wTst w) :=
  pt_imp (pt_val h he) fun σ H Q ⟨G, B0, H0, B, ρ, Qd, Qe, S, q, ok, er⟩ => by
    refine ⟨G, B0, H0, B, ρ, _, Qe, S, q, fun r x B1 H1 S1 s1 r1 q1 => ?_, er⟩
    obtain ⟨b, rfl, q1⟩ := q1
    cases (show Dp X.K B1 x (.bool b) from r1)
    exact ⟨b, rfl, ok _ _ _ S1 s1 q1⟩
theorem pdt_cmp {op : CmpOp} {f : F2} (ho : OpR X (compareOp op) (lift2 X.K f)) (ha : PD X W a wa) (hb : PD X W b wb) (hm : behindInMarks op b = false) : PDt X W (.Compare a [op] [b] pos) (wTst (wOp f wa wb)) :=
  pt_imp (pt_cmpR ho ha hb hm) fun σ H Q ⟨G, B0, H0, B, ρ, Qd, Qe, S, q, ok, er⟩ => by
    refine ⟨G, B0, H0, B, ρ, _, Qe, S, q, fun r x B1 H1 S1 s1 r1 q1 => ?_, er⟩
    refine ⟨G, B0, H0, B1, ρ, _, Qe, S1, q1, fun r' y B2 H2 S2 s2 r2 q2 => ?_, erT er s1⟩
    refine ⟨G, H, B2, r, r', _, ⟨S2.bh, S2.gok⟩, r1.step s2, r2.from s1, q2, fun r3 z B3 H3 s3 bh gk rz qz => ?_⟩
    obtain ⟨k, rfl, qz⟩ := qz
    cases (show Dp X.K B3 z (.bool k) from rz)
    exact ⟨k, rfl, ok _ _ _ (S2.step s3 bh gk) ((s1.trans s2).trans s3) qz⟩
def wAndT (t u : TW) : TW := fun ρ Q E => t ρ (fun b => if b = true then u ρ Q E else Q false) E
def wOrT (t u : TW) : TW := fun ρ Q E => t ρ (fun b => if b = true then Q true else u ρ Q E) E
def wNotT (t : TW) : TW := fun ρ Q E => t ρ (fun b => Q (!b)) E
/-- a chain of and, or: whatever its 'whole' is -/
abbrev PDw (X : Cx) (W : WX) (e : Expr) (w : TW) : Prop := PW X e (TDt X.K W w)
theorem pw_imp {X : Cx} {e : Expr} {t t' : TT} (h : PW X e t) (i : ∀ σ H Q, t' σ H Q → t σ H Q) : PW X e t' := ⟨fun c pins s σ H Q I q => h.run c pins s σ H Q I (i _ _ _ q)⟩
theorem pdw_and {rest : List Expr} (ha : PDt X W a wt) (hb : PDw X W (.BoolOp .And (b :: rest) pos) wt') : PDw X W (.BoolOp .And (a :: b :: rest) pos) (wAndT wt wt') :=
  pw_imp (pw_and ha hb) fun σ H Q ⟨G, B0, H0, B, ρ, Qd, Qe, S, q, ok, er⟩ => by
    refine ⟨G, B0, H0, B, ρ, _, Qe, S, q, fun k B1 H1 S1 s1 q1 => ?_, er⟩
    cases k with
    | true => exact iteT ⟨G, B0, H0, B1, ρ, _, Qe, S1, (if_pos rfl).mp q1, fun k B2 H2 S2 s2 q2 => ok _ _ _ S2 (s1.trans s2) q2, erT er s1⟩
    | false => exact iteF (ok _ _ _ S1 s1 ((if_neg Bool.false_ne_true).mp q1))
theorem pdw_or {rest : List Expr} (ha : PDt X W a wt) (hb : PDw X W (.BoolOp .Or (b :: rest) pos) wt') : PDw X W (.BoolOp .Or (a :: b :: rest) pos) (wOrT wt wt') :=
  pw_imp (pw_or ha hb) fun σ H Q ⟨G, B0, H0, B, ρ, Qd, Qe, S, q, ok, er⟩ => by
    refine ⟨G, B0, H0, B, ρ, _, Qe, S, q, fun k B1 H1 S1 s1 q1 => ?_, er⟩
    cases k with
    | true => exact iteT (ok _ _ _ S1 s1 ((if_pos rfl).mp q1))
    | false => exact iteF ⟨G, B0, H0, B1, ρ, _, Qe, S1, (if_neg Bool.false_ne_true).mp q1, fun k B2 H2 S2 s2 q2 => ok _ _ _ S2 (s1.trans s2) q2, erT er s1⟩
theorem pdw_and1 (ha : PDt X W a wt) : PDw X W (.BoolOp .And [a] pos) wt := pw_and1 ha
theorem pdw_or1 (ha : PDt X W a wt) : PDw X W (.BoolOp .Or [a] pos) wt := pw_or1 ha
theorem pdt_w (h : PDw X W e wt) : PDt X W e wt := h.pt
theorem pdt_not (ha : PDt X W a wt) : PDt X W (.UnaryOp .Not a pos) (wNotT wt) :=
  pt_imp (pt_not ha) fun σ H Q ⟨G, B0, H0, B, ρ, Qd, Qe, S, q, ok, er⟩ => ⟨G, B0, H0, B, ρ, _, Qe, S, q, fun k B1 H1 S1 s1 q1 => ok _ _ _ S1 s1 q1, er⟩

/-! ### and, or, not, if as values -/
def wAndV (wa wb : EW) : EW := fun ρ Q E => wa ρ (fun r => ∃ b, r = .s (.bool b) ∧ if b = true then wb ρ Q E else Q (.s (.bool false))) E
def wOrV (wa wb : EW) : EW := fun ρ Q E => wa ρ (fun r => ∃ b, r = .s (.bool b) ∧ if b = true then Q (.s (.bool true)) else wb ρ Q E) E
def wNotV (wa : EW) : EW := fun ρ Q E => wa ρ (fun r => ∃ b, r = .s (.bool b) ∧ Q (.s (.bool (!b)))) E
def wIf (t : TW) (wa wb : EW) : EW := fun ρ Q E => t ρ (fun b => if b = true then wa ρ Q E else wb ρ Q E) E
theorem pd_one {op} (h : PD X W a w) : PD X W (.BoolOp op [a] pos) w := pe_one h
theorem pd_and {rest : List Expr} (ha : PD X W a wa) (hb : PD X W (.BoolOp .And (b :: rest) pos) wb) : PD X W (.BoolOp .And (a :: b :: rest) pos) (wAndV wa wb) :=
  pe_imp (pe_and ha hb) fun σ H Q ⟨G, B0, H0, B, ρ, Qd, Qe, S, q, ok, er⟩ => by
    refine ⟨G, B0, H0, B, ρ, _, Qe, S, q, fun r x B1 H1 S1 s1 r1 q1 => ?_, er⟩
    obtain ⟨k, rfl, q1⟩ := q1
    cases (show Dp X.K B1 x (.bool k) from r1)
    refine ⟨k, rfl, ?_⟩
    cases k with
    | true => exact iteT ⟨G, B0, H0, B1, ρ, _, Qe, S1, (if_pos rfl).mp q1, fun r y B2 H2 S2 s2 r2 q2 => ok _ _ _ _ S2 (s1.trans s2) (r2.from s1) q2, erT er s1⟩
    | false => exact iteF (ok (.s (.bool false)) _ _ _ S1 s1 (.bl false) ((if_neg Bool.false_ne_true).mp q1))
theorem pd_or {rest : List Expr} (ha : PD X W a wa) (hb : PD X W (.BoolOp .Or (b :: rest) pos) wb) : PD X W (.BoolOp .Or (a :: b :: rest) pos) (wOrV wa wb) :=
  pe_imp (pe_or ha hb) fun σ H Q ⟨G, B0, H0, B, ρ, Qd, Qe, S, q, ok, er⟩ => by
    refine ⟨G, B0, H0, B, ρ, _, Qe, S, q, fun r x B1 H1 S1 s1 r1 q1 => ?_, er⟩
    obtain ⟨k, rfl, q1⟩ := q1
    cases (show Dp X.K B1 x (.bool k) from r1)
    refine ⟨k, rfl, ?_⟩
    cases k with
    | true => exact iteT (ok (.s (.bool true)) _ _ _ S1 s1 (.bl true) ((if_pos rfl).mp q1))
    | false => exact iteF ⟨G, B0, H0, B1, ρ, _, Qe, S1, (if_neg Bool.false_ne_true).mp q1, fun r y B2 H2 S2 s2 r2 q2 => ok _ _ _ _ S2 (s1.trans s2) (r2.from s1) q2, erT er s1⟩
theorem pd_not (ha : PD X W a wa) : PD X W (.UnaryOp .Not a pos) (wNotV wa) :=
  pe_imp (pe_not ha) fun σ H Q ⟨G, B0, H0, B, ρ, Qd, Qe, S, q, ok, er⟩ => by
    refine ⟨G, B0, H0, B, ρ, _, Qe, S, q, fun r x B1 H1 S1 s1 r1 q1 => ?_, er⟩
    obtain ⟨k, rfl, q1⟩ := q1
    cases (show Dp X.K B1 x (.bool k) from r1)
    exact ⟨k, rfl, ok (.s (.bool (!k))) _ _ _ S1 s1 (.bl _) q1⟩
theorem pd_if {t : Expr} (hc : PDt X W t wt) (ha : PD X W a wa) (hb : PD X W b wb) : PD X W (.IfExp t a b pos) (wIf wt wa wb) :=
  pe_imp (pe_ifExp hc ha hb) fun σ H Q ⟨G, B0, H0, B, ρ, Qd, Qe, S, q, ok, er⟩ => by
    refine ⟨G, B0, H0, B, ρ, _, Qe, S, q, fun k B1 H1 S1 s1 q1 => ?_, er⟩
    cases k with
    | true => exact iteT ⟨G, B0, H0, B1, ρ, _, Qe, S1, (if_pos rfl).mp q1, fun r y B2 H2 S2 s2 r2 q2 => ok _ _ _ _ S2 (s1.trans s2) (r2.from s1) q2, erT er s1⟩
    | false => exact iteF ⟨G, B0, H0, B1, ρ, _, Qe, S1, (if_neg Bool.false_ne_true).mp q1, fun r y B2 H2 S2 s2 r2 q2 => ok _ _ _ _ S2 (s1.trans s2) (r2.from s1) q2, erT er s1⟩
/-- a chain of two comparisons -/
def wChain (f f' : F2) (wa wb wc : EW) : EW := fun ρ Q E => wa ρ (fun x => wb ρ (fun y => f x y fun r => ∃ k, r = .s (.bool k) ∧ if k = true then wc ρ (fun z => f' y z Q) E else Q (.s (.bool false))) E) E
theorem pd_chain {f f' : F2} (h : PE X e (tChain (lift2 X.K f) (lift2 X.K f') (TDe X.K W wa) (TDe X.K W wb) (TDe X.K W wc))) : PD X W e (wChain f f' wa wb wc) :=
  pe_imp h fun σ H Q ⟨G, B0, H0, B, ρ, Qd, Qe, S, q, ok, er⟩ => by
    refine ⟨G, B0, H0, B, ρ, _, Qe, S, q, fun r x B1 H1 S1 s1 r1 q1 => ?_, er⟩
    refine ⟨G, B0, H0, B1, ρ, _, Qe, S1, q1, fun r' y B2 H2 S2 s2 r2 q2 => ?_, erT er s1⟩
    have s12 := s1.trans s2
    refine ⟨G, H, B2, r, r', _, ⟨S2.bh, S2.gok⟩, r1.step s2, r2.from s1, q2, fun r3 z B3 H3 s3 bh gk rz qz => ?_⟩
    obtain ⟨k, rfl, qz⟩ := qz
    cases (show Dp X.K B3 z (.bool k) from rz)
    have S3 := S2.step s3 bh gk
    have s13 := s12.trans s3
    refine ⟨k, rfl, ?_⟩
    cases k with
    | false => exact iteF (ok (.s (.bool false)) _ _ _ S3 s13 (.bl false) ((if_neg Bool.false_ne_true).mp qz))
    | true =>
      refine iteT ⟨G, B0, H0, B3, ρ, _, Qe, S3, (if_pos rfl).mp qz, fun r4 w4 B4 H4 S4 s4 r4' q4 => ?_, erT er s13⟩
      exact ⟨G, H, B4, r', r4, _, ⟨S4.bh, S4.gok⟩, (r2.from s1).step (s3.trans s4), r4'.from s13, q4, fun r5 z5 B5 H5 s5 bh5 gk5 rz5 qz5 =>
        ok _ _ _ _ (S4.step s5 bh5 gk5) ((s13.trans s4).trans s5) (rz5.from (s13.trans s4)) qz5⟩
theorem pdt_chain {f f' : F2} (h : PT X e (tTest (tChain (lift2 X.K f) (lift2 X.K f') (TDe X.K W wa) (TDe X.K W wb) (TDe X.K W wc)))) : PDt X W e (wTst (wChain f f' wa wb wc)) :=
  pt_imp h fun σ H Q ⟨G, B0, H0, B, ρ, Qd, Qe, S, q, ok, er⟩ => by
    refine ⟨G, B0, H0, B, ρ, _, Qe, S, q, fun r x B1 H1 S1 s1 r1 q1 => ?_, er⟩
    refine ⟨G, B0, H0, B1, ρ, _, Qe, S1, q1, fun r' y B2 H2 S2 s2 r2 q2 => ?_, erT er s1⟩
    have s12 := s1.trans s2
    refine ⟨G, H, B2, r, r', _, ⟨S2.bh, S2.gok⟩, r1.step s2, r2.from s1, q2, fun r3 z B3 H3 s3 bh gk rz qz => ?_⟩
    obtain ⟨k, rfl, qz⟩ := qz
    cases (show Dp X.K B3 z (.bool k) from rz)
    have S3 := S2.step s3 bh gk
    have s13 := s12.trans s3
    refine ⟨k, rfl, ?_⟩
    cases k with
    | false =>
      obtain ⟨b, e, q⟩ := (if_neg Bool.false_ne_true).mp qz
      cases e
      exact iteF ⟨false, rfl, ok _ _ _ S3 s13 q⟩
    | true =>
      refine iteT ⟨G, B0, H0, B3, ρ, _, Qe, S3, (if_pos rfl).mp qz, fun r4 w4 B4 H4 S4 s4 r4' q4 => ?_, erT er s13⟩
      refine ⟨G, H, B4, r', r4, _, ⟨S4.bh, S4.gok⟩, (r2.from s1).step (s3.trans s4), r4'.from s13, q4, fun r5 z5 B5 H5 s5 bh5 gk5 rz5 qz5 => ?_⟩
      obtain ⟨b, rfl, q⟩ := qz5
      cases (show Dp X.K B5 z5 (.bool b) from rz5)
      exact ⟨b, rfl, ok _ _ _ (S4.step s5 bh5 gk5) ((s13.trans s4).trans s5) q⟩
end
end DL

set_option Elab.async false
set_option linter.all false
set_option maxRecDepth 100000
/-! The data layer: what operators, comparisons and built-ins do with data. -/
namespace DL
open PySem PySem.Spec PyProof.Rows L2

def R.isS : R → Bool
  | .s _ => true
  | _ => false
section
variable {K : Frag} {G : Gh} {Hs B H : Hp} {x : V}
theorem Rs.int {i : Int} (h : Rs K G Hs B H x (.s (.int i))) : x = .int i := by cases (show Dp K B x (.int i) from h); rfl
theorem Rs.bool {i : Bool} (h : Rs K G Hs B H x (.s (.bool i))) : x = .bl i := by cases (show Dp K B x (.bool i) from h); rfl
theorem Rs.str {i : Str} (h : Rs K G Hs B H x (.s (.str i))) : x = .str i := by cases (show Dp K B x (.str i) from h); rfl
theorem Rs.none (h : Rs K G Hs B H x (.s .none)) : x = .non := by cases (show Dp K B x .none from h); rfl
theorem Rs.tup {ds : List D} (h : Rs K G Hs B H x (.s (.tuple ds))) : ∃ p xs, x = .ref p ∧ SqN K B p xs ∧ DpAll K B xs ds := by
  cases (show Dp K B x (.tuple ds) from h) with
  | tup h1 h2 => exact ⟨_, _, rfl, h1, h2⟩
theorem RsAll.one {xs : List V} {r : R} (h : RsAll K G Hs B H xs [r]) : ∃ x, xs = [x] ∧ Rs K G Hs B H x r := by
  cases h with
  | cons h1 h2 => cases h2; exact ⟨_, rfl, h1⟩
theorem RsAll.two {xs : List V} {r u : R} (h : RsAll K G Hs B H xs [r, u]) : ∃ x y, xs = [x, y] ∧ Rs K G Hs B H x r ∧ Rs K G Hs B H y u := by
  cases h with
  | cons h1 h2 => cases h2 with
    | cons h2 h3 => cases h3; exact ⟨_, _, rfl, h1, h2⟩
end

/-! ### + - * // % ** -/
def fAdd : F2 := fun a b Q => match a with
  | .s (.int i) => ∃ j, b = .s (.int j) ∧ Q (.s (.int (i + j)))
  | .s (.str x) => ∃ y, b = .s (.str y) ∧ x.length + y.length ≤ 16777216 ∧ Q (.s (.str (x ++ y)))
  | .s (.tuple xs) => ∃ ys, b = .s (.tuple ys) ∧ xs.length + ys.length ≤ 16777216 ∧ Q (.s (.tuple (xs ++ ys)))
  | .l _ xs => ∃ o ys, b = .l o ys ∧ xs.length + ys.length ≤ 16777216 ∧ Q (.l true (xs ++ ys))
  | _ => False
def fInt (C : Int → Int → Prop) (g : Int → Int → Int) : F2 := fun a b Q => ∃ i j, a = .s (.int i) ∧ b = .s (.int j) ∧ C i j ∧ Q (.s (.int (g i j)))
abbrev fSub : F2 := fInt (fun _ _ => True) (· - ·)
def fMul : F2 := fun a b Q => match a with
  | .s (.int i) => ∃ j, b = .s (.int j) ∧ CMul i j ∧ Q (.s (.int (i * j)))
  | .s (.tuple xs) => ∃ j, b = .s (.int j) ∧ xs ≠ [] ∧ 2 ≤ j ∧ j ≤ 1000 ∧ xs.length ≤ 1000 ∧ Q (.s (.tuple (List.replicate j.toNat xs).flatten))
  | _ => False
abbrev fDiv : F2 := fInt CDiv (· / ·)
abbrev fMod : F2 := fInt (fun _ j => 0 < j) (· % ·)
abbrev fPow : F2 := fInt CPow (fun i j => i ^ j.toNat)
def fNeg : F1 := fun a Q => ∃ i, a = .s (.int i) ∧ Q (.s (.int (-i)))
section
variable {X : Cx}
theorem DpAll.flat {K : Frag} {H : Hp} {xs : List V} {ds : List D} (h : DpAll K H xs ds) (n : Nat) : DpAll K H (List.replicate n xs).flatten (List.replicate n ds).flatten := by
  induction n with
  | zero => exact .nil
  | succ n ih =>
    rw [List.replicate_succ, List.replicate_succ, List.flatten_cons, List.flatten_cons]
    exact h.append ih
theorem DpAll.nil_of {K : Frag} {H : Hp} {xs : List V} (h : DpAll K H xs []) : xs = [] := by cases h; rfl
theorem o_add : OpR X (binaryOp .Add) (lift2 X.K fAdd) := by
  intro pins s σ H x y v u Q I rx ry hh
  obtain ⟨G, Hs, B, a, b, Qd, c, ra, rb, q, k⟩ := hh
  unfold fAdd at q
  split at q
  · obtain ⟨j, rfl, q⟩ := q
    cases ra.int; cases rb.int
    exact op_add pins s σ H _ _ v u Q I rx ry ⟨_, _, rfl, rfl, k.dat c (.int _) q⟩
  · obtain ⟨j, rfl, hz, q⟩ := q
    cases ra.str; cases rb.str
    exact op_add_str pins s σ H _ _ v u Q I rx ry ⟨_, _, rfl, rfl, by rw [line_eq]; exact hz, k.dat c (.str _) q⟩
  · obtain ⟨ys, rfl, hz, q⟩ := q
    obtain ⟨p1, xs1, rfl, h1, h2⟩ := ra.tup
    obtain ⟨p2, xs2, rfl, h3, h4⟩ := rb.tup
    refine opN_cat pins s σ H _ _ v u Q I rx ry ⟨p1, p2, xs1, xs2, rfl, rfl, (h1.up c.le).t, (h3.up c.le).t, by rw [line_eq, h2.length, h4.length]; exact hz, fun e => ?_, fun _ e => ?_, fun _ _ => ?_⟩
    · subst e
      have := h2.length
      rename_i xs0
      obtain rfl : xs0 = [] := List.eq_nil_of_length_eq_zero this.symm
      exact k.dat c (.tup h3 h4) q
    · subst e
      obtain rfl : ys = [] := List.eq_nil_of_length_eq_zero h4.length.symm
      rw [List.append_nil] at q
      exact k.dat c (.tup h1 h2) q
    · exact k.tup c (h2.append h4) q
  · obtain ⟨o, ys, rfl, hz, q⟩ := q
    obtain ⟨p1, xs1, rfl, h1, h2, _⟩ := ra
    obtain ⟨p2, xs2, rfl, h3, h4, _⟩ := rb
    exact op_cat pins s σ H _ _ v u Q I rx ry ⟨p1, p2, xs1, xs2, rfl, rfl, (hide_some h1).2, (hide_some h3).2, by rw [line_eq, h2.length, h4.length]; exact hz, fun p hp => k.lst c hp (h2.append h4) q⟩
  · exact q.elim
theorem o_int {f : Value → Value → Sem Value} {C : Int → Int → Prop} {g : Int → Int → Int} (h : OpR X f (rI C fun i j => .int (g i j))) : OpR X f (lift2 X.K (fInt C g)) := by
  intro pins s σ H x y v u Q I rx ry hh
  obtain ⟨G, Hs, B, a, b, Qd, c, ra, rb, ⟨i, j, rfl, rfl, hc, q⟩, k⟩ := hh
  cases ra.int; cases rb.int
  exact h pins s σ H _ _ v u Q I rx ry ⟨i, j, rfl, rfl, hc, k.dat c (.int _) q⟩
theorem o_sub : OpR X (binaryOp .Sub) (lift2 X.K fSub) := o_int fun pins s σ H x y v u Q I rx ry ⟨i, j, e1, e2, _, q⟩ => op_sub pins s σ H x y v u Q I rx ry ⟨i, j, e1, e2, q⟩
theorem o_div : OpR X (binaryOp .FloorDiv) (lift2 X.K fDiv) := o_int op_fdiv
theorem o_mod : OpR X (binaryOp .Mod) (lift2 X.K fMod) := o_int op_mod
theorem o_pow : OpR X (binaryOp .Pow) (lift2 X.K fPow) := o_int op_pow
theorem o_mul : OpR X (binaryOp .Mult) (lift2 X.K fMul) := by
  intro pins s σ H x y v u Q I rx ry hh
  obtain ⟨G, Hs, B, a, b, Qd, c, ra, rb, q, k⟩ := hh
  unfold fMul at q
  split at q
  · obtain ⟨j, rfl, hc, q⟩ := q
    cases ra.int; cases rb.int
    exact op_mul pins s σ H _ _ v u Q I rx ry ⟨_, _, rfl, rfl, hc, k.dat c (.int _) q⟩
  · obtain ⟨j, rfl, hn, h2, h3, h4, q⟩ := q
    obtain ⟨p1, xs1, rfl, h5, h6⟩ := ra.tup
    cases rb.int
    refine opN_rep pins s σ H _ _ v u Q I rx ry ⟨p1, j, xs1, rfl, rfl, (h5.up c.le).t, fun e => hn ?_, h2, h3, by rw [h6.length]; exact h4, k.tup c (h6.flat _) q⟩
    subst e
    exact List.eq_nil_of_length_eq_zero h6.length.symm
  · exact q.elim
theorem o_neg : UnR X (unaryOp .USub) (lift1 X.K fNeg) := by
  intro pins s σ H x v Q I rx hh
  obtain ⟨G, Hs, B, a, Qd, c, ra, ⟨i, rfl, q⟩, k⟩ := hh
  cases ra.int
  exact un_neg pins s σ H _ v Q I rx ⟨i, rfl, k.dat c (.int _) q⟩
end

/-! ### comparisons -/
def Sh (d : D) : Prop := SeqAt.shaped d = true
theorem sh_of {d : D} (h : SeqAt.shaped d = true) : Sh d := h
def fEq : F2 := fun a b Q => ∃ d e, a.look = some d ∧ b.look = some e ∧ Sh d ∧ Sh e ∧ Q (.s (.bool (PyData.eqv d e)))
def fNe : F2 := fun a b Q => ∃ d e, a.look = some d ∧ b.look = some e ∧ Sh d ∧ Sh e ∧ Q (.s (.bool (!PyData.eqv d e)))
def fCmp (g : Int → Int → Bool) : F2 := fun a b Q => ∃ i j, a = .s (.int i) ∧ b = .s (.int j) ∧ Q (.s (.bool (g i j)))
abbrev fLe : F2 := fCmp fun i j => decide (i ≤ j)
abbrev fGt : F2 := fCmp fun i j => decide (j < i)
abbrev fGe : F2 := fCmp fun i j => decide (j ≤ i)
def fLt : F2 := fun a b Q => match a with
  | .s (.int i) => ∃ j, b = .s (.int j) ∧ Q (.s (.bool (decide (i < j))))
  | .s (.tuple xs) => ∃ ns ms, xs = List.map PyData.int ns ∧ b = .s (.tuple (List.map PyData.int ms)) ∧ Q (.s (.bool (HT.lexLt ns ms)))
  | _ => False
def R.isN : R → Bool
  | .s .none => true
  | _ => false
/-- is None, is True, is False -/
def fIs (neg : Bool) : F2 := fun a b Q => match b with
  | .s .none => a.isS = true ∧ Q (.s (.bool (neg != a.isN)))
  | .s (.bool k) => ∃ j, a = .s (.bool j) ∧ Q (.s (.bool (neg != (j == k))))
  | _ => False
def flatD : D → Bool
  | .none | .bool _ | .int _ | .str _ => true
  | _ => false
def inD (d : D) (ds : List D) : Bool := ds.any fun z => PyData.eqv z d
/-- x in a list or tuple of flat items -/
def fIn (neg : Bool) : F2 := fun a b Q => (∃ d ds, a = .s d ∧ b.seq = some ds ∧ flatD d = true ∧ ds.all flatD = true ∧ Q (.s (.bool (neg != inD d ds)))) ∨
  ∃ d kvs k, a = .s d ∧ b.kv = some kvs ∧ ofK d = some k ∧ Q (.s (.bool (neg != (kGet kvs k).isSome)))
section
variable {X : Cx} {K : Frag} {H : Hp}
theorem flatV_of {x : V} {d : D} (h : Dp K H x d) (f : flatD d = true) : flatV x = true := by cases h <;> first | rfl | cases f
theorem eqV_of {x y : V} {d e : D} (h : Dp K H x d) (h' : Dp K H y e) (f : flatD d = true) (f' : flatD e = true) : eqV x y = PyData.eqv d e := by
  cases h <;> cases h' <;> first | rfl | cases f | cases f'
theorem flatAll_of : ∀ {xs : List V} {ds : List D}, DpAll K H xs ds → ds.all flatD = true → xs.all flatV = true
  | _, _, .nil, _ => rfl
  | _, _, .cons h t, f => by
    rw [List.all_cons, Bool.and_eq_true] at f ⊢
    exact ⟨flatV_of h f.1, flatAll_of t f.2⟩
theorem inV_of {x : V} {d : D} (h : Dp K H x d) (f : flatD d = true) : ∀ {xs : List V} {ds : List D}, DpAll K H xs ds → ds.all flatD = true → inV x xs = inD d ds
  | _, _, .nil, _ => rfl
  | _, _, .cons h1 t, g => by
    rw [List.all_cons, Bool.and_eq_true] at g
    unfold inV inD
    rw [List.any_cons, List.any_cons, eqV_of h1 h g.1 f]
    congr 1
    exact inV_of h f t g.2
theorem o_eq (hu : X.A.units + 64 < cLine) : OpR X (compareOp .Eq) (lift2 X.K fEq) := by
  intro pins s σ H x y v u Q I rx ry hh
  obtain ⟨G, Hs, B, a, b, Qd, c, ra, rb, ⟨d, e, h1, h2, h3, h4, q⟩, k⟩ := hh
  exact op_eqD hu pins s σ H _ _ v u Q I rx ry ⟨d, e, (ra.look h1 c.bh).old (SeqAt.canLay_of_shaped h3), (rb.look h2 c.bh).old (SeqAt.canLay_of_shaped h4), h3, h4, k.dat c (.bl _) q⟩
theorem o_ne (hu : X.A.units + 64 < cLine) : OpR X (compareOp .NotEq) (lift2 X.K fNe) := by
  intro pins s σ H x y v u Q I rx ry hh
  obtain ⟨G, Hs, B, a, b, Qd, c, ra, rb, ⟨d, e, h1, h2, h3, h4, q⟩, k⟩ := hh
  exact op_neD hu pins s σ H _ _ v u Q I rx ry ⟨d, e, (ra.look h1 c.bh).old (SeqAt.canLay_of_shaped h3), (rb.look h2 c.bh).old (SeqAt.canLay_of_shaped h4), h3, h4, k.dat c (.bl _) q⟩
theorem o_cmp {f : Value → Value → Sem Value} {g : Int → Int → Bool} (h : OpR X f (rI0 fun i j => .bl (g i j))) : OpR X f (lift2 X.K (fCmp g)) := by
  intro pins s σ H x y v u Q I rx ry hh
  obtain ⟨G, Hs, B, a, b, Qd, c, ra, rb, ⟨i, j, rfl, rfl, q⟩, k⟩ := hh
  cases ra.int; cases rb.int
  exact h pins s σ H _ _ v u Q I rx ry ⟨i, j, rfl, rfl, k.dat c (.bl _) q⟩
theorem o_le : OpR X (compareOp .LtE) (lift2 X.K fLe) := o_cmp op_le
theorem o_gt : OpR X (compareOp .Gt) (lift2 X.K fGt) := o_cmp op_gt
theorem o_ge : OpR X (compareOp .GtE) (lift2 X.K fGe) := o_cmp op_ge
theorem o_lt (hu : X.A.units < cLine) : OpR X (compareOp .Lt) (lift2 X.K fLt) := by
  intro pins s σ H x y v u Q I rx ry hh
  obtain ⟨G, Hs, B, a, b, Qd, c, ra, rb, q, k⟩ := hh
  unfold fLt at q
  split at q
  · obtain ⟨j, rfl, q⟩ := q
    cases ra.int; cases rb.int
    exact op_lt pins s σ H _ _ v u Q I rx ry ⟨_, _, rfl, rfl, k.dat c (.bl _) q⟩
  · obtain ⟨ns, ms, rfl, rfl, q⟩ := q
    obtain ⟨p1, xs1, rfl, h1, h2⟩ := ra.tup
    obtain ⟨p2, xs2, rfl, h3, h4⟩ := rb.tup
    cases h2.ints'; cases h4.ints'
    exact op_ltT hu pins s σ H _ _ v u Q I rx ry ⟨p1, p2, ns, ms, rfl, rfl, (h1.up c.le).t, (h3.up c.le).t, k.dat c (.bl _) q⟩
  · exact q.elim
theorem Dp.none_iff {B : Hp} {x : V} {d : D} (h : Dp K B x d) : decide (x = V.non) = (R.s d).isN := by
  cases h <;> rfl
theorem o_is : OpR X (compareOp .Is) (lift2 X.K (fIs false)) := by
  intro pins s σ H x y v u Q I rx ry hh
  obtain ⟨G, Hs, B, a, b, Qd, c, ra, rb, q, k⟩ := hh
  unfold fIs at q
  split at q
  · obtain ⟨h, q⟩ := q
    cases rb.none
    cases a with
    | s d =>
      have e := Dp.none_iff (K := X.K) (B := B) (x := x) (d := d) ra
      refine op_isN pins s σ H _ _ v u Q I rx ry ⟨rfl, ?_⟩
      rw [e]
      exact k.dat c (.bl _) (by simpa using q)
    | _ => cases h
  · obtain ⟨j, rfl, q⟩ := q
    cases ra.bool; cases rb.bool
    refine op_is_bl pins s σ H _ _ v u Q I rx ry ⟨_, _, rfl, rfl, ?_⟩
    exact k.dat c (.bl _) (by simpa [Bool.beq_eq_decide_eq] using q)
  · exact q.elim
theorem o_isNot : OpR X (compareOp .IsNot) (lift2 X.K (fIs true)) := by
  intro pins s σ H x y v u Q I rx ry hh
  obtain ⟨G, Hs, B, a, b, Qd, c, ra, rb, q, k⟩ := hh
  unfold fIs at q
  split at q
  · obtain ⟨h, q⟩ := q
    cases rb.none
    cases a with
    | s d =>
      have e := Dp.none_iff (K := X.K) (B := B) (x := x) (d := d) ra
      refine op_notN pins s σ H _ _ v u Q I rx ry ⟨rfl, ?_⟩
      rw [e]
      exact k.dat c (.bl _) (by simpa using q)
    | _ => cases h
  · obtain ⟨j, rfl, q⟩ := q
    cases ra.bool; cases rb.bool
    refine op_isnot_bl pins s σ H _ _ v u Q I rx ry ⟨_, _, rfl, rfl, ?_⟩
    exact k.dat c (.bl _) (by simpa [Bool.beq_eq_decide_eq] using q)
  · exact q.elim
theorem kV_of {K : Frag} {B : Hp} {x : V} {d : D} {k : Key} (h : Dp K B x d) (e : ofK d = some k) : x = kV k := by
  cases ofK_eq e
  cases k with
  | inl i => cases h; rfl
  | inr z => cases h; rfl
/-- what stands at a key -/
theorem dget_of {K : Frag} {H B : Hp} {p : Addr} {xs : List (Key × V)} {kvs : List (Key × D)} (k : Key) (h1 : H p = some (.dK xs)) (h2 : KvP K B xs kvs) : ∃ o, DGet H p (kV k) o ∧ o.isSome = (kGet kvs k).isSome ∧ ∀ d, kGet kvs k = some d → ∃ v, o = some v ∧ Dp K B v d := by
  refine ⟨valV xs k, DGet.k h1, ?_, fun d e => ?_⟩
  · rcases h2.find k with ⟨a, b⟩ | ⟨v, d, a, b, _⟩
    · rw [a, b]; rfl
    · rw [a, b]; rfl
  · rcases h2.find k with ⟨a, b⟩ | ⟨v, d', a, b, c⟩
    · rw [b] at e; cases e
    · rw [b] at e; cases e; exact ⟨v, a, c⟩
theorem o_in (hu : X.A.units + 64 < cLine) : OpR X (compareOp .In) (lift2 X.K (fIn false)) := by
  intro pins s σ H x y v u Q I rx ry hh
  obtain ⟨G, Hs, B, a, b, Qd, c, ra, rb, ⟨d, ds, rfl, h2, h3, h4, q⟩ | ⟨d, kvs, k', rfl, h2, h3, q⟩, k⟩ := hh
  · obtain ⟨p, xs, rfl, h5, h6⟩ := rb.seq h2 c.bh
    refine op_in_seq pins s σ H _ _ v u Q I rx ry ⟨p, xs, rfl, h6, flatV_of (show Dp X.K B x d from ra) h3, flatAll_of h5 h4, ?_⟩
    rw [if_neg Bool.false_ne_true, inV_of (show Dp X.K B x d from ra) h3 h5 h4]
    exact k.dat c (.bl _) (by simpa using q)
  · obtain ⟨p, xs, rfl, h5, h6⟩ := rb.kv h2 c.bh
    cases kV_of (show Dp X.K B x d from ra) h3
    obtain ⟨o, h7, h8, _⟩ := dget_of k' h5 h6
    cases ry
    refine d_in (by omega) I h7 rx fun s' I' => ⟨.bl o.isSome, H, I', rfl, ?_⟩
    rw [h8]
    exact k.dat c (.bl _) (by simpa using q)
theorem o_notIn (hu : X.A.units + 64 < cLine) : OpR X (compareOp .NotIn) (lift2 X.K (fIn true)) := by
  intro pins s σ H x y v u Q I rx ry hh
  obtain ⟨G, Hs, B, a, b, Qd, c, ra, rb, ⟨d, ds, rfl, h2, h3, h4, q⟩ | ⟨d, kvs, k', rfl, h2, h3, q⟩, k⟩ := hh
  · obtain ⟨p, xs, rfl, h5, h6⟩ := rb.seq h2 c.bh
    refine op_notIn_seq pins s σ H _ _ v u Q I rx ry ⟨p, xs, rfl, h6, flatV_of (show Dp X.K B x d from ra) h3, flatAll_of h5 h4, ?_⟩
    rw [if_pos rfl, inV_of (show Dp X.K B x d from ra) h3 h5 h4]
    exact k.dat c (.bl _) (by simpa using q)
  · obtain ⟨p, xs, rfl, h5, h6⟩ := rb.kv h2 c.bh
    cases kV_of (show Dp X.K B x d from ra) h3
    obtain ⟨o, h7, h8, _⟩ := dget_of k' h5 h6
    cases ry
    refine d_notIn (by omega) I h7 rx fun s' I' => ⟨.bl (!o.isSome), H, I', rfl, ?_⟩
    rw [h8]
    exact k.dat c (.bl _) (by simpa using q)
end

/-! ### subscripts, slices -/
def fIx : F2 := fun a b Q => (∃ ds i d, a.seq = some ds ∧ b = .s (.int i) ∧ atI ds i = some d ∧ Q (.s d)) ∨
  ∃ kvs e k d, a.kv = some kvs ∧ b = .s e ∧ ofK e = some k ∧ kGet kvs k = some d ∧ Q (.s d)
section
variable {X : Cx} {K : Frag} {H : Hp}
theorem DpAll.atI {xs : List V} {ds : List D} {i : Int} {d : D} (h : DpAll K H xs ds) (e : L2.atI ds i = some d) : ∃ x, L2.atI xs i = some x ∧ Dp K H x d := by
  unfold L2.atI at e ⊢
  rw [h.length]
  cases q : ixN ds.length i with
  | none => rw [q] at e; cases e
  | some j =>
    rw [q] at e
    obtain ⟨x, h1, h2⟩ := h.get e
    exact ⟨x, h1, h2⟩
theorem o_ix (hu : X.A.units + 64 < cLine) : IxR X (lift2 X.K fIx) := by
  intro value slice pins s σ H x y v u Q I rx ry hh hs
  obtain ⟨G, Hs, B, a, b, Qd, c, ra, rb, ⟨ds, i, d, h1, rfl, h2, q⟩ | ⟨kvs, e, k', d, h1, rfl, h2, h3, q⟩, k⟩ := hh
  case inr =>
    obtain ⟨p, xs, rfl, h5, h6⟩ := ra.kv h1 c.bh
    cases kV_of (show Dp X.K B y e from rb) h2
    obtain ⟨o, h7, h8, h9⟩ := dget_of k' h5 h6
    obtain ⟨z, rfl, h10⟩ := h9 d h3
    cases rx
    have hT : s.TypeIs (.ref p) "dict" := by
      obtain ⟨_, _, _, _, dd⟩ := dk_rd I.hok (.inl h5)
      exact dd.typeIs
    exact tail_any hT slot_dict_getitem.lookup (d_getItem (by omega) I h7 ry fun w' s' I' rw' => ⟨z, H, I', rw', k.dat c h10 q⟩) hs
  obtain ⟨p, xs, rfl, h3, h4⟩ := ra.seq h1 c.bh
  cases rb.int
  obtain ⟨z, h5, h6⟩ := h3.atI h2
  have fin : Q z H := k.dat c h6 q
  rcases h4 with h4 | h4
  · exact ix_list value slice pins s σ H _ _ v u Q I rx ry ⟨p, xs, i, z, rfl, rfl, h4, h5, fin⟩ hs
  · exact ix_tup value slice pins s σ H _ _ v u Q I rx ry ⟨p, xs, i, z, rfl, rfl, h4, h5, fin⟩ hs
end
end DL

set_option Elab.async false
set_option linter.all false
set_option maxRecDepth 100000
/-! The data layer: statements, defs, calls. -/
namespace DL
open PySem PySem.Spec PyProof.Rows L2

structure DEnds where
  nx : Rho → Prop
  rt : R → Prop
  bk : Rho → Prop := fun _ => False
  ct : Rho → Prop := fun _ => False
  er : Value → Rho → Prop := fun _ _ => False
abbrev SW := Rho → DEnds → Prop

/-- how data's ends are the layer's ends -/
structure Links (K : Frag) (W : WX) (G : Gh) (B0 H0 B : Hp) (E : DEnds) (D : Ends) : Prop where
  nx : ∀ ρ' σ' B' H', Stt K G B0 H0 B' H' σ' ρ' → Same B B' → E.nx ρ' → D.nx σ' H'
  bk : ∀ ρ' σ' B' H', Stt K G B0 H0 B' H' σ' ρ' → Same B B' → E.bk ρ' → D.bk σ' H'
  ct : ∀ ρ' σ' B' H', Stt K G B0 H0 B' H' σ' ρ' → Same B B' → E.ct ρ' → D.ct σ' H'
  rt : ∀ r x B' H', Stp G B0 H0 B' H' → Same B' (hide G H') → G.ok H' → Rs K G H0 B' H' x r → E.rt r → D.rt x H'
  er : ∀ cls d ρ' σ' B' H', Stt K G B0 H0 B' H' σ' ρ' → Same B B' → E.er cls ρ' → W cls d σ' H'
theorem Links.up {K : Frag} {W : WX} {G : Gh} {B0 H0 B B1 : Hp} {E : DEnds} {D : Ends} (l : Links K W G B0 H0 B E D) (s : Same B B1) : Links K W G B0 H0 B1 E D :=
  ⟨fun a b c d e f => l.nx a b c d e (s.trans f), fun a b c d e f => l.bk a b c d e (s.trans f), fun a b c d e f => l.ct a b c d e (s.trans f), l.rt, fun a b c d e f g h => l.er a b c d e f g (s.trans h)⟩
def TDs (K : Frag) (W : WX) (w : SW) : TS := fun D σ H => ∃ (G : Gh) (B0 H0 B : Hp) (ρ : Rho) (E : DEnds), Stt K G B0 H0 B H σ ρ ∧ w ρ E ∧ Links K W G B0 H0 B E D
abbrev PSD (X : Cx) (W : WX) (st : Stmt) (w : SW) : Prop := PS X st (TDs X.K W w)
abbrev PSDs (X : Cx) (W : WX) (st : List Stmt) (w : SW) : Prop := PSs X st (TDs X.K W w)
theorem ps_imp {X : Cx} {st : Stmt} {t t' : TS} (h : PS X st t) (i : ∀ D σ H, t' D σ H → t D σ H) : PS X st t' := ⟨fun pins s σ H D I q => h.run pins s σ H D I (i _ _ _ q)⟩
theorem pss_imp {X : Cx} {st : List Stmt} {t t' : TS} (h : PSs X st t) (i : ∀ D σ H, t' D σ H → t D σ H) : PSs X st t' := ⟨fun pins s σ H D I q => h.run pins s σ H D I (i _ _ _ q)⟩

def wNext : SW := fun ρ E => E.nx ρ
def wSeq (w u : SW) : SW := fun ρ E => w ρ { E with nx := fun ρ' => u ρ' E }
section
variable {X : Cx} {W : WX} {e a b c : Expr} {st : Stmt} {rest : List Stmt} {es : List Expr} {wa wb wc w : EW} {ws : AW} {wt wt' : TW} {v u : SW} {pos : Pos}
theorem pds_nil : PSDs X W [] wNext := pss_imp pss_nil fun D σ H ⟨G, B0, H0, B, ρ, E, S, q, l⟩ => l.nx _ _ _ _ S (Same.refl _) q
theorem pds_one (h : PSD X W st v) : PSDs X W [st] v := pss_one h
theorem pds_cons (h : PSD X W st v) (hr : PSDs X W rest u) : PSDs X W (st :: rest) (wSeq v u) := pss_imp (pss_cons h hr) fun D σ H ⟨G, B0, H0, B, ρ, E, S, q, l⟩ =>
  ⟨G, B0, H0, B, ρ, _, S, q, ⟨fun ρ' σ' B' H' S' s q' => ⟨G, B0, H0, B', ρ', E, S', q', l.up s⟩, l.bk, l.ct, l.rt, l.er⟩⟩
theorem pds_pass : PSD X W (.Pass pos) wNext := ps_imp ps_pass fun D σ H ⟨G, B0, H0, B, ρ, E, S, q, l⟩ => l.nx _ _ _ _ S (Same.refl _) q
def wBreak : SW := fun ρ E => E.bk ρ
def wCont : SW := fun ρ E => E.ct ρ
theorem pds_break : PSD X W (.Break pos) wBreak := ps_imp ps_break fun D σ H ⟨G, B0, H0, B, ρ, E, S, q, l⟩ => l.bk _ _ _ _ S (Same.refl _) q
theorem pds_continue : PSD X W (.Continue pos) wCont := ps_imp ps_continue fun D σ H ⟨G, B0, H0, B, ρ, E, S, q, l⟩ => l.ct _ _ _ _ S (Same.refl _) q
def wRet (w : EW) : SW := fun ρ E => w ρ E.rt (fun cls => E.er cls ρ)
theorem pds_ret (h : PD X W e w) : PSD X W (.Return (some e) pos) (wRet w) := ps_imp (ps_ret h) fun D σ H ⟨G, B0, H0, B, ρ, E, S, q, l⟩ =>
  ⟨G, B0, H0, B, ρ, _, _, S, q, fun r x B' H' S' s r' q' => l.rt r x B' H' S'.st S'.bh S'.gok (r'.from S.st) q', fun cls d B' H' q' S' s => l.er cls d ρ σ B' H' S' s.bb q'⟩

/-! ### targets -/
abbrev GW := D → Rho → (Rho → Prop) → Prop
abbrev GWs := List D → Rho → (Rho → Prop) → Prop
def TDg (K : Frag) (gw : GW) : TG := fun x σ H R => ∃ (G : Gh) (B0 H0 B : Hp) (ρ : Rho) (d : D) (k : Rho → Prop), Stt K G B0 H0 B H σ ρ ∧ Dp K B x d ∧ gw d ρ k ∧ ∀ ρ' σ' B' H', Stt K G B0 H0 B' H' σ' ρ' → Same B B' → k ρ' → R σ' H'
def TDgs (K : Frag) (gw : GWs) : TGs := fun xs σ H R => ∃ (G : Gh) (B0 H0 B : Hp) (ρ : Rho) (ds : List D) (k : Rho → Prop), Stt K G B0 H0 B H σ ρ ∧ DpAll K B xs ds ∧ gw ds ρ k ∧ ∀ ρ' σ' B' H', Stt K G B0 H0 B' H' σ' ρ' → Same B B' → k ρ' → R σ' H'
abbrev PGD (X : Cx) (tg : Expr) (gw : GW) : Prop := PG X tg (TDg X.K gw)
abbrev PGDs (X : Cx) (tg : List Expr) (gw : GWs) : Prop := PGs X tg (TDgs X.K gw)
theorem pg_imp {X : Cx} {tg : Expr} {t t' : TG} (h : PG X tg t) (i : ∀ x σ H R, t' x σ H R → t x σ H R) : PG X tg t' := ⟨fun pins s σ H v u Q I r q => h.run pins s σ H v u Q I r (i _ _ _ _ q)⟩
theorem pgs_imp {X : Cx} {tg : List Expr} {t t' : TGs} (h : PGs X tg t) (i : ∀ x σ H R, t' x σ H R → t x σ H R) : PGs X tg t' := ⟨fun pins s σ H v u Q I r q => h.run pins s σ H v u Q I r (i _ _ _ _ q)⟩
def gwName (i : Nat) : GW := fun d ρ k => i < ρ.length ∧ k (ρ.set i (some (.s d)))
def gwNil : GWs := fun ds ρ k => ds = [] ∧ k ρ
def gwCons (g : GW) (u : GWs) : GWs := fun ds ρ k => ∃ d r, ds = d :: r ∧ g d ρ fun ρ' => u r ρ' k
def gwTup (n : Nat) (u : GWs) : GW := fun d ρ k => ∃ ds, d = .tuple ds ∧ ds.length = n ∧ u ds ρ k
theorem Stt.put {K : Frag} {G : Gh} {B0 H0 B H : Hp} {σ : L2.St} {ρ : Rho} {x : V} {r : R} (S : Stt K G B0 H0 B H σ ρ) (k : keeps r = true) (hr : Rs K G H B H x r) (i : Nat) (hi : i < ρ.length) : Stt K G B0 H0 B H (σ.set i (some x)) (ρ.set i (some r)) :=
  S.fill (Stp.refl ..) S k hr i (by rw [← S.len]; exact hi)
theorem pgd_name {i : Nat} {x : Expr} (h : PG X x (gName i)) : PGD X x (gwName i) := pg_imp h fun x σ H R ⟨G, B0, H0, B, ρ, d, k, S, hd, ⟨hi, q⟩, l⟩ =>
  l _ _ _ _ (S.put (r := .s d) rfl hd i hi) (Same.refl _) q
theorem pgds_nil : PGDs X [] gwNil := pgs_imp pgs_nil fun xs σ H R ⟨G, B0, H0, B, ρ, ds, k, S, hd, ⟨e, q⟩, l⟩ => by
  subst e
  cases hd
  exact ⟨rfl, l _ _ _ _ S (Same.refl _) q⟩
theorem pgds_cons {g : GW} {gs : GWs} (h : PGs X (e :: es) (gCons (TDg X.K g) (TDgs X.K gs))) : PGDs X (e :: es) (gwCons g gs) :=
  pgs_imp h fun xs σ H R ⟨G, B0, H0, B, ρ, ds, k, S, hd, ⟨d, r, e, q⟩, l⟩ => by
    subst e
    cases hd with
    | cons hd1 hd2 =>
      exact ⟨_, _, rfl, G, B0, H0, B, ρ, d, _, S, hd1, q, fun ρ' σ' B' H' S' s q' => ⟨G, B0, H0, B', ρ', r, _, S', DpAll.mono s hd2, q', fun ρ2 σ2 B2 H2 S2 s2 q2 => l _ _ _ _ S2 (s.trans s2) q2⟩⟩
theorem pgd_tup {n : Nat} {gs : GWs} (h : PG X e (gTup X.K n (TDgs X.K gs))) : PGD X e (gwTup n gs) := pg_imp h fun x σ H R ⟨G, B0, H0, B, ρ, d, k, S, hd, ⟨ds, e, hn, q⟩, l⟩ => by
  subst e
  cases hd with
  | tup h1 h2 => exact ⟨_, _, rfl, (h1.up (S.bh.trans (hide_le H))).t, h2.length.trans hn, G, B0, H0, B, ρ, ds, k, S, h2, q, l⟩

/-! ### assignments -/
def wAsg (i : Nat) (w : EW) : SW := fun ρ E => w ρ (fun r => i < ρ.length ∧ keeps r = true ∧ E.nx (ρ.set i (some r))) (fun cls => E.er cls ρ)
def wAsgT (w : EW) (g : GW) : SW := fun ρ E => w ρ (fun r => ∃ d, r.dat = some d ∧ g d ρ E.nx) (fun cls => E.er cls ρ)
theorem pds_set {i : Nat} (h : PS X st (tAsg (TDe X.K W w) (gName i))) : PSD X W st (wAsg i w) := ps_imp h fun D σ H ⟨G, B0, H0, B, ρ, E, S, q, l⟩ =>
  ⟨G, B0, H0, B, ρ, _, _, S, q, fun r x B' H' S' s r' ⟨hi, k, q'⟩ => l.nx _ _ _ _ (S.fill s S' k r' i (by rw [← S.len]; exact hi)) s.bb q', fun cls d B' H' q' S' s => l.er cls d ρ σ B' H' S' s.bb q'⟩
theorem pds_asgT {g : GW} (h : PS X st (tAsg (TDe X.K W w) (TDg X.K g))) : PSD X W st (wAsgT w g) := ps_imp h fun D σ H ⟨G, B0, H0, B, ρ, E, S, q, l⟩ =>
  ⟨G, B0, H0, B, ρ, _, _, S, q, fun r x B' H' S' s r' ⟨d, e, q'⟩ => ⟨G, B0, H0, B', ρ, d, _, S', r'.dat e, q', fun ρ2 σ2 B2 H2 S2 s2 q2 => l.nx _ _ _ _ S2 (s.bb.trans s2) q2⟩, fun cls d B' H' q' S' s => l.er cls d ρ σ B' H' S' s.bb q'⟩
/-- two names at once, each side written -/
def wPar (i j : Nat) (wa wb : EW) : SW := fun ρ E => wa ρ (fun r => wb ρ (fun u => i < ρ.length ∧ j < ρ.length ∧ keeps r = true ∧ keeps u = true ∧ E.nx ((ρ.set i (some r)).set j (some u))) (fun cls => E.er cls ρ)) (fun cls => E.er cls ρ)
theorem pds_par {i j : Nat} (h : PS X st (tPar i j (TDa X.K W (wCons wa (wCons wb wNil))))) : PSD X W st (wPar i j wa wb) := ps_imp h fun D σ H ⟨G, B0, H0, B, ρ, E, S, q, l⟩ => by
  refine ⟨G, B0, H0, B, ρ, (fun rs => ∃ r u, rs = [r, u] ∧ (i < ρ.length ∧ j < ρ.length ∧ keeps r = true ∧ keeps u = true ∧ E.nx ((ρ.set i (some r)).set j (some u)))), fun cls => E.er cls ρ, S, ?_, ?_, fun cls d B' H' q' S' s => l.er cls d ρ σ B' H' S' s.bb q'⟩
  · show wa ρ (fun r => wb ρ (fun u => wNil ρ _ _) _) _
    have e : (fun r => wb ρ (fun u => wNil ρ (fun rs => ∃ r' u', r :: u :: rs = [r', u'] ∧ (i < ρ.length ∧ j < ρ.length ∧ keeps r' = true ∧ keeps u' = true ∧ E.nx ((ρ.set i (some r')).set j (some u')))) (fun cls => E.er cls ρ)) (fun cls => E.er cls ρ)) =
        (fun r => wb ρ (fun u => i < ρ.length ∧ j < ρ.length ∧ keeps r = true ∧ keeps u = true ∧ E.nx ((ρ.set i (some r)).set j (some u))) (fun cls => E.er cls ρ)) := by
      funext r
      congr 1
      funext u
      apply propext
      constructor
      · rintro ⟨r', u', e, z⟩
        cases e
        exact z
      · intro z
        exact ⟨r, u, rfl, z⟩
    rw [e]
    exact q
  · rintro rs xs B' H' S' s r' ap ⟨r, u, rfl, hi, hj, k1, k2, q'⟩
    cases r' with
    | cons h1 h2 => cases h2 with
      | cons h2 h3 =>
        cases h3
        rename_i x y
        have S1 := S.fill s S' k1 h1 i (by rw [← S.len]; exact hi)
        refine ⟨x, y, rfl, l.nx _ _ _ _ (S1.fillG (h2.slot k2 S.st.hh) j (by rw [List.length_set, ← S.len]; exact hj) fun m v z hm e1 o1 o2 e2 e3 => ?_) s.bb q'⟩
        by_cases qm : m = i
        · subst qm
          rw [List.getElem?_set_self hi] at e1; cases e1
          rw [List.getElem?_set_self (by rw [← S.len]; exact hi)] at e2; cases e2
          exact ap.1 o2 0 u rfl o1 (by rw [e3]; rfl)
        · rw [List.getElem?_set_ne (Ne.symm qm)] at e1 e2
          exact S.away h2 o1 m v z e1 o2 e2 e3
end
end DL

set_option Elab.async false
set_option linter.all false
set_option maxRecDepth 100000
/-! The data layer: if, loops, errors, defs and their calls. -/
namespace DL
open PySem PySem.Spec PyProof.Rows L2
section
variable {X : Cx} {W : WX} {e a b c : Expr} {st : Stmt} {rest : List Stmt} {es : List Expr} {wa wb wc w : EW} {ws : AW} {wt wt' : TW} {v u : SW} {pos : Pos}

def wIfS (t : TW) (v u : SW) : SW := fun ρ E => t ρ (fun k => if k = true then v ρ E else u ρ E) (fun cls => E.er cls ρ)
theorem pds_if {th el : List Stmt} (hc : PDt X W e wt) (ha : PSDs X W th v) (hb : PSDs X W el u) : PSD X W (.If e th el pos) (wIfS wt v u) := ps_imp (ps_if hc ha hb) fun D σ H ⟨G, B0, H0, B, ρ, E, S, q, l⟩ =>
  ⟨G, B0, H0, B, ρ, _, _, S, q, fun k B' H' S' s q' => by
    cases k with
    | true => exact iteT ⟨G, B0, H0, B', ρ, E, S', (if_pos rfl).mp q', l.up s.bb⟩
    | false => exact iteF ⟨G, B0, H0, B', ρ, E, S', (if_neg Bool.false_ne_true).mp q', l.up s.bb⟩, fun cls d B' H' q' S' s => l.er cls d ρ σ B' H' S' s.bb q'⟩

/-! ### name op= e of ints -/
def wAug (i : Nat) (g : Int → Int → Int) (w : EW) : SW := fun ρ E => ∃ n, ρ[i]? = some (some (.s (.int n))) ∧ w ρ (fun r => ∃ m, r = .s (.int m) ∧ E.nx (ρ.set i (some (.s (.int (g n m)))))) (fun cls => E.er cls ρ)
theorem pds_aug {i : Nat} {g : Int → Int → Int} (h : PS X st (tAug i (TDe X.K W w) (ipI g))) : PSD X W st (wAug i g w) := ps_imp h fun D σ H ⟨G, B0, H0, B, ρ, E, S, ⟨n, e1, q⟩, l⟩ => by
  obtain ⟨x, e2, hr⟩ := S.sl i _ e1
  cases (show Dp X.K B x (.int n) from hr)
  refine ⟨.int n, e2, G, B0, H0, B, ρ, _, _, S, q, fun r y B' H' S' s r' q' => ?_, fun cls d B' H' q' S' s => l.er cls d ρ σ B' H' S' s.bb q'⟩
  obtain ⟨m, rfl, q'⟩ := q'
  cases (show Dp X.K B' y (.int m) from r')
  exact ⟨n, m, rfl, rfl, l.nx _ _ _ _ (S'.put (r := .s (.int (g n m))) rfl (show Dp X.K B' (.int (g n m)) (.int (g n m)) from .int _) i ((List.getElem?_eq_some_iff.mp e1).1)) s.bb q'⟩

/-! ### a statement that is an expression -/
def wExpr (w : EW) : SW := fun ρ E => w ρ (fun _ => E.nx ρ) (fun cls => E.er cls ρ)
theorem pds_expr (h : PS X st (tDrop (TDe X.K W w))) : PSD X W st (wExpr w) := ps_imp h fun D σ H ⟨G, B0, H0, B, ρ, E, S, q, l⟩ =>
  ⟨G, B0, H0, B, ρ, _, _, S, q, fun r x B' H' S' s r' q' => l.nx _ _ _ _ S' s.bb q', fun cls d B' H' q' S' s => l.er cls d ρ σ B' H' S' s.bb q'⟩

/-! ### a list of one's own: append, extend, pop, a place written -/
def wAppend (i : Nat) (w : EW) : SW := fun ρ E => ∃ ds, ρ[i]? = some (some (.l true ds)) ∧ w ρ (fun r => ∃ d, r.dat = some d ∧ ds.length < 16777216 ∧ E.nx (ρ.set i (some (.l true (ds ++ [d]))))) (fun cls => E.er cls ρ)
theorem pds_append {i : Nat} (h : PS X st (tDrop (tBM X.K "list" rAppend (tVar i) (tCons (TDe X.K W w) tNil)))) : PSD X W st (wAppend i w) := ps_imp h fun D σ H ⟨G, B0, H0, B, ρ, E, S, ⟨ds, e1, q⟩, l⟩ => by
  obtain ⟨x, e2, ⟨p, xs, ex, h1, h2, h3, h4, h5⟩⟩ := S.sl i _ e1
  subst ex
  refine ⟨_, e2, .inl ⟨rfl, xs, .inl (.inl h1)⟩, G, B0, H0, B, ρ, _, _, S, q, fun r y B' H' S' s r' q' => ?_, fun cls d B' H' q' S' s => l.er cls d ρ σ B' H' S' s.bb q'⟩
  obtain ⟨d, ed, hlen, q'⟩ := q'
  have k1 : H' p = some (.lst xs) := (hide_some (s.hh p _ (by rw [hide_out h4]; exact h1))).2
  refine ⟨p, xs, y, rfl, rfl, k1, by rw [line_eq, h2.length]; exact hlen, ?_⟩
  refine l.nx _ _ _ _ (S'.mut (r' := .l true (ds ++ [d])) e1 rfl e2 ⟨p, _, rfl, upd_same, (DpAll.mono s.bb h2).append (.cons (r'.dat ed) .nil), s.nw p _ h3 (by rw [hide_out h4]; exact h1), h4, h5⟩) s.bb q'
def wExtend (i : Nat) (w : EW) : SW := fun ρ E => ∃ ds, ρ[i]? = some (some (.l true ds)) ∧ w ρ (fun r => ∃ o es, r = .l o es ∧ ds.length + es.length ≤ 16777216 ∧ E.nx (ρ.set i (some (.l true (ds ++ es))))) (fun cls => E.er cls ρ)
theorem pds_extend {i : Nat} (h : PS X st (tDrop (tBM X.K "list" rExtend (tVar i) (tCons (TDe X.K W w) tNil)))) : PSD X W st (wExtend i w) := ps_imp h fun D σ H ⟨G, B0, H0, B, ρ, E, S, ⟨ds, e1, q⟩, l⟩ => by
  obtain ⟨x, e2, ⟨p, xs, ex, h1, h2, h3, h4, h5⟩⟩ := S.sl i _ e1
  subst ex
  refine ⟨_, e2, .inl ⟨rfl, xs, .inl (.inl h1)⟩, G, B0, H0, B, ρ, _, _, S, q, fun r y B' H' S' s r' q' => ?_, fun cls d B' H' q' S' s => l.er cls d ρ σ B' H' S' s.bb q'⟩
  obtain ⟨o, es, rfl, hlen, q'⟩ := q'
  obtain ⟨p2, xs2, rfl, g1, g2, _⟩ := r'
  have k1 : H' p = some (.lst xs) := (hide_some (s.hh p _ (by rw [hide_out h4]; exact h1))).2
  refine ⟨p, p2, xs, xs2, rfl, rfl, k1, (hide_some g1).2, by rw [line_eq, h2.length, g2.length]; exact hlen, ?_⟩
  refine l.nx _ _ _ _ (S'.mut (r' := .l true (ds ++ es)) e1 rfl e2 ⟨p, _, rfl, upd_same, (DpAll.mono s.bb h2).append g2, s.nw p _ h3 (by rw [hide_out h4]; exact h1), h4, h5⟩) s.bb q'
/-- target = x.pop() -/
def wPop (i : Nat) (g : GW) : SW := fun ρ E => ∃ ds d, ρ[i]? = some (some (.l true (ds ++ [d]))) ∧ g d (ρ.set i (some (.l true ds))) E.nx
theorem DpAll_last {K : Frag} {H : Hp} {xs : List V} {ds : List D} {d : D} (h : DpAll K H xs (ds ++ [d])) : ∃ y, xs[xs.length - 1]? = some y ∧ Dp K H y d ∧ DpAll K H xs.dropLast ds := by
  have hl : xs.length = ds.length + 1 := by rw [h.length]; simp
  obtain ⟨y, h1, h2⟩ := h.get (i := ds.length) (d := d) (by simp)
  refine ⟨y, by rw [hl]; exact h1, h2, ?_⟩
  have := h.take ds.length
  rw [List.take_left' rfl] at this
  rw [List.dropLast_eq_take, hl]
  exact this
theorem pds_pop {i : Nat} {g : GW} (h : PS X st (tAsg (tBM0 X.K "list" rPop (tVar i)) (TDg X.K g))) : PSD X W st (wPop i g) := ps_imp h fun D σ H ⟨G, B0, H0, B, ρ, E, S, ⟨ds, d, e1, q⟩, l⟩ => by
  obtain ⟨x, e2, ⟨p, xs, ex, h1, h2, h3, h4, h5⟩⟩ := S.sl i _ e1
  subst ex
  obtain ⟨y, k1, k2, k3⟩ := DpAll_last h2
  refine ⟨_, e2, .inl ⟨rfl, xs, .inl (.inl h1)⟩, p, xs, y, rfl, rfl, h1, k1, ?_⟩
  exact ⟨G, B0, H0, B, _, d, _, S.mut e1 rfl e2 (r' := .l true ds) ⟨p, _, rfl, upd_same, k3, h3, h4, h5⟩, k2, q, fun ρ2 σ2 B2 H2 S2 s2 q2 => l.nx _ _ _ _ S2 s2 q2⟩
/-- x[i] = e, x a list or dict of one's own -/
def putR (r0 z : R) (d : D) (k : R → Prop) : Prop := match r0 with
  | .l true ds => ∃ n j, z = .s (.int n) ∧ ixN ds.length n = some j ∧ k (.l true (ds.set j d))
  | .k true kvs => ∃ e y, z = .s e ∧ ofK e = some y ∧ kvs.length < 16777216 ∧ k (.k true (kPut kvs y d))
  | _ => False
def rSetB : V → V → V → Hp → (Hp → Prop) → Prop := fun o i v H Q => rSetL o i v H Q ∨ rSetD o i v H Q
theorem set_both {X : Cx} (hu : X.A.units + 64 < cLine) : PSet X rSetB := fun pins s σ H o i v ov iv u Q I ro ri rv h =>
  h.elim (set_list pins s σ H o i v ov iv u Q I ro ri rv) (set_dict (by omega) pins s σ H o i v ov iv u Q I ro ri rv)
def wSetIx (i : Nat) (we wi : EW) : SW := fun ρ E => ∃ r0, ρ[i]? = some (some r0) ∧ owns r0 = true ∧ we ρ (fun r => ∃ d, r.dat = some d ∧ wi ρ (fun z => putR r0 z d fun r1 => E.nx (ρ.set i (some r1))) (fun cls => E.er cls ρ)) (fun cls => E.er cls ρ)
theorem pds_setIx {i : Nat} {we wi : EW} (h : PS X st (tAsg (TDe X.K W we) (gSub (tVar i) (TDe X.K W wi) rSetB))) : PSD X W st (wSetIx i we wi) := ps_imp h fun D σ H ⟨G, B0, H0, B, ρ, E, S, ⟨r0, e1, o1, q⟩, l⟩ => by
  refine ⟨G, B0, H0, B, ρ, _, _, S, q, fun r y B' H' S' s r' q' => ?_, fun cls d B' H' q' S' s => l.er cls d ρ σ B' H' S' s.bb q'⟩
  obtain ⟨d, ed, q'⟩ := q'
  obtain ⟨x, e2, sx⟩ := S'.sl i _ e1
  refine ⟨_, e2, G, B0, H0, B', ρ, _, _, S', q', fun z w1 B2 H2 S2 s2 z' q2 => ?_, fun cls d B2 H2 q2 S2 s2 => l.er cls d ρ σ B2 H2 S2 (s.bb.trans s2.bb) q2⟩
  obtain ⟨x2, f2, sx2⟩ := S2.sl i _ e1
  rw [e2] at f2
  cases f2
  cases r0 with
  | l own ds =>
    cases own with
    | false => cases o1
    | true =>
      obtain ⟨n, j, rfl, hj, q2⟩ := q2
      cases (show Dp X.K B2 w1 (.int n) from z')
      obtain ⟨p2, xs2, rfl, g1, g2, g3, g4, g5⟩ := sx2
      refine .inl ⟨p2, xs2, n, j, rfl, rfl, g1, by rw [g2.length]; exact hj, ?_⟩
      exact l.nx _ _ _ _ (S2.mut (r' := .l true (ds.set j d)) e1 rfl e2 ⟨p2, _, rfl, upd_same, g2.set j (Dp.mono s2.bb (r'.dat ed)), g3, g4, g5⟩) (s.bb.trans s2.bb) q2
  | k own kvs =>
    cases own with
    | false => cases o1
    | true =>
      obtain ⟨e, y', rfl, hk, hl, q2⟩ := q2
      cases kV_of (show Dp X.K B2 w1 e from z') hk
      obtain ⟨p2, xs2, rfl, g1, g2, g3, g4, g5⟩ := sx2
      refine .inr ⟨p2, _, rfl, .inl ⟨xs2, y', g1, rfl, by rw [g2.length, line_eq]; exact hl, rfl⟩, ?_⟩
      exact l.nx _ _ _ _ (S2.mut (r' := .k true (kPut kvs y' d)) e1 rfl e2 ⟨p2, _, rfl, upd_same, g2.put y' (Dp.mono s2.bb (r'.dat ed)), g3, g4, g5⟩) (s.bb.trans s2.bb) q2
  | _ => exact q2.elim
/-- d.pop(k), d a dict of one's own, k there -/
def wDPop (i : Nat) (wi : EW) : SW := fun ρ E => ∃ kvs, ρ[i]? = some (some (.k true kvs)) ∧ wi ρ (fun z => ∃ e y, z = .s e ∧ ofK e = some y ∧ (kGet kvs y).isSome = true ∧ E.nx (ρ.set i (some (.k true (kDrop kvs y))))) (fun cls => E.er cls ρ)
theorem pds_dpop {i : Nat} {wi : EW} (h : PS X st (tDrop (tDPop1 (tVar i) (TDe X.K W wi)))) : PSD X W st (wDPop i wi) := ps_imp h fun D σ H ⟨G, B0, H0, B, ρ, E, S, ⟨kvs, e1, q⟩, l⟩ => by
  obtain ⟨x, e2, ⟨p, xs, rfl, h1, h2, h3, h4, h5⟩⟩ := S.sl i _ e1
  refine ⟨_, e2, p, rfl, .inl ⟨_, .inl h1⟩, G, B0, H0, B, ρ, _, _, S, q, fun z w1 B2 H2 S2 s2 z' q2 => ?_, fun cls d B2 H2 q2 S2 s2 => l.er cls d ρ σ B2 H2 S2 s2.bb q2⟩
  obtain ⟨e, y', rfl, hk, hs, q2⟩ := q2
  cases kV_of (show Dp X.K B2 w1 e from z') hk
  obtain ⟨x2, f2, ⟨p2, xs2, ex2, g1, g2, g3, g4, g5⟩⟩ := S2.sl i _ e1
  rw [e2] at f2; cases f2; cases ex2
  rcases g2.find y' with ⟨_, b⟩ | ⟨v, d, a, b, c⟩
  · rw [b] at hs; cases hs
  · refine ⟨xs2, y', v, g1, rfl, a, ?_⟩
    exact l.nx _ _ _ _ (S2.mut (r' := .k true (kDrop kvs y')) e1 rfl e2 ⟨p, _, rfl, upd_same, g2.drop y', g3, g4, g5⟩) s2.bb q2
/-- a list or dict of one's own is a datum from here on -/
def frzR (r : R) (k : R → Prop) : Prop := match r with
  | .l true ds => k (.s (.list ds))
  | .k true kvs => k (.s (.dict (kvD kvs)))
  | r => k r
def wFrzS (i : Nat) (v : SW) : SW := fun ρ E => ∃ r, ρ[i]? = some (some r) ∧ frzR r fun r' => v (ρ.set i (some r')) E
theorem pds_frz {i : Nat} (h : PSD X W st v) : PSD X W st (wFrzS i v) := ps_imp h fun D σ H ⟨G, B0, H0, B, ρ, E, S, ⟨r, e1, q⟩, l⟩ => by
  have same : ρ.set i (some r) = ρ := List.ext_getElem? fun j => by
    by_cases z : i = j
    · subst z
      rw [List.getElem?_set_self (List.getElem?_eq_some_iff.mp e1).1, e1]
    · rw [List.getElem?_set_ne z]
  match r, e1, q, same with
  | .l true ds, e1, q, _ =>
    obtain ⟨B', S', s⟩ := S.freeze e1
    exact ⟨G, B0, H0, B', _, E, S', q, l.up s⟩
  | .k true ds, e1, q, _ =>
    obtain ⟨B', S', s⟩ := S.freezeK e1
    exact ⟨G, B0, H0, B', _, E, S', q, l.up s⟩
  | .l false ds, e1, q, same => exact ⟨G, B0, H0, B, ρ, E, S, by have q' : v (ρ.set i (some (.l false ds))) E := q; rw [same] at q'; exact q', l⟩
  | .k false ds, e1, q, same => exact ⟨G, B0, H0, B, ρ, E, S, by have q' : v (ρ.set i (some (.k false ds))) E := q; rw [same] at q'; exact q', l⟩
  | .t o ds, e1, q, same => exact ⟨G, B0, H0, B, ρ, E, S, by have q' : v (ρ.set i (some (.t o ds))) E := q; rw [same] at q'; exact q', l⟩
  | .s d, e1, q, same => exact ⟨G, B0, H0, B, ρ, E, S, by have q' : v (ρ.set i (some (.s d))) E := q; rw [same] at q'; exact q', l⟩
  | .g, e1, q, same => exact ⟨G, B0, H0, B, ρ, E, S, by have q' : v (ρ.set i (some .g)) E := q; rw [same] at q'; exact q', l⟩
/-- a name given back: what was one's own is the caller's -/
def wRetS (i : Nat) : SW := fun ρ E => ∃ r, ρ[i]? = some (some r) ∧ E.rt r
theorem SlotR.giv {K : Frag} {G : Gh} {B0 H0 B H : Hp} {x : V} {r : R} (h : SlotR K G B0 H0 B H x r) (s : Stp G B0 H0 B H) : Rs K G H0 B H x r := by
  match r, h with
  | .s d, h => exact h
  | .l false ds, ⟨p, xs, e, h1, h2⟩ => exact ⟨p, xs, e, s.hh _ _ h1, h2, fun o => by cases o⟩
  | .l true ds, ⟨p, xs, e, h1, h2, h3, h4, h5⟩ => exact ⟨p, xs, e, by rw [hide_out h4]; exact h1, h2, fun _ => ⟨h3, h5⟩⟩
  | .k false ds, ⟨p, xs, e, h1, h2⟩ => exact ⟨p, xs, e, s.hh _ _ h1, h2, fun o => by cases o⟩
  | .k true ds, ⟨p, xs, e, h1, h2, h3, h4, h5⟩ => exact ⟨p, xs, e, by rw [hide_out h4]; exact h1, h2, fun _ => ⟨h3, h5⟩⟩
  | .t false ds, ⟨p, xs, e, h1, h2⟩ => exact ⟨p, xs, e, s.hh _ _ h1, h2, fun o => by cases o⟩
  | .t true ds, ⟨p, xs, e, h1, h2, h3, h4, h5⟩ => exact ⟨p, xs, e, by rw [hide_out h4]; exact h1, h2, fun _ => ⟨h3, h5⟩⟩
  | .g, h => exact h
theorem pds_retS {i : Nat} (h : PS X st (tRet (tVar i))) : PSD X W st (wRetS i) := ps_imp h fun D σ H ⟨G, B0, H0, B, ρ, E, S, ⟨r, e1, q⟩, l⟩ => by
  obtain ⟨x, e2, sx⟩ := S.sl i _ e1
  exact ⟨_, e2, l.rt _ _ _ _ S.st S.bh S.gok (sx.giv S.st) q⟩

/-! ### while -/
def wWhile (t : TW) (v : SW) : SW := fun ρ E => ∃ (P : Rho → Prop) (μ : Rho → Nat), P ρ ∧ ∀ ρ', P ρ' →
  t ρ' (fun k => if k = true then v ρ' { E with nx := fun ρ'' => P ρ'' ∧ μ ρ'' < μ ρ', ct := fun ρ'' => P ρ'' ∧ μ ρ'' < μ ρ', bk := E.nx } else E.nx ρ') (fun cls => E.er cls ρ')
theorem pds_while {body : List Stmt} (hp : PassesOwn (model X.prog X.w) X.A X.env X.xe) (hc : PDt X W e wt) (hb : PSDs X W body v) : PSD X W (.While e body [] pos) (wWhile wt v) :=
  ps_imp (ps_while hp hc hb) fun D σ H ⟨G, B0, H0, B, ρ, E, S, ⟨P, μ, p0, q⟩, l⟩ => by
    refine ⟨fun m σ H => ∃ B' ρ', m = μ ρ' ∧ Stt X.K G B0 H0 B' H σ ρ' ∧ Same B B' ∧ P ρ', ⟨_, B, ρ, rfl, S, Same.refl _, p0⟩, ?_⟩
    rintro m σ1 H1 ⟨B1, ρ1, rfl, S1, s1, p1⟩
    refine ⟨G, B0, H0, B1, ρ1, _, _, S1, q ρ1 p1, fun k B2 H2 S2 s2 q2 => ?_, fun cls d B' H' q' S' s => l.er cls d ρ1 σ1 B' H' S' (s1.trans s.bb) q'⟩
    cases k with
    | false => exact iteF (l.nx _ _ _ _ S2 (s1.trans s2.bb) ((if_neg Bool.false_ne_true).mp q2))
    | true =>
      refine iteT ⟨fun σ' H' => ∃ m', m' < μ ρ1 ∧ ∃ B' ρ', m' = μ ρ' ∧ Stt X.K G B0 H0 B' H' σ' ρ' ∧ Same B B' ∧ P ρ', fun σ' H' z => z, G, B0, H0, B2, ρ1, _, S2, (if_pos rfl).mp q2, ?_⟩
      have s12 := s1.trans s2.bb
      exact ⟨fun ρ' σ' B' H' S' s ⟨p', lt⟩ => ⟨_, lt, B', ρ', rfl, S', s12.trans s, p'⟩, fun ρ' σ' B' H' S' s q' => l.nx _ _ _ _ S' (s12.trans s) q', fun ρ' σ' B' H' S' s ⟨p', lt⟩ => ⟨_, lt, B', ρ', rfl, S', s12.trans s, p'⟩, l.rt,
        fun cls d ρ' σ' B' H' S' s q' => l.er cls d ρ' σ' B' H' S' (s12.trans s) q'⟩

/-! ### raise, try -/
def wRaise (C : Value) : SW := fun ρ E => E.er C ρ
theorem pds_raise {C : Addr} (tk : Takes X W) (h : PMk X e (fun _ H Q => Q (.ref C) none H)) (hc : X.calm = true) : PSD X W (.Raise (some e) none pos) (wRaise (.ref C)) := ps_imp (ps_raise hc tk h) fun D σ H ⟨G, B0, H0, B, ρ, E, S, q, l⟩ =>
  l.er _ _ _ _ _ _ S (Same.refl _) q

def W0 : WX := fun _ _ _ _ => False
/-- the clauses, one after the other -/
def wHand (K : Frag) : List (Value × SW) → DEnds → Value → Rho → Prop
  | [], E, cls, ρ => E.er cls ρ
  | (c, wh) :: r, E, cls, ρ => ∃ b, PySem.W.exmOne K cls c = some b ∧ (b = true → wh ρ { E with er := fun _ _ => False }) ∧ (b = false → wHand K r E cls ρ)
def wTry (K : Frag) (wb : SW) (hs : List (Value × SW)) : SW := fun ρ E => wb ρ { E with er := wHand K hs E }
def suites (K : Frag) (hs : List (Value × SW)) : List (Value × (Addr → Value → Option Addr → TS)) := hs.map fun p => (p.1, fun _ _ _ => TDs K W0 p.2)
theorem hand_ok {K : Frag} {G : Gh} {B0 H0 B B' H' : Hp} {E : DEnds} {D : Ends} {cls : Value} {d : Option Addr} {σ' : L2.St} {ρ' : Rho} (l : Links K W G B0 H0 B E D) (S : Stt K G B0 H0 B' H' σ' ρ') (s : Same B B') :
    ∀ hs : List (Value × SW), wHand K hs E cls ρ' → wMany K W D (suites K hs) cls d σ' H'
  | [], q => l.er cls d ρ' σ' B' H' S s q
  | (c, wh) :: r, ⟨b, e, h1, h2⟩ => ⟨b, e, fun z a ha => ⟨G, B0, H0, B', ρ', _, S, h1 z, ⟨(l.up s).nx, (l.up s).bk, (l.up s).ct, l.rt, fun _ _ _ _ _ _ _ _ q => q.elim⟩⟩, fun z => hand_ok l S s r (h2 z)⟩
theorem pds_try {body : List Stmt} {h₀ : ExceptHandler} {hds : List ExceptHandler} {hs : List (Value × SW)} (h1 : X.stack = X.env :: X.outer) (h2 : X.env.frame = some X.env.locals) (tk : Takes X W)
    (hb : ∀ (W' : WX) (pn : List (Addr × Obj)) (xe : Value → Shared → Prop), Takes (X.tr pn xe) W' → PassesOwn (model X.prog X.w) X.A X.env xe → PSDs (X.tr pn xe) W' body v)
    (hh : HdsOk X (h₀ :: hds) (suites X.K hs)) : PSD X W (.Try body (h₀ :: hds) [] [] pos) (wTry X.K v hs) :=
  ps_imp (ps_try_many (tb := fun W' => TDs X.K W' v) h1 h2 tk hb hh) fun D σ H ⟨G, B0, H0, B, ρ, E, S, q, l⟩ =>
    ⟨G, B0, H0, B, ρ, _, S, q, ⟨l.nx, l.bk, l.ct, l.rt, fun cls d ρ' σ' B' H' S' s q' => hand_ok l S' s hs q'⟩⟩
end

/-! ### defs -/
abbrev Ct := List R → (R → Prop) → (Value → Prop) → Prop
def spD (K : Frag) (c : Ct) : Sp := fun vs H Q E => ∃ (G : Gh) (F : Hp) (rs : List R) (Qd : R → Prop) (Qe : Value → Prop), Same F (hide G H) ∧ G.ok H ∧ RsAll K G H F H vs (rs.map peek) ∧ c (rs.map peek) Qd Qe ∧
  (∀ r x F' H', Stp G F H F' H' → Same F' (hide G H') → G.ok H' → Rs K G H F' H' x r → Qd r → Q x H') ∧ (∀ cls d F' H', Stp G F H F' H' → Same F' (hide G H') → G.ok H' → Qe cls → E cls d H')
theorem RsAll.length {K : Frag} {G : Gh} {H B' H' : Hp} : ∀ {xs : List V} {rs : List R}, RsAll K G H B' H' xs rs → xs.length = rs.length
  | _, _, .nil => rfl
  | _, _, .cons _ t => congrArg (· + 1) (RsAll.length t)
theorem peek_peek : ∀ r : R, peek (peek r) = peek r
  | .s _ => rfl
  | .l _ _ => rfl
  | .k _ _ => rfl
  | .t _ _ => rfl
  | .g => rfl
theorem owns_peek : ∀ r : R, owns (peek r) = false
  | .s _ => rfl
  | .l _ _ => rfl
  | .k _ _ => rfl
  | .t _ _ => rfl
  | .g => rfl
def rho (n : Nat) (rs : List R) : Rho := rs.map some ++ List.replicate (n - rs.length) none
theorem stt_start {K : Frag} {G : Gh} {F H : Hp} {N : List Str} {vs : List V} {rs : List R} (s : Same F (hide G H)) (g : G.ok H) (r : RsAll K G H F H vs (rs.map peek)) : Stt K G F H F H (L2.start N vs) (rho N.length (rs.map peek)) := by
  have hl := r.length
  refine ⟨by unfold L2.start rho; simp [hl], s, g, Stp.refl .., fun i u e => ?_, fun i j u v x _ e1 _ o _ _ _ => ?_⟩
  · have hi : i < (rs.map peek).length := by
      by_cases q : i < (rs.map peek).length
      · exact q
      · exfalso
        unfold rho at e
        rw [List.getElem?_append_right (by simpa using q)] at e
        have := List.mem_of_getElem? e
        have := List.eq_of_mem_replicate this
        cases this
    unfold rho at e
    rw [List.getElem?_append_left (by simpa using hi)] at e
    have e' : (rs.map peek)[i]? = some u := by
      rw [List.getElem?_map] at e
      cases q : (rs.map peek)[i]? with
      | none => rw [q] at e; cases e
      | some z => rw [q] at e; cases e; rfl
    obtain ⟨y, h1, h2⟩ := r.get e'
    refine ⟨y, ?_, ?_⟩
    · unfold L2.start
      rw [List.getElem?_append_left (by rw [List.length_map, hl]; exact hi), List.getElem?_map, h1]
      rfl
    · have eu : peek u = u := by
        rw [List.getElem?_map] at e'
        cases q : rs[i]? with
        | none => rw [q] at e'; cases e'
        | some z => rw [q] at e'; cases e'; exact peek_peek z
      rw [← eu] at h2 ⊢
      cases u with
      | s d => exact h2
      | l o ds => obtain ⟨p, xs, e1, e2, e3, _⟩ := h2; exact ⟨p, xs, e1, e2, e3⟩
      | k o ds => obtain ⟨p, xs, e1, e2, e3, _⟩ := h2; exact ⟨p, xs, e1, e2, e3⟩
      | t o ds => obtain ⟨p, xs, e1, e2, e3, _⟩ := h2; exact ⟨p, xs, e1, e2, e3⟩
      | g => exact h2
  · exfalso
    have hm : some u ∈ rho N.length (rs.map peek) := List.mem_of_getElem? e1
    unfold rho at hm
    rcases List.mem_append.mp hm with z | z
    · obtain ⟨a, h1, h2⟩ := List.mem_map.mp z
      obtain ⟨b, h3, h4⟩ := List.mem_map.mp h1
      cases h2
      rw [← h4, owns_peek] at o
      cases o
    · exact nomatch List.eq_of_mem_replicate z
theorem fnD {P : Program} {wd : World} {K : Frag} {mg : Str → Option Value} {base : Heap} {x qual : Str} {st : Stmt} {f : Addr} {fd : FuncData} {N ps : List Str} {k : Nat} {c : Ct} {w : SW} (F : Fun K x qual st f fd) (S : FnScope N ps (defScope st))
    (hlen : ∀ rs Q E, c rs Q E → rs.length = ps.length)
    (hb : ∀ (cdv : Value) (A : Around) (outer : List Env) (s : Shared) (H : Hp) (E : XK), Room k (A.deeper (envOfC qual (defScope st) s.heap.objs.size f cdv)) →
      PSDs (cxOf (L2.CX P wd) P wd K mg base N qual (defScope st) f cdv A outer s H E) (fun cls d _ H => E cls d H) (defBody st) w)
    (hw : ∀ rs Q E, c rs Q E → w (rho N.length rs) { nx := fun _ => Q (.s .none), rt := Q, er := fun cls _ => E cls }) : FnOk P wd K mg base (L2.CX P wd) (k + 1) f fd ps (spD K c) := by
  refine F.okX S (fun vs H Q E h => ?_) (fun cdv A outer s H vs Q E hr h => ?_)
  · obtain ⟨G, F', rs, Qd, Qe, _, _, h1, h2, _⟩ := h
    exact h1.length.trans (hlen _ _ _ h2)
  · obtain ⟨G, F', rs, Qd, Qe, s0, g0, h1, h2, ok, er⟩ := h
    refine ⟨_, hb cdv A outer s H E hr, G, F', H, F', _, _, stt_start s0 g0 h1, hw _ _ _ h2, ?_⟩
    exact ⟨fun ρ' σ' B' H' S' s q => ok (.s .none) .non B' H' S'.st S'.bh S'.gok .non q, fun _ _ _ _ _ _ q => q.elim, fun _ _ _ _ _ _ q => q.elim, fun r x B' H' s b g r' q => ok r x B' H' s b g r' q, fun cls d ρ' σ' B' H' S' s q => er cls d B' H' S'.st S'.bh S'.gok q⟩

/-! ### a call -/
def wCall (c : Ct) (ws : AW) : EW := fun ρ Q E => ws ρ (fun rs => c (rs.map peek) Q E) E
theorem RsAll.peek {K : Frag} {G : Gh} {H H1 B' H' : Hp} : ∀ {xs : List V} {rs : List R}, RsAll K G H B' H' xs rs → RsAll K G H1 B' H' xs (rs.map DL.peek)
  | _, _, .nil => .nil
  | _, _, .cons (r := r) h t => .cons (by
    cases r with
    | s d => exact h
    | l o ds => obtain ⟨p, xs, e1, e2, e3, _⟩ := h; exact ⟨p, xs, e1, e2, e3, fun z => by cases z⟩
    | k o ds => obtain ⟨p, xs, e1, e2, e3, _⟩ := h; exact ⟨p, xs, e1, e2, e3, fun z => by cases z⟩
    | t o ds => obtain ⟨p, xs, e1, e2, e3, _⟩ := h; exact ⟨p, xs, e1, e2, e3, fun z => by cases z⟩
    | g => exact h) (RsAll.peek t)
theorem pd_call {X : Cx} {W : WX} {e : Expr} {c : Ct} {ws : AW} (h : PE X e (tCallS (spD X.K c) (WE W) (TDa X.K W ws))) : PD X W e (wCall c ws) :=
  pe_imp h fun σ H Q ⟨G, B0, H0, B, ρ, Qd, Qe, S, q, ok, er⟩ => by
    refine ⟨G, B0, H0, B, ρ, _, Qe, S, q, fun rs xs B1 H1 S1 s1 r1 _ q1 => ?_, er⟩
    exact ⟨G, B1, rs, Qd, Qe, S1.bh, S1.gok, r1.peek, q1, fun r x F' H' s b g r' q' => ok r x F' H' (S1.step s b g) (s1.trans s) (r'.from s1) q', fun cls d F' H' s b g q' => er cls d F' H' q' (S1.step s b g) (s1.trans s)⟩
end DL

set_option Elab.async false
set_option linter.all false
set_option maxRecDepth 100000
/-! The data layer: what is walked; for; comprehensions. -/
namespace DL
open PySem PySem.Spec PyProof.Rows L2

/-- what an iterator gives, as long as Later holds -/
structure ItD (K : Frag) (G : Gh) (Later : Hp → Hp → Prop) (J : It) (ds : List D) : Prop where
  go : ∀ i B H, Later B H → i < ds.length → J.go i H
  stop : ∀ B H, Later B H → J.stop ds.length H
  yld : ∀ i B H x H', Later B H → i < ds.length → J.yld i H x H' → ∃ d B', ds[i]? = some d ∧ Dp K B' x d ∧ Stp G B H B' H' ∧ Same B' (hide G H') ∧ G.ok H'
/-- later in an expression; later in a def's body -/
def LatC (G : Gh) (B1 H1 B H : Hp) : Prop := Stp G B1 H1 B H ∧ Same B (hide G H) ∧ G.ok H
def LatF (G : Gh) (B0 H0 B1 B H : Hp) : Prop := Same B1 B ∧ Same B (hide G H) ∧ G.ok H ∧ Stp G B0 H0 B H
abbrev IW := Rho → (List D → Prop) → (Value → Prop) → Prop
def TDiC (K : Frag) (W : WX) (w : IW) : TI := fun σ H Q => ∃ (G : Gh) (B0 H0 B : Hp) (ρ : Rho) (Qd : List D → Prop) (Qe : Value → Prop), Stt K G B0 H0 B H σ ρ ∧ w ρ Qd Qe ∧
  (∀ ds J B' H', Stt K G B0 H0 B' H' σ ρ → Stp G B H B' H' → ItD K G (LatC G B' H') J ds → Qd ds → Q J H') ∧ (∀ cls d B' H', Qe cls → Stt K G B0 H0 B' H' σ ρ → Stp G B H B' H' → W cls d σ H')
def TDiF (K : Frag) (W : WX) (w : IW) : TI := fun σ H Q => ∃ (G : Gh) (B0 H0 B : Hp) (ρ : Rho) (Qd : List D → Prop) (Qe : Value → Prop), Stt K G B0 H0 B H σ ρ ∧ w ρ Qd Qe ∧
  (∀ ds J B' H', Stt K G B0 H0 B' H' σ ρ → Stp G B H B' H' → ItD K G (LatF G B0 H0 B') J ds → Qd ds → Q J H') ∧ (∀ cls d B' H', Qe cls → Stt K G B0 H0 B' H' σ ρ → Stp G B H B' H' → W cls d σ H')
abbrev PIC (X : Cx) (W : WX) (tg e : Expr) (w : IW) : Prop := PI X tg e (TDiC X.K W w)
abbrev PIF (X : Cx) (W : WX) (tg e : Expr) (w : IW) : Prop := PI X tg e (TDiF X.K W w)
theorem pi_imp {X : Cx} {tg e : Expr} {t t' : TI} (h : PI X tg e t) (i : ∀ σ H Q, t' σ H Q → t σ H Q) : PI X tg e t' := ⟨fun pins s σ H Q I q => h.run pins s σ H Q I (i _ _ _ q)⟩
/-- a list or a tuple -/
def iAny (K : Frag) (tl : TE) : TI := fun σ H R => tl σ H fun x H1 => ∃ a, x = .ref a ∧ (((∃ xs, SqL K H1 a xs) ∧ R (Itl K a) H1) ∨ ((∃ xs, SqT K H1 a xs) ∧ R (Itt K a) H1))
theorem pi_any {X : Cx} {tg l : Expr} {tl : TE} (hl : PE X l tl) : PI X tg l (iAny X.K tl) := by
  refine ⟨fun pins s σ H R I h => ?_⟩
  refine thn (hl.run pins s σ H _ I h) fun v s1 ⟨x, H1, I1, r1, q1⟩ => ?_
  obtain ⟨a, e, q1⟩ := q1
  subst e
  cases r1
  have fp : ∀ b ∈ [s1.heap.objs.size], FpOk X pins H1 b := fun b hb => by
    have e : b = s1.heap.objs.size := by simpa using hb
    subst e
    exact I1.fpOk (Nat.le_refl _) (I1.hok.fresh (Nat.le_refl _))
  rcases q1 with ⟨⟨xs, hq⟩, q⟩ | ⟨⟨xs, hq⟩, q⟩
  · obtain ⟨its, rv, p, hz⟩ := I1.list hq
    refine wpAny_pyIter_list p.isList ?_
    exact ⟨s1.heap.objs.size, [s1.heap.objs.size], _, _, H1, rfl, I1.kept (t' := s1.toks) fun b o e => Heap.get?_push_of_some _ e, turn_list a _, ⟨_, Heap.get?_push_size _ rfl, rfl, rfl⟩, fp, q⟩
  · obtain ⟨its, rv, p, hz⟩ := I1.tuple hq
    refine wpAny_pyIter_tuple (show s1.heap.IsTuple a its.toArray from p) ?_
    exact ⟨s1.heap.objs.size, [s1.heap.objs.size], _, _, H1, rfl, I1.kept (t' := s1.toks) fun b o e => Heap.get?_push_of_some _ e, turn_tuple a _, ⟨_, Heap.get?_push_size _ rfl, rfl, rfl⟩, fp, q⟩
section
variable {K : Frag} {G : Gh} {Later : Hp → Hp → Prop}
theorem itd_list {a : Addr} {xs : List V} {ds : List D} (h : ∀ B H, Later B H → SqL K H a xs ∧ DpAll K B xs ds ∧ Same B (hide G H) ∧ G.ok H) : ItD K G Later (Itl K a) ds := by
  refine ⟨fun i B H l hi => ?_, fun B H l => ?_, fun i B H x H' l hi y => ?_⟩
  · obtain ⟨h1, h2, _⟩ := h B H l
    have : i < xs.length := by rw [h2.length]; exact hi
    exact ⟨xs, xs[i], h1, by simp [this]⟩
  · obtain ⟨h1, h2, _⟩ := h B H l
    exact ⟨xs, h1, by rw [h2.length]; exact Nat.le_refl _⟩
  · obtain ⟨h1, h2, h3, h4⟩ := h B H l
    obtain ⟨rfl, y⟩ := y
    obtain ⟨d, e1, e2⟩ := h2.get' (y xs h1)
    exact ⟨d, B, e1, e2, Stp.refl .., h3, h4⟩
theorem itd_tup {a : Addr} {xs : List V} {ds : List D} (h : ∀ B H, Later B H → SqT K H a xs ∧ DpAll K B xs ds ∧ Same B (hide G H) ∧ G.ok H) : ItD K G Later (Itt K a) ds := by
  refine ⟨fun i B H l hi => ?_, fun B H l => ?_, fun i B H x H' l hi y => ?_⟩
  · obtain ⟨h1, h2, _⟩ := h B H l
    have : i < xs.length := by rw [h2.length]; exact hi
    exact ⟨xs, xs[i], h1, by simp [this]⟩
  · obtain ⟨h1, h2, _⟩ := h B H l
    exact ⟨xs, h1, by rw [h2.length]; exact Nat.le_refl _⟩
  · obtain ⟨h1, h2, h3, h4⟩ := h B H l
    obtain ⟨rfl, y⟩ := y
    obtain ⟨d, e1, e2⟩ := h2.get' (y xs h1)
    exact ⟨d, B, e1, e2, Stp.refl .., h3, h4⟩
def rangeD (lo : Int) (n : Nat) : List D := (List.range n).map fun k : Nat => PyData.int (lo + (k : Int))
theorem itd_range {lo : Int} {n : Nat} (h : ∀ B H, Later B H → Same B (hide G H) ∧ G.ok H) : ItD K G Later (Itr lo n) (rangeD lo n) := by
  have hl : (rangeD lo n).length = n := by simp [rangeD]
  refine ⟨fun i B H l hi => by rw [hl] at hi; exact hi, fun B H l => by rw [hl]; exact Nat.le_refl _, fun i B H x H' l hi y => ?_⟩
  obtain ⟨h3, h4⟩ := h B H l
  obtain ⟨rfl, rfl⟩ := y
  rw [hl] at hi
  exact ⟨.int (lo + i), B, by simp [rangeD, hi], .int _, Stp.refl .., h3, h4⟩
end
def wSeqC (w : EW) : IW := fun ρ Q E => w ρ (fun r => ∃ ds, r.seq = some ds ∧ Q ds) E
/-- a list or tuple that stands for good -/
def R.stab : R → Option (List D)
  | .s (.list xs) => some xs
  | .s (.tuple xs) => some xs
  | _ => none
def wSeqF (w : EW) : IW := fun ρ Q E => w ρ (fun r => ∃ ds, r.stab = some ds ∧ Q ds) E
section
variable {X : Cx} {W : WX} {tg e a b : Expr} {w : EW} {ws : AW} {wi : IW}
theorem pic_seq (h : PD X W e w) : PIC X W tg e (wSeqC w) := pi_imp (pi_any h) fun σ H Q ⟨G, B0, H0, B, ρ, Qd, Qe, S, q, ok, er⟩ => by
  refine ⟨G, B0, H0, B, ρ, _, Qe, S, q, fun r x B' H' S' s r' q' => ?_, er⟩
  obtain ⟨ds, e1, q'⟩ := q'
  cases r with
  | s d =>
    cases d with
    | list es =>
      cases e1
      cases (show Dp X.K B' x (.list ds) from r') with
      | lst h1 h2 =>
        exact ⟨_, rfl, .inl ⟨⟨_, Same.sqL (S'.bh.trans (hide_le H')) h1⟩, ok _ _ _ _ S' s (itd_list fun B2 H2 ⟨l1, l2, l3⟩ => ⟨Same.sqL (l2.trans (hide_le H2)) (Same.sqL l1.bb h1), DpAll.mono l1.bb h2, l2, l3⟩) q'⟩⟩
    | tuple es =>
      cases e1
      cases (show Dp X.K B' x (.tuple ds) from r') with
      | tup h1 h2 =>
        exact ⟨_, rfl, .inr ⟨⟨_, Same.sqT (S'.bh.trans (hide_le H')) h1.t⟩, ok _ _ _ _ S' s (itd_tup fun B2 H2 ⟨l1, l2, l3⟩ => ⟨Same.sqT (l2.trans (hide_le H2)) (Same.sqT l1.bb h1.t), DpAll.mono l1.bb h2, l2, l3⟩) q'⟩⟩
    | _ => cases e1
  | l own es =>
    cases e1
    obtain ⟨p, xs, rfl, h1, h2, _⟩ := r'
    exact ⟨p, rfl, .inl ⟨⟨xs, .inl (.inl (hide_some h1).2)⟩, ok _ _ _ _ S' s (itd_list fun B2 H2 ⟨l1, l2, l3⟩ => ⟨.inl (.inl (hide_some (l1.hh _ _ h1)).2), DpAll.mono l1.bb h2, l2, l3⟩) q'⟩⟩
  | _ => cases e1
theorem pif_seq (h : PD X W e w) : PIF X W tg e (wSeqF w) := pi_imp (pi_any h) fun σ H Q ⟨G, B0, H0, B, ρ, Qd, Qe, S, q, ok, er⟩ => by
  refine ⟨G, B0, H0, B, ρ, _, Qe, S, q, fun r x B' H' S' s r' q' => ?_, er⟩
  obtain ⟨ds, e1, q'⟩ := q'
  cases r with
  | s d =>
    cases d with
    | list es =>
      cases e1
      cases (show Dp X.K B' x (.list ds) from r') with
      | lst h1 h2 =>
        exact ⟨_, rfl, .inl ⟨⟨_, Same.sqL (S'.bh.trans (hide_le H')) h1⟩, ok _ _ _ _ S' s (itd_list fun B2 H2 ⟨l1, l2, l3, _⟩ => ⟨Same.sqL (l2.trans (hide_le H2)) (Same.sqL l1 h1), DpAll.mono l1 h2, l2, l3⟩) q'⟩⟩
    | tuple es =>
      cases e1
      cases (show Dp X.K B' x (.tuple ds) from r') with
      | tup h1 h2 =>
        exact ⟨_, rfl, .inr ⟨⟨_, Same.sqT (S'.bh.trans (hide_le H')) h1.t⟩, ok _ _ _ _ S' s (itd_tup fun B2 H2 ⟨l1, l2, l3, _⟩ => ⟨Same.sqT (l2.trans (hide_le H2)) (Same.sqT l1 h1.t), DpAll.mono l1 h2, l2, l3⟩) q'⟩⟩
    | _ => cases e1
  | _ => cases e1
/-- a parameter that is a list -/
def wParF (i : Nat) : IW := fun ρ Q _ => ∃ ds, ρ[i]? = some (some (.l false ds)) ∧ Q ds
theorem pif_par {i : Nat} (h : PE X e (tVar i)) : PIF X W tg e (wParF i) := pi_imp (pi_any h) fun σ H Q ⟨G, B0, H0, B, ρ, Qd, Qe, S, ⟨ds, e1, q⟩, ok, er⟩ => by
  obtain ⟨x, e2, ⟨p, xs, ex, h1, h2⟩⟩ := S.sl i _ e1
  subst ex
  exact ⟨_, e2, p, rfl, .inl ⟨⟨xs, .inl (.inl (hide_some (S.st.hh _ _ h1)).2)⟩, ok _ _ _ _ S (Stp.refl ..) (itd_list fun B2 H2 ⟨l1, l2, l3, l4⟩ => ⟨.inl (.inl (hide_some (l4.hh _ _ h1)).2), DpAll.mono l1 h2, l2, l3⟩) q⟩⟩
/-- range(n), range(a, b) -/
def wRange1 (ws : AW) : IW := fun ρ Q E => ws ρ (fun rs => ∃ n, rs = [.s (.int n)] ∧ -(2 ^ 62) ≤ n ∧ n < 2 ^ 62 ∧ Q (rangeD 0 n.toNat)) E
def wRange2 (ws : AW) : IW := fun ρ Q E => ws ρ (fun rs => ∃ m n, rs = [.s (.int m), .s (.int n)] ∧ (-(2 ^ 62) ≤ m ∧ m < 2 ^ 62 ∧ -(2 ^ 62) ≤ n ∧ n < 2 ^ 62) ∧ Q (rangeD m (n - m).toNat)) E
theorem pic_range1 (h : PI X tg e (iRng1 (TDa X.K W ws))) : PIC X W tg e (wRange1 ws) := pi_imp h fun σ H Q ⟨G, B0, H0, B, ρ, Qd, Qe, S, q, ok, er⟩ => by
  refine ⟨G, B0, H0, B, ρ, _, Qe, S, q, fun rs xs B' H' S' s r' _ q' => ?_, er⟩
  obtain ⟨n, rfl, h1, h2, q'⟩ := q'
  obtain ⟨x, rfl, r1⟩ := r'.one
  cases r1.int
  exact ⟨n, rfl, h1, h2, ok _ _ _ _ S' s (itd_range fun B2 H2 ⟨_, l2, l3⟩ => ⟨l2, l3⟩) q'⟩
theorem pic_range2 (h : PI X tg e (iRng2 (TDa X.K W ws))) : PIC X W tg e (wRange2 ws) := pi_imp h fun σ H Q ⟨G, B0, H0, B, ρ, Qd, Qe, S, q, ok, er⟩ => by
  refine ⟨G, B0, H0, B, ρ, _, Qe, S, q, fun rs xs B' H' S' s r' _ q' => ?_, er⟩
  obtain ⟨m, n, rfl, h1, q'⟩ := q'
  obtain ⟨x, y, rfl, r1, r2⟩ := r'.two
  cases r1.int; cases r2.int
  exact ⟨m, n, rfl, h1, ok _ _ _ _ S' s (itd_range fun B2 H2 ⟨_, l2, l3⟩ => ⟨l2, l3⟩) q'⟩
theorem pif_range1 (h : PI X tg e (iRng1 (TDa X.K W ws))) : PIF X W tg e (wRange1 ws) := pi_imp h fun σ H Q ⟨G, B0, H0, B, ρ, Qd, Qe, S, q, ok, er⟩ => by
  refine ⟨G, B0, H0, B, ρ, _, Qe, S, q, fun rs xs B' H' S' s r' _ q' => ?_, er⟩
  obtain ⟨n, rfl, h1, h2, q'⟩ := q'
  obtain ⟨x, rfl, r1⟩ := r'.one
  cases r1.int
  exact ⟨n, rfl, h1, h2, ok _ _ _ _ S' s (itd_range fun B2 H2 ⟨_, l2, l3, _⟩ => ⟨l2, l3⟩) q'⟩
theorem pif_range2 (h : PI X tg e (iRng2 (TDa X.K W ws))) : PIF X W tg e (wRange2 ws) := pi_imp h fun σ H Q ⟨G, B0, H0, B, ρ, Qd, Qe, S, q, ok, er⟩ => by
  refine ⟨G, B0, H0, B, ρ, _, Qe, S, q, fun rs xs B' H' S' s r' _ q' => ?_, er⟩
  obtain ⟨m, n, rfl, h1, q'⟩ := q'
  obtain ⟨x, y, rfl, r1, r2⟩ := r'.two
  cases r1.int; cases r2.int
  exact ⟨m, n, rfl, h1, ok _ _ _ _ S' s (itd_range fun B2 H2 ⟨_, l2, l3, _⟩ => ⟨l2, l3⟩) q'⟩

/-! ### for -/
def wFor (wi : IW) (g : GW) (v : SW) : SW := fun ρ E => wi ρ (fun ds => ∃ P : Nat → Rho → Prop, P 0 ρ ∧ (∀ i d ρ', ds[i]? = some d → P i ρ' → g d ρ' fun ρ2 => v ρ2 { E with nx := P (i + 1), ct := P (i + 1), bk := E.nx }) ∧
  ∀ ρ', P ds.length ρ' → E.nx ρ') (fun cls => E.er cls ρ)
theorem pds_for {g : GW} {v : SW} {st : Stmt} (h : PS X st (tFor (TDiF X.K W wi) (TDg X.K g) (TDs X.K W v))) : PSD X W st (wFor wi g v) := ps_imp h fun D σ H ⟨G, B0, H0, B, ρ, E, S, q, l⟩ => by
  refine ⟨G, B0, H0, B, ρ, _, _, S, q, fun ds J B1 H1 S1 s1 it ⟨P, p0, turn, done⟩ => ?_, fun cls d B' H' q' S' s => l.er cls d ρ σ B' H' S' s.bb q'⟩
  refine ⟨fun i m σ H => m = ds.length - i ∧ i ≤ ds.length ∧ ∃ B' ρ', Stt X.K G B0 H0 B' H σ ρ' ∧ Same B1 B' ∧ P i ρ', ⟨_, rfl, Nat.zero_le _, B1, ρ, S1, Same.refl _, p0⟩, ?_⟩
  rintro i m σ2 H2 ⟨rfl, hi, B2, ρ2, S2, s2, p2⟩
  have lat : LatF G B0 H0 B1 B2 H2 := ⟨s2, S2.bh, S2.gok, S2.st⟩
  by_cases hlt : i < ds.length
  · refine .inr ⟨it.go i _ _ lat hlt, fun σ' H' => i + 1 ≤ ds.length ∧ ∃ B' ρ', Stt X.K G B0 H0 B' H' σ' ρ' ∧ Same B1 B' ∧ P (i + 1) ρ', fun σ' H' ⟨z1, z2⟩ => ⟨ds.length - (i + 1), by omega, rfl, z1, z2⟩, fun x H' y => ?_⟩
    obtain ⟨d, B3, e1, e2, s3, b3, g3⟩ := it.yld i _ _ x H' lat hlt y
    have S3 := S2.step s3 b3 g3
    refine ⟨G, B0, H0, B3, ρ2, d, _, S3, e2, turn i d ρ2 e1 p2, fun ρ4 σ4 B4 H4 S4 s4 q4 => ⟨G, B0, H0, B4, ρ4, _, S4, q4, ?_⟩⟩
    have s14 := (s2.trans s3.bb).trans s4
    have s04 := s1.bb.trans s14
    exact ⟨fun ρ' σ' B' H' S' s q' => ⟨hlt, B', ρ', S', s14.trans s, q'⟩, fun ρ' σ' B' H' S' s q' => l.nx _ _ _ _ S' (s04.trans s) q', fun ρ' σ' B' H' S' s q' => ⟨hlt, B', ρ', S', s14.trans s, q'⟩, l.rt, fun cls d ρ' σ' B' H' S' s q' => l.er cls d ρ' σ' B' H' S' (s04.trans s) q'⟩
  · have e : i = ds.length := by omega
    subst e
    exact .inl ⟨it.stop _ _ lat, l.nx _ _ _ _ S2 (s1.bb.trans s2) (done ρ2 p2)⟩
end
end DL

set_option Elab.async false
set_option linter.all false
set_option maxRecDepth 100000
/-! The data layer: comprehensions, built-ins. -/
namespace DL
open PySem PySem.Spec PyProof.Rows L2

def wipeR (ρ : Rho) : List Nat → Rho
  | [] => ρ
  | v :: vs => (wipeR ρ vs).set v none
/-- the targets of a comprehension: names, their slots -/
def putA (ρ : Rho) : List Nat → List D → Rho
  | i :: is, d :: ds => putA (ρ.set i (some (.s d))) is ds
  | _, _ => ρ
def putV (σ : L2.St) : List Nat → List V → L2.St
  | i :: is, x :: xs => putV (σ.set i (some x)) is xs
  | _, _ => σ
section
variable {K : Frag} {G : Gh} {B0 H0 B H B' H' : Hp} {σ : L2.St} {ρ : Rho}
theorem wipe_set {σ : L2.St} {i : Nat} {o : Option V} : ∀ {vs : List Nat}, i ∈ vs → wipe (σ.set i o) vs = wipe σ vs
  | [], h => nomatch h
  | v :: vs, h => by
    show (wipe (σ.set i o) vs).set v none = (wipe σ vs).set v none
    by_cases q : i ∈ vs
    · rw [wipe_set q]
    · have e : i = v := by
        rcases List.mem_cons.mp h with h | h
        · exact h
        · exact absurd h q
      subst e
      have key : ∀ (ws : List Nat), i ∉ ws → wipe (σ.set i o) ws = (wipe σ ws).set i o := by
        intro ws
        induction ws with
        | nil => intro _; rfl
        | cons w ws ih =>
          intro h
          have h1 : i ≠ w := fun e => h (e ▸ List.mem_cons_self)
          have h2 : i ∉ ws := fun e => h (List.mem_cons_of_mem _ e)
          show (wipe (σ.set i o) ws).set w none = ((wipe σ ws).set w none).set i o
          rw [ih h2, List.set_comm _ _ h1]
      rw [key vs q, List.set_set]
theorem wipe_wipe {σ : L2.St} {vs : List Nat} : ∀ ws : List Nat, (∀ i ∈ ws, i ∈ vs) → wipe (wipe σ ws) vs = wipe σ vs
  | [], _ => rfl
  | w :: ws, h => by
    show wipe ((wipe σ ws).set w none) vs = wipe σ vs
    rw [wipe_set (h w List.mem_cons_self), wipe_wipe ws fun i hi => h i (List.mem_cons_of_mem _ hi)]
theorem wipe_putV {σ : L2.St} {vs : List Nat} : ∀ (is : List Nat) (xs : List V) (τ : L2.St), wipe τ vs = wipe σ vs → (∀ i ∈ is, i ∈ vs) → wipe (putV τ is xs) vs = wipe σ vs
  | [], _, τ, h, _ => h
  | _ :: _, [], τ, h, _ => h
  | i :: is, x :: xs, τ, h, hi => wipe_putV is xs _ (by rw [wipe_set (hi i List.mem_cons_self)]; exact h) fun j hj => hi j (List.mem_cons_of_mem _ hj)
theorem Stt.wipe (S : Stt K G B0 H0 B H σ ρ) : ∀ vs : List Nat, Stt K G B0 H0 B H (L2.wipe σ vs) (wipeR ρ vs)
  | [] => S
  | v :: vs => by
    have T := Stt.wipe S vs
    show Stt K G B0 H0 B H ((L2.wipe σ vs).set v none) ((wipeR ρ vs).set v none)
    refine ⟨by simp [T.len], T.bh, T.gok, T.st, fun i r e => ?_, fun i j r u x hij e1 e2 o1 o2 e3 e4 => ?_⟩
    · by_cases q : i = v
      · subst q
        by_cases z : i < (wipeR ρ vs).length
        · rw [List.getElem?_set_self z] at e; cases e
        · rw [List.getElem?_eq_none (by simpa using z)] at e; cases e
      · rw [List.getElem?_set_ne (Ne.symm q)] at e ⊢
        exact T.sl i r e
    · have ne : ∀ {k : Nat} {w : R}, ((wipeR ρ vs).set v none)[k]? = some (some w) → k ≠ v := fun {k w} e q => by
        subst q
        by_cases z : k < (wipeR ρ vs).length
        · rw [List.getElem?_set_self z] at e; cases e
        · rw [List.getElem?_eq_none (by simpa using z)] at e; cases e
      have n1 := ne e1
      have n2 := ne e2
      rw [List.getElem?_set_ne (Ne.symm n1)] at e1 e3
      rw [List.getElem?_set_ne (Ne.symm n2)] at e2 e4
      exact T.dis i j r u x hij e1 e2 o1 o2 e3 e4
theorem Stt.putA : ∀ (is : List Nat) {xs : List V} {ds : List D} {σ : L2.St} {ρ : Rho}, Stt K G B0 H0 B H σ ρ → DpAll K B xs ds → (∀ i ∈ is, i < ρ.length) → Stt K G B0 H0 B H (putV σ is xs) (DL.putA ρ is ds)
  | [], _, _, _, _, S, _, _ => S
  | _ :: _, _, _, _, _, S, .nil, _ => S
  | i :: is, _, _, _, _, S, .cons h t, hi => Stt.putA is (S.put (r := .s _) rfl h i (hi i List.mem_cons_self)) t fun j hj => by
    rw [List.length_set]; exact hi j (List.mem_cons_of_mem _ hj)
/-- an object beside the slots is written -/
theorem Stt.side {p : Addr} {o : HO} (S : Stt K G B0 H0 B H σ ρ) (hb : B p = none) (hg : p ∉ G.at_) (h0 : hide G H0 p = none) (aw : ∀ (j : Nat) (r : R), ρ[j]? = some (some r) → owns r = true → σ[j]? ≠ some (some (.ref p))) :
    Stt K G B0 H0 B (upd H p o) σ ρ := by
  have hu : hide G (upd H p o) = upd (hide G H) p o := hide_upd hg
  refine ⟨S.len, fun b v e => by rw [hu, upd_ne (ne_of_none e hb)]; exact S.bh _ _ e, ghost_upd hg S.gok, ⟨S.st.bb, fun b v e => by rw [hu, upd_ne (ne_of_none e h0)]; exact S.st.hh _ _ e, S.st.nw⟩, fun j v e => ?_, S.dis⟩
  obtain ⟨y, g1, g2⟩ := S.sl j v e
  refine ⟨y, g1, ?_⟩
  have ne : ∀ q, y = .ref q → owns v = true → q ≠ p := fun q ey ov eqp => by
    subst ey; subst eqp
    exact aw j v e ov g1
  match v, g2, ne with
  | .s d, g2, _ => exact g2
  | .l false ds, g2, _ => exact g2
  | .l true ds, ⟨q, xs, e, k1, k2, k3, k4, k5⟩, ne => exact ⟨q, xs, e, by rw [upd_ne (ne q e rfl)]; exact k1, k2, k3, k4, k5⟩
  | .k false ds, g2, _ => exact g2
  | .k true ds, ⟨q, xs, e, k1, k2, k3, k4, k5⟩, ne => exact ⟨q, xs, e, by rw [upd_ne (ne q e rfl)]; exact k1, k2, k3, k4, k5⟩
  | .t false ds, g2, _ => exact g2
  | .t true ds, ⟨q, xs, e, k1, k2, k3, k4, k5⟩, ne => exact ⟨q, xs, e, by rw [upd_ne (ne q e rfl)]; exact k1, k2, k3, k4, k5⟩
  | .g, g2, _ => exact g2
end

/-! ### comprehensions -/
/-- a target that is one name, or a tuple of names -/
def gNames : List Nat → TGs
  | [] => gNil
  | i :: is => gCons (gName i) (gNames is)
def gwNames (tup : Bool) (is : List Nat) (d : D) (Q : List D → Prop) : Prop := if tup = true then ∃ ds, d = .tuple ds ∧ ds.length = is.length ∧ Q ds else Q [d]
def gC (K : Frag) (tup : Bool) (is : List Nat) : TG := match tup with
  | true => gTup K is.length (gNames is)
  | false => match is with
    | [i] => gName i
    | _ => fun _ _ _ _ => False
theorem gNames_ok : ∀ (is : List Nat) (xs : List V) (σ : L2.St) (H : Hp) (Q : L2.St → Hp → Prop), xs.length = is.length → Q (putV σ is xs) H → gNames is xs σ H Q
  | [], [], _, _, _, _, q => ⟨rfl, q⟩
  | [], _ :: _, _, _, _, e, _ => by cases e
  | _ :: _, [], _, _, _, e, _ => by cases e
  | i :: is, x :: xs, σ, H, Q, e, q => ⟨x, xs, rfl, gNames_ok is xs _ H Q (by simpa using e) q⟩
abbrev PDts (X : Cx) (ifs : List Expr) (wt : TW) : Prop := PTs X ifs (TDt X.K W0 wt)
def wYes : TW := fun _ Q _ => Q true
theorem pts_imp {X : Cx} {ifs : List Expr} {t t' : TT} (h : PTs X ifs t) (i : ∀ σ H Q, t' σ H Q → t σ H Q) : PTs X ifs t' := ⟨fun pins s σ H Q I q => h.run pins s σ H Q I (i _ _ _ q)⟩
theorem pdts_nil {X : Cx} : PDts X [] wYes := pts_imp pts_nil fun σ H Q ⟨G, B0, H0, B, ρ, Qd, Qe, S, q, ok, er⟩ => ok true _ _ S (Stp.refl ..) q
theorem pdts_one {X : Cx} {c : Expr} {wt : TW} (h : PDt X W0 c wt) : PDts X [c] wt := pts_one h
/-- [elt for names in wi if wt] -/
def wLc (wi : IW) (tup : Bool) (is vs : List Nat) (wt : TW) (we : EW) : EW := fun ρ Q E => wi ρ (fun ds => ∃ P : Nat → List D → Prop, P 0 [] ∧
  (∀ k acc d, ds[k]? = some d → P k acc → gwNames tup is d fun es => (∀ i ∈ is, i < ρ.length) ∧ wt (putA (wipeR ρ vs) is es) (fun b => if b = true then we (putA (wipeR ρ vs) is es) (fun r => ∃ z, r.dat = some z ∧ acc.length < 16777216 ∧ P (k + 1) (acc ++ [z])) (fun _ => False) else P (k + 1) acc) (fun _ => False)) ∧
  ∀ acc, P ds.length acc → Q (.l true acc)) E
theorem wipeR_length (ρ : Rho) : ∀ vs : List Nat, (wipeR ρ vs).length = ρ.length
  | [] => rfl
  | v :: vs => by unfold wipeR; rw [List.length_set, wipeR_length ρ vs]
theorem lc_core_d {K : Frag} {W : WX} {wi : IW} {tup : Bool} {is vs : List Nat} {wt : TW} {we : EW} (hsub : ∀ i ∈ is, i ∈ vs) (h1 : tup = true ∨ ∃ i, is = [i]) :
    ∀ σ H Q, TDe K W (wLc wi tup is vs wt we) σ H Q → tLc (TDiC K W wi) (gC K tup is) (TDt K W0 wt) (TDe K W0 we) vs σ H Q := by
  rintro σ H Q ⟨G, B0, H0, B, ρ, Qd, Qe, S, q, ok, er⟩
  refine ⟨G, B0, H0, B, ρ, _, Qe, S, q, fun ds J B1 H1 S1 s1 it ⟨P, p0, turn, done⟩ => ?_, er⟩
  intro Dl hD
  have dG : Dl ∉ G.at_ := S1.notG hD
  have d0 : hide G H0 Dl = none := S1.st.hh.free (hide_free hD)
  have dS : hide G H Dl = none := s1.hh.free (hide_free hD)
  have aw : ∀ (j : Nat) (r : R), ρ[j]? = some (some r) → owns r = true → σ[j]? ≠ some (some (.ref Dl)) := fun j r e1 o e2 => by
    obtain ⟨x, f1, f2⟩ := S1.sl j r e1
    rw [e2] at f1; cases f1
    obtain ⟨p, u, ep, k1, _⟩ := f2.own o
    cases ep
    rw [hD] at k1; cases k1
  refine ⟨fun i m H => m = ds.length - i ∧ i ≤ ds.length ∧ ∃ (B' : Hp) (av : List V) (acc : List D), Stt K G B0 H0 B' H σ ρ ∧ Stp G B1 H1 B' H ∧ H Dl = some (.lst av) ∧ DpAll K B' av acc ∧ B' Dl = none ∧ P i acc,
    ⟨_, rfl, Nat.zero_le _, B1, [], [], S1.new hD, Stp.new hD, upd_same, .nil, S1.freeB hD, p0⟩, ?_⟩
  rintro i m H2 ⟨rfl, hi, B2, av, acc, S2, s2, hd, ha, hb, p2⟩
  have lat : LatC G B1 H1 B2 H2 := ⟨s2, S2.bh, S2.gok⟩
  by_cases hlt : i < ds.length
  · refine .inr ⟨it.go i _ _ lat hlt, fun H' => i + 1 ≤ ds.length ∧ ∃ (B' : Hp) (av : List V) (acc : List D), Stt K G B0 H0 B' H' σ ρ ∧ Stp G B1 H1 B' H' ∧ H' Dl = some (.lst av) ∧ DpAll K B' av acc ∧ B' Dl = none ∧ P (i + 1) acc, fun H' ⟨z1, z2⟩ => ⟨ds.length - (i + 1), by omega, rfl, z1, z2⟩, fun x H3 y => ?_⟩
    obtain ⟨d, B3, e1, e2, s3, b3, g3⟩ := it.yld i _ _ x H3 lat hlt y
    have S3 := S2.step s3 b3 g3
    have trk : hide G H2 Dl = some (.lst av) := by rw [hide_out dG]; exact hd
    have q3 := turn i acc d e1 p2
    have fin : ∀ (xs : List V) (es : List D), DpAll K B3 xs es → (∀ i ∈ is, i < ρ.length) → wt (putA (wipeR ρ vs) is es) (fun b => if b = true then we (putA (wipeR ρ vs) is es) (fun r => ∃ z, r.dat = some z ∧ acc.length < 16777216 ∧ P (i + 1) (acc ++ [z])) (fun _ => False) else P (i + 1) acc) (fun _ => False) →
        (wipe (putV (wipe σ vs) is xs) vs = wipe σ vs ∧ TDt K W0 wt (putV (wipe σ vs) is xs) H3 fun b H4 => if b = true then TDe K W0 we (putV (wipe σ vs) is xs) H4 fun y H5 => ∃ acc, H5 Dl = some (.lst acc) ∧ acc.length < sizeLine ∧
          (i + 1 ≤ ds.length ∧ ∃ (B' : Hp) (av : List V) (acc' : List D), Stt K G B0 H0 B' (upd H5 Dl (.lst (acc ++ [y]))) σ ρ ∧ Stp G B1 H1 B' (upd H5 Dl (.lst (acc ++ [y]))) ∧ (upd H5 Dl (.lst (acc ++ [y]))) Dl = some (.lst av) ∧ DpAll K B' av acc' ∧ B' Dl = none ∧ P (i + 1) acc')
          else (i + 1 ≤ ds.length ∧ ∃ (B' : Hp) (av : List V) (acc : List D), Stt K G B0 H0 B' H4 σ ρ ∧ Stp G B1 H1 B' H4 ∧ H4 Dl = some (.lst av) ∧ DpAll K B' av acc ∧ B' Dl = none ∧ P (i + 1) acc)) := by
      intro xs es hx hl q
      refine ⟨wipe_putV is xs _ (wipe_wipe vs fun _ h => h) hsub, ?_⟩
      have T3 : Stt K G B0 H0 B3 H3 (putV (wipe σ vs) is xs) (putA (wipeR ρ vs) is es) := Stt.putA is (S3.wipe vs) hx fun i hi => by rw [wipeR_length]; exact hl i hi
      refine ⟨G, B0, H0, B3, _, _, _, T3, q, fun b B4 H4 T4 s4 q4 => ?_, fun _ _ _ _ z => z.elim⟩
      have S4 := S3.step s4 T4.bh T4.gok
      cases b with
      | false => exact iteF ⟨hlt, B4, av, acc, S4, (s2.trans s3).trans s4, (hide_some (s4.hh _ _ (s3.hh _ _ trk))).2, DpAll.mono (s3.bb.trans s4.bb) ha, s4.nw _ _ (s3.nw _ _ hb trk) (s3.hh _ _ trk), (if_neg Bool.false_ne_true).mp q4⟩
      | true =>
        refine iteT ⟨G, B0, H0, B4, _, _, _, T4, (if_pos rfl).mp q4, fun r y B5 H5 T5 s5 r5 ⟨z, ez, hlen, p5⟩ => ?_, fun _ _ _ _ z => z.elim⟩
        have S5 := S4.step s5 T5.bh T5.gok
        have t5 := s5.hh _ _ (s4.hh _ _ (s3.hh _ _ trk))
        have h5 : H5 Dl = some (.lst av) := (hide_some t5).2
        have b5 : B5 Dl = none := s5.nw _ _ (s4.nw _ _ (s3.nw _ _ hb trk) (s3.hh _ _ trk)) (s4.hh _ _ (s3.hh _ _ trk))
        have s15 := ((s2.trans s3).trans s4).trans s5
        refine ⟨av, h5, by rw [line_eq, ha.length]; exact hlen, hlt, B5, av ++ [y], acc ++ [z], S5.side b5 dG d0 aw, ⟨s15.bb, fun b v e => ?_, s15.nw⟩, upd_same, (DpAll.mono ((s3.bb.trans s4.bb).trans s5.bb) ha).append (.cons (r5.dat ez) .nil), b5, p5⟩
        rw [hide_upd dG, upd_ne (ne_of_none e (hide_free hD))]
        exact s15.hh _ _ e
    cases tup with
    | true =>
      obtain ⟨es, rfl, hn, hl, q4⟩ := (if_pos rfl).mp q3
      cases e2 with
      | tup k1 k2 => exact ⟨_, _, rfl, (k1.up (b3.trans (hide_le H3))).t, k2.length.trans hn, gNames_ok is _ _ _ _ (k2.length.trans hn) (fin _ es k2 hl q4)⟩
    | false =>
      rcases h1 with h1 | ⟨i1, rfl⟩
      · cases h1
      · obtain ⟨hl, q4⟩ := (if_neg Bool.false_ne_true).mp q3
        exact fin [x] [d] (.cons e2 .nil) hl q4
  · have e : i = ds.length := by omega
    subst e
    refine .inl ⟨it.stop _ _ lat, ok (.l true acc) (.ref Dl) B2 H2 S2 (s1.trans s2) ⟨Dl, av, rfl, by rw [hide_out dG]; exact hd, ha, fun _ => ⟨hb, dS⟩⟩ (done acc p2)⟩
section
variable {X : Cx} {W : WX} {tg iter elt : Expr} {ifs : List Expr} {e : Expr} {st : Stmt} {wi : IW} {tup : Bool} {is vs : List Nat} {wt : TW} {we : EW}
theorem pd_lc (h : PE X e (tLc (TDiC X.K W wi) (gC X.K tup is) (TDt X.K W0 wt) (TDe X.K W0 we) vs)) (hsub : ∀ i ∈ is, i ∈ vs) (h1 : tup = true ∨ ∃ i, is = [i]) : PD X W e (wLc wi tup is vs wt we) :=
  pe_imp h (lc_core_d hsub h1)
theorem pds_setLc {i : Nat} (h : PS X st (tAsg (tLc (TDiC X.K W wi) (gC X.K tup is) (TDt X.K W0 wt) (TDe X.K W0 we) vs) (gName i))) (hsub : ∀ i ∈ is, i ∈ vs) (h1 : tup = true ∨ ∃ i, is = [i]) : PSD X W st (wAsg i (wLc wi tup is vs wt we)) :=
  pds_set (ps_imp h fun D σ H q => lc_core_d hsub h1 σ H _ q)
end
end DL

set_option Elab.async false
set_option linter.all false
set_option maxRecDepth 100000
/-! The data layer: built-ins. -/
namespace DL
open PySem PySem.Spec PyProof.Rows L2
section
variable {X : Cx} {W : WX} {e a b : Expr} {w : EW} {ws : AW} {pos p : Pos}
theorem seq_of {K : Frag} {G : Gh} {Hs B H : Hp} {x : V} {r : R} {ds : List D} (c : Ctx K G B H) (h : Rs K G Hs B H x r) (e : r.seq = some ds) : ∃ p xs, x = .ref p ∧ DpAll K B xs ds ∧ (SqL K H p xs ∨ SqT K H p xs) := h.seq e c.bh
/-- len -/
def fLen : FL := fun rs Q => ∃ r, rs = [r] ∧ ((∃ ds, r.seq = some ds ∧ Q (.s (.int ds.length))) ∨ (∃ z, r = .s (.str z) ∧ z.length ≤ 16777216 ∧ Q (.s (.int z.length))) ∨ ∃ kvs, r.kv = some kvs ∧ Q (.s (.int kvs.length)))
theorem c_len : CallR X (.builtin "len") (liftL X.K fLen) := by
  intro pins s σ H xs us Q I rx hh
  obtain ⟨G, Hs, B, rs, Qd, c, ra, ⟨r, rfl, q⟩, k⟩ := hh
  obtain ⟨x, rfl, r1⟩ := ra.one
  rcases q with ⟨ds, e1, q⟩ | ⟨z, rfl, hz, q⟩ | ⟨kvs, e1, q⟩
  · obtain ⟨p, xs, rfl, h1, h2⟩ := r1.seq e1 c.bh
    refine call_len_seq pins s σ H _ us Q I rx ⟨p, xs, rfl, h2, ?_⟩
    rw [h1.length]
    exact k.dat c (.int _) q
  · cases r1.str
    exact call_len_str pins s σ H _ us Q I rx ⟨z, rfl, by rw [line_eq]; exact hz, k.dat c (.int _) q⟩
  · obtain ⟨p, xs, rfl, h1, h2⟩ := r1.kv e1 c.bh
    refine call_lenD pins s σ H _ us Q I rx ⟨p, xs, rfl, h1, ?_⟩
    rw [h2.length]
    exact k.dat c (.int _) q
/-- all, any of a list of truth values -/
def fAll : FL := fun rs Q => ∃ (o : Bool) (bs : List Bool), rs = [.l o (bs.map PyData.bool)] ∧ Q (.s (.bool (bs.all id)))
def fAny : FL := fun rs Q => ∃ (o : Bool) (bs : List Bool), rs = [.l o (bs.map PyData.bool)] ∧ Q (.s (.bool (bs.any id)))
def fSum : FL := fun rs Q => ∃ (o : Bool) (ns : List Int), rs = [.l o (ns.map PyData.int)] ∧ Q (.s (.int ns.sum))
theorem c_all (hc : X.calm = true) : CallR X (.builtin "all") (liftL X.K fAll) := by
  intro pins s σ H xs us Q I rx hh
  obtain ⟨G, Hs, B, rs, Qd, c, ra, ⟨o, bs, rfl, q⟩, k⟩ := hh
  obtain ⟨x, rfl, p, vs, rfl, h1, h2, _⟩ := ra.one
  cases h2.bls'
  exact cr_all hc pins s σ H _ us Q I rx ⟨p, bs, rfl, .inl (.inl (hide_some h1).2), k.dat c (.bl _) q⟩
theorem c_any (hc : X.calm = true) : CallR X (.builtin "any") (liftL X.K fAny) := by
  intro pins s σ H xs us Q I rx hh
  obtain ⟨G, Hs, B, rs, Qd, c, ra, ⟨o, bs, rfl, q⟩, k⟩ := hh
  obtain ⟨x, rfl, p, vs, rfl, h1, h2, _⟩ := ra.one
  cases h2.bls'
  exact cr_any hc pins s σ H _ us Q I rx ⟨p, bs, rfl, .inl (.inl (hide_some h1).2), k.dat c (.bl _) q⟩
theorem c_sum (hc : X.calm = true) : CallR X (.builtin "sum") (liftL X.K fSum) := by
  intro pins s σ H xs us Q I rx hh
  obtain ⟨G, Hs, B, rs, Qd, c, ra, ⟨o, ns, rfl, q⟩, k⟩ := hh
  obtain ⟨x, rfl, p, vs, rfl, h1, h2, _⟩ := ra.one
  cases h2.ints'
  exact cr_sum hc pins s σ H _ us Q I rx ⟨p, ns, rfl, .inl (.inl (hide_some h1).2), k.dat c (.int _) q⟩
/-- list(x), tuple(x) of lists and tuples; int(n) -/
def fList : FL := fun rs Q => ∃ r ds, rs = [r] ∧ r.seq = some ds ∧ Q (.l true ds)
def fTuple : FL := fun rs Q => ∃ r ds, rs = [r] ∧ r.seq = some ds ∧ Q (.s (.tuple ds))
def fIntOf : FL := fun rs Q => ∃ n, rs = [.s (.int n)] ∧ Q (.s (.int n))
theorem c_list : CallR X (.type "list") (liftL X.K fList) := by
  intro pins s σ H xs us Q I rx hh
  obtain ⟨G, Hs, B, rs, Qd, c, ra, ⟨r, ds, rfl, e1, q⟩, k⟩ := hh
  obtain ⟨x, rfl, r1⟩ := ra.one
  obtain ⟨p, xs, rfl, h1, h2⟩ := r1.seq e1 c.bh
  exact call_list_of pins s σ H _ us Q I rx ⟨p, xs, rfl, h2, fun l hl => k.lst c hl h1 q⟩
theorem c_tuple : CallR X (.type "tuple") (liftL X.K fTuple) := by
  intro pins s σ H xs us Q I rx hh
  obtain ⟨G, Hs, B, rs, Qd, c, ra, ⟨r, ds, rfl, e1, q⟩, k⟩ := hh
  obtain ⟨x, rfl, r1⟩ := ra.one
  cases r with
  | s d =>
    cases d with
    | list es =>
      cases e1
      cases (show Dp X.K B x (.list ds) from r1) with
      | lst h1 h2 => exact callN_tuple pins s σ H _ us Q I rx ⟨_, _, rfl, .inl ⟨Same.sqL c.le h1, k.tup c h2 q⟩⟩
    | tuple es =>
      cases e1
      cases (show Dp X.K B x (.tuple ds) from r1) with
      | tup h1 h2 => exact callN_tuple pins s σ H _ us Q I rx ⟨_, _, rfl, .inr ⟨(h1.up c.le).t, k.dat c (.tup h1 h2) q⟩⟩
    | _ => cases e1
  | l own es =>
    cases e1
    obtain ⟨p, xs, rfl, h1, h2, _⟩ := r1
    exact callN_tuple pins s σ H _ us Q I rx ⟨_, _, rfl, .inl ⟨.inl (.inl (hide_some h1).2), k.tup c h2 q⟩⟩
  | _ => cases e1
theorem c_int : CallR X (.type "int") (liftL X.K fIntOf) := by
  intro pins s σ H xs us Q I rx hh
  obtain ⟨G, Hs, B, rs, Qd, c, ra, ⟨n, rfl, q⟩, k⟩ := hh
  obtain ⟨x, rfl, r1⟩ := ra.one
  cases r1.int
  exact call_int1 pins s σ H _ us Q I rx (.inl ⟨n, rfl, k.dat c (.int _) q⟩)
def fMax2 : FL := fun rs Q => ∃ i j, rs = [.s (.int i), .s (.int j)] ∧ Q (.s (.int (if j > i then j else i)))
def fMin2 : FL := fun rs Q => ∃ i j, rs = [.s (.int i), .s (.int j)] ∧ Q (.s (.int (if j < i then j else i)))
theorem c_max2 (hc : X.calm = true) : CallR X (.builtin "max") (liftL X.K fMax2) := by
  intro pins s σ H xs us Q I rx hh
  obtain ⟨G, Hs, B, rs, Qd, c, ra, ⟨i, j, rfl, q⟩, k⟩ := hh
  obtain ⟨x, y, rfl, r1, r2⟩ := ra.two
  cases r1.int; cases r2.int
  exact call_max2 hc pins s σ H _ us Q I rx ⟨i, j, rfl, k.dat c (.int _) q⟩
theorem c_min2 (hc : X.calm = true) : CallR X (.builtin "min") (liftL X.K fMin2) := by
  intro pins s σ H xs us Q I rx hh
  obtain ⟨G, Hs, B, rs, Qd, c, ra, ⟨i, j, rfl, q⟩, k⟩ := hh
  obtain ⟨x, y, rfl, r1, r2⟩ := ra.two
  cases r1.int; cases r2.int
  exact call_min2 hc pins s σ H _ us Q I rx ⟨i, j, rfl, k.dat c (.int _) q⟩

/-! ### isinstance of a built-in class -/
def tyN : D → String
  | .none => "NoneType"
  | .bool _ => "bool"
  | .int _ => "int"
  | .str _ => "str"
  | .list _ => "list"
  | .tuple _ => "tuple"
  | .dict _ => "dict"
def isI : D → Bool
  | .int _ | .bool _ => true
  | _ => false
def isB : D → Bool
  | .bool _ => true
  | _ => false
def isS : D → Bool
  | .str _ => true
  | _ => false
def isT : D → Bool
  | .tuple _ => true
  | _ => false
def isL : D → Bool
  | .list _ => true
  | _ => false
theorem tyx_of {K : Frag} {H : Hp} {x : V} {d : D} (h : Dp K H x d) : TyX K H x (.type (tyN d)) := by
  cases h with
  | non => exact .base .non
  | bl b => exact .base (.bl b)
  | int i => exact .base (.int i)
  | str z => exact .base (.str z)
  | lst h1 h2 =>
    rcases h1 with (h1 | ⟨o, h1⟩) | ⟨o, its, n, h1, h3, _⟩
    · exact .base (.lst h1)
    · exact .base (.frz h1)
    · exact .kList h1 h3
  | tup h1 h2 =>
    rcases h1 with ⟨o, h1, _⟩ | ⟨o, its, n, h1, h3, _⟩
    · exact .fTuple h1
    · exact .kTuple h1 h3.1
  | dic h1 h2 => exact .base (.dK h1)
def wIsi (f : D → Bool) (w : EW) : EW := fun ρ Q E => w ρ (fun r => ∃ d, r.look = some d ∧ Q (.s (.bool (f d)))) E
theorem pd_isi {f : D → Bool} {T : String} (h : PE X e (tCB (rIsi X.K) (tCons (TDe X.K W w) (tCons (tC (.ty T)) tNil)))) (hf : ∀ d : D, kitB (tyN d) T = some (f d)) : PD X W e (wIsi f w) :=
  pe_imp h fun σ H Q ⟨G, B0, H0, B, ρ, Qd, Qe, S, q, ok, er⟩ => by
    refine ⟨G, B0, H0, B, ρ, _, Qe, S, q, fun r x B' H' S' s r' q' => ?_, er⟩
    obtain ⟨d, e1, q'⟩ := q'
    exact ⟨x, .ty T, _, _, f d, rfl, .ty T, tyx_of (r'.look e1 S'.bh), kit_ty (hf d), ok (.s (.bool (f d))) _ _ _ S' s (.bl _) q'⟩
theorem kit_int : ∀ d : D, kitB (tyN d) "int" = some (isI d)
  | .none => by decide +kernel
  | .bool _ => by show kitB "bool" "int" = some true; decide +kernel
  | .int _ => by show kitB "int" "int" = some true; decide +kernel
  | .str _ => by show kitB "str" "int" = some false; decide +kernel
  | .list _ => by show kitB "list" "int" = some false; decide +kernel
  | .tuple _ => by show kitB "tuple" "int" = some false; decide +kernel
  | .dict _ => by show kitB "dict" "int" = some false; decide +kernel
theorem kit_bool : ∀ d : D, kitB (tyN d) "bool" = some (isB d)
  | .none => by decide +kernel
  | .bool _ => by show kitB "bool" "bool" = some true; decide +kernel
  | .int _ => by show kitB "int" "bool" = some false; decide +kernel
  | .str _ => by show kitB "str" "bool" = some false; decide +kernel
  | .list _ => by show kitB "list" "bool" = some false; decide +kernel
  | .tuple _ => by show kitB "tuple" "bool" = some false; decide +kernel
  | .dict _ => by show kitB "dict" "bool" = some false; decide +kernel
theorem kit_str : ∀ d : D, kitB (tyN d) "str" = some (isS d)
  | .none => by decide +kernel
  | .bool _ => by show kitB "bool" "str" = some false; decide +kernel
  | .int _ => by show kitB "int" "str" = some false; decide +kernel
  | .str _ => by show kitB "str" "str" = some true; decide +kernel
  | .list _ => by show kitB "list" "str" = some false; decide +kernel
  | .tuple _ => by show kitB "tuple" "str" = some false; decide +kernel
  | .dict _ => by show kitB "dict" "str" = some false; decide +kernel
theorem kit_tuple : ∀ d : D, kitB (tyN d) "tuple" = some (isT d)
  | .none => by decide +kernel
  | .bool _ => by show kitB "bool" "tuple" = some false; decide +kernel
  | .int _ => by show kitB "int" "tuple" = some false; decide +kernel
  | .str _ => by show kitB "str" "tuple" = some false; decide +kernel
  | .list _ => by show kitB "list" "tuple" = some false; decide +kernel
  | .tuple _ => by show kitB "tuple" "tuple" = some true; decide +kernel
  | .dict _ => by show kitB "dict" "tuple" = some false; decide +kernel
theorem kit_list : ∀ d : D, kitB (tyN d) "list" = some (isL d)
  | .none => by decide +kernel
  | .bool _ => by show kitB "bool" "list" = some false; decide +kernel
  | .int _ => by show kitB "int" "list" = some false; decide +kernel
  | .str _ => by show kitB "str" "list" = some false; decide +kernel
  | .list _ => by show kitB "list" "list" = some true; decide +kernel
  | .tuple _ => by show kitB "tuple" "list" = some false; decide +kernel
  | .dict _ => by show kitB "dict" "list" = some false; decide +kernel

/-! ### displays -/
theorem pd_tup {es : List Expr} {x1} (h : PDa X W es ws) : PD X W (.Tuple es x1 pos) (wTup ws) := pe_imp (peN_tup h) fun σ H Q ⟨G, B0, H0, B, ρ, Qd, Qe, S, q, ok, er⟩ => by
  refine ⟨G, B0, H0, B, ρ, _, Qe, S, q, fun rs xs B1 H1 S1 s1 r1 _ q1 => ?_, er⟩
  obtain ⟨ds, e1, hl, q1⟩ := q1
  have h1 := dats_all r1 e1
  refine ⟨by rw [line_eq, h1.length]; exact hl, fun p o hp hn => ?_⟩
  have s2 : Stp G B1 H1 (upd B1 p (.frz o (.tup xs))) (upd H1 p (.frz o (.tup xs))) := Stp.newS hp (S1.freeB hp)
  exact ok (.s (.tuple ds)) _ _ _ (S1.newS hp) (s1.trans s2) (Dp.tup (.inl ⟨o, upd_same, hn⟩) (DpAll.mono s2.bb h1)) q1
theorem pd_lst {es : List Expr} (h : PDa X W es ws) : PD X W (.List es pos) (wLst ws) := pe_imp (pe_lst h) fun σ H Q ⟨G, B0, H0, B, ρ, Qd, Qe, S, q, ok, er⟩ => by
  refine ⟨G, B0, H0, B, ρ, _, Qe, S, q, fun rs xs B1 H1 S1 s1 r1 _ q1 => ?_, er⟩
  obtain ⟨ds, e1, hl, q1⟩ := q1
  have h1 := dats_all r1 e1
  refine ⟨by rw [line_eq, h1.length]; exact hl, fun p hp => ?_⟩
  exact ok (.l true ds) _ _ _ (S1.new hp) (s1.trans (Stp.new hp)) ⟨p, xs, rfl, by rw [hide_out (S1.notG hp), upd_same], h1, fun _ => ⟨S1.freeB hp, s1.hh.free (hide_free hp)⟩⟩ q1

/-! ### slices of lists and tuples -/
abbrev OW := Rho → (Option Int → Prop) → (Value → Prop) → Prop
def TDo (K : Frag) (W : WX) (w : OW) : TO := fun σ H Q => ∃ (G : Gh) (B0 H0 B : Hp) (ρ : Rho) (Qd : Option Int → Prop) (Qe : Value → Prop), Stt K G B0 H0 B H σ ρ ∧ w ρ Qd Qe ∧
  (∀ b B' H', Stt K G B0 H0 B' H' σ ρ → Stp G B H B' H' → Qd b → Q b H') ∧ (∀ cls d B' H', Qe cls → Stt K G B0 H0 B' H' σ ρ → Stp G B H B' H' → W cls d σ H')
def wONone : OW := fun _ Q _ => Q none
def wOSome (w : EW) : OW := fun ρ Q E => w ρ (fun r => ∃ n, r = .s (.int n) ∧ Q (some n)) E
theorem pdo_none : PO X Option.none (TDo X.K W wONone) := ⟨fun pins s σ H Q I ⟨G, B0, H0, B, ρ, Qd, Qe, S, q, ok, er⟩ => po_none.run pins s σ H Q I (ok _ _ _ S (Stp.refl ..) q)⟩
theorem pdo_some (h : PD X W e w) : PO X (some e) (TDo X.K W (wOSome w)) := ⟨fun pins s σ H Q I ⟨G, B0, H0, B, ρ, Qd, Qe, S, q, ok, er⟩ => (po_some h).run pins s σ H Q I (by
  refine ⟨G, B0, H0, B, ρ, _, Qe, S, q, fun r x B' H' S' s r' q' => ?_, er⟩
  obtain ⟨n, rfl, q'⟩ := q'
  cases r'.int
  exact ⟨n, rfl, ok _ _ _ S' s q'⟩)⟩
def cutD (xs : List D) (lo hi : Option Int) : List D := (xs.drop (HT.sIx xs.length 0 lo)).take (HT.sIx xs.length xs.length hi - HT.sIx xs.length 0 lo)
def fSl (a : R) (lo hi : Option Int) (Q : R → Prop) : Prop := match a with
  | .s (.tuple xs) => Q (.s (.tuple (cutD xs lo hi)))
  | .s (.list xs) => Q (.l true (cutD xs lo hi))
  | .l _ xs => Q (.l true (cutD xs lo hi))
  | .s (.str z) => z.length ≤ 16777216 ∧ Q (.s (.str (L2.cutS z lo hi)))
  | _ => False
def liftS (K : Frag) (f : R → Option Int → Option Int → (R → Prop) → Prop) : V → Option Int → Option Int → Hp → VK → Prop := fun x lo hi H Q => ∃ G Hs B a Qd, Ctx K G B H ∧ Rs K G Hs B H x a ∧ f a lo hi Qd ∧ Cont K G B H Qd Q
theorem DpAll.cut {K : Frag} {H : Hp} {xs : List V} {ds : List D} (h : DpAll K H xs ds) (lo hi : Option Int) : DpAll K H (cutV xs lo hi) (cutD ds lo hi) := by
  unfold cutV cutD
  rw [h.length]
  exact (h.drop _).take _
theorem o_sl : L2.SlR X (liftS X.K fSl) := by
  intro pins s σ H x v vl vu lo hi sl Q I rx hs pl pu hh
  obtain ⟨G, Hs, B, a, Qd, c, ra, q, k⟩ := hh
  unfold fSl at q
  split at q
  · obtain ⟨p, xs, rfl, h1, h2⟩ := ra.tup
    refine slN_tup pins s σ H _ v vl vu lo hi sl Q I rx hs pl pu ⟨p, xs, rfl, (h1.up c.le).t, fun w => ?_, fun w => k.tup c (h2.cut lo hi) q⟩
    rw [h2.length] at w
    have e : ∀ ys : List D, (HT.sIx ys.length 0 lo = 0 ∧ HT.sIx ys.length ys.length hi = ys.length) → cutD ys lo hi = ys := fun ys w => by
      unfold cutD
      rw [w.1, w.2, List.drop_zero, Nat.sub_zero, List.take_length]
    rw [e _ w] at q
    exact k.dat c (.tup h1 h2) q
  · cases (show Dp X.K B x (.list _) from ra) with
    | lst h1 h2 => exact sl_list pins s σ H _ v vl vu lo hi sl Q I rx hs pl pu ⟨_, _, rfl, Same.sqL c.le h1, fun p hp => k.lst c hp (h2.cut lo hi) q⟩
  · obtain ⟨p, xs, rfl, h1, h2, _⟩ := ra
    exact sl_list pins s σ H _ v vl vu lo hi sl Q I rx hs pl pu ⟨_, _, rfl, .inl (.inl (hide_some h1).2), fun p hp => k.lst c hp (h2.cut lo hi) q⟩
  · cases ra.str
    exact L2.sl_str pins s σ H _ v vl vu lo hi sl Q I rx hs pl pu ⟨_, rfl, by rw [line_eq]; exact q.1, k.dat c (.str _) q.2⟩
  · exact q.elim
def wSl (w : EW) (wl wh : OW) : EW := fun ρ Q E => w ρ (fun r => wl ρ (fun lo => wh ρ (fun hi => fSl r lo hi Q) E) E) E
theorem pd_sl {wl wh : OW} (h : PE X e (tSl (liftS X.K fSl) (TDe X.K W w) (TDo X.K W wl) (TDo X.K W wh))) : PD X W e (wSl w wl wh) := pe_imp h fun σ H Q ⟨G, B0, H0, B, ρ, Qd, Qe, S, q, ok, er⟩ => by
  refine ⟨G, B0, H0, B, ρ, _, Qe, S, q, fun r x B1 H1 S1 s1 r1 q1 => ?_, er⟩
  refine ⟨G, B0, H0, B1, ρ, _, Qe, S1, q1, fun lo B2 H2 S2 s2 q2 => ?_, erT er s1⟩
  refine ⟨G, B0, H0, B2, ρ, _, Qe, S2, q2, fun hi B3 H3 S3 s3 q3 => ?_, erT er (s1.trans s2)⟩
  have s13 := (s1.trans s2).trans s3
  exact ⟨G, H, B3, r, _, ⟨S3.bh, S3.gok⟩, r1.step (s2.trans s3), q3, fun r4 z B4 H4 s4 bh gk rz qz => ok _ _ _ _ (S3.step s4 bh gk) (s13.trans s4) (rz.from s13) qz⟩
end
end DL

set_option Elab.async false
set_option linter.all false
set_option maxRecDepth 100000
/-! The data layer: the deck. -/
namespace DL
open PySem PySem.Spec PyProof.Rows L2
theorem sh_ints (ns : List Int) : Sh (.list (ns.map PyData.int)) := by
  have h1 : PyData.canLayAll0 (ns.map PyData.int) = true := by
    induction ns with
    | nil => rfl
    | cons n ns ih => simp only [List.map_cons, PyData.canLayAll0, PyData.canLay0, ih, Bool.and_self]
  have h2 : PyData.depthAll (ns.map PyData.int) = 0 := by
    induction ns with
    | nil => rfl
    | cons n ns ih =>
      simp only [List.map_cons, PyData.canLayAll0, PyData.canLay0, Bool.true_and] at h1
      simp only [List.map_cons, PyData.depthAll, PyData.depth, ih h1, Nat.max_self]
  show (PyData.canLay0 (.list (ns.map PyData.int)) && decide (PyData.depth (.list (ns.map PyData.int)) ≤ 64)) = true
  simp only [PyData.canLay0, PyData.depth, h1, h2]
  decide
theorem eqv_nil (ns : List Int) : PyData.eqv (.list (ns.map PyData.int)) (.list []) = ns.isEmpty := by
  cases ns <;> simp [PyData.eqv, PyData.eqvAll]
/-- what a draw hands back -/
def c_pick : Ct := fun rs Q _ => ∃ n : Int, rs = [.g, .s (.int n)] ∧ 0 < n ∧ n < 1073741824 ∧ ∀ r : Int, 0 ≤ r → r < n → Q (.s (.int r))
/-- where the deck stands -/
structure DeckAt (a c : Addr) (H : Hp) (cells : List Int) (s m : Int) : Prop where
  h1 : H a = some (.lst [.ref c, .int s, .int m])
  h2 : H c = some (.lst (cells.map V.int))
  h3 : ∀ x ∈ cells, 0 ≤ x ∧ x < 10 ^ 60
  s0 : 0 ≤ s
  s1 : s < 10 ^ 60
  m0 : 0 ≤ m
  m1 : m < 2147483647
  len : cells.length ≤ 1000
theorem DeckAt.ne {a c : Addr} {H : Hp} {cells : List Int} {s m : Int} (d : DeckAt a c H cells s m) : a ≠ c := ne_of d.h1 d.h2 (by
  intro z
  cases cells with
  | nil => cases z
  | cons x xs => simp at z)
theorem DeckAt.ok {a c : Addr} {H : Hp} {cells : List Int} {s m : Int} (d : DeckAt a c H cells s m) : (deckG a c).ok H := ⟨cells, s, m, d.h1, d.h2, d.h3, d.s0, d.s1, d.m0, d.m1, d.len⟩
theorem DeckAt.of {a c : Addr} {H : Hp} (h : (deckG a c).ok H) : ∃ cells s m, DeckAt a c H cells s m := by
  obtain ⟨cells, s, m, h1, h2, h3, h4, h5, h6, h7, h8⟩ := h
  exact ⟨cells, s, m, h1, h2, h3, h4, h5, h6, h7, h8⟩
/-- the deck's first place or number is written -/
theorem DeckAt.setS {a c : Addr} {H : Hp} {cells : List Int} {s m s' : Int} (d : DeckAt a c H cells s m) (h : 0 ≤ s') (h' : s' < 10 ^ 60) : DeckAt a c (upd H a (.lst [.ref c, .int s', .int m])) cells s' m :=
  ⟨upd_same, by rw [upd_ne d.ne.symm]; exact d.h2, d.h3, h, h', d.m0, d.m1, d.len⟩
theorem DeckAt.setM {a c : Addr} {H : Hp} {cells : List Int} {s m m' : Int} (d : DeckAt a c H cells s m) (h : 0 ≤ m') (h' : m' < 2147483647) : DeckAt a c (upd H a (.lst [.ref c, .int s, .int m'])) cells s m' :=
  ⟨upd_same, by rw [upd_ne d.ne.symm]; exact d.h2, d.h3, d.s0, d.s1, h, h', d.len⟩
theorem DeckAt.pop {a c : Addr} {H : Hp} {x : Int} {cells : List Int} {s m : Int} (d : DeckAt a c H (x :: cells) s m) : DeckAt a c (upd H c (.lst (cells.map V.int))) cells s m :=
  ⟨by rw [upd_ne d.ne]; exact d.h1, upd_same, fun y hy => d.h3 y (List.mem_cons_of_mem _ hy), d.s0, d.s1, d.m0, d.m1, by have := d.len; simp at this; omega⟩
theorem DeckAt.new {a c p : Addr} {H : Hp} {cells : List Int} {s m : Int} {o : HO} (d : DeckAt a c H cells s m) (hp : H p = none) : DeckAt a c (upd H p o) cells s m :=
  ⟨by rw [upd_ne (ne_of_none d.h1 hp)]; exact d.h1, by rw [upd_ne (ne_of_none d.h2 hp)]; exact d.h2, d.h3, d.s0, d.s1, d.m0, d.m1, d.len⟩
theorem hide_ghost {G : Gh} {H : Hp} {b : Addr} {o : HO} (h : b ∈ G.at_) : hide G (upd H b o) = hide G H := by
  funext z
  by_cases q : z ∈ G.at_
  · rw [hide_in q, hide_in q]
  · rw [hide_out q, hide_out q, upd_ne (fun e => q (by rw [e]; exact h))]
/-- the first if of a draw: whatever it does, the deck stands -/
def tPickA : TS := fun D σ H => ∃ (a c : Addr) (n : Int) (cells : List Int) (s m : Int), σ = [some (.ref a), some (.int n), some (.ref c), none, none] ∧ DeckAt a c H cells s m ∧
  ∀ v H' cells' s' m', DeckAt a c H' cells' s' m' → Same (hide (deckG a c) H) (hide (deckG a c) H') → D.nx [some (.ref a), some (.int n), some (.ref c), v, none] H'
/-! ### the deck is made; the law's start -/
def spDeck (K : Frag) : Sp := fun vs H Q _ => ∃ (a : Addr) (ns : List Int), vs = [.ref a] ∧ SqL K H a (ns.map V.int) ∧ ns.length ≤ 63 ∧
  ∀ (H' : Hp) (a0 c : Addr) (cells : List Int), Same H H' → H a0 = none → H c = none → DeckAt a0 c H' cells 0 6151 → Q (.ref a0) H'
def spLaw (K : Frag) : Sp := fun vs H Q _ => ∃ (a : Addr) (ns : List Int), vs = [.ref a] ∧ SqL K H a (ns.map V.int) ∧ ns.length ≤ 63 ∧ ∀ H', Q (.bl true) H'
theorem cut63 {ns : List Int} (h : ns.length ≤ 63) : cutV (ns.map V.int) none (some 63) = ns.map V.int := by
  unfold cutV
  have e : HT.sIx (ns.map V.int).length (ns.map V.int).length (some 63) = ns.length := by
    rw [show (some (63 : Int)) = some ((63 : Nat) : Int) from rfl, HT.sIx_nat, List.length_map]
    omega
  rw [e, HT.sIx_none, List.drop_zero, Nat.sub_zero, ← List.length_map (f := V.int), List.take_length]
/-- the reading of the deck's making -/
def tDeckC (K : Frag) : TE := tOp (rI (fun _ j => 0 < j) fun i j => .int (i % j)) (tCB (fun xs H Q => (∃ i, xs = [.int i] ∧ Q (.int i) H) ∨ ∃ k, xs = [.bl k] ∧ Q (.int (if k then 1 else 0)) H) (tCons (tVar 1) tNil)) (tOp (rI CPow fun i j => .int (i ^ j.toNat)) (tC (.int 10)) (tC (.int 60)))
theorem deck_read {K : Frag} {H : Hp} {vs : List V} {Q : VK} {E : XK} {nx : L2.St → Hp → Prop} (h : spDeck K vs H Q E) :
    tRet (tLst (tCons (tLc (iList K (tSl (rSlL K) (tVar 0) tNoPart (tPart (tC (.int 63))))) (gName 1) tYes (tDeckC K) [1]) (tCons (tC (.int 0)) (tCons (tC (.int 6151)) tNil)))) { nx := nx, rt := Q } (L2.start ["script", "cell"] vs) H := by
  obtain ⟨a, ns, rfl, hS, hl, k⟩ := h
  refine ⟨_, rfl, _, rfl, a, _, rfl, hS, fun p hp => ?_⟩
  rw [cut63 hl]
  have s1 : Same H (upd H p (.lst (ns.map V.int))) := fun b o e => by rw [upd_ne (ne_of_none e hp)]; exact e
  refine ⟨p, rfl, ⟨_, .inl (.inl upd_same)⟩, fun D hD => ?_⟩
  have npD : p ≠ D := fun e => by rw [← e, upd_same] at hD; cases hD
  have hD0 : H D = none := by rw [upd_ne npD.symm] at hD; exact hD
  refine lc_list (K := K) (a := p) (xs := ns.map V.int) (fun i H' => ∃ cells : List Int, H' = upd (upd H p (.lst (ns.map V.int))) D (.lst (cells.map V.int)) ∧ cells.length ≤ i ∧ ∀ x ∈ cells, 0 ≤ x ∧ x < 10 ^ 60) ⟨[], rfl, Nat.le_refl _, fun x hx => by cases hx⟩ ?_ ?_ ?_
  · rintro i H' _ ⟨cells, rfl, _⟩
    exact .inl (.inl (by rw [upd_ne npD, upd_same]))
  · rintro i x H' hi ⟨cells, rfl, hc, hb⟩
    obtain ⟨z, rfl⟩ : ∃ z, x = V.int z := by
      rw [List.getElem?_map] at hi
      cases e : ns[i]? with
      | none => rw [e] at hi; cases hi
      | some z => rw [e] at hi; exact ⟨z, (Option.some.inj hi).symm⟩
    have hi63 : i < ns.length := by
      have q := (List.getElem?_eq_some_iff.mp hi).1
      rw [List.length_map] at q
      exact q
    refine ⟨rfl, ?_⟩
    unfold tYes
    refine iteT ?_
    refine ⟨_, rfl, .inl ⟨_, rfl, _, _, rfl, rfl, by unfold CPow; decide, _, _, rfl, rfl, (by show (0 : Int) < _; decide), cells.map V.int, upd_same, by rw [List.length_map, line_eq]; omega, cells ++ [z % 10 ^ 60], ?_, by simp; omega, fun y hy => ?_⟩⟩
    · rw [upd_upd, List.map_append]
      rfl
    · rcases List.mem_append.mp hy with hy | hy
      · exact hb y hy
      · have e : y = z % 10 ^ 60 := by simpa using hy
        rw [e]
        exact ⟨Int.emod_nonneg _ (by decide), Int.emod_lt_of_pos _ (by decide)⟩
  · rintro H' ⟨cells, rfl, hc, hb⟩
    refine ⟨by show 3 ≤ sizeLine; decide, fun q hq => ?_⟩
    have nqD : q ≠ D := fun e => by rw [e, upd_same] at hq; cases hq
    have nqp : q ≠ p := fun e => by rw [e, upd_ne npD, upd_same] at hq; cases hq
    have hq0 : H q = none := by rw [upd_ne nqD, upd_ne nqp] at hq; exact hq
    refine k _ q D cells (fun b o e => ?_) hq0 hD0 ⟨upd_same, by rw [upd_ne nqD.symm, upd_same], hb, by decide, by decide, by decide, by decide, by rw [List.length_map] at hc; omega⟩
    rw [upd_ne (ne_of_none e hq0), upd_ne (ne_of_none e hD0)]
    exact s1 b o e
theorem law_read {K : Frag} {H : Hp} {vs : List V} {Q : VK} {E : XK} {nx : L2.St → Hp → Prop} {N : List Str} {w : SW} (hN : 2 ≤ N.length) (h : spLaw K vs H Q E)
    (hw : ∀ ns : List Int, ns.length ≤ 63 → w (some (.s (.list (ns.map PyData.int))) :: some .g :: List.replicate (N.length - 2) none) { nx := fun _ => False, rt := fun r => r = .s (.bool true) }) :
    tSeq (tAsg (tCallS (spDeck K) (WE W0) (tCons (tVar 0) tNil)) (gName 1)) (TDs K W0 w) { nx := nx, rt := Q } (L2.start N vs) H := by
  obtain ⟨a, ns, rfl, hS, hl, k⟩ := h
  refine ⟨_, rfl, a, ns, rfl, hS, hl, fun H1 a0 c cells s ha hc d => ?_⟩
  have nin : ∀ b o, H b = some o → b ∉ (deckG a0 c).at_ := fun b o e z => by
    rcases List.mem_cons.mp z with rfl | z
    · rw [ha] at e; cases e
    · rcases List.mem_cons.mp z with rfl | z
      · rw [hc] at e; cases e
      · cases z
  have hS' : SqL K (hide (deckG a0 c) H1) a (ns.map V.int) := by
    rcases hS with (h | ⟨o, h⟩) | h
    · exact .inl (.inl (by rw [hide_out (nin _ _ h)]; exact s _ _ h))
    · exact .inl (.inr ⟨o, by rw [hide_out (nin _ _ h)]; exact s _ _ h⟩)
    · exact .inr h
  refine ⟨deckG a0 c, hide (deckG a0 c) H1, H1, hide (deckG a0 c) H1, _, _, ?_, hw ns hl, ⟨fun _ _ _ _ _ _ z => z.elim, fun _ _ _ _ _ _ z => z.elim, fun _ _ _ _ _ _ z => z.elim, fun r x B' H' _ _ _ r' z => ?_, fun _ _ _ _ _ _ _ _ z => z.elim⟩⟩
  · refine ⟨?_, Same.refl _, d.ok, Stp.refl .., fun i r e => ?_, fun i j r u x _ e1 _ o1 _ _ _ => ?_⟩
    · unfold L2.start
      simp
      omega
    · match i, e with
      | 0, e => cases e; exact ⟨.ref a, by unfold L2.start; simp, .lst hS' (DpAll.ints ns)⟩
      | 1, e =>
        cases e
        refine ⟨.ref a0, ?_, a0, c, rfl, rfl⟩
        rw [List.getElem?_set_self]
        unfold L2.start
        simp
        omega
      | i + 2, e =>
        have : some r ∈ List.replicate (N.length - 2) (none : Option R) := List.mem_of_getElem? (i := i) (by simpa using e)
        exact nomatch List.eq_of_mem_replicate this
    · match i, e1 with
      | 0, e => cases e; cases o1
      | 1, e => cases e; cases o1
      | i + 2, e =>
        have : some r ∈ List.replicate (N.length - 2) (none : Option R) := List.mem_of_getElem? (i := i) (by simpa using e)
        exact nomatch List.eq_of_mem_replicate this
  · subst z
    cases (show Dp K B' x (.bool true) from r')
    exact k _
end DL

set_option Elab.async false
set_option linter.all false
set_option maxRecDepth 100000
/-! The data layer: words for plain proofs. -/
namespace DL
open PySem PySem.Spec PyProof.Rows L2
theorem seq_l (o : Bool) (xs : List D) : R.seq (.l o xs) = some xs := rfl
theorem seq_t (xs : List D) : R.seq (.s (.tuple xs)) = some xs := rfl
theorem seq_L (xs : List D) : R.seq (.s (.list xs)) = some xs := rfl
theorem stab_t (xs : List D) : R.stab (.s (.tuple xs)) = some xs := rfl
theorem stab_L (xs : List D) : R.stab (.s (.list xs)) = some xs := rfl
theorem look_s (d : D) : R.look (.s d) = some d := rfl
theorem look_l (o : Bool) (xs : List D) : R.look (.l o xs) = some (.list xs) := rfl
theorem dat_s (d : D) : R.dat (.s d) = some d := rfl
theorem frz_s (d : D) : frz (.s d) = .s d := rfl
theorem frz_l (xs : List D) : frz (.l true xs) = .s (.list xs) := rfl
theorem peek_s (d : D) : peek (.s d) = .s d := rfl
theorem peek_l (o : Bool) (xs : List D) : peek (.l o xs) = .l false xs := rfl
theorem peek_g : peek .g = .g := rfl
theorem keeps_s (d : D) : keeps (.s d) = true := rfl
theorem keeps_l (xs : List D) : keeps (.l true xs) = true := rfl
theorem dats_nil : dats [] = some [] := rfl
theorem dats_cons (d : D) (rs : List R) : dats (.s d :: rs) = (match dats rs with | some ds => some (d :: ds) | none => none) := by
  show (match R.dat (.s d), dats rs with | some d, some ds => some (d :: ds) | _, _ => none) = _
  rw [dat_s]
  cases dats rs <;> rfl
/-- shaped data, by parts -/
theorem sh_int (i : Int) : Sh (.int i) := rfl
theorem sh_bool (i : Bool) : Sh (.bool i) := rfl
theorem sh_none : Sh .none := rfl
theorem eqv_int (i j : Int) : PyData.eqv (.int i) (.int j) = (i == j) := by simp [PyData.eqv]
theorem eqv_bool (i j : Bool) : PyData.eqv (.bool i) (.bool j) = (i == j) := by simp [PyData.eqv]
theorem eqv_str (i j : Str) : PyData.eqv (.str i) (.str j) = (i == j) := by simp [PyData.eqv]
theorem at0 {α : Type} (x : α) (l : List α) : L2.atI (x :: l) 0 = some x := atI_nat (j := 0) rfl
theorem at1 {α : Type} (x y : α) (l : List α) : L2.atI (x :: y :: l) 1 = some y := atI_nat (j := 1) rfl
theorem at2 {α : Type} (x y z : α) (l : List α) : L2.atI (x :: y :: z :: l) 2 = some z := atI_nat (j := 2) rfl
theorem at3 {α : Type} (x y z u : α) (l : List α) : L2.atI (x :: y :: z :: u :: l) 3 = some u := atI_nat (j := 3) rfl
theorem flat_none : flatD .none = true := rfl
theorem flat_bool (b : Bool) : flatD (.bool b) = true := rfl
theorem flat_int (b : Int) : flatD (.int b) = true := rfl
theorem flat_str (b : Str) : flatD (.str b) = true := rfl
theorem isS_s (d : D) : R.isS (.s d) = true := rfl
theorem isN_none : R.isN (.s .none) = true := rfl
theorem isN_int (i : Int) : R.isN (.s (.int i)) = false := rfl
theorem isN_bool (i : Bool) : R.isN (.s (.bool i)) = false := rfl
theorem isN_str (i : Str) : R.isN (.s (.str i)) = false := rfl
theorem isN_tup (i : List D) : R.isN (.s (.tuple i)) = false := rfl
theorem bne_ff (b : Bool) : (false != b) = b := by cases b <;> rfl
theorem bne_tt (b : Bool) : (true != b) = !b := by cases b <;> rfl
theorem drop_at {α : Type} {l : List α} {i : Nat} {d : α} (h : l[i]? = some d) : l.drop i = d :: l.drop (i + 1) := by
  obtain ⟨h1, h2⟩ := List.getElem?_eq_some_iff.mp h
  rw [List.drop_eq_getElem_cons h1, h2]
theorem take_at {α : Type} {l : List α} {i : Nat} {d : α} (h : l[i]? = some d) : l.take (i + 1) = l.take i ++ [d] := by
  rw [List.take_succ, h]
  rfl
/-- an if of two known ways -/
theorem ite_both {c : Bool} {A B : Prop} (h1 : c = true → A) (h2 : c = false → B) : if c = true then A else B := by
  cases c with
  | true => exact (if_pos rfl).mpr (h1 rfl)
  | false => exact (if_neg Bool.false_ne_true).mpr (h2 rfl)
end DL

set_option Elab.async false
set_option linter.all false
set_option maxRecDepth 100000
/-! The data layer: what the end of a claim needs. -/
namespace DL
open PySem PySem.Spec PyProof.Rows L2
/-- nobody asks it -/
def c_never : Ct := fun _ _ _ => False
theorem fn_never {P : Program} {w : World} {K : Frag} {mg : Str → Option Value} {base : Heap} {CX : CXT} {k : Nat} {f : Addr} {fd : FuncData} {ps : List Str} : FnOk P w K mg base CX k f fd ps (spD K c_never) :=
  ⟨fun _ _ _ _ h => by obtain ⟨_, _, _, _, _, _, _, _, z, _⟩ := h; exact z.elim, fun _ _ _ _ _ _ _ _ _ _ _ _ _ h => by obtain ⟨_, _, _, _, _, _, _, _, z, _⟩ := h; exact z.elim⟩
/-- what a law's head asks for -/
theorem law_fd {K : Frag} {x : Str} {st : Stmt} {fa : Addr} {fd : FuncData} (F : Fun K x x st fa fd) (e : Binds K fd ["script"] []) (h : ∀ (s : Shared) (v : Value), BindsTo s fd ⟨[v], []⟩ [("script", v)]) : ∀ (s : Shared) (v : Value), BindsTo s fd ⟨[v], []⟩ [("script", v)] := h
end DL

set_option Elab.async false
set_option linter.all false
set_option maxRecDepth 100000
/-! The data layer: zip, dict(..), {}. -/
namespace DL
open PySem PySem.Spec PyProof.Rows L2
theorem newS_ok {G : Gh} {B H : Hp} {p : Addr} {o : HO} (bh : Same B (hide G H)) (ok : G.ok H) (hp : H p = none) : Stp G B H (upd B p o) (upd H p o) ∧ Same (upd B p o) (hide G (upd H p o)) ∧ G.ok (upd H p o) := by
  have hb : B p = none := bh.free (hide_free hp)
  have hg : p ∉ G.at_ := fun z => G.here _ ok _ z hp
  refine ⟨Stp.newS hp hb, fun b u e => ?_, ghost_upd hg ok⟩
  rw [hide_upd hg]
  by_cases z : b = p
  · subst z; rw [upd_same] at e ⊢; exact e
  · rw [upd_ne z] at e ⊢; exact bh _ _ e
def zipD (xs ys : List D) : List D := List.zipWith (fun a b => PyData.tuple [a, b]) xs ys
theorem zipD_len (xs ys : List D) : (zipD xs ys).length = min xs.length ys.length := by simp [zipD]
section
variable {K : Frag} {G : Gh} {Later : Hp → Hp → Prop}
theorem itd_zip {a b : Addr} {xs ys : List V} {ds es : List D} (h : ∀ B H, Later B H → (SqT K H a xs ∧ SqT K H b ys) ∧ (DpAll K B xs ds ∧ DpAll K B ys es) ∧ Same B (hide G H) ∧ G.ok H) : ItD K G Later (ItzN K a b) (zipD ds es) := by
  refine ⟨fun i B H l hi => ?_, fun B H l => ?_, fun i B H x H' l hi y => ?_⟩
  · obtain ⟨⟨h1, h2⟩, ⟨h3, h4⟩, _⟩ := h B H l
    rw [zipD_len] at hi
    have i1 : i < xs.length := by rw [h3.length]; omega
    have i2 : i < ys.length := by rw [h4.length]; omega
    exact ⟨xs, ys, xs[i], ys[i], h1, h2, by simp [i1], by simp [i2]⟩
  · obtain ⟨⟨h1, h2⟩, ⟨h3, h4⟩, _⟩ := h B H l
    exact ⟨xs, ys, h1, h2, by rw [h3.length, h4.length, zipD_len]; omega⟩
  · obtain ⟨⟨h1, h2⟩, ⟨h3, h4⟩, h5, h6⟩ := h B H l
    obtain ⟨T, o, x1, y1, rfl, hT, hn, rfl, k1, k2⟩ := y
    obtain ⟨d, e1, e2⟩ := h3.get' (k1 xs h1)
    obtain ⟨d', e3, e4⟩ := h4.get' (k2 ys h2)
    obtain ⟨s, q1, q2⟩ := newS_ok (o := .frz o (.tup [x1, y1])) h5 h6 hT
    exact ⟨.tuple [d, d'], _, by simp [zipD, List.getElem?_zipWith, e1, e3], .tup (.inl ⟨o, upd_same, hn⟩) (.cons (Dp.mono s.bb e2) (.cons (Dp.mono s.bb e4) .nil)), s, q1, q2⟩
end
def zipOf : R → R → Option (List D)
  | .s (.tuple xs), .s (.tuple ys) => some (zipD xs ys)
  | _, _ => none
theorem zip_cases {a b : R} {l : List D} (h : zipOf a b = some l) : ∃ xs ys, a = .s (.tuple xs) ∧ b = .s (.tuple ys) ∧ l = zipD xs ys := by
  unfold zipOf at h
  split at h
  · cases h; exact ⟨_, _, rfl, rfl, rfl⟩
  · cases h
def wZip (ws : AW) : IW := fun ρ Q E => ws ρ (fun rs => ∃ a b l, rs = [a, b] ∧ zipOf a b = some l ∧ Q l) E
section
variable {X : Cx} {W : WX} {tg e : Expr} {ws : AW}
theorem pic_zip (h : PI X tg e (iZipN X.K (TDa X.K W ws))) : PIC X W tg e (wZip ws) := pi_imp h fun σ H Q ⟨G, B0, H0, B, ρ, Qd, Qe, S, q, ok, er⟩ => by
  refine ⟨G, B0, H0, B, ρ, _, Qe, S, q, fun rs xs B' H' S' s r' ap q' => ?_, er⟩
  obtain ⟨a, b, l, rfl, e1, q'⟩ := q'
  obtain ⟨x, y, rfl, r1, r2⟩ := r'.two
  obtain ⟨ds, es, rfl, rfl, rfl⟩ := zip_cases e1
  obtain ⟨p1, xs, rfl, h1, h2⟩ := r1.tup
  obtain ⟨p2, ys, rfl, h3, h4⟩ := r2.tup
  have up := S'.bh.trans (hide_le H')
  exact ⟨_, _, _, _, rfl, (h1.up up).t, (h3.up up).t, ok _ _ _ _ S' s (itd_zip fun B2 H2 ⟨l1, l2, l3⟩ =>
    ⟨⟨((h1.up l1.bb).up (l2.trans (hide_le H2))).t, ((h3.up l1.bb).up (l2.trans (hide_le H2))).t⟩, ⟨DpAll.mono l1.bb h2, DpAll.mono l1.bb h4⟩, l2, l3⟩) q'⟩
theorem pif_zip (h : PI X tg e (iZipN X.K (TDa X.K W ws))) : PIF X W tg e (wZip ws) := pi_imp h fun σ H Q ⟨G, B0, H0, B, ρ, Qd, Qe, S, q, ok, er⟩ => by
  refine ⟨G, B0, H0, B, ρ, _, Qe, S, q, fun rs xs B' H' S' s r' ap q' => ?_, er⟩
  obtain ⟨a, b, l, rfl, e1, q'⟩ := q'
  obtain ⟨x, y, rfl, r1, r2⟩ := r'.two
  obtain ⟨ds, es, rfl, rfl, rfl⟩ := zip_cases e1
  obtain ⟨p1, xs, rfl, h1, h2⟩ := r1.tup
  obtain ⟨p2, ys, rfl, h3, h4⟩ := r2.tup
  have up := S'.bh.trans (hide_le H')
  exact ⟨_, _, _, _, rfl, (h1.up up).t, (h3.up up).t, ok _ _ _ _ S' s (itd_zip fun B2 H2 ⟨l1, l2, l3, _⟩ =>
    ⟨⟨((h1.up l1).up (l2.trans (hide_le H2))).t, ((h3.up l1).up (l2.trans (hide_le H2))).t⟩, ⟨DpAll.mono l1 h2, DpAll.mono l1 h4⟩, l2, l3⟩) q'⟩
end
/-! ### {}, dict(..) -/
def wDNew : EW := fun ρ Q E => Q (.k true [])
theorem pd_dnew {X : Cx} {W : WX} {e : Expr} (h : PE X e tDNewK) : PD X W e wDNew := pe_imp h fun σ H Q ⟨G, B0, H0, B, ρ, Qd, Qe, S, q, ok, er⟩ => fun p hp =>
  Cont.dk (Qd := Qd) ⟨S.bh, S.gok⟩ (fun r z B' H' s bh g hr q' => ok r z B' H' (S.step s bh g) s hr q') hp .nil q
/-- pairs with keys -/
def pairsK : List D → Option (List (Key × D))
  | [] => some []
  | .tuple [a, d] :: r => match ofK a, pairsK r with
    | some k, some s => some ((k, d) :: s)
    | _, _ => none
  | _ => none
def fDict : FL := fun rs Q => ∃ r, rs = [r] ∧ ((∃ kvs, r.kv = some kvs ∧ Q (.k true kvs)) ∨ ∃ ds kvs, r.seq = some ds ∧ pairsK ds = some kvs ∧ Q (.k true (kMerge [] kvs)))
theorem pairs_read {K : Frag} {B H : Hp} (up : Same B H) : ∀ {ds : List D} {kvs : List (Key × D)} {xs : List V}, pairsK ds = some kvs → DpAll K B xs ds →
    ∃ (ps : List Addr) (kv : List (Key × V)), xs = ps.map V.ref ∧ Paired (fun p q => SqT K H p [kV q.1, q.2]) ps kv ∧ KvP K B kv kvs
  | [], kvs, xs, e, h => by
    cases h
    cases e
    exact ⟨[], [], rfl, .nil, .nil⟩
  | d :: r, kvs, xs, e, h => by
    cases h with
    | cons h t =>
      unfold pairsK at e
      split at e
      · cases ‹_ :: _ = []›
      · rename_i a d' r' heq
        cases heq
        cases h1 : ofK a with
        | none => rw [h1] at e; cases e
        | some k =>
          cases h2 : pairsK r with
          | none => rw [h1, h2] at e; cases e
          | some s =>
            rw [h1, h2] at e
            cases e
            obtain ⟨ps, kv, rfl, p1, p2⟩ := pairs_read up h2 t
            cases h with
            | tup g1 g2 =>
              cases g2 with
              | cons ga g3 =>
                cases g3 with
                | cons gd g4 =>
                  cases g4
                  cases kV_of ga h1
                  rename_i pa vd
                  exact ⟨pa :: ps, (k, vd) :: kv, rfl, .cons (g1.up up).t p1, .cons gd p2⟩
      · cases e
/-- dict(t) of a neat tuple of pairs -/
theorem pairs_are {X : Cx} {pins : List (Addr × Obj)} {σ : L2.St} {H : Hp} {s : Shared} (I : Inv X pins σ H s) : ∀ {ps : List Addr} {kvs : List (Key × V)}, Paired (fun p kv => SqT X.K H p [kV kv.1, kv.2]) ps kvs →
    ∃ (prs : List (Key × Value)) (uv : List (Value × Value)), KV kvs prs ∧ prs.length = ps.length ∧ uv.length = ps.length ∧ ∀ (j : Nat) (u v : Value), uv[j]? = some (u, v) → ∃ b k, ps[j]? = some b ∧ IsTup s.heap b #[u, v] ∧ prs[j]? = some (k, v) ∧ keyIs k u = true
  | _, _, .nil => ⟨[], [], .nil, rfl, rfl, fun j u v e => by simp at e⟩
  | _, _, .cons (a := p) (b := kv) h t => by
    obtain ⟨prs, uv, g1, g2, g3, g4⟩ := pairs_are I t
    obtain ⟨its, rv, ht, _⟩ := I.tuple h
    obtain ⟨u, y, ei, ru, ry⟩ := vals2 rv
    subst ei
    refine ⟨(kv.1, y) :: prs, (u, y) :: uv, .cons ⟨rfl, ry⟩ g1, congrArg (· + 1) g2, congrArg (· + 1) g3, fun j u' v' e => ?_⟩
    cases j with
    | zero =>
      cases (show some (u, y) = some (u', v') from e)
      exact ⟨p, kv.1, rfl, ht, rfl, kV_is (P := X.prog) (w := X.w) ru⟩
    | succ j => exact g4 j u' v' e
theorem SqN.obj {X : Cx} {pins : List (Addr × Obj)} {σ : L2.St} {H : Hp} {s : Shared} {a : Addr} {xs : List V} (I : Inv X pins σ H s) (h : SqN X.K H a xs) : ∃ (o : Obj) (its : Array Value) (n : Nat), s.heap.get? a = some o ∧ Neat o ∧ o.data = .seq its n ∧ its.size ≤ sizeLine ∧ Vals xs its.toList := by
  rcases h with ⟨o, h, hn⟩ | ⟨o, its, n, h1, h2, h3, h4, h5⟩
  · obtain ⟨e, hz, its, r, o', e', _, n, hd⟩ := I.hok _ _ h
    rw [e] at e'
    cases e'
    exact ⟨o, its.toArray, n, e, hn, hd, by rw [List.size_toArray, ← r.length]; exact hz, r⟩
  · exact ⟨o, its, n, I.kIn _ _ h1, h2, h3, h4, h5⟩
theorem callN_dictT {X : Cx} (hc : X.calm = true) : CallR X (.type "dict") (fun vs H Q => ∃ (a : Addr) (ps : List Addr) (kvs : List (Key × V)), vs = [.ref a] ∧ SqN X.K H a (ps.map V.ref) ∧ Paired (fun p kv => SqT X.K H p [kV kv.1, kv.2]) ps kvs ∧
    ∀ p, H p = none → Q (.ref p) (upd H p (.dK (mergeK [] kvs)))) := by
  intro pins s σ H vs us Q I r ⟨a, ps, kvs, ev, hq, hp, q⟩
  subst ev
  obtain ⟨u, eu, rx⟩ := vals1 r
  subst eu
  cases rx
  obtain ⟨o, its, n, ho, hn, hd, hz, rv⟩ := hq.obj I
  have ei := refs_at rv
  obtain ⟨prs, uv, g1, g2, g3, g4⟩ := pairs_are I hp
  have hsz : its.size = ps.length := by rw [← Array.length_toList, ei, List.length_map]
  have hit : ∀ (j : Nat) (b : Addr), ps[j]? = some b → its[j]? = some (Value.ref b) := fun j b e => by
    rw [← Array.getElem?_toList, ei, List.getElem?_map, e]
    rfl
  have arg := PairArg.tuple (prog := X.prog) (w := X.w) a its (fun j => ps.getD j 0) uv
  refine call_dict_pairs (knd := mixKind X.prog X.w) (kvs := prs) arg (I.ok.hd hc) ⟨⟨o, n, ho, hn.1, hn.2, hd⟩, by rw [hsz, g3], fun j k v e => ?_⟩ ⟨by rw [g2, g3], fun i key v e => ?_⟩ (by rw [g3, ← hsz]; exact hz) fun h' tk hd' hk => ?_
  · obtain ⟨b, kk, e1, e2, e3, e4⟩ := g4 j k v e
    have eb : ps.getD j 0 = b := by simp [List.getD, e1]
    show its[j]? = some (.ref (ps.getD j 0)) ∧ PairAt s.heap (ps.getD j 0) k v
    rw [eb]
    exact ⟨hit j b e1, .inl e2⟩
  · obtain ⟨b, kk, e1, e2, e3, e4⟩ := g4 i key v e
    exact ⟨kk, e3, e4⟩
  · have hm : (s.heap.objs.size == sysModules) = false := beq_eq_false_iff_ne.mpr (Nat.ne_of_gt I.big)
    have hlen : (mergeK [] kvs).length ≤ sizeLine := by
      refine Nat.le_trans (length_mergeK kvs []) ?_
      rw [List.length_nil, Nat.zero_add, g1.length, g2, ← hsz]
      exact hz
    exact ⟨.ref s.heap.objs.size, upd H s.heap.objs.size (.dK (mergeK [] kvs)), I.laid (t' := tk) (fun b o e => hk b o (fun z => nomatch z) e) (Nat.le_refl _) (show ObjOk X.prog X.w _ _ _ (.dK (mergeK [] kvs)) from ⟨hlen, hm, merged [] prs, KV.merge g1 .nil, hd'⟩), rfl, q _ (I.hok.fresh (Nat.le_refl _))⟩
theorem c_dict {X : Cx} (hc : X.calm = true) : CallR X (.type "dict") (liftL X.K fDict) := by
  intro pins s σ H xs us Q I rx hh
  obtain ⟨G, Hs, B, rs, Qd, c, ra, ⟨r, rfl, q⟩, k⟩ := hh
  obtain ⟨x, rfl, r1⟩ := ra.one
  rcases q with ⟨kvs, e1, q⟩ | ⟨ds, kvs, e1, e2, q⟩
  · obtain ⟨p, xs, rfl, h1, h2⟩ := r1.kv e1 c.bh
    exact call_dictD pins s σ H _ us Q I rx ⟨p, xs, rfl, .inl h1, fun p' hp => k.dk c hp h2 q⟩
  · cases r with
    | s d =>
      cases d with
      | tuple es =>
        cases e1
        obtain ⟨p, xs, rfl, h1, h2⟩ := r1.tup
        obtain ⟨ps, kv, rfl, g1, g2⟩ := pairs_read c.le e2 h2
        exact callN_dictT hc pins s σ H _ us Q I rx ⟨p, ps, kv, rfl, h1.up c.le, g1, fun p' hp => k.dk c hp (KvP.merge g2 .nil) q⟩
      | list es =>
        cases e1
        cases (show Dp X.K B x (.list ds) from r1) with
        | lst h1 h2 =>
          obtain ⟨ps, kv, rfl, g1, g2⟩ := pairs_read c.le e2 h2
          exact call_dictP hc pins s σ H _ us Q I rx ⟨_, ps, kv, rfl, Same.sqL c.le h1, g1, fun p' hp => k.dk c hp (KvP.merge g2 .nil) q⟩
      | _ => cases e1
    | l own es =>
      cases e1
      obtain ⟨p, xs, rfl, h1, h2, _⟩ := r1
      obtain ⟨ps, kv, rfl, g1, g2⟩ := pairs_read c.le e2 h2
      exact call_dictP hc pins s σ H _ us Q I rx ⟨_, ps, kv, rfl, .inl (.inl (hide_some h1).2), g1, fun p' hp => k.dk c hp (KvP.merge g2 .nil) q⟩
    | _ => cases e1
end DL

set_option Elab.async false
set_option linter.all false
set_option maxRecDepth 100000
/-! The data layer: sorted(..). -/
namespace DL
open PySem PySem.Spec PyProof.Rows L2
/-- many new objects at once -/
theorem lay_new {X : Cx} {pins : List (Addr × Obj)} {σ : L2.St} {H H' : Hp} {s : Shared} {h' : Heap} {tk : Nat} (I : Inv X pins σ H s) (hk : ∀ b o, s.heap.get? b = some o → h'.get? b = some o) (low : ∀ a, a < s.heap.objs.size → H' a = H a)
    (hi : ∀ a o, s.heap.objs.size ≤ a → H' a = some o → ObjOk X.prog X.w H' h' a o) : Inv X pins σ H' { s with heap := h', toks := tk } := by
  have kp : ∀ b u, H b = some u → H' b = some u := fun b u e => by rw [low b (I.hok b u e).lt]; exact e
  refine I.call' (ch := []) rfl ⟨fun b o q _ _ _ => hk b o q, fun b o q _ _ _ => ⟨o.slots, hk b o q⟩, fun b o q n _ => ?_, fun b o q _ => ⟨o, hk b o q⟩, fun b xs q => kp b _ q, fun b o u q => kp b _ q, fun b ps q => ⟨#[], by rw [kp b _ q]; simp⟩⟩ (fun b u q => ?_) I.bare fun b z => by cases z
  · rw [low b (Heap.lt_size q)]; exact n
  · by_cases hb : b < s.heap.objs.size
    · rw [low b hb] at q
      exact (I.hok b u q).stay (fun d v _ y => hk d v y) (fun d y => kp d _ y) fun d xs y => kp d _ y
    · exact hi b u (Nat.le_of_not_lt hb) q
def sortD (ds : List D) : List D := ds.mergeSort (PySem.W.dataLe false id)
/-- what may be sorted -/
structure SrtOk (ds : List D) : Prop where
  al : PySem.W.AllAlike ds
  so : PySem.W.Sortable ds
  ly : ∀ d ∈ ds, PyData.canLay0 d = true ∧ PyData.depth d ≤ 60
  ln : ds.length ≤ 16777216
/-- a value and its datum -/
def Vd (K : Frag) (B : Hp) (v : Value) (d : D) : Prop := ∃ x, RelV x v ∧ Dp K B x d
theorem vd_all {K : Frag} {B : Hp} : ∀ {vs : List Value} {xs : List V} {ds : List D}, Vals xs vs → DpAll K B xs ds → PySem.W.EachIs (Vd K B) vs ds
  | _, _, _, .nil, .nil => .nil
  | _, _, _, .cons r t, .cons h u => .cons ⟨_, r, h⟩ (vd_all t u)
theorem vd_back {K : Frag} {B : Hp} : ∀ {vs : List Value} {ds : List D}, PySem.W.EachIs (Vd K B) vs ds → ∃ xs, Vals xs vs ∧ DpAll K B xs ds
  | _, _, .nil => ⟨[], .nil, .nil⟩
  | _, _, .cons ⟨x, r, h⟩ t => let ⟨xs, r', h'⟩ := vd_back t; ⟨x :: xs, .cons r r', .cons h h'⟩
theorem vd_reads {X : Cx} {pins : List (Addr × Obj)} {σ : L2.St} {H B : Hp} {s : Shared} (I : Inv X pins σ H s) (up : Same B H) : ∀ {vs : List Value} {ds : List D}, PySem.W.EachIs (Vd X.K B) vs ds → (∀ d ∈ ds, PyData.canLay0 d = true) → PySem.W.EachIs (fun v b => ∃ as, Reads s.heap v (id b) as) vs ds
  | _, _, .nil, _ => .nil
  | _, _, .cons (b := d) ⟨x, r, h⟩ t, c => .cons (Dp.reads I d x _ ((Dp.mono up h).old (c d List.mem_cons_self)) r) (vd_reads I up t fun d' hd => c d' (List.mem_cons_of_mem _ hd))
def fSorted : FL := fun rs Q => ∃ r ds, rs = [r] ∧ ((∃ o, r = .l o ds) ∨ r = .s (.list ds)) ∧ SrtOk ds ∧ Q (.l true (sortD ds))
theorem c_sorted {X : Cx} (hu : X.A.units + 64 < cLine) : CallR X (.builtin "sorted") (liftL X.K fSorted) := by
  intro pins s σ H xs us Q I rx hh
  obtain ⟨G, Hs, B, rs, Qd, c, ra, ⟨r, ds, rfl, hr, so, q⟩, k⟩ := hh
  obtain ⟨x, rfl, r1⟩ := ra.one
  obtain ⟨u, rfl, rx'⟩ := vals1 rx
  obtain ⟨p, xs, rfl, h1, h2⟩ : ∃ p xs, x = .ref p ∧ SqL X.K H p xs ∧ DpAll X.K B xs ds := by
    rcases hr with ⟨o, rfl⟩ | rfl
    · obtain ⟨p, xs, rfl, h1, h2, _⟩ := r1
      exact ⟨p, xs, rfl, .inl (.inl (hide_some h1).2), h2⟩
    · cases (show Dp X.K B x (.list ds) from r1) with
      | lst h1 h2 => exact ⟨_, _, rfl, Same.sqL c.le h1, h2⟩
  cases rx'
  obtain ⟨its, rv, pl, hz⟩ := I.list h1
  have ev := vd_all rv h2
  refine PySem.W.sorted_data (enc := id) (R := Vd X.K B) (vs := its) pl.isList ev (vd_reads I c.le ev fun d hd => (so.ly d hd).1) (by rw [List.map_id]; exact so.al) (by rw [List.map_id]; exact so.so) (by rw [line_eq]; exact so.ln) (fun d hd => ?_) fun out ho eo => ?_
  · have := (so.ly d hd).2
    show X.A.units + 2 + d.depth < cLine
    omega
  · obtain ⟨ys, ry, hy⟩ := vd_back eo
    obtain ⟨n, at'⟩ := sortedAll_at s.heap its (List.toArray out)
    have hp : H (s.heap.objs.size + 1) = none := I.hok.fresh (Nat.le_succ _)
    refine ⟨.ref (s.heap.objs.size + 1), upd H (s.heap.objs.size + 1) (.lst ys), I.laid (t' := s.toks) (fun b o e => sortedAll_old e) (Nat.le_succ _) ⟨?_, out, n, ry, at'⟩, rfl, k.lst c hp hy q⟩
    rw [ry.length, ho, line_eq]
    exact so.ln
/-! ### sorted(d.items()) -/
def rItemsK : V → List V → Hp → VK → Prop := fun x vs H Q => ∃ a kvs, x = .ref a ∧ vs = [] ∧ H a = some (.dK kvs) ∧ ∀ p, H p = none → Q (.ref p) (upd H p (DX.itemsO p a))
theorem dk_raw {X : Cx} {pins : List (Addr × Obj)} {σ : L2.St} {H : Hp} {s : Shared} {a : Addr} {kvs : List (Key × V)} (I : Inv X pins σ H s) (h : H a = some (.dK kvs)) :
    kvs.length ≤ sizeLine ∧ (a == sysModules) = false ∧ ∃ (vs : List (Key × Value)) (es : Array DictEntry) (ep : Nat), KV kvs vs ∧ DT.Raw s.heap a es ep ∧ Pairs (mixKind X.prog X.w) es.toList vs := by
  obtain ⟨hz, hd, vs, rel, o, es, ep, ho, hx, hdat, _, hp, _⟩ := I.hok _ _ h
  exact ⟨hz, hd, vs, es, ep, rel, ⟨o, ho, hx, hdat⟩, hp⟩
theorem mt_itemsK {X : Cx} : MtR X "dict.items" rItemsK := by
  intro pins s σ H x xs v us Q I rx rxs ⟨a, kvs, ex, ev, ha, q⟩
  subst ex ev
  cases rx
  cases rxs
  obtain ⟨_, hd, _, es, ep, _, raw, _⟩ := dk_raw I ha
  exact DT.callItems hd raw ⟨.ref s.heap.objs.size, _, I.laid (t' := s.toks) (fun b u e => Heap.get?_push_of_some _ e) (Nat.le_refl _) (DX.itemsO_ok (Heap.get?_push_size _ rfl)), rfl, q _ (I.hok.fresh (Nat.le_refl _))⟩
def pairsD (ds : List (Key × D)) : List D := ds.map fun p => .tuple [kD p.1, p.2]
def grow (B H H' : Hp) (l : Addr) : Hp := fun b => match H b with
  | some _ => B b
  | none => if b = l then none else H' b
theorem flat_reads {K : Frag} {B : Hp} {h : Heap} {v : V} {d : D} {u : Value} (hv : Dp K B v d) (f : flatD d = true) (r : RelV v u) : Reads h u d [] := by
  cases hv with
  | non => cases r; exact .none
  | bl b => cases r; exact .bool b
  | int i => obtain ⟨t, rfl⟩ := r; exact .int i t
  | str x => obtain ⟨t, rfl⟩ := r; exact .str x t
  | lst _ _ => cases f
  | tup _ _ => cases f
  | dic _ _ => cases f
theorem key_reads {h : Heap} {k : Key} {u : Value} (r : RelV (kV k) u) : Reads h u (kD k) [] := by
  cases k with
  | inl i => obtain ⟨t, rfl⟩ := r; exact .int i t
  | inr x => obtain ⟨t, rfl⟩ := r; exact .str x t
theorem key_dp {K : Frag} {B : Hp} (k : Key) : Dp K B (kV k) (kD k) := by
  cases k with
  | inl i => exact .int i
  | inr x => exact .str x
theorem pairs_made {X : Cx} {B : Hp} {h' : Heap} : ∀ {as : List Addr} {vs : List (Key × Value)} {kvs : List (Key × V)} {ds : List (Key × D)}, KV kvs vs → KvP X.K B kvs ds → as.length = vs.length →
    (∀ (j : Nat) (a : Addr), as[j]? = some a → ∃ key k x, vs[j]? = some (k, x) ∧ keyIs k key = true ∧ h'.get? a = some { cls := .type "tuple", data := .seq #[key, x] }) → (∀ q ∈ ds, flatD q.2 = true) →
    ∃ N : List (Addr × HO), N.map (·.1) = as ∧ (∀ p ∈ N, ∀ (H'' : Hp) (h2 : Heap), (∀ o, h'.get? p.1 = some o → h2.get? p.1 = some o) → ObjOk X.prog X.w H'' h2 p.1 p.2) ∧ ∀ B' : Hp, (∀ p ∈ N, B' p.1 = some p.2) → Same B B' →
      PySem.W.EachIs (Vd X.K B') (as.map Value.ref) (pairsD ds) ∧ PySem.W.EachIs (fun v b => Reads h' v b []) (as.map Value.ref) (pairsD ds)
  | [], [], _, _, .nil, .nil, _, _, _ => ⟨[], rfl, fun p hp => (nomatch hp), fun B' _ _ => ⟨.nil, .nil⟩⟩
  | [], _ :: _, _, _, _, _, hl, _, _ => by cases hl
  | _ :: _, [], _, _, _, _, hl, _, _ => by cases hl
  | a :: as, (k, y) :: vs, _, _, .cons (a := (k1, v1)) ⟨e1, ry⟩ kt, hkv, hl, hm, hf => by
    cases hkv with
    | @cons _ _ d _ ds hd ht =>
      obtain ⟨key, k0, x, g1, g2, g3⟩ := hm 0 a rfl
      cases (show some (k, y) = some (k0, x) from g1)
      obtain rfl : k1 = k := e1
      obtain ⟨N, n1, n2, n3⟩ := pairs_made kt ht (Nat.succ.inj hl) (fun j b e => hm (j + 1) b e) (fun q hq => hf q (List.mem_cons_of_mem _ hq))
      have rk : RelV (kV k1) key := relV_key g2
      refine ⟨(a, .frz { cls := .type "tuple", data := .seq #[key, y] } (.tup [kV k1, v1])) :: N, congrArg (a :: ·) n1, fun p hp H'' h2 hk => ?_, fun B' hb hs => ?_⟩
      · rcases List.mem_cons.mp hp with rfl | hp
        · exact ⟨hk _ g3, by show 2 ≤ sizeLine; decide, [key, y], .cons rk (.cons ry .nil), _, hk _ g3, rfl, _, rfl⟩
        · exact n2 p hp H'' h2 hk
      · obtain ⟨q1, q2⟩ := n3 B' (fun p hp => hb p (List.mem_cons_of_mem _ hp)) hs
        refine ⟨.cons ⟨.ref a, rfl, .tup (.inl ⟨_, hb _ List.mem_cons_self, rfl, rfl⟩) (.cons (key_dp k1) (.cons (Dp.mono hs hd) .nil))⟩ q1, .cons ?_ q2⟩
        exact .tuple g3 rfl rfl (.cons (key_reads rk) (.cons (flat_reads hd (hf _ List.mem_cons_self) ry) .nil))
theorem find_one : ∀ {N : List (Addr × HO)} {p : Addr × HO}, (N.map (·.1)).Nodup → p ∈ N → N.find? (fun q => decide (q.1 = p.1)) = some p
  | [], _, _, h => (nomatch h)
  | q :: N, p, hn, h => by
    rw [List.map_cons, List.nodup_cons] at hn
    rcases List.mem_cons.mp h with rfl | h
    · simp
    · have ne : ¬ q.1 = p.1 := fun e => hn.1 (by rw [e]; exact List.mem_map.mpr ⟨p, h, rfl⟩)
      rw [List.find?_cons_of_neg (by simpa using ne)]
      exact find_one hn.2 h
def rSI (K : Frag) : List V → Hp → VK → Prop := fun vs H Q => ∃ p a kvs B ds, vs = [.ref p] ∧ H p = some (DX.itemsO p a) ∧ H a = some (.dK kvs) ∧ Same B H ∧ KvP K B kvs ds ∧ (∀ q ∈ ds, flatD q.2 = true) ∧ SrtOk (pairsD ds) ∧
  ∀ (H' : Hp) (l : Addr) (xs : List V), Same H H' → H l = none → H' l = some (.lst xs) → DpAll K (grow B H H' l) xs (sortD (pairsD ds)) → Q (.ref l) H'
theorem c_sortIt {X : Cx} (hc : X.calm = true) (hu : X.A.units + 64 < cLine) : CallR X (.builtin "sorted") (rSI X.K) := by
  intro pins s σ H xs us Q I rx ⟨p, a, kvs, B, ds, ev, hp, ha, up, hkv, hf, so, q⟩
  subst ev
  obtain ⟨u, eu, rp⟩ := vals1 rx
  subst eu
  cases rp
  obtain ⟨hz, _, vs, es, ep, rel, raw, prs⟩ := dk_raw I ha
  have hes : es.size = vs.length := by rw [← Array.length_toList]; exact prs.length
  have hkl := rel.length
  refine DT.sortedI (I.ok.hd hc) (I.hok _ _ hp).1 raw (by rw [hes, ← hkl]; exact hz) fun h' tk as hk hlt hl hG => ?_
  have made : ∀ (j : Nat) (b : Addr), as[j]? = some b → ∃ key k x, vs[j]? = some (k, x) ∧ keyIs k key = true ∧ h'.get? b = some { cls := .type "tuple", data := .seq #[key, x] } := fun j b e => by
    obtain ⟨en, e1, e2⟩ := hG.pairs j b e
    have e3 : es.toList[j]? = some en := by rw [Array.getElem?_toList]; exact e1
    obtain ⟨⟨k, x⟩, e4⟩ : ∃ z, vs[j]? = some z := ⟨_, List.getElem?_eq_getElem (by rw [← prs.length]; exact (List.getElem?_eq_some_iff.mp e3).1)⟩
    obtain ⟨g1, g2⟩ := prs.get? e3 e4
    subst g2
    exact ⟨en.key, k, en.val, e4, g1, e2⟩
  obtain ⟨N, n1, n2, n3⟩ := pairs_made (X := X) rel hkv (hl.trans hes) made hf
  have nd : (N.map (·.1)).Nodup := by rw [n1]; exact hG.rise.imp fun h => Nat.ne_of_lt h
  let H' : List V → Hp := fun ys b => if b < s.heap.objs.size then H b else if b = h'.objs.size then some (.lst ys) else (N.find? fun z => decide (z.1 = b)).map (·.2)
  have inN : ∀ z ∈ N, s.heap.objs.size < z.1 ∧ z.1 < h'.objs.size := fun z hz' => by
    have m : z.1 ∈ as := by rw [← n1]; exact List.mem_map.mpr ⟨z, hz', rfl⟩
    exact ⟨hG.above _ m, hG.there m⟩
  have atN : ∀ ys, ∀ z ∈ N, H' ys z.1 = some z.2 := fun ys z hz' => by
    obtain ⟨a1, a2⟩ := inN z hz'
    show (if z.1 < s.heap.objs.size then H z.1 else if z.1 = h'.objs.size then some (.lst ys) else (N.find? fun q => decide (q.1 = z.1)).map (·.2)) = some z.2
    rw [if_neg (Nat.not_lt.mpr (Nat.le_of_lt a1)), if_neg (Nat.ne_of_lt a2), find_one nd hz']
    rfl
  have off : ∀ ys b, h'.objs.size ≤ b → b ≠ h'.objs.size → H' ys b = none := fun ys b h1 h2 => by
    show (if b < s.heap.objs.size then H b else if b = h'.objs.size then some (.lst ys) else (N.find? fun q => decide (q.1 = b)).map (·.2)) = none
    rw [if_neg (Nat.not_lt.mpr (Nat.le_trans (Nat.le_of_lt hlt) h1)), if_neg h2, List.find?_eq_none.mpr fun z hz' => ?_]
    · rfl
    · have := (inN z hz').2
      simpa using Nat.ne_of_lt (Nat.lt_of_lt_of_le this h1)
  have low : ∀ ys b, b < s.heap.objs.size → H' ys b = H b := fun ys b h => if_pos h
  have atL : ∀ ys, H' ys h'.objs.size = some (HO.lst ys) := fun ys => by
    show (if h'.objs.size < s.heap.objs.size then H h'.objs.size else if h'.objs.size = h'.objs.size then some (HO.lst ys) else (N.find? fun z => decide (z.1 = h'.objs.size)).map (·.2)) = some (HO.lst ys)
    rw [if_neg (Nat.not_lt.mpr (Nat.le_of_lt hlt)), if_pos rfl]
  have old : ∀ ys, Same H (H' ys) := fun ys b o e => by rw [low ys b (I.hok b o e).lt]; exact e
  have fresh : ∀ b, s.heap.objs.size ≤ b → H b = none := fun b h => I.hok.fresh h
  have gr : ∀ ys, grow B H (H' ys) h'.objs.size = grow B H (H' []) h'.objs.size := fun ys => by
    funext b
    unfold grow
    cases e : H b with
    | some _ => rfl
    | none =>
      by_cases hb : b = h'.objs.size
      · simp only [hb, if_true]
      · simp only [hb, if_false]
        show (if b < s.heap.objs.size then H b else if b = h'.objs.size then some (.lst ys) else _) = (if b < s.heap.objs.size then H b else if b = h'.objs.size then some (.lst []) else _)
        rw [if_neg hb, if_neg hb]
  have gB : Same B (grow B H (H' []) h'.objs.size) := fun b o e => by
    unfold grow
    rw [up b o e]
    exact e
  have gN : ∀ z ∈ N, grow B H (H' []) h'.objs.size z.1 = some z.2 := fun z hz' => by
    obtain ⟨a1, a2⟩ := inN z hz'
    unfold grow
    rw [fresh _ (Nat.le_of_lt a1)]
    simp only [Nat.ne_of_lt a2, if_false]
    exact atN [] z hz'
  obtain ⟨ev, er⟩ := n3 _ gN gB
  have la : (as.map Value.ref).length = (pairsD ds).length := ev.length
  have er' : ∀ {vs' : List Value} {bs : List D} {o : Obj}, PySem.W.EachIs (fun v b => Reads h' v b []) vs' bs → PySem.W.EachIs (fun v b => ∃ as', Reads (h'.push o) v (id b) as' ∧ h'.objs.size ∉ as') vs' bs := fun h => h.mono fun v b r =>
    ⟨[], PyProof.Rows.Reads.keeps (fun _ _ e => Heap.get?_push_of_some _ e) r, fun z => nomatch z⟩
  refine PySem.W.list_sort_data (enc := id) (R := Vd X.K (grow B H (H' []) h'.objs.size)) (n := 0) (Heap.get?_push_size _ rfl) ev (er' er) (by rw [List.map_id]; exact so.al) (by rw [List.map_id]; exact so.so) (by rw [line_eq]; exact so.ln) (fun d hd => ?_) fun out ho eo => ?_
  · have := (so.ly d hd).2
    show X.A.units + 1 + 1 + d.depth < cLine
    omega
  obtain ⟨ys, ry, hy⟩ := vd_back eo
  have hL : (h'.push { cls := .type "list", data := .seq (as.map Value.ref).toArray }).get? h'.objs.size = some (seqObj "list" (as.map Value.ref).toArray 0) := Heap.get?_push_size _ rfl
  obtain ⟨n, at'⟩ := sortedHeap_at (out := List.toArray out) hL
  have keep : ∀ b o, b ≠ h'.objs.size → h'.get? b = some o → (sortedHeap (h'.push { cls := .type "list", data := .seq (as.map Value.ref).toArray }) h'.objs.size (as.map Value.ref) (List.toArray out)).get? b = some o := fun b o hb e => by
    rw [sortedHeap_old hb (by rw [size_push']; exact Nat.lt_succ_of_lt (Heap.lt_size e))]
    exact Heap.get?_push_of_some _ e
  refine ⟨.ref h'.objs.size, H' ys, lay_new (s := s) (tk := tk) I (fun b o e => keep b o (Nat.ne_of_lt (Nat.lt_trans (Heap.lt_size e) hlt)) (hk b o e)) (low ys) (fun b o hb e => ?_), rfl, q _ _ ys (old ys) (fresh _ (Nat.le_of_lt hlt)) (atL ys) (by rw [gr ys]; exact hy)⟩
  by_cases hb2 : b = h'.objs.size
  · subst hb2
    rw [atL ys] at e
    cases e
    refine ⟨?_, out, n, ry, at'⟩
    rw [ry.length, ho, line_eq]
    exact so.ln
  · have e' : (N.find? fun z => decide (z.1 = b)).map (·.2) = some o := by
      have : H' ys b = (if b < s.heap.objs.size then H b else if b = h'.objs.size then some (.lst ys) else (N.find? fun z => decide (z.1 = b)).map (·.2)) := rfl
      rw [this, if_neg (Nat.not_lt.mpr hb), if_neg hb2] at e
      exact e
    cases f : N.find? fun z => decide (z.1 = b) with
    | none => rw [f] at e'; cases e'
    | some z =>
      rw [f] at e'
      cases e'
      have zb : z.1 = b := by simpa using List.find?_some f
      have zN := List.mem_of_find?_eq_some f
      subst zb
      exact n2 z zN _ _ fun o' e2 => keep _ o' hb2 e2
theorem grow_step {G : Gh} {B H1 H2 H' : Hp} {l : Addr} (bh : Same B (hide G H1)) (gok : G.ok H1) (h12 : Same H1 H2) (h2 : Same H2 H') (hl : H2 l = none) : Stp G B H1 (grow B H2 H' l) H' ∧ Same (grow B H2 H' l) (hide G H') ∧ G.ok H' ∧ l ∉ G.at_ ∧ H1 l = none := by
  have h1l : H1 l = none := h12.free hl
  have all : Same H1 H' := h12.trans h2
  have ng : ∀ b, H1 b = none → b ∉ G.at_ := fun b e z => G.here _ gok _ z e
  have hh : Same (hide G H1) (hide G H') := fun b o e => by
    obtain ⟨z, e⟩ := hide_some e
    rw [hide_out z]
    exact all _ _ e
  refine ⟨⟨fun b o e => ?_, hh, fun b o e1 e2 => ?_⟩, fun b o e => ?_, G.stay _ _ (fun a ha => ?_) gok, ng l h1l, h1l⟩
  · unfold grow
    rw [h12 b o (hide_some (bh b o e)).2]
    exact e
  · unfold grow
    rw [h12 b o (hide_some e2).2]
    exact e1
  · unfold grow at e
    cases q : H2 b with
    | some u => rw [q] at e; exact hh b o (bh b o e)
    | none =>
      rw [q] at e
      by_cases z : b = l
      · simp only [z, if_true] at e; cases e
      · simp only [z, if_false] at e
        rw [hide_out (ng b (h12.free q))]
        exact e
  · cases q : H1 a with
    | none => exact absurd q (G.here _ gok a ha)
    | some o => exact all a o q
def wSortIt (w : EW) : EW := fun ρ Q E => w ρ (fun r => ∃ kvs, r.kv = some kvs ∧ (kvs.all fun q => flatD q.2) = true ∧ SrtOk (pairsD kvs) ∧ Q (.l true (sortD (pairsD kvs)))) E
theorem pd_sortIt {X : Cx} {W : WX} {e : Expr} {w : EW} (h : PE X e (tCB (rSI X.K) (tCons (tBM0 X.K "dict" rItemsK (TDe X.K W w)) tNil))) : PD X W e (wSortIt w) := pe_imp h fun σ H Q ⟨G, B0, H0, B, ρ, Qd, Qe, S, q, ok, er⟩ => by
  refine ⟨G, B0, H0, B, ρ, _, Qe, S, q, fun r x B1 H1 S1 s1 r1 q1 => ?_, er⟩
  obtain ⟨kvs, e1, hf, so, q1⟩ := q1
  obtain ⟨p, xs, rfl, h1, h2⟩ := r1.kv e1 S1.bh
  refine ⟨.inr (.inr (.inl ⟨rfl, .inl ⟨_, h1⟩⟩)), p, xs, rfl, rfl, h1, fun v hv => ?_⟩
  have h12 : Same H1 (upd H1 v (DX.itemsO v p)) := fun b o e => by rw [upd_ne (ne_of_none e hv)]; exact e
  refine ⟨v, p, xs, B1, kvs, rfl, upd_same, h12 _ _ h1, (S1.bh.trans (hide_le H1)).trans h12, h2, List.all_eq_true.mp hf, so, fun H' l ys hs hl hL hd => ?_⟩
  obtain ⟨st, bh, gok, ng, hl1⟩ := grow_step S1.bh S1.gok h12 hs hl
  refine ok (.l true (sortD (pairsD kvs))) _ _ _ (S1.step st bh gok) (s1.trans st) ⟨l, ys, rfl, by rw [hide_out ng]; exact hL, hd, fun _ => ⟨?_, s1.hh.free (hide_free hl1)⟩⟩ q1
  unfold grow; rw [hl]; simp
end DL

set_option Elab.async false
set_option linter.all false
set_option maxRecDepth 100000
set_option maxHeartbeats 4000000
/-! The data layer: sets of ints: {e for x in s if c}, set(l); sorted of such. -/
namespace DL
open PySem PySem.Spec PyProof.Rows L2
theorem add_int {X : Cx} {pins : List (Addr × Obj)} {σ : L2.St} {H : Hp} {s : Shared} {E : Value → Shared → Prop} {D : Addr} {S : Int → Bool} {n : Nat} {y : Int} {t : Tok} {Q : Value → Shared → Prop} (I : Inv X pins σ H s) (hD : H D = some (SetO X.w D S n)) (room : n + 1 < scanBound)
    (h : ∀ s', Inv X pins σ (upd H D (SetO X.w D (fun j => S j || decide (j = y)) (if S y = true then n else n + 1))) s' → Q .none s') : wpAny (model X.prog X.w) X.A (call (.builtin "set.add") [.ref D, .int y t]) Q E s := by
  refine setR_add (setO_get I hD) room fun h' sb new => h _ ?_
  obtain ⟨o, _, _, _, ho, _⟩ := id new
  exact I.write (e := D) (t' := s.toks + 1) (by rw [hD]; trivial) (.inl rfl) (fun b u hb hu => (sb.2 b hb).trans hu) ⟨o, ho⟩ (setO_new new)
/-- {elt for target in iter if ..}, elt an int: D the new set -/
def tScI (w : World) (wi : TI) (g : TG) (tt : TT) (te : TE) (vs : List Nat) : TE := fun σ H Q => wi σ H fun J H1 => ∀ D, H1 D = none → ∃ W : Nat → Nat → Hp → Prop, (∃ m, W 0 m (upd H1 D (SetO w D (fun _ => false) 0))) ∧ ∀ i m H, W i m H →
  (J.stop i H ∧ Q (.ref D) H) ∨ (J.go i H ∧ ∃ Nx : Hp → Prop, (∀ H', Nx H' → ∃ m', m' < m ∧ W (i + 1) m' H') ∧ ∀ x H', J.yld i H x H' → g x (wipe σ vs) H' fun σ2 H2 => wipe σ2 vs = wipe σ vs ∧ tt σ2 H2 fun b H3 =>
    if b = true then te σ2 H3 fun y H4 => ∃ (c : Int) (S : Int → Bool) (n : Nat), y = .int c ∧ H4 D = some (SetO w D S n) ∧ n + 1 < scanBound ∧ Nx (upd H4 D (SetO w D (fun j => S j || decide (j = c)) (if S c = true then n else n + 1))) else Nx H3)
section
variable {X : Cx}
theorem pe_scI {elt tg iter : Expr} {ifs : List Expr} {scope : Scope} {own : List (PySem.Str × Nat)} {pos : Pos} {wi : TI} {g : TG} {tt : TT} {te : TE} (hc : X.calm = true) (hN : X.N.Nodup) (hi : PI X tg iter wi) (ok : BlkOk X.N X.env.scope scope own)
    (hg : ∀ (s : Shared) (H : Hp) (C : Addr) (cl : List (PySem.Str × Addr)) (fp : List Addr), PG (X.blk s H scope (compEnvC scope cl C X.env) fp) tg g) (ht : ∀ (s : Shared) (H : Hp) (C : Addr) (cl : List (PySem.Str × Addr)) (fp : List Addr), PTs (X.blk s H scope (compEnvC scope cl C X.env) fp) ifs tt)
    (he : ∀ (s : Shared) (H : Hp) (C : Addr) (cl : List (PySem.Str × Addr)) (fp : List Addr), PE (X.blk s H scope (compEnvC scope cl C X.env) fp) elt te) (hs : ∀ x, foldedSetIterable iter X.env x = pure x := by intro _; rfl) :
    PE X (.SetComp elt [⟨tg, iter, ifs, 0⟩] scope pos) (tScI X.w wi g tt te (own.map (·.2))) := by
  refine ⟨fun pins s σ H Q I h => ?_⟩
  rw [PpSet.eval_SetComp]
  have closed := closure_ok (scope := scope) (env := X.env) fun y hy e => (ok.free y hy e).elim (fun k => I.ok.has _ (.inl k)) fun k => I.ok.has _ (.inr k)
  refine wpAny_comprehension_free (use := none) rfl hs closed ok.kind (fun y hy e => by rw [ok.uniq y hy, e]) (thn (hi.run pins s σ H _ I h) fun xv s1 hx => thn hx fun itv s2 ⟨it, fp, tn, J, H2, eit, I2, T, st2, f2, q⟩ => ?_)
  subst eit
  refine PpSet.newSet_ok (newEnv_comp ?_)
  generalize hD : s2.heap.objs.size = D
  have hDn : H2 D = none := I2.hok.fresh (Nat.le_of_eq hD)
  obtain ⟨W, ⟨m0, w0⟩, turn⟩ := q D hDn
  -- the empty set stands
  generalize hs3 : ({ s2 with heap := s2.heap.push { cls := .type "set", dict := none, data := .set #[] 0 (.fresh 0 0 (!X.w.params.followText "set-order")) } } : Shared) = s3
  have h3 : s3.heap = s2.heap.push { cls := .type "set", dict := none, data := .set #[] 0 (.fresh 0 0 (!X.w.params.followText "set-order")) } := by rw [← hs3]
  have up3 : ∀ b o, s2.heap.get? b = some o → s3.heap.get? b = some o := fun b o e => by rw [h3]; exact Heap.get?_push_of_some _ e
  have I3 : Inv X pins σ (upd H2 D (SetO X.w D (fun _ => false) 0)) s3 := by
    rw [← hs3]
    exact I2.laid (t' := s2.toks) (fun b o e => Heap.get?_push_of_some _ e) (Nat.le_of_eq hD) (by rw [← hD]; exact setO_new (setR_fresh X.w))
  have f3 : ∀ b ∈ fp, FpOk X pins (upd H2 D (SetO X.w D (fun _ => false) 0)) b ∧ b < s3.heap.objs.size := fun b hb => by
    obtain ⟨o, e, _⟩ := T.obj _ _ st2 b hb
    have lt := Heap.lt_size e
    exact ⟨⟨by rw [upd_ne (by rw [← hD]; exact Nat.ne_of_lt lt)]; exact (f2 b hb).1, (f2 b hb).2⟩, Heap.lt_size (up3 b o e)⟩
  have st3 : tn 0 s3.heap := T.keep _ _ _ st2 fun b _ o e => up3 b o e
  have I4 := block_start I3 ok hN f3
  have pg := hg s3 (upd H2 D (SetO X.w D (fun _ => false) 0)) s3.heap.objs.size (cellsFrom (s3.heap.objs.size + 1) scope.names (cloFrom X.env.cells scope.names [])) fp
  have pt := ht s3 (upd H2 D (SetO X.w D (fun _ => false) 0)) s3.heap.objs.size (cellsFrom (s3.heap.objs.size + 1) scope.names (cloFrom X.env.cells scope.names [])) fp
  have pe := he s3 (upd H2 D (SetO X.w D (fun _ => false) 0)) s3.heap.objs.size (cellsFrom (s3.heap.objs.size + 1) scope.names (cloFrom X.env.cells scope.names [])) fp
  show codeAny _ _ (.compStart (.SetComp elt [⟨tg, iter, ifs, 0⟩] scope pos) 0 (.ref it) (.ref D) (compEnvC scope (cellsFrom (s3.heap.objs.size + 1) scope.names (cloFrom X.env.cells scope.names [])) s3.heap.objs.size X.env)) _ { s3 with heap := pushCells (s3.heap.push { cls := .type "dict", data := .dict #[] }) scope.names }
  generalize hce : compEnvC scope (cellsFrom (s3.heap.objs.size + 1) scope.names (cloFrom X.env.cells scope.names [])) s3.heap.objs.size X.env = ce at I4 pg pt pe ⊢
  have cL : ce.locals = s3.heap.objs.size := by subst hce; rfl
  generalize hH3 : upd H2 D (SetO X.w D (fun _ => false) 0) = H3 at I3 I4 pg pt pe w0 f3
  generalize hs4 : ({ s3 with heap := pushCells (s3.heap.push { cls := .type "dict", data := .dict #[] }) scope.names } : Shared) = s4 at I4 ⊢
  have st4 : tn 0 s4.heap := T.keep _ _ _ st3 fun b _ o e => by rw [← hs4]; exact pushCells_keeps _ _ _ _ (Heap.get?_push_of_some _ e)
  have stat : ∀ {σ' : L2.St} {H' : Hp} {s' : Shared}, Inv (X.blk s3 H3 scope ce fp) [] σ' H' s' → (∀ b ∈ fp, H' b = none) → ∀ b ∈ fp, FpOk (X.blk s3 H3 scope ce fp) [] H' b := fun I' hn b hb =>
    ⟨hn b hb, (I'.ok.exf b hb).1, I'.ok.exfs b hb, .inl hb, fun x c e => (I'.ok.exf b hb).2 x c e, fun p hp => absurd (show p ∈ ([] : List (Addr × Obj)) ++ [] from hp) (by simp)⟩
  refine (fun loop => PpSet.codeAny_compStart_set loop (T.self X.A 0 _ _ _ st4 loop)) ?_
  refine PpSet.compLoopS_any (fun n s' => ∃ i H', Inv (X.blk s3 H3 scope ce fp) [] (wipe σ (own.map (·.2))) H' s' ∧ tn i s'.heap ∧ (∀ b ∈ fp, H' b = none) ∧ W i n H') ?_ m0 ⟨0, H3, I4, st4, fun b hb => (f3 b hb).1.1, w0⟩
  rintro n s5 ⟨i, H5, I5, st5, n5, w5⟩
  rcases turn i n H5 w5 with ⟨stop, qq⟩ | ⟨go, Nx, hNx, step⟩
  · refine thnF (T.done (X.blk s3 H3 scope ce fp) rfl rfl rfl hc i [] s5 _ H5 (fun _ _ => False) I5 (stat I5 n5) st5 stop) fun r s6 ⟨hr, I6⟩ => ?_
    subst hr
    have I7 : Inv X pins σ H5 s6 := I3.call' (ch := fp) I6.os I6.base I6.hok I6.bare fun b hb => ⟨(f3 b hb).1.2.2.2.1, (f3 b hb).1.2.1, (f3 b hb).1.2.2.2.2.1, (f3 b hb).1.2.2.2.2.2⟩
    have nC : H5 s3.heap.objs.size = none := cL ▸ (show H5 ce.locals = none from I6.free)
    obtain ⟨m, hn, _⟩ := I6.loc
    have hn : s6.heap.Ns s3.heap.objs.size m := cL ▸ (show s6.heap.Ns ce.locals m from hn)
    obtain ⟨g0, g1, g2, g3, g4, g5⟩ := I3.fpOk (Nat.le_refl _) nC
    exact ⟨m, hn, fun h'' sb => ⟨.ref D, H5, I7.turned (t' := s6.toks) (fun b o hb e => (sb.2 b hb).trans e) g0 g1 g3 g4 g5, rfl, qq⟩⟩
  · refine thnF (T.item (X.blk s3 H3 scope ce fp) rfl rfl rfl hc i [] s5 _ H5 (fun _ _ => False) I5 (stat I5 n5) st5 go) fun r s6 ⟨u, hr, h6⟩ => ?_
    subst hr
    refine thnF h6 fun _ s7 ⟨x, H7, I7, r7, y7, st7, n7⟩ => ?_
    have I7' := I7.pinned (stat I7 n7) (T.obj _ _ st7)
    refine thnF (pg.run _ s7 _ H7 x u _ I7' r7 (step x H7 y7)) fun _ s8 ⟨σ8, H8, I8, hw8, q8⟩ => thnF (pt.run _ s8 σ8 H8 _ I8 q8) fun b s9 ⟨H9, I9, q9⟩ => ?_
    have fin : ∀ {s' : Shared} {H' : Hp}, Inv (X.blk s3 H3 scope ce fp) ([] ++ pinsAt fp s7.heap) σ8 H' s' → Nx H' → ∃ m, m < n ∧ ∃ i H', Inv (X.blk s3 H3 scope ce fp) [] (wipe σ (own.map (·.2))) H' s' ∧ tn i s'.heap ∧ (∀ b ∈ fp, H' b = none) ∧ W i m H' := fun {s' H'} I' nx => by
      obtain ⟨m', hm, w'⟩ := hNx H' nx
      have pin' : ∀ b ∈ fp, ∀ o, s7.heap.get? b = some o → s'.heap.get? b = some o ∧ H' b = none := fun b hb o e => let z := I'.pin (b, o) (List.mem_append_right _ (List.mem_append_right _ (mem_pinsAt hb e))); ⟨z.1, z.2.1⟩
      refine ⟨m', hm, i + 1, H', (I'.unpinned (pins := [])).weak (by rw [← hw8, wipe_length]) (fun j v e => (wipe_some (by rw [← hw8] at e; exact e)).1), T.keep _ _ _ st7 fun b hb o e => (pin' b hb o e).1, fun b hb => ?_, w'⟩
      obtain ⟨o, e, _⟩ := T.obj _ _ st7 b hb
      exact (pin' b hb o e).2
    cases b with
    | false => exact fin I9 q9
    | true =>
      refine thnF (pe.run _ s9 σ8 H9 _ I9 q9) fun z s10 ⟨yv, H10, I10, r10, cb, S0, n0, ey, hD10, hz10, nx⟩ => ?_
      subst ey
      obtain ⟨tk, ez⟩ := r10
      subst ez
      exact add_int (X := X.blk s3 H3 scope ce fp) I10 hD10 hz10 fun s11 I11 => fin I11 nx
end
end DL

set_option Elab.async false
set_option linter.all false
set_option maxRecDepth 100000
set_option maxHeartbeats 8000000
/-! The data layer: set(l) of a list of ints. -/
namespace DL
open PySem PySem.Spec PyProof.Rows L2
abbrev set0 (w : World) : Obj := { cls := .type "set", dict := none, data := .set #[] 0 (.fresh 0 0 (!w.params.followText "set-order")) }
section
variable {P : Program} {w : World} {A : Around} {E : Value → Shared → Prop} {s : Shared}
theorem set_of_list {l : Addr} {its : Array Value} (ns : List Int) {Q : Value → Shared → Prop} (hh : A.handled = none) (hl : s.heap.IsList l its) (hit : IntsAre its.toList ns) (room : ns.length + 1 < scanBound)
    (h : ∀ (h' : Heap) (tk c : Nat), SetR w h' s.heap.objs.size (fun j => decide (j ∈ ns)) c → c ≤ ns.length → (∀ b o, s.heap.get? b = some o → h'.get? b = some o) → Q (.ref s.heap.objs.size) { s with heap := h', toks := tk }) :
    wpAny (model P w) A (call (.type "set") [.ref l]) Q E s := by
  have many : its.size = ns.length := by rw [← Array.length_toList]; exact IntsAre.length hit
  obtain ⟨_, _, hmro⟩ := F.called_set.mro
  have hmade := F.called_set.made
  have hsub := F.called_set.sub
  refine wpAny_call (codeAny_of_tree ?_)
  show wpAny _ _ (callAny (.type "set") _) _ _ _
  refine wpAny_pure ⟨Code.quiet_builtin _ (by decide +kernel), codeAny_builtin F.entry_type_call ?_⟩
  rw [Around.under_plain (weight_type_call_type "set" [.ref l] []) rfl]
  have h1 := F.called_set.notType
  have h2 := F.called_set.canCreate
  have hct := F.typeCall_set_1 (.ref l)
  repeat (any_goals (first | assumption | wp_step))
  refine codeAny_mono (code_set_led1 (.ref l) (E := E) (Q₁ := fun obj s1 => obj = .ref s.heap.objs.size ∧ s1 = { s with heap := s.heap.push (set0 w) }) ⟨rfl, rfl⟩) fun r s1 hr => ?_
  cases r with
  | error e => exact hr
  | ok fl =>
    cases fl with
    | ret obj =>
      obtain ⟨rfl, rfl⟩ := hr
      have atS : (s.heap.push (set0 w)).get? s.heap.objs.size = some (set0 w) := Heap.get?_push_size _ rfl
      have hT : Shared.TypeIs { s with heap := s.heap.push (set0 w) } (.ref s.heap.objs.size) "set" := ⟨_, atS, rfl⟩
      have hli := F.called_set.init.lookup
      have hbi := F.called_set.init.bind (.ref s.heap.objs.size)
      repeat (any_goals (first | assumption | wp_step))
      refine codeAny_mono (codeAny_call_builtin (R := wants (fun r s2 => r = .none ∧ ∃ h' tk c, s2 = { s with heap := h', toks := tk } ∧ SetR w h' s.heap.objs.size (fun j => decide (j ∈ ns)) c ∧ c ≤ ns.length ∧ (∀ b o, s.heap.get? b = some o → h'.get? b = some o)) E) F.called_set.init.plain F.entry_set_init (check_set_init_1 hT ?_)) fun r2 s2 hr2 => ?_
      · obtain ⟨⟨ocls, odict, odata, oslots⟩, hol, hcl, nl, hdl⟩ := hl
        obtain rfl : ocls = .type "list" := hcl
        obtain rfl : odata = .seq its nl := hdl
        have lt := Heap.lt_size hol
        have hol' : (s.heap.push (set0 w)).get? l = some { cls := .type "list", dict := odict, data := .seq its nl, slots := oslots } := Heap.get?_push_of_some _ hol
        have hsls : isSubtype (.type "list") (.type "set") = pure false := by rw [isSubtype_type]; kernel_rfl
        have hslf : isSubtype (.type "list") (.type "frozenset") = pure false := by rw [isSubtype_type]; kernel_rfl
        have hne : (Value.type "list" == Value.type "dict") = false := by decide
        have hl1 : (s.heap.push (set0 w)).IsList l its := ⟨_, hol', rfl, nl, rfl⟩
        have sz : (s.heap.push (set0 w)).objs.size = s.heap.objs.size + 1 := Heap.size_push ..
        unfold Builtin.«set.__init__» noKeywords Builtin.Frozenset.updateFrom
        generalize hPI : pyIter = PI
        wp_walk
        subst hPI
        refine wpAny_pyIter_list hl1 (wpAny_bind (wpAny_runValue ?_))
        have hh3 : A.in1.in1.in1.handled = none := by simp [hh]
        have far : l ≠ (s.heap.push (set0 w)).objs.size := by rw [sz]; exact Nat.ne_of_lt (Nat.lt_succ_of_lt lt)
        have out : s.heap.objs.size ∉ [(s.heap.push (set0 w)).objs.size, l] := by
          rw [sz]; simp only [List.mem_cons, List.not_mem_nil, or_false, not_or]
          exact ⟨Nat.ne_of_lt (Nat.lt_succ_self _), Nat.ne_of_gt lt⟩
        have each : ∀ (i : Nat) (v : Value), its[i]? = some v → ∃ k t, ns[i]? = some k ∧ v = .int k t := fun i v hv => by
          have hi : i < ns.length := many ▸ (Array.getElem?_eq_some_iff.mp hv).1
          obtain ⟨t, e⟩ := PyProof.Rows.IntsAre.int_at hit i v (by rw [Array.getElem?_toList]; exact hv)
          exact ⟨ns[i], t, List.getElem?_eq_getElem hi, by rw [e, List.getD_eq_getElem?_getD, List.getElem?_eq_getElem hi] <;> rfl⟩
        refine set_update_ints ((Walks.list hh3 _ l far its).toS) s.heap.objs.size out ns many room each (its.size - 0) 0 _ (by omega) (Nat.zero_le _) ⟨⟨_, Heap.get?_push_size _ rfl, rfl, rfl⟩, hl1.push _⟩ ⟨0, Nat.le_refl 0, setR_new_at (Heap.get?_push_of_some _ atS)⟩ ?_
        intro s' c' hm hc' hS'
        obtain ⟨h', g2, d', tk', os'⟩ := s'
        obtain rfl : g2 = s.gens := hm.gens
        obtain rfl : d' = s.drawn := hm.drawn
        obtain rfl : os' = s.os := hm.os
        show wpAny _ _ _ _ _ _
        refine wpAny_pure ?_
        show wpAny _ _ (ret Value.none) _ _ _
        refine wpAny_pure ⟨rfl, h', tk', c', rfl, hS', many ▸ hc', fun b o e => hm.heap b o ?_ (Heap.get?_push_of_some _ (Heap.get?_push_of_some _ e))⟩
        rw [sz]
        simp only [List.mem_cons, List.not_mem_nil, or_false, not_or]
        exact ⟨Nat.ne_of_lt (Heap.lt_size e), Nat.ne_of_lt (Nat.lt_succ_of_lt (Heap.lt_size e))⟩
      · cases r2 with
        | error e => exact hr2
        | ok fl2 =>
          cases fl2 with
          | ret r =>
            obtain ⟨rfl, h', tk, c', rfl, hS', hc', hk'⟩ := hr2
            repeat (any_goals (first | assumption | wp_step))
            exact h _ _ _ hS' hc' hk'
          | _ => exact hr2.elim
    | _ => exact hr.elim
end
def rSetL2 (K : Frag) (w : World) : List V → Hp → VK → Prop := fun vs H Q => ∃ (l : Addr) (ns : List Int), vs = [.ref l] ∧ SqL K H l (ns.map V.int) ∧ ns.length < 4000 ∧ ∀ D c, H D = none → c ≤ ns.length → Q (.ref D) (upd H D (SetO w D (fun j => decide (j ∈ ns)) c))
theorem c_setL {X : Cx} (hc : X.calm = true) : CallR X (.type "set") (rSetL2 X.K X.w) := by
  intro pins s σ H vs us Q I r ⟨l, ns, ev, hl, hz, q⟩
  subst ev
  obtain ⟨u, eu, rx⟩ := vals1 r
  subst eu
  cases rx
  obtain ⟨its, rv, pl, _⟩ := I.list hl
  refine set_of_list ns (I.ok.hd hc) pl.isList (by simpa using Vals.ints rv) (by unfold scanBound; omega) fun h' tk c hS hcn hk => ?_
  exact ⟨.ref s.heap.objs.size, _, I.laid (t' := tk) hk (Nat.le_refl _) (setO_new hS), rfl, q _ c (I.hok.fresh (Nat.le_refl _)) hcn⟩
end DL

set_option Elab.async false
set_option linter.all false
set_option maxRecDepth 100000
/-! The data layer: sorted({..}), sorted(set(..)). -/
namespace DL
open PySem PySem.Spec PyProof.Rows L2
/-- sorted of a set of ints, up to 4000 members -/
theorem set_sorted {P : Program} {w : World} {A : Around} {E : Value → Shared → Prop} {s : Shared} {D : Addr} {f : Int → Bool} {m : Nat} {Q : Value → Shared → Prop} (R : SetR w s.heap D f m) (calm : A.handled = none) (few : m ≤ 4000)
    (fin : ∀ t p (os : Array Value) (c : Nat) (ks : List Int), (∀ b o, s.heap.get? b = some o → t.heap.get? b = some o) → t.gens = s.gens → t.os = s.os → s.heap.objs.size ≤ p →
      t.heap.get? p = some (seqObj "list" os c) → IntsAre os.toList ks → ks.Pairwise (· < ·) → (∀ k, k ∈ ks ↔ f k = true) → ks.length = m → Q (.ref p) t) :
    wpAny (model P w) A (call (.builtin "sorted") [.ref D]) Q E s := by
  obtain ⟨o, rows, ep, tb, h1, h2, h3, hg, hnd, hmem, hb, hf, hcount, hr, hl⟩ := R
  apply Calls.call_function_entry kind_sorted plain_sorted entry_sorted (args_sorted1 _)
  unfold Builtin.«sorted»
  refine wpAny_bind (m := checkCount _ _ _ _) (wpAny_pure ?_)
  refine wpAny_bind ?_
  refine collect_set (A := A.in1) calm ⟨o, h1, h2.1, h3⟩ hf hb hr hl fun t us ku hz g1 o1 perm => ?_
  have count : us.length = m := by rw [perm.length_eq, List.length_map, Array.length_toList]; exact hcount
  have isI : IntsAre us (us.map Builtin.Re.reRawOf) := ints_of us fun u hu => by
    obtain ⟨e, he, eq⟩ := List.mem_map.mp (perm.mem_iff.mp hu)
    obtain ⟨k, tk, h4, _⟩ := hg e he
    exact ⟨k, tk, by rw [← eq]; exact h4⟩
  have permK : (us.map Builtin.Re.reRawOf).Perm (rows.toList.map keyOf) := by
    have := perm.map Builtin.Re.reRawOf
    rwa [List.map_map] at this
  refine wpAny_bind ?_
  refine wpAny_newList ?_ (by rw [count, sizeLine_eq]; omega)
  have mk0 : (t.heap.push (seqObj "list" us.toArray 0)).get? t.heap.objs.size = some (seqObj "list" us.toArray 0) := Heap.get?_push_size _ rfl
  refine wpAny_bind (wpAny_holding ?_)
  refine wpAny_call_entry slot_list_sort ⟨_, mk0, rfl⟩ entry_list_sort ?_ (args_list_sort _)
  refine list_sort_treeAny mk0 isI (by rw [count, sizeLine_eq]; omega) fun os ks b1 b2 b3 => ⟨_, rfl, ?_⟩
  obtain ⟨c, there⟩ := sortedHeap_at (vs := us) (out := os) mk0
  have pk := b2.trans permK
  refine wpAny_pure ⟨_, rfl, fin _ t.heap.objs.size os c ks (fun b u e => ?_) g1 o1 hz there b1 (lt_of_le_nodup ks b3 (pk.nodup_iff.mpr hnd)) (fun k => by rw [pk.mem_iff, ← hmem k]) ?_⟩
  · have old := ku b u e
    have lt := Heap.lt_size old
    show (sortedHeap (t.heap.push (seqObj "list" us.toArray 0)) t.heap.objs.size us os).get? b = some u
    rw [sortedHeap_old (Nat.ne_of_lt lt) (by rw [size_push']; exact Nat.lt_succ_of_lt lt)]
    exact Heap.get?_push_of_some _ old
  · rw [pk.length_eq, List.length_map, Array.length_toList]
    exact hcount
def rSetAny (w : World) : List V → Hp → VK → Prop := fun vs H Q => ∃ (D : Addr) (f : Int → Bool) (m : Nat), vs = [V.ref D] ∧ H D = some (SetO w D f m) ∧ m ≤ 4000 ∧
  ∀ (ks : List Int) (p : Addr), ks.Pairwise (· < ·) → (∀ k : Int, k ∈ ks ↔ f k = true) → ks.length = m → H p = none → Q (.ref p) (upd H p (.lst (ks.map V.int)))
theorem cr_setAny {X : Cx} (hc : X.calm = true) : CallR X (.builtin "sorted") (rSetAny X.w) := by
  intro pins s σ H vs us Q I r ⟨D, f, m, ev, hD, few, q⟩
  subst ev
  have R := setO_get I hD
  rw [Vals.ref1 r]
  refine set_sorted R (I.ok.hd hc) few fun t p os c ks k g o hp hg hi hs hm hl => ?_
  have sz : (ks.map V.int).length ≤ sizeLine := by rw [List.length_map, hl, sizeLine_eq]; omega
  have new : H p = none := I.hok.fresh hp
  have J : Inv X pins σ (upd H p (.lst (ks.map V.int))) { s with heap := t.heap, gens := t.gens, drawn := t.drawn, toks := t.toks } :=
    I.call (ch := []) (Un.laid k hp new) (I.hok.laid k hp ⟨sz, os.toList, c, vals_of_ints hi, hg⟩) (by rw [g]; exact I.bare) fun _ z => nomatch z
  have same : t = { s with heap := t.heap, gens := t.gens, drawn := t.drawn, toks := t.toks } := by
    cases t
    cases s
    simp only at o
    subst o
    rfl
  rw [same]
  exact ⟨.ref p, _, J, rfl, q ks p hs hm hl new⟩
/-- the members of ns, in order -/
def SortedOf (ns ns' : List Int) : Prop := ns'.Pairwise (· < ·) ∧ (∀ k, k ∈ ns' ↔ k ∈ ns) ∧ ns'.length ≤ 4000
def wSortSet (w : EW) : EW := fun ρ Q E => w ρ (fun r => ∃ ns : List Int, ((∃ o, r = .l o (ns.map PyData.int)) ∨ r = .s (.list (ns.map PyData.int))) ∧ ns.length < 4000 ∧ ∀ ns', SortedOf ns ns' → Q (.l true (ns'.map PyData.int))) E
/-- sorted({elt for names in wi if wt}) -/
def wSortSc (wi : IW) (tup : Bool) (is vs : List Nat) (wt : TW) (we : EW) : EW := fun ρ Q E => wi ρ (fun ds => ∃ P : Nat → List Int → Prop, P 0 [] ∧
  (∀ k acc d, ds[k]? = some d → P k acc → gwNames tup is d fun es => (∀ i ∈ is, i < ρ.length) ∧ wt (putA (wipeR ρ vs) is es) (fun b => if b = true then we (putA (wipeR ρ vs) is es) (fun r => ∃ z, r = .s (.int z) ∧ acc.length < 4000 ∧ P (k + 1) (acc ++ [z])) (fun _ => False) else P (k + 1) acc) (fun _ => False)) ∧
  ∀ acc, P ds.length acc → acc.length ≤ 4000 ∧ ∀ ns', SortedOf acc ns' → Q (.l true (ns'.map PyData.int))) E
theorem set_end {K : Frag} {w : World} {G : Gh} {B0 H0 B H B1 H1 : Hp} {σ : L2.St} {ρ : Rho} {Qd : R → Prop} {Q : VK} {D : Addr} {S : Int → Bool} {n : Nat} {ns : List Int}
    (ok : ∀ r x B' H', Stt K G B0 H0 B' H' σ ρ → Stp G B H B' H' → Rs K G H B' H' x r → Qd r → Q x H') (S1 : Stt K G B0 H0 B1 H1 σ ρ) (s1 : Stp G B H B1 H1) (hD : H1 D = some (SetO w D S n)) (hm : ∀ k, S k = true ↔ k ∈ ns) (hn : n ≤ 4000)
    (q : ∀ ns', SortedOf ns ns' → Qd (.l true (ns'.map PyData.int))) : rSetAny w [.ref D] H1 Q :=
  ⟨D, S, n, rfl, hD, hn, fun ns' p h1 h2 h3 hp => by
    have g := S1.notG hp
    refine ok (.l true (ns'.map PyData.int)) (.ref p) B1 _ (S1.new hp) (s1.trans (Stp.new hp)) ⟨p, _, rfl, by rw [hide_out g, upd_same], DpAll.ints ns', fun _ => ⟨S1.freeB hp, s1.hh.free (hide_free hp)⟩⟩ (q ns' ⟨h1, fun k => (h2 k).trans (hm k), by omega⟩)⟩
theorem pd_sortSet {X : Cx} {W : WX} {e : Expr} {w : EW} (h : PE X e (tCB (rSetAny X.w) (tCons (tCB (rSetL2 X.K X.w) (tCons (TDe X.K W w) tNil)) tNil))) : PD X W e (wSortSet w) := pe_imp h fun σ H Q ⟨G, B0, H0, B, ρ, Qd, Qe, S, q, ok, er⟩ => by
  refine ⟨G, B0, H0, B, ρ, _, Qe, S, q, fun r x B1 H1 S1 s1 r1 ⟨ns, hr, hl, q1⟩ => ?_, er⟩
  obtain ⟨p, rfl, hq⟩ : ∃ p, x = .ref p ∧ SqL X.K H1 p (ns.map V.int) := by
    rcases hr with ⟨o, rfl⟩ | rfl
    · obtain ⟨p, xs, rfl, h1, h2, _⟩ := r1
      cases h2.ints'
      exact ⟨p, rfl, .inl (.inl (hide_some h1).2)⟩
    · cases (show Dp X.K B1 x (.list (ns.map PyData.int)) from r1) with
      | lst h1 h2 => cases h2.ints'; exact ⟨_, rfl, Same.sqL (S1.bh.trans (hide_le H1)) h1⟩
  refine ⟨p, ns, rfl, hq, by omega, fun D c hD hc => ?_⟩
  exact set_end ok (S1.new hD) (s1.trans (Stp.new hD)) upd_same (fun k => by simp) (by omega) q1
theorem pd_sortSc {X : Cx} {W : WX} {e : Expr} {wi : IW} {tup : Bool} {is vs : List Nat} {wt : TW} {we : EW} (h : PE X e (tCB (rSetAny X.w) (tCons (tScI X.w (TDiC X.K W wi) (gC X.K tup is) (TDt X.K W0 wt) (TDe X.K W0 we) vs) tNil)))
    (hsub : ∀ i ∈ is, i ∈ vs) (h1 : tup = true ∨ ∃ i, is = [i]) : PD X W e (wSortSc wi tup is vs wt we) := pe_imp h fun σ H Q ⟨G, B0, H0, B, ρ, Qd, Qe, S, q, ok, er⟩ => by
  refine ⟨G, B0, H0, B, ρ, _, Qe, S, q, fun ds J B1 H1 S1 s1 it ⟨P, p0, turn, done⟩ => ?_, er⟩
  intro Dl hD
  have dG : Dl ∉ G.at_ := S1.notG hD
  have d0 : hide G H0 Dl = none := S1.st.hh.free (hide_free hD)
  have aw : ∀ (j : Nat) (r : R), ρ[j]? = some (some r) → owns r = true → σ[j]? ≠ some (some (.ref Dl)) := fun j r e1 o e2 => by
    obtain ⟨x, f1, f2⟩ := S1.sl j r e1
    rw [e2] at f1; cases f1
    obtain ⟨p, u, ep, k1, _⟩ := f2.own o
    cases ep
    rw [hD] at k1; cases k1
  let Inv' : Nat → Hp → Prop := fun i H => i ≤ ds.length ∧ ∃ (B' : Hp) (f : Int → Bool) (n : Nat) (acc : List Int), Stt X.K G B0 H0 B' H σ ρ ∧ Stp G B1 H1 B' H ∧ H Dl = some (SetO X.w Dl f n) ∧ (∀ k, f k = true ↔ k ∈ acc) ∧ n ≤ acc.length ∧ B' Dl = none ∧ P i acc
  refine ⟨fun i m H => m = ds.length - i ∧ Inv' i H, ⟨_, rfl, Nat.zero_le _, B1, _, 0, [], S1.new hD, Stp.new hD, upd_same, fun k => by simp, Nat.le_refl _, S1.freeB hD, p0⟩, ?_⟩
  rintro i m H2 ⟨rfl, hi, B2, f, n, acc, S2, s2, hd, ha, hn, hb, p2⟩
  have lat : LatC G B1 H1 B2 H2 := ⟨s2, S2.bh, S2.gok⟩
  by_cases hlt : i < ds.length
  · refine .inr ⟨it.go i _ _ lat hlt, fun H' => Inv' (i + 1) H', fun H' z => ⟨ds.length - (i + 1), by omega, rfl, z⟩, fun x H3 y => ?_⟩
    obtain ⟨d, B3, e1, e2, s3, b3, g3⟩ := it.yld i _ _ x H3 lat hlt y
    have S3 := S2.step s3 b3 g3
    have trk : hide G H2 Dl = some (SetO X.w Dl f n) := by rw [hide_out dG]; exact hd
    have q3 := turn i acc d e1 p2
    have fin : ∀ (xs : List V) (es : List D), DpAll X.K B3 xs es → (∀ i ∈ is, i < ρ.length) → wt (putA (wipeR ρ vs) is es) (fun b => if b = true then we (putA (wipeR ρ vs) is es) (fun r => ∃ z, r = .s (.int z) ∧ acc.length < 4000 ∧ P (i + 1) (acc ++ [z])) (fun _ => False) else P (i + 1) acc) (fun _ => False) →
        (wipe (putV (wipe σ vs) is xs) vs = wipe σ vs ∧ TDt X.K W0 wt (putV (wipe σ vs) is xs) H3 fun b H4 => if b = true then TDe X.K W0 we (putV (wipe σ vs) is xs) H4 fun y H5 => ∃ (c : Int) (S : Int → Bool) (n : Nat), y = .int c ∧ H5 Dl = some (SetO X.w Dl S n) ∧ n + 1 < scanBound ∧
          Inv' (i + 1) (upd H5 Dl (SetO X.w Dl (fun j => S j || decide (j = c)) (if S c = true then n else n + 1))) else Inv' (i + 1) H4) := by
      intro xs es hx hl q
      refine ⟨wipe_putV is xs _ (wipe_wipe vs fun _ h => h) hsub, ?_⟩
      have T3 : Stt X.K G B0 H0 B3 H3 (putV (wipe σ vs) is xs) (putA (wipeR ρ vs) is es) := Stt.putA is (S3.wipe vs) hx fun i hi => by rw [wipeR_length]; exact hl i hi
      refine ⟨G, B0, H0, B3, _, _, _, T3, q, fun b B4 H4 T4 s4 q4 => ?_, fun _ _ _ _ z => z.elim⟩
      have S4 := S3.step s4 T4.bh T4.gok
      cases b with
      | false => exact iteF ⟨hlt, B4, f, n, acc, S4, (s2.trans s3).trans s4, (hide_some (s4.hh _ _ (s3.hh _ _ trk))).2, ha, hn, s4.nw _ _ (s3.nw _ _ hb trk) (s3.hh _ _ trk), (if_neg Bool.false_ne_true).mp q4⟩
      | true =>
        refine iteT ⟨G, B0, H0, B4, _, _, _, T4, (if_pos rfl).mp q4, fun r y B5 H5 T5 s5 r5 ⟨z, ez, hlen, p5⟩ => ?_, fun _ _ _ _ z => z.elim⟩
        subst ez
        cases r5.int
        have S5 := S4.step s5 T5.bh T5.gok
        have t5 := s5.hh _ _ (s4.hh _ _ (s3.hh _ _ trk))
        have b5 : B5 Dl = none := s5.nw _ _ (s4.nw _ _ (s3.nw _ _ hb trk) (s3.hh _ _ trk)) (s4.hh _ _ (s3.hh _ _ trk))
        have s15 := ((s2.trans s3).trans s4).trans s5
        refine ⟨z, f, n, rfl, (hide_some t5).2, by unfold scanBound; omega, hlt, B5, _, _, acc ++ [z], S5.side b5 dG d0 aw, ⟨s15.bb, fun b v e => ?_, s15.nw⟩, upd_same, fun k => ?_, ?_, b5, p5⟩
        · rw [hide_upd dG, upd_ne (ne_of_none e (hide_free hD))]
          exact s15.hh _ _ e
        · rw [Bool.or_eq_true, decide_eq_true_iff, ha k, List.mem_append, List.mem_singleton]
        · rw [List.length_append, List.length_singleton]
          split <;> omega
    cases tup with
    | true =>
      obtain ⟨es, rfl, hn', hl, q4⟩ := (if_pos rfl).mp q3
      cases e2 with
      | tup k1 k2 => exact ⟨_, _, rfl, (k1.up (b3.trans (hide_le H3))).t, k2.length.trans hn', gNames_ok is _ _ _ _ (k2.length.trans hn') (fin _ es k2 hl q4)⟩
    | false =>
      rcases h1 with h1 | ⟨i1, rfl⟩
      · cases h1
      · obtain ⟨hl, q4⟩ := (if_neg Bool.false_ne_true).mp q3
        exact fin [x] [d] (.cons e2 .nil) hl q4
  · have e : i = ds.length := by omega
    subst e
    obtain ⟨d1, d2⟩ := done acc p2
    exact .inl ⟨it.stop _ _ lat, set_end ok S2 (s1.trans s2) hd ha (by omega) d2⟩
end DL

set_option Elab.async false
set_option linter.all false
set_option maxRecDepth 100000
set_option maxHeartbeats 4000000
/-! The data layer: x[::-1], max of a list, a, b, .. = x, y, .. of what is one's own. -/
namespace DL
open PySem PySem.Spec PyProof.Rows L2
section
variable {prog : Program} {w : World} {A : Around} {E : Value → Shared → Prop} {s : Shared}
theorem fm_congr {α β : Type} {f g : α → Option β} : ∀ {l : List α}, (∀ x ∈ l, f x = g x) → l.filterMap f = l.filterMap g
  | [], _ => rfl
  | x :: l, h => by rw [List.filterMap_cons, List.filterMap_cons, h x List.mem_cons_self, fm_congr fun y hy => h y (List.mem_cons_of_mem _ hy)]
theorem back_range (xs : Array Value) : ((List.range xs.size).filterMap fun (k : Nat) => xs[((xs.size : Int) - 1 + (k : Int) * -1).toNat]?) = xs.toList.reverse := by
  refine List.ext_getElem? fun i => ?_
  have e : ((List.range xs.size).filterMap fun (k : Nat) => xs[((xs.size : Int) - 1 + (k : Int) * -1).toNat]?) = (List.range xs.size).filterMap fun (k : Nat) => xs.toList.reverse[k]? := by
    refine fm_congr fun k hk => ?_
    have hk := List.mem_range.mp hk
    rw [List.getElem?_reverse (by rw [Array.length_toList]; exact hk), Array.length_toList, Array.getElem?_toList]
    congr 1
    omega
  rw [e]
  have l : xs.size = xs.toList.reverse.length := by rw [List.length_reverse, Array.length_toList]
  rw [l]
  generalize xs.toList.reverse = ys
  congr 1
  induction ys with
  | nil => rfl
  | cons y ys ih =>
    rw [List.length_cons, List.range_succ_eq_map, List.filterMap_cons]
    simp only [List.getElem?_cons_zero, List.filterMap_map]
    refine congrArg (y :: ·) ?_
    refine Eq.trans (fm_congr fun k _ => ?_) ih
    simp
theorem cut_back {sl : Addr} {vl vu vs : Value} {n : Nat} {Q : Int × Int × Nat → Shared → Prop} (hs : s.heap.IsSliceOf sl vl vu vs) (pl : IsPart vl none) (pu : IsPart vu none) (ps : IsPart vs (some (-1))) (h : Q ((n : Int) - 1, -1, n) s) :
    wpAny (model prog w) A (Builtin.Slice.sliceApplied (.ref sl) (pure (n : Int))) Q E s := by
  obtain ⟨os, hos, hcs, hds⟩ := id hs
  unfold Builtin.Slice.sliceApplied Builtin.Slice.sliceFields
  refine wpAny_bind (wpAny_bind (wpAny_field hos hds (x := vl) rfl (wpAny_bind (wpAny_field hos hds (x := vu) rfl (wpAny_bind (wpAny_field hos hds (x := vs) rfl (wpAny_pure ?_)))))))
  refine wpAny_bind (HT.slicePart_ ps ?_)
  show wpAny _ _ (if ((-1 : Int) == 0) = true then _ else _) _ _ s
  rw [if_neg (by decide)]
  refine wpAny_bind (HT.slicePart_ pl (wpAny_bind (HT.slicePart_ pu (wpAny_bind (wpAny_pure ?_)))))
  have e1 : Builtin.Slice.sliceAdjust none none (-1) (n : Int) = ((n : Int) - 1, -1) := by
    unfold Builtin.Slice.sliceAdjust
    simp
  have e2 : Builtin.Slice.slicePlaces ((n : Int) - 1) (-1) (-1) = n := by
    unfold Builtin.Slice.slicePlaces
    simp
    omega
  show wpAny _ _ (match Builtin.Slice.sliceAdjust none none (-1) (n : Int) with | (lo, hi) => pure (lo, (-1 : Int), Builtin.Slice.slicePlaces lo hi (-1))) _ _ s
  rw [e1]
  show wpAny _ _ (pure (((n : Int) - 1), (-1 : Int), Builtin.Slice.slicePlaces ((n : Int) - 1) (-1) (-1))) _ _ s
  rw [e2]
  exact wpAny_pure h
theorem item_back {t sl : Addr} {its : Array Value} {vl vu vs : Value} {Q : Value → Shared → Prop} (ht : IsTup s.heap t its) (hs : s.heap.IsSliceOf sl vl vu vs) (pl : IsPart vl none) (pu : IsPart vu none) (ps : IsPart vs (some (-1))) (hsz : its.size ≤ sizeLine)
    (h : Q (.ref s.heap.objs.size) { s with heap := s.heap.push { cls := .type "tuple", data := .seq its.toList.reverse.toArray } }) : wpAny (model prog w) A (getItem (.ref t) (.ref sl)) Q E s := by
  obtain ⟨os, hos, hcs, hds⟩ := id hs
  have hTs : s.TypeIs (.ref sl) "slice" := ⟨os, hos, hcs⟩
  have fits : sizeOk (.seq its.toList.reverse.toArray) := by
    show its.toList.reverse.toArray.size ≤ sizeLine
    rw [List.size_toArray, List.length_reverse, Array.length_toList]
    exact hsz
  unfold getItem
  try with_reducible refine wpAny_holding ?_
  first | refine wpAny_bind (wpAny_pure ?_) | skip
  refine wpAny_bind (wpAny_sequenceKey ht.typeIs (by decide) ?_)
  refine wpAny_bind (wpAny_callSpecial?_slot (name := Str.ofString "__getitem__") ht.typeIs PyProof.Rows.slot_tuple_getitem (wpAny_call_entry PyProof.Rows.slot_tuple_getitem ht.typeIs entry_tuple_getitem ?_ (args_tuple_getitem _ _)))
  show wpAny _ _ (Builtin.Tuple.tupleItemsOf (.ref t) >>= _) _ _ s
  refine wpAny_bind (tupleItemsOf_ ht (wpAny_bind (wpAny_typeOf hTs ?_)))
  rw [if_pos (by decide)]
  refine wpAny_bind (cut_back hs pl pu ps ?_)
  have no : ¬ ((((its.size : Int) - 1) == 0 && (-1 : Int) == 1 && its.size == its.size) = true) := by simp
  show wpAny _ _ (if (((its.size : Int) - 1) == 0 && (-1 : Int) == 1 && its.size == its.size) = true then _ else _) _ _ s
  rw [if_neg no, back_range]
  first
    | exact wpAny_bind (m := Builtin.Tuple.tupleExact _) (wpAny_newObj_type (wpAny_pure ⟨_, rfl, wpAny_pure h⟩) fits)
    | exact wpAny_bind (m := Builtin.Tuple.tupleExact _) (wpAny_newObj_type (wpAny_bind (wpAny_pure (wpAny_pure ⟨_, rfl, wpAny_pure h⟩))) fits)
    | exact wpAny_bind (wpAny_bind (m := Builtin.Tuple.tupleExact _) (wpAny_newObj_type (wpAny_pure (wpAny_pure ⟨_, rfl, wpAny_pure h⟩)) fits))
    | exact wpAny_bind (wpAny_bind (m := Builtin.Tuple.tupleExact _) (wpAny_newObj_type (wpAny_pure ⟨_, rfl, wpAny_pure h⟩) fits))
end
def tRevB (K : Frag) (te : TE) : TE := fun σ H Q => te σ H fun x H1 => ∃ a xs, x = .ref a ∧ ((SqL K H1 a xs ∧ ∀ p, H1 p = none → Q (.ref p) (upd H1 p (.lst xs.reverse))) ∨ (SqT K H1 a xs ∧ NewT xs.reverse H1 Q))
theorem peN_rev {X : Cx} {e : Expr} {te : TE} {k : Nat} {p1 p2 p3 pos : Pos} (he : PE X e te) : PE X (.Subscript e (.Slice none none (some (.UnaryOp .USub (.Constant (.int 1) k p1) p2)) p3) pos) (tRevB X.K te) := by
  refine ⟨fun pins s σ H Q I h => Subscript_ (thn (he.run pins s σ H _ I h) fun v s1 ⟨x, H1, I1, r1, a, xs, ex, hx⟩ => ?_)⟩
  subst ex
  cases r1
  have neg1 : PO X (some (.UnaryOp .USub (.Constant (.int 1) k p1) p2)) (tPart (tUn (rU fun i => .int (-i)) (tC (.int 1)))) := po_some (pe_un un_neg pe_int)
  refine wpAny_Slice (thn (po_none.run pins s1 σ H1 (fun o H2 => o = none ∧ H2 = H1) I1 ⟨rfl, rfl⟩) fun vl s2 ⟨l, H2, I2, pl, el, e2⟩ => thn (po_none.run pins s2 σ H2 (fun o H3 => o = none ∧ H3 = H2) I2 ⟨rfl, rfl⟩) fun vu s3 ⟨u, H3, I3, pu, eu, e3⟩ =>
    thn (neg1.run pins s3 σ H3 (fun o H4 => o = some (-1) ∧ H4 = H3) I3 ⟨1, rfl, -1, rfl, rfl, rfl⟩) fun vs s4 ⟨o, H4, I4, ps, eo, e4⟩ => ?_)
  subst el e2 eu e3 eo e4
  have I5 : Inv X pins σ H4 { s4 with heap := s4.heap.push { cls := .type "slice", data := .fields #[vl, vu, vs] } } := I4.kept (t' := s4.toks) fun b ob q => Heap.get?_push_of_some _ q
  show wpAny (model X.prog X.w) X.A (subscriptTail e (.Slice none none (some (.UnaryOp .USub (.Constant (.int 1) k p1) p2)) p3) (.ref a) (.ref s4.heap.objs.size)) (EP X pins σ Q) X.xe { s4 with heap := s4.heap.push { cls := .type "slice", data := .fields #[vl, vu, vs] } }
  rcases hx with ⟨hx, q⟩ | ⟨hx, q⟩
  · obtain ⟨its, r, ht, hz⟩ := I5.list hx
    have hlen := r.length
    refine tail_any (ops := [.ref a, .ref s4.heap.objs.size]) ht.isList.typeIs (PySem.slot_list_getitem.lookup) (wpAny_getItem_list_slice ht.isList (Heap.IsSliceOf.new _ vl vu vs) pl pu ps (by decide) ?_ (by rw [List.size_toArray]; omega)) (by with_unfolding_all rfl)
    rw [PySem.W.krv_pick]
    exact ⟨.ref _, _, I5.laid (t' := s4.toks) (o := .lst xs.reverse) (fun b ob q => Heap.get?_push_of_some _ q) (Nat.le_refl _) ⟨by rw [List.length_reverse]; exact hz, _, 0, r.reverse, Heap.get?_push_size _ rfl⟩, rfl, q _ (I5.hok.fresh (Nat.le_refl _))⟩
  · obtain ⟨its, r, ht, hz⟩ := I5.tuple hx
    have hlen := r.length
    exact tail_any (ops := [.ref a, .ref s4.heap.objs.size]) ht.typeIs PyProof.Rows.slot_tuple_getitem.lookup (item_back ht (Heap.IsSliceOf.new _ vl vu vs) pl pu ps (by rw [List.size_toArray]; omega) (new_t I5 r.reverse (by rw [List.length_reverse]; exact hz) q)) (by with_unfolding_all rfl)
def wRev (w : EW) : EW := fun ρ Q E => w ρ (fun r => (∃ ds, r = .s (.tuple ds) ∧ Q (.s (.tuple ds.reverse))) ∨ ∃ ds, ((∃ o, r = .l o ds) ∨ r = .s (.list ds)) ∧ Q (.l true ds.reverse)) E
theorem pd_rev {X : Cx} {W : WX} {e : Expr} {w : EW} (h : PE X e (tRevB X.K (TDe X.K W w))) : PD X W e (wRev w) := pe_imp h fun σ H Q ⟨G, B0, H0, B, ρ, Qd, Qe, S, q, ok, er⟩ => by
  refine ⟨G, B0, H0, B, ρ, _, Qe, S, q, fun r x B1 H1 S1 s1 r1 q1 => ?_, er⟩
  have c : Ctx X.K G B1 H1 := ⟨S1.bh, S1.gok⟩
  have k : ∀ Qd', Qd' = Qd → Cont X.K G B1 H1 Qd' Q := fun Qd' e r z B' H' s bh g hr q' => ok r z B' H' (S1.step s bh g) (s1.trans s) (hr.from s1) (e ▸ q')
  rcases q1 with ⟨ds, rfl, q1⟩ | ⟨ds, hr, q1⟩
  · obtain ⟨p, xs, rfl, h1, h2⟩ := r1.tup
    exact ⟨p, xs, rfl, .inr ⟨(h1.up c.le).t, (k _ rfl).tup c h2.reverse q1⟩⟩
  · rcases hr with ⟨o, rfl⟩ | rfl
    · obtain ⟨p, xs, rfl, h1, h2, _⟩ := r1
      exact ⟨p, xs, rfl, .inl ⟨.inl (.inl (hide_some h1).2), fun l hl => (k _ rfl).lst c hl h2.reverse q1⟩⟩
    · cases (show Dp X.K B1 x (.list ds) from r1) with
      | lst h1 h2 => exact ⟨_, _, rfl, .inl ⟨Same.sqL c.le h1, fun l hl => (k _ rfl).lst c hl h2.reverse q1⟩⟩
/-! max of a list -/
def fMax1 : FL := fun rs Q => ∃ (o : Bool) (ns : List Int), rs = [.l o (ns.map PyData.int)] ∧ ns ≠ [] ∧ ∀ m, m ∈ ns → (∀ y ∈ ns, y ≤ m) → Q (.s (.int m))
theorem c_max1 {X : Cx} (hc : X.calm = true) : CallR X (.builtin "max") (liftL X.K fMax1) := by
  intro pins s σ H xs us Q I rx hh
  obtain ⟨G, Hs, B, rs, Qd, c, ra, ⟨o, ns, rfl, hn, q⟩, k⟩ := hh
  obtain ⟨x, rfl, p, xs, rfl, h1, h2, _⟩ := ra.one
  cases h2.ints'
  exact cr_max hc pins s σ H _ us Q I rx ⟨p, ns, rfl, .inl (.inl (hide_some h1).2), List.length_pos_iff.mpr hn, fun m hm hy => k.dat c (.int _) (q m hm hy)⟩
end DL

set_option Elab.async false
set_option linter.all false
set_option maxRecDepth 100000
/-! The data layer: a, b, c = x, y, z. -/
namespace DL
open PySem PySem.Spec PyProof.Rows L2
def putRs (ρ : Rho) : List Nat → List R → Rho
  | i :: is, r :: rs => putRs (ρ.set i (some r)) is rs
  | _, _ => ρ
theorem Stt.putMany {K : Frag} {G : Gh} {B0 H0 B' H' H : Hp} : ∀ (is : List Nat) {xs : List V} {rs : List R} {σ : L2.St} {ρ : Rho}, Stt K G B0 H0 B' H' σ ρ → RsAll K G H B' H' xs rs → Same (hide G H0) (hide G H) → Apart xs rs → rs.all keeps = true → (∀ i ∈ is, i < ρ.length) → rs.length = is.length →
    (∀ (m : Nat) (v : R) (z : V), ρ[m]? = some (some v) → owns v = true → σ[m]? = some (some z) → ∀ (j : Nat) (u : R), rs[j]? = some u → owns u = true → xs[j]? ≠ some z) → Stt K G B0 H0 B' H' (putV σ is xs) (putRs ρ is rs)
  | [], _, _, _, _, S, .nil, _, _, _, _, _, _ => S
  | [], _, _, _, _, _, .cons _ _, _, _, _, _, hl, _ => by cases hl
  | _ :: _, _, _, _, _, _, .nil, _, _, _, _, hl, _ => by cases hl
  | i :: is, _, _, σ, ρ, S, .cons (x := x) (xs := xs) (r := r) (rs := rs) h t, hs, ap, kp, hi, hl, D => by
    rw [List.all_cons, Bool.and_eq_true] at kp
    have i0 : i < ρ.length := hi i List.mem_cons_self
    have i1 : i < σ.length := by rw [← S.len]; exact i0
    have S1 : Stt K G B0 H0 B' H' (σ.set i (some x)) (ρ.set i (some r)) := S.fillG (h.slot kp.1 hs) i i1 fun m v z hm e1 o1 o2 e2 e3 => D m v z e1 o2 e2 0 r rfl o1 (by rw [e3]; rfl)
    refine Stt.putMany is S1 t hs ap.2 kp.2 (fun j hj => by rw [List.length_set]; exact hi j (List.mem_cons_of_mem _ hj)) (Nat.succ.inj hl) fun m v z e1 o e2 j u e3 o3 => ?_
    by_cases q : m = i
    · subst q
      rw [List.getElem?_set_self i0] at e1; cases e1
      rw [List.getElem?_set_self i1] at e2; cases e2
      exact ap.1 o j u e3 o3
    · rw [List.getElem?_set_ne (Ne.symm q)] at e1 e2
      exact D m v z e1 o e2 (j + 1) u e3 o3
def wParN (is : List Nat) (ws : AW) : SW := fun ρ E => ws ρ (fun rs => rs.length = is.length ∧ rs.all keeps = true ∧ (∀ i ∈ is, i < ρ.length) ∧ E.nx (putRs ρ is rs)) (fun cls => E.er cls ρ)
section
variable {X : Cx} {W : WX} {st : Stmt} {ws : AW}
theorem par_core {K : Frag} {G : Gh} {B0 H0 B H B' H' : Hp} {σ : L2.St} {ρ : Rho} {is : List Nat} {xs : List V} {rs : List R} (S : Stt K G B0 H0 B H σ ρ) (S' : Stt K G B0 H0 B' H' σ ρ) (s : Stp G B H B' H') (r : RsAll K G H B' H' xs rs) (ap : Apart xs rs) (hl : rs.length = is.length) (kp : rs.all keeps = true) (hi : ∀ i ∈ is, i < ρ.length) :
    Stt K G B0 H0 B' H' (putV σ is xs) (putRs ρ is rs) :=
  Stt.putMany is S' r S.st.hh ap kp hi hl fun m v z e1 o e2 j u e3 o3 e4 => by
    obtain ⟨y, f1, f2⟩ := r.get e3
    rw [f1] at e4
    cases e4
    exact S.away f2 o3 m v _ e1 o e2 rfl
theorem pds_par3 {i j l : Nat} (h : PS X st (tPar3 i j l (TDa X.K W ws))) : PSD X W st (wParN [i, j, l] ws) := ps_imp h fun D σ H ⟨G, B0, H0, B, ρ, E, S, q, lk⟩ => by
  refine ⟨G, B0, H0, B, ρ, _, _, S, q, fun rs xs B' H' S' s r ap ⟨hl, kp, hi, q'⟩ => ?_, fun cls d B' H' q' S' s => lk.er cls d ρ σ B' H' S' s.bb q'⟩
  have fin := par_core S S' s r ap hl kp hi
  match xs, rs, r, hl, fin, q' with
  | [x, y, z], [_, _, _], _, _, fin, q' => exact ⟨x, y, z, rfl, lk.nx _ _ _ _ fin s.bb q'⟩
  | [], [_, _, _], r, _, _, _ => cases r
  | [_], [_, _, _], r, _, _, _ => cases r with | cons _ t => cases t
  | [_, _], [_, _, _], r, _, _, _ => cases r with | cons _ t => cases t with | cons _ t => cases t
  | _ :: _ :: _ :: _ :: _, [_, _, _], r, _, _, _ => cases r with | cons _ t => cases t with | cons _ t => cases t with | cons _ t => cases t
  | _, [], _, hl, _, _ => cases hl
  | _, [_], _, hl, _, _ => cases hl
  | _, [_, _], _, hl, _, _ => cases hl
  | _, _ :: _ :: _ :: _ :: _, _, hl, _, _ => cases hl
theorem pds_parT {is : List Nat} (hz : is.length ≤ 1000) (h : PS X st (tAsg (tTupN (TDa X.K W ws)) (gTup X.K is.length (gNames is)))) : PSD X W st (wParN is ws) := ps_imp h fun D σ H ⟨G, B0, H0, B, ρ, E, S, q, lk⟩ => by
  refine ⟨G, B0, H0, B, ρ, _, _, S, q, fun rs xs B' H' S' s r ap ⟨hl, kp, hi, q'⟩ => ?_, fun cls d B' H' q' S' s => lk.er cls d ρ σ B' H' S' s.bb q'⟩
  have hx : xs.length = is.length := r.length.trans hl
  refine ⟨?_, fun p o hp hn => ⟨p, xs, rfl, .inl (.inr ⟨o, upd_same⟩), hx, gNames_ok is xs _ _ _ hx ?_⟩⟩
  · rw [line_eq, hx]; omega
  · have fin := par_core S S' s r ap hl kp hi
    exact lk.nx _ _ _ _ (fin.new hp) s.bb q'
end
end DL

set_option Elab.async false
set_option linter.all false
set_option maxRecDepth 100000
/-! The data layer: words for plain proofs about dicts. -/
namespace DL
open PySem PySem.Spec PyProof.Rows L2
theorem kv_k (o : Bool) (kvs : List (Key × D)) : R.kv (.k o kvs) = some kvs := rfl
theorem kv_d (kvs : List (Key × D)) : R.kv (.s (.dict (kvD kvs))) = some kvs := unK_kvD kvs
theorem kv_t (l : List D) : R.kv (.s (.tuple l)) = none := rfl
theorem kv_L (l : List D) : R.kv (.s (.list l)) = none := rfl
theorem kv_l (o : Bool) (l : List D) : R.kv (.l o l) = none := rfl
theorem kv_i (i : Int) : R.kv (.s (.int i)) = none := rfl
theorem kv_s (i : Str) : R.kv (.s (.str i)) = none := rfl
theorem seq_k (o : Bool) (kvs : List (Key × D)) : R.seq (.k o kvs) = none := rfl
theorem seq_d (l : List (D × D)) : R.seq (.s (.dict l)) = none := rfl
theorem seq_i (i : Int) : R.seq (.s (.int i)) = none := rfl
theorem seq_s (i : Str) : R.seq (.s (.str i)) = none := rfl
theorem frz_k (kvs : List (Key × D)) : frz (.k true kvs) = .s (.dict (kvD kvs)) := rfl
theorem peek_k (o : Bool) (kvs : List (Key × D)) : peek (.k o kvs) = .k false kvs := rfl
theorem keeps_k (kvs : List (Key × D)) : keeps (.k true kvs) = true := rfl
theorem keeps_g : keeps .g = true := rfl
theorem owns_k (kvs : List (Key × D)) : owns (.k true kvs) = true := rfl
theorem owns_l (l : List D) : owns (.l true l) = true := rfl
theorem putR_l (ds : List D) (z : R) (d : D) (k : R → Prop) : putR (.l true ds) z d k = ∃ n j, z = .s (.int n) ∧ ixN ds.length n = some j ∧ k (.l true (ds.set j d)) := rfl
theorem putR_k (kvs : List (Key × D)) (z : R) (d : D) (k : R → Prop) : putR (.k true kvs) z d k = ∃ e y, z = .s e ∧ ofK e = some y ∧ kvs.length < 16777216 ∧ k (.k true (kPut kvs y d)) := rfl
theorem frzR_s (d : D) (k : R → Prop) : frzR (.s d) k = k (.s d) := rfl
theorem frzR_l (ds : List D) (k : R → Prop) : frzR (.l true ds) k = k (.s (.list ds)) := rfl
theorem frzR_k (kvs : List (Key × D)) (k : R → Prop) : frzR (.k true kvs) k = k (.s (.dict (kvD kvs))) := rfl
theorem putRs_nil (ρ : Rho) (rs : List R) : putRs ρ [] rs = ρ := rfl
theorem putRs_cons (ρ : Rho) (i : Nat) (is : List Nat) (r : R) (rs : List R) : putRs ρ (i :: is) (r :: rs) = putRs (ρ.set i (some r)) is rs := rfl
theorem zip_t (xs ys : List D) : zipOf (.s (.tuple xs)) (.s (.tuple ys)) = some (zipD xs ys) := rfl
theorem ofK_int (i : Int) : ofK (.int i) = some (.inl i) := rfl
theorem ofK_str (i : Str) : ofK (.str i) = some (.inr i) := rfl
theorem all_keeps (r : R) (rs : List R) : (r :: rs).all keeps = (keeps r && rs.all keeps) := rfl
theorem all_keeps0 : ([] : List R).all keeps = true := rfl
/-! dicts with int keys: as functions -/
def iK (kvs : List (Int × Int)) : List (Key × D) := kvs.map fun p => (Sum.inl p.1, PyData.int p.2)
def iGet (kvs : List (Int × Int)) (k : Int) : Option Int := (kvs.find? fun p => decide (p.1 = k)).map (·.2)
theorem iGet_k (k : Int) : ∀ kvs : List (Int × Int), kGet (iK kvs) (.inl k) = (iGet kvs k).map PyData.int
  | [] => rfl
  | p :: r => by
    have ih := iGet_k k r
    unfold kGet iK iGet at ih ⊢
    rw [List.map_cons, List.find?_cons, List.find?_cons]
    by_cases e : p.1 = k
    · simp [e]
    · have e' : ¬ (Sum.inl p.1 : Key) = Sum.inl k := fun z => e (Sum.inl.inj z)
      simp only [e, e', decide_false]
      exact ih
theorem iK_len (kvs : List (Int × Int)) : (iK kvs).length = kvs.length := by simp [iK]
end DL

set_option Elab.async false
set_option linter.all false
set_option maxRecDepth 100000
/-! The data layer: readings as words that a simp can walk from the top (made by mkdlu.py). -/
namespace DL
open PySem PySem.Spec PyProof.Rows L2
def peekQ (r : R) (Q : R → Prop) : Prop := Q (peek r)
def frzQ (r : R) (Q : R → Prop) : Prop := Q (frz r)
def getQ (i : Nat) (ρ : Rho) (k : R → Prop) : Prop := ∃ r, ρ[i]? = some (some r) ∧ k r
def setQ (i : Nat) (ρ : Rho) (r : R) (k : Rho → Prop) : Prop := i < ρ.length ∧ k (ρ.set i (some r))
def keepQ (r : R) (P : Prop) : Prop := keeps r = true ∧ P
def boolQ (r : R) (Q : Bool → Prop) : Prop := ∃ b, r = .s (.bool b) ∧ Q b
def intQ (r : R) (Q : Int → Prop) : Prop := ∃ n, r = .s (.int n) ∧ Q n
def datQ (r : R) (Q : D → Prop) : Prop := ∃ d, r.dat = some d ∧ Q d
def lookQ (r : R) (Q : D → Prop) : Prop := ∃ d, r.look = some d ∧ Q d
def seqQ (r : R) (Q : List D → Prop) : Prop := ∃ ds, r.seq = some ds ∧ Q ds
def stabQ (r : R) (Q : List D → Prop) : Prop := ∃ ds, r.stab = some ds ∧ Q ds
def kvQ (r : R) (Q : List (Key × D) → Prop) : Prop := ∃ kvs, r.kv = some kvs ∧ Q kvs
def ownQ (r : R) (Q : List D → Prop) : Prop := ∃ ds, r = .l true ds ∧ Q ds
def ownKQ (r : R) (Q : List (Key × D) → Prop) : Prop := ∃ ds, r = .k true ds ∧ Q ds
def lQ (r : R) (Q : List D → Prop) : Prop := ∃ o ds, r = .l o ds ∧ Q ds
def keyQ (r : R) (Q : Key → Prop) : Prop := ∃ e y, r = .s e ∧ ofK e = some y ∧ Q y
def popQ (l : List D) (Q : List D → D → Prop) : Prop := ∃ ds d, l = ds ++ [d] ∧ Q ds d
def tupQ (rs : List R) (Q : R → Prop) : Prop := ∃ ds, dats rs = some ds ∧ ds.length ≤ 16777216 ∧ Q (.s (.tuple ds))
def lstQ (rs : List R) (Q : R → Prop) : Prop := ∃ ds, dats rs = some ds ∧ ds.length ≤ 16777216 ∧ Q (.l true ds)
def parQ : List Nat → List R → Rho → (Rho → Prop) → Prop
  | [], [], ρ, k => k ρ
  | i :: is, r :: rs, ρ, k => keepQ r (setQ i ρ r fun ρ' => parQ is rs ρ' k)
  | _, _, _, _ => False
def pksQ : List R → (List R → Prop) → Prop
  | [], k => k []
  | r :: rs, k => peekQ r fun r' => pksQ rs fun rs' => k (r' :: rs')
def forQ (g : GW) (v : SW) (ρ : Rho) (E : DEnds) (ds : List D) : Prop := ∃ P : Nat → Rho → Prop, P 0 ρ ∧ (∀ i d ρ', ds[i]? = some d → P i ρ' → g d ρ' fun ρ2 => v ρ2 { E with nx := P (i + 1), ct := P (i + 1), bk := E.nx }) ∧
  ∀ ρ', P ds.length ρ' → E.nx ρ'
def lcQ (tup : Bool) (is vs : List Nat) (wt : TW) (we : EW) (ρ : Rho) (Q : R → Prop) (ds : List D) : Prop := ∃ P : Nat → List D → Prop, P 0 [] ∧
  (∀ k acc d, ds[k]? = some d → P k acc → gwNames tup is d fun es => (∀ i ∈ is, i < ρ.length) ∧ wt (putA (wipeR ρ vs) is es) (fun b => if b = true then we (putA (wipeR ρ vs) is es) (fun r => ∃ z, r.dat = some z ∧ acc.length < 16777216 ∧ P (k + 1) (acc ++ [z])) (fun _ => False) else P (k + 1) acc) (fun _ => False)) ∧
  ∀ acc, P ds.length acc → Q (.l true acc)
def scQ (tup : Bool) (is vs : List Nat) (wt : TW) (we : EW) (ρ : Rho) (Q : R → Prop) (ds : List D) : Prop := ∃ P : Nat → List Int → Prop, P 0 [] ∧
  (∀ k acc d, ds[k]? = some d → P k acc → gwNames tup is d fun es => (∀ i ∈ is, i < ρ.length) ∧ wt (putA (wipeR ρ vs) is es) (fun b => if b = true then we (putA (wipeR ρ vs) is es) (fun r => ∃ z, r = .s (.int z) ∧ acc.length < 4000 ∧ P (k + 1) (acc ++ [z])) (fun _ => False) else P (k + 1) acc) (fun _ => False)) ∧
  ∀ acc, P ds.length acc → acc.length ≤ 4000 ∧ ∀ ns', SortedOf acc ns' → Q (.l true (ns'.map PyData.int))
theorem get_lt {α : Type} {l : List α} {i : Nat} {x : α} (h : l[i]? = some x) : i < l.length := (List.getElem?_eq_some_iff.mp h).1
section
variable (i j : Nat) (w u wa wb wc : EW) (ws : AW) (wt : TW) (wi : IW) (g : GW) (v : SW) (ρ : Rho) (Q : R → Prop) (E : Value → Prop) (Y : DEnds) (P : Prop)

theorem u_var : wVar i ρ Q E = getQ i ρ fun r => peekQ r Q := rfl
theorem u_frz : wFrz w ρ Q E = w ρ (fun r => frzQ r Q) E := rfl
theorem u_tup : wTup ws ρ Q E = ws ρ (fun rs => tupQ rs Q) E := rfl
theorem u_lst : wLst ws ρ Q E = ws ρ (fun rs => lstQ rs Q) E := rfl
theorem u_tst (T : Bool → Prop) : wTst w ρ T E = w ρ (fun r => boolQ r T) E := rfl
theorem u_andV : wAndV wa wb ρ Q E = wa ρ (fun r => boolQ r fun b => if b = true then wb ρ Q E else Q (.s (.bool false))) E := rfl
theorem u_orV : wOrV wa wb ρ Q E = wa ρ (fun r => boolQ r fun b => if b = true then Q (.s (.bool true)) else wb ρ Q E) E := rfl
theorem u_notV : wNotV wa ρ Q E = wa ρ (fun r => boolQ r fun b => Q (.s (.bool (!b)))) E := rfl
theorem u_chain (f f' : F2) : wChain f f' wa wb wc ρ Q E = wa ρ (fun x => wb ρ (fun y => f x y fun r => boolQ r fun k => if k = true then wc ρ (fun z => f' y z Q) E else Q (.s (.bool false))) E) E := rfl
theorem u_asg : wAsg i w ρ Y = w ρ (fun r => keepQ r (setQ i ρ r Y.nx)) (fun cls => Y.er cls ρ) := by
  have e : (fun r => i < ρ.length ∧ keeps r = true ∧ Y.nx (ρ.set i (some r))) = fun r => keepQ r (setQ i ρ r Y.nx) := funext fun r => propext and_left_comm
  unfold wAsg
  rw [e]
theorem u_asgT : wAsgT w g ρ Y = w ρ (fun r => datQ r fun d => g d ρ Y.nx) (fun cls => Y.er cls ρ) := rfl
theorem u_par : wPar i j wa wb ρ Y = wa ρ (fun r => wb ρ (fun u => keepQ r (keepQ u (setQ i ρ r fun ρ1 => setQ j ρ1 u Y.nx))) (fun cls => Y.er cls ρ)) (fun cls => Y.er cls ρ) := by
  have e : ∀ r, (fun u => i < ρ.length ∧ j < ρ.length ∧ keeps r = true ∧ keeps u = true ∧ Y.nx ((ρ.set i (some r)).set j (some u))) = fun u => keepQ r (keepQ u (setQ i ρ r fun ρ1 => setQ j ρ1 u Y.nx)) := fun r => funext fun u => propext (by
    unfold keepQ setQ
    show _ ↔ keeps r = true ∧ keeps u = true ∧ i < ρ.length ∧ j < (ρ.set i (some r)).length ∧ _
    rw [List.length_set]
    exact ⟨fun ⟨a, b, c, d, e⟩ => ⟨c, d, a, b, e⟩, fun ⟨c, d, a, b, e⟩ => ⟨a, b, c, d, e⟩⟩)
  unfold wPar
  simp only [e]
theorem u_aug (f : Int → Int → Int) : wAug i f w ρ Y = getQ i ρ fun r => intQ r fun n => w ρ (fun r => intQ r fun m => setQ i ρ (.s (.int (f n m))) Y.nx) (fun cls => Y.er cls ρ) := by
  unfold wAug getQ intQ setQ
  refine propext ⟨fun ⟨n, h, q⟩ => ⟨_, h, n, rfl, ?_⟩, fun ⟨r, h, n, e, q⟩ => ⟨n, by rw [h, e], ?_⟩⟩
  · simpa only [get_lt h, true_and] using q
  · simpa only [get_lt h, true_and] using q
theorem u_append : wAppend i w ρ Y = getQ i ρ fun r0 => ownQ r0 fun ds => w ρ (fun r => datQ r fun d => ds.length < 16777216 ∧ setQ i ρ (.l true (ds ++ [d])) Y.nx) (fun cls => Y.er cls ρ) := by
  unfold wAppend getQ ownQ datQ setQ
  refine propext ⟨fun ⟨n, h, q⟩ => ⟨_, h, n, rfl, ?_⟩, fun ⟨r, h, n, e, q⟩ => ⟨n, by rw [h, e], ?_⟩⟩
  · simpa only [get_lt h, true_and] using q
  · simpa only [get_lt h, true_and] using q
theorem u_extend : wExtend i w ρ Y = getQ i ρ fun r0 => ownQ r0 fun ds => w ρ (fun r => lQ r fun es => ds.length + es.length ≤ 16777216 ∧ setQ i ρ (.l true (ds ++ es)) Y.nx) (fun cls => Y.er cls ρ) := by
  unfold wExtend getQ ownQ lQ setQ
  refine propext ⟨fun ⟨n, h, q⟩ => ⟨_, h, n, rfl, ?_⟩, fun ⟨r, h, n, e, q⟩ => ⟨n, by rw [h, e], ?_⟩⟩
  · simpa only [get_lt h, true_and] using q
  · simpa only [get_lt h, true_and] using q
theorem u_pop : wPop i g ρ Y = getQ i ρ fun r0 => ownQ r0 fun l => popQ l fun ds d => setQ i ρ (.l true ds) fun ρ' => g d ρ' Y.nx := by
  unfold wPop getQ ownQ popQ setQ
  refine propext ⟨fun ⟨ds, d, h, q⟩ => ⟨_, h, _, rfl, ds, d, rfl, get_lt h, q⟩, ?_⟩
  rintro ⟨r, h, l, rfl, ds, d, rfl, _, q⟩
  exact ⟨ds, d, h, q⟩
theorem u_setIx (we : EW) (wj : EW) : wSetIx i we wj ρ Y = getQ i ρ fun r0 => owns r0 = true ∧ we ρ (fun r => datQ r fun d => wj ρ (fun z => putR r0 z d fun r1 => setQ i ρ r1 Y.nx) (fun cls => Y.er cls ρ)) (fun cls => Y.er cls ρ) := by
  unfold wSetIx getQ datQ setQ
  refine propext ⟨fun ⟨r, h, q⟩ => ⟨r, h, ?_⟩, fun ⟨r, h, q⟩ => ⟨r, h, ?_⟩⟩
  · simpa only [get_lt h, true_and] using q
  · simpa only [get_lt h, true_and] using q
theorem u_dpop : wDPop i w ρ Y = getQ i ρ fun r0 => ownKQ r0 fun kvs => w ρ (fun z => keyQ z fun y => (kGet kvs y).isSome = true ∧ setQ i ρ (.k true (kDrop kvs y)) Y.nx) (fun cls => Y.er cls ρ) := by
  unfold wDPop getQ ownKQ keyQ setQ
  refine propext ⟨fun ⟨n, h, q⟩ => ⟨_, h, n, rfl, ?_⟩, fun ⟨r, h, n, e, q⟩ => ⟨n, by rw [h, e], ?_⟩⟩
  · simpa only [get_lt h, true_and] using q
  · simpa only [get_lt h, true_and] using q
theorem u_frzS : wFrzS i v ρ Y = getQ i ρ fun r => frzR r fun r' => setQ i ρ r' fun ρ' => v ρ' Y := by
  unfold wFrzS getQ setQ
  refine propext ⟨fun ⟨r, h, q⟩ => ⟨r, h, ?_⟩, fun ⟨r, h, q⟩ => ⟨r, h, ?_⟩⟩
  · simpa only [get_lt h, true_and] using q
  · simpa only [get_lt h, true_and] using q
theorem u_retS : wRetS i ρ Y = getQ i ρ Y.rt := rfl
theorem par_iff : ∀ (is : List Nat) (rs : List R) (ρ : Rho) (k : Rho → Prop), (rs.length = is.length ∧ rs.all keeps = true ∧ (∀ i ∈ is, i < ρ.length) ∧ k (putRs ρ is rs)) ↔ parQ is rs ρ k
  | [], [], ρ, k => by simp [parQ, putRs]
  | [], _ :: _, ρ, k => by simp [parQ]
  | _ :: _, [], ρ, k => by simp [parQ]
  | i :: is, r :: rs, ρ, k => by
    have ih := par_iff is rs (ρ.set i (some r)) k
    show _ ↔ keeps r = true ∧ i < ρ.length ∧ parQ is rs (ρ.set i (some r)) k
    rw [← ih]
    simp only [List.length_cons, List.all_cons, Bool.and_eq_true, List.length_set, List.mem_cons, forall_eq_or_imp, putRs_cons]
    constructor
    · rintro ⟨a, ⟨b, c⟩, ⟨d, e⟩, f⟩
      exact ⟨b, d, by omega, c, e, f⟩
    · rintro ⟨b, d, a, c, e, f⟩
      exact ⟨by omega, ⟨b, c⟩, ⟨d, e⟩, f⟩
theorem u_parN (is : List Nat) : wParN is ws ρ Y = ws ρ (fun rs => parQ is rs ρ Y.nx) (fun cls => Y.er cls ρ) := by
  have e : (fun rs : List R => rs.length = is.length ∧ rs.all keeps = true ∧ (∀ i ∈ is, i < ρ.length) ∧ Y.nx (putRs ρ is rs)) = fun rs => parQ is rs ρ Y.nx := funext fun rs => propext (par_iff is rs ρ Y.nx)
  unfold wParN
  rw [e]
theorem u_seqC (T : List D → Prop) : wSeqC w ρ T E = w ρ (fun r => seqQ r T) E := rfl
theorem u_seqF (T : List D → Prop) : wSeqF w ρ T E = w ρ (fun r => stabQ r T) E := rfl
def rng1Q (rs : List R) (Q : List D → Prop) : Prop := ∃ n, rs = [.s (.int n)] ∧ -(2 ^ 62) ≤ n ∧ n < 2 ^ 62 ∧ Q (rangeD 0 n.toNat)
def rng2Q (rs : List R) (Q : List D → Prop) : Prop := ∃ m n, rs = [.s (.int m), .s (.int n)] ∧ (-(2 ^ 62) ≤ m ∧ m < 2 ^ 62 ∧ -(2 ^ 62) ≤ n ∧ n < 2 ^ 62) ∧ Q (rangeD m (n - m).toNat)
theorem u_range1 (T : List D → Prop) : wRange1 ws ρ T E = ws ρ (fun rs => rng1Q rs T) E := rfl
theorem u_range2 (T : List D → Prop) : wRange2 ws ρ T E = ws ρ (fun rs => rng2Q rs T) E := rfl
theorem rng1_at (n : Int) (T : List D → Prop) : rng1Q [.s (.int n)] T = (-(2 ^ 62) ≤ n ∧ n < 2 ^ 62 ∧ T (rangeD 0 n.toNat)) := by simp [rng1Q]
theorem rng2_at (m n : Int) (T : List D → Prop) : rng2Q [.s (.int m), .s (.int n)] T = ((-(2 ^ 62) ≤ m ∧ m < 2 ^ 62 ∧ -(2 ^ 62) ≤ n ∧ n < 2 ^ 62) ∧ T (rangeD m (n - m).toNat)) := propext ⟨fun ⟨_, _, e, h⟩ => by cases e; exact h, fun h => ⟨_, _, rfl, h⟩⟩
def zipQ (rs : List R) (T : List D → Prop) : Prop := ∃ a b l, rs = [a, b] ∧ zipOf a b = some l ∧ T l
theorem u_zip (T : List D → Prop) : wZip ws ρ T E = ws ρ (fun rs => zipQ rs T) E := rfl
theorem zip_at (xs ys : List D) (T : List D → Prop) : zipQ [.s (.tuple xs), .s (.tuple ys)] T = T (zipD xs ys) := propext ⟨fun ⟨_, _, _, e, h, q⟩ => by cases e; cases h; exact q, fun h => ⟨_, _, _, rfl, rfl, h⟩⟩
theorem u_isi (f : D → Bool) : wIsi f w ρ Q E = w ρ (fun r => lookQ r fun d => Q (.s (.bool (f d)))) E := rfl
theorem u_some (T : Option Int → Prop) : wOSome w ρ T E = w ρ (fun r => intQ r fun n => T (some n)) E := rfl
theorem u_for : wFor wi g v ρ Y = wi ρ (fun ds => forQ g v ρ Y ds) (fun cls => Y.er cls ρ) := rfl
theorem u_lc (tup : Bool) (is vs : List Nat) : wLc wi tup is vs wt w ρ Q E = wi ρ (fun ds => lcQ tup is vs wt w ρ Q ds) E := rfl
theorem u_sc (tup : Bool) (is vs : List Nat) : wSortSc wi tup is vs wt w ρ Q E = wi ρ (fun ds => scQ tup is vs wt w ρ Q ds) E := rfl
theorem u_sortIt : wSortIt w ρ Q E = w ρ (fun r => kvQ r fun kvs => (kvs.all fun q => flatD q.2) = true ∧ SrtOk (pairsD kvs) ∧ Q (.l true (sortD (pairsD kvs)))) E := rfl
theorem pks_eq : ∀ (rs : List R) (k : List R → Prop), pksQ rs k = k (rs.map peek)
  | [], k => rfl
  | r :: rs, k => by
    show pksQ rs (fun z => k (peek r :: z)) = _
    rw [pks_eq rs, List.map_cons]
theorem u_call (c : Ct) : wCall c ws ρ Q E = ws ρ (fun rs => pksQ rs fun rs' => c rs' Q E) E := by
  unfold wCall
  simp only [pks_eq]
def revQ (r : R) (Q : R → Prop) : Prop := (∃ ds, r = .s (.tuple ds) ∧ Q (.s (.tuple ds.reverse))) ∨ ∃ ds, ((∃ o, r = .l o ds) ∨ r = .s (.list ds)) ∧ Q (.l true ds.reverse)
theorem u_rev : wRev w ρ Q E = w ρ (fun r => revQ r Q) E := rfl
theorem parQ_nil (ρ : Rho) (k : Rho → Prop) : parQ [] [] ρ k = k ρ := rfl
theorem parQ_cons (i : Nat) (is : List Nat) (r : R) (rs : List R) (ρ : Rho) (k : Rho → Prop) : parQ (i :: is) (r :: rs) ρ k = keepQ r (setQ i ρ r fun ρ' => parQ is rs ρ' k) := rfl
theorem pksQ_nil (k : List R → Prop) : pksQ [] k = k [] := rfl
theorem pksQ_cons (r : R) (rs : List R) (k : List R → Prop) : pksQ (r :: rs) k = peekQ r fun r' => pksQ rs fun rs' => k (r' :: rs') := rfl
end
section
variable (g : GW) (u : GWs) (d : D) (r : List D) (ρ : Rho) (k : Rho → Prop)
theorem gw_name (i : Nat) : gwName i d ρ k = setQ i ρ (.s d) k := rfl
theorem gw_nil : gwNil [] ρ k = k ρ := by simp [gwNil]
theorem gw_cons : gwCons g u (d :: r) ρ k = g d ρ fun ρ' => u r ρ' k := propext ⟨fun ⟨_, _, e, h⟩ => by cases e; exact h, fun h => ⟨_, _, rfl, h⟩⟩
theorem gw_tup (n : Nat) (ds : List D) : gwTup n u (.tuple ds) ρ k = (ds.length = n ∧ u ds ρ k) := by simp [gwTup]
end
section
variable (Q : R → Prop) (P : Prop) (d : D) (ds es : List D) (o o' : Bool) (kvs : List (Key × D)) (i j : Int) (x y : Str) (b : Bool)
theorem peekQ_s : peekQ (.s d) Q = Q (.s d) := rfl
theorem peekQ_l : peekQ (.l o ds) Q = Q (.l false ds) := rfl
theorem peekQ_k : peekQ (.k o kvs) Q = Q (.k false kvs) := rfl
theorem peekQ_g : peekQ .g Q = Q .g := rfl
theorem frzQ_s : frzQ (.s d) Q = Q (.s d) := rfl
theorem frzQ_lt : frzQ (.l true ds) Q = Q (.s (.list ds)) := rfl
theorem frzQ_lf : frzQ (.l false ds) Q = Q (.l false ds) := rfl
theorem frzQ_kt : frzQ (.k true kvs) Q = Q (.s (.dict (kvD kvs))) := rfl
theorem frzQ_kf : frzQ (.k false kvs) Q = Q (.k false kvs) := rfl
theorem keepQ_s : keepQ (.s d) P = P := propext ⟨fun h => h.2, fun h => ⟨rfl, h⟩⟩
theorem keepQ_l : keepQ (.l true ds) P = P := propext ⟨fun h => h.2, fun h => ⟨rfl, h⟩⟩
theorem keepQ_k : keepQ (.k true kvs) P = P := propext ⟨fun h => h.2, fun h => ⟨rfl, h⟩⟩
theorem keepQ_g : keepQ .g P = P := propext ⟨fun h => h.2, fun h => ⟨rfl, h⟩⟩
theorem boolQ_b (T : Bool → Prop) : boolQ (.s (.bool b)) T = T b := propext ⟨fun ⟨_, e, h⟩ => by cases e; exact h, fun h => ⟨_, rfl, h⟩⟩
theorem intQ_i (T : Int → Prop) : intQ (.s (.int i)) T = T i := propext ⟨fun ⟨_, e, h⟩ => by cases e; exact h, fun h => ⟨_, rfl, h⟩⟩
theorem datQ_s (T : D → Prop) : datQ (.s d) T = T d := propext ⟨fun ⟨_, e, h⟩ => by cases e; exact h, fun h => ⟨_, rfl, h⟩⟩
theorem lookQ_s (T : D → Prop) : lookQ (.s d) T = T d := propext ⟨fun ⟨_, e, h⟩ => by cases e; exact h, fun h => ⟨_, rfl, h⟩⟩
theorem lookQ_l (T : D → Prop) : lookQ (.l o ds) T = T (.list ds) := propext ⟨fun ⟨_, e, h⟩ => by cases e; exact h, fun h => ⟨_, rfl, h⟩⟩
theorem seqQ_t (T : List D → Prop) : seqQ (.s (.tuple ds)) T = T ds := propext ⟨fun ⟨_, e, h⟩ => by cases e; exact h, fun h => ⟨_, rfl, h⟩⟩
theorem seqQ_L (T : List D → Prop) : seqQ (.s (.list ds)) T = T ds := propext ⟨fun ⟨_, e, h⟩ => by cases e; exact h, fun h => ⟨_, rfl, h⟩⟩
theorem stabQ_t (T : List D → Prop) : stabQ (.s (.tuple ds)) T = T ds := propext ⟨fun ⟨_, e, h⟩ => by cases e; exact h, fun h => ⟨_, rfl, h⟩⟩
theorem stabQ_L (T : List D → Prop) : stabQ (.s (.list ds)) T = T ds := propext ⟨fun ⟨_, e, h⟩ => by cases e; exact h, fun h => ⟨_, rfl, h⟩⟩
theorem seqQ_l (T : List D → Prop) : seqQ (.l o ds) T = T ds := propext ⟨fun ⟨_, e, h⟩ => by cases e; exact h, fun h => ⟨_, rfl, h⟩⟩
theorem kvQ_k (T : List (Key × D) → Prop) : kvQ (.k o kvs) T = T kvs := propext ⟨fun ⟨_, e, h⟩ => by cases e; exact h, fun h => ⟨_, rfl, h⟩⟩
theorem kvQ_d (T : List (Key × D) → Prop) : kvQ (.s (.dict (kvD kvs))) T = T kvs := by simp [kvQ, kv_d]
theorem ownQ_l (T : List D → Prop) : ownQ (.l true ds) T = T ds := propext ⟨fun ⟨_, e, h⟩ => by cases e; exact h, fun h => ⟨_, rfl, h⟩⟩
theorem ownKQ_k (T : List (Key × D) → Prop) : ownKQ (.k true kvs) T = T kvs := propext ⟨fun ⟨_, e, h⟩ => by cases e; exact h, fun h => ⟨_, rfl, h⟩⟩
theorem lQ_l (T : List D → Prop) : lQ (.l o ds) T = T ds := propext ⟨fun ⟨_, _, e, h⟩ => by cases e; exact h, fun h => ⟨_, _, rfl, h⟩⟩
theorem keyQ_i (T : Key → Prop) : keyQ (.s (.int i)) T = T (.inl i) := by simp [keyQ, ofK_int]
theorem keyQ_s (T : Key → Prop) : keyQ (.s (.str x)) T = T (.inr x) := by simp [keyQ, ofK_str]
theorem popQ_1 (T : List D → D → Prop) : popQ [d] T = T [] d := propext ⟨fun ⟨a, b, e, h⟩ => by
    have e' : [] ++ [d] = a ++ [b] := e
    obtain ⟨rfl, e2⟩ := List.append_inj' e' rfl
    cases e2
    exact h, fun h => ⟨[], d, rfl, h⟩⟩
theorem popQ_s (T : List D → D → Prop) : popQ (ds ++ [d]) T = T ds d := propext ⟨fun ⟨a, b, e, h⟩ => by
    obtain ⟨rfl, e2⟩ := List.append_inj' e rfl
    cases e2
    exact h, fun h => ⟨ds, d, rfl, h⟩⟩
theorem tupQ_0  : tupQ [] Q = Q (.s (.tuple [])) := propext ⟨fun ⟨_, e, _, h⟩ => by cases e; exact h, fun h => ⟨_, rfl, by decide, h⟩⟩
theorem tupQ_1 (a0 : D) : tupQ [.s a0] Q = Q (.s (.tuple [a0])) := propext ⟨fun ⟨_, e, _, h⟩ => by cases e; exact h, fun h => ⟨_, rfl, by simp, h⟩⟩
theorem tupQ_2 (a0 a1 : D) : tupQ [.s a0, .s a1] Q = Q (.s (.tuple [a0, a1])) := propext ⟨fun ⟨_, e, _, h⟩ => by cases e; exact h, fun h => ⟨_, rfl, by simp, h⟩⟩
theorem tupQ_3 (a0 a1 a2 : D) : tupQ [.s a0, .s a1, .s a2] Q = Q (.s (.tuple [a0, a1, a2])) := propext ⟨fun ⟨_, e, _, h⟩ => by cases e; exact h, fun h => ⟨_, rfl, by simp, h⟩⟩
theorem tupQ_4 (a0 a1 a2 a3 : D) : tupQ [.s a0, .s a1, .s a2, .s a3] Q = Q (.s (.tuple [a0, a1, a2, a3])) := propext ⟨fun ⟨_, e, _, h⟩ => by cases e; exact h, fun h => ⟨_, rfl, by simp, h⟩⟩
theorem tupQ_5 (a0 a1 a2 a3 a4 : D) : tupQ [.s a0, .s a1, .s a2, .s a3, .s a4] Q = Q (.s (.tuple [a0, a1, a2, a3, a4])) := propext ⟨fun ⟨_, e, _, h⟩ => by cases e; exact h, fun h => ⟨_, rfl, by simp, h⟩⟩
theorem tupQ_6 (a0 a1 a2 a3 a4 a5 : D) : tupQ [.s a0, .s a1, .s a2, .s a3, .s a4, .s a5] Q = Q (.s (.tuple [a0, a1, a2, a3, a4, a5])) := propext ⟨fun ⟨_, e, _, h⟩ => by cases e; exact h, fun h => ⟨_, rfl, by simp, h⟩⟩
theorem tupQ_7 (a0 a1 a2 a3 a4 a5 a6 : D) : tupQ [.s a0, .s a1, .s a2, .s a3, .s a4, .s a5, .s a6] Q = Q (.s (.tuple [a0, a1, a2, a3, a4, a5, a6])) := propext ⟨fun ⟨_, e, _, h⟩ => by cases e; exact h, fun h => ⟨_, rfl, by simp, h⟩⟩
theorem tupQ_8 (a0 a1 a2 a3 a4 a5 a6 a7 : D) : tupQ [.s a0, .s a1, .s a2, .s a3, .s a4, .s a5, .s a6, .s a7] Q = Q (.s (.tuple [a0, a1, a2, a3, a4, a5, a6, a7])) := propext ⟨fun ⟨_, e, _, h⟩ => by cases e; exact h, fun h => ⟨_, rfl, by simp, h⟩⟩
theorem lstQ_0  : lstQ [] Q = Q (.l true []) := propext ⟨fun ⟨_, e, _, h⟩ => by cases e; exact h, fun h => ⟨_, rfl, by decide, h⟩⟩
theorem lstQ_1 (a0 : D) : lstQ [.s a0] Q = Q (.l true [a0]) := propext ⟨fun ⟨_, e, _, h⟩ => by cases e; exact h, fun h => ⟨_, rfl, by simp, h⟩⟩
theorem lstQ_2 (a0 a1 : D) : lstQ [.s a0, .s a1] Q = Q (.l true [a0, a1]) := propext ⟨fun ⟨_, e, _, h⟩ => by cases e; exact h, fun h => ⟨_, rfl, by simp, h⟩⟩
theorem lstQ_3 (a0 a1 a2 : D) : lstQ [.s a0, .s a1, .s a2] Q = Q (.l true [a0, a1, a2]) := propext ⟨fun ⟨_, e, _, h⟩ => by cases e; exact h, fun h => ⟨_, rfl, by simp, h⟩⟩
theorem lstQ_4 (a0 a1 a2 a3 : D) : lstQ [.s a0, .s a1, .s a2, .s a3] Q = Q (.l true [a0, a1, a2, a3]) := propext ⟨fun ⟨_, e, _, h⟩ => by cases e; exact h, fun h => ⟨_, rfl, by simp, h⟩⟩
theorem lstQ_5 (a0 a1 a2 a3 a4 : D) : lstQ [.s a0, .s a1, .s a2, .s a3, .s a4] Q = Q (.l true [a0, a1, a2, a3, a4]) := propext ⟨fun ⟨_, e, _, h⟩ => by cases e; exact h, fun h => ⟨_, rfl, by simp, h⟩⟩
theorem lstQ_6 (a0 a1 a2 a3 a4 a5 : D) : lstQ [.s a0, .s a1, .s a2, .s a3, .s a4, .s a5] Q = Q (.l true [a0, a1, a2, a3, a4, a5]) := propext ⟨fun ⟨_, e, _, h⟩ => by cases e; exact h, fun h => ⟨_, rfl, by simp, h⟩⟩
theorem lstQ_7 (a0 a1 a2 a3 a4 a5 a6 : D) : lstQ [.s a0, .s a1, .s a2, .s a3, .s a4, .s a5, .s a6] Q = Q (.l true [a0, a1, a2, a3, a4, a5, a6]) := propext ⟨fun ⟨_, e, _, h⟩ => by cases e; exact h, fun h => ⟨_, rfl, by simp, h⟩⟩
theorem lstQ_8 (a0 a1 a2 a3 a4 a5 a6 a7 : D) : lstQ [.s a0, .s a1, .s a2, .s a3, .s a4, .s a5, .s a6, .s a7] Q = Q (.l true [a0, a1, a2, a3, a4, a5, a6, a7]) := propext ⟨fun ⟨_, e, _, h⟩ => by cases e; exact h, fun h => ⟨_, rfl, by simp, h⟩⟩
theorem ixk0 (a0 : D) : atI (a0 :: ds) 0 = some a0 := by
  unfold atI ixN
  rw [if_pos (by decide), if_pos (by simp only [List.length_cons]; omega)]
  rfl
theorem ixk1 (a0 a1 : D) : atI (a0 :: a1 :: ds) 1 = some a1 := by
  unfold atI ixN
  rw [if_pos (by decide), if_pos (by simp only [List.length_cons]; omega)]
  rfl
theorem ixk2 (a0 a1 a2 : D) : atI (a0 :: a1 :: a2 :: ds) 2 = some a2 := by
  unfold atI ixN
  rw [if_pos (by decide), if_pos (by simp only [List.length_cons]; omega)]
  rfl
theorem ixk3 (a0 a1 a2 a3 : D) : atI (a0 :: a1 :: a2 :: a3 :: ds) 3 = some a3 := by
  unfold atI ixN
  rw [if_pos (by decide), if_pos (by simp only [List.length_cons]; omega)]
  rfl
theorem ixk4 (a0 a1 a2 a3 a4 : D) : atI (a0 :: a1 :: a2 :: a3 :: a4 :: ds) 4 = some a4 := by
  unfold atI ixN
  rw [if_pos (by decide), if_pos (by simp only [List.length_cons]; omega)]
  rfl
theorem fAdd_i : fAdd (.s (.int i)) (.s (.int j)) Q = Q (.s (.int (i + j))) := by simp [fAdd]
theorem fAdd_t : fAdd (.s (.tuple ds)) (.s (.tuple es)) Q = (ds.length + es.length ≤ 16777216 ∧ Q (.s (.tuple (ds ++ es)))) := by simp [fAdd]
theorem fAdd_l : fAdd (.l o ds) (.l o' es) Q = (ds.length + es.length ≤ 16777216 ∧ Q (.l true (ds ++ es))) := propext ⟨fun ⟨_, _, e, h⟩ => by cases e; exact h, fun h => ⟨_, _, rfl, h⟩⟩
theorem fAdd_s : fAdd (.s (.str x)) (.s (.str y)) Q = (x.length + y.length ≤ 16777216 ∧ Q (.s (.str (x ++ y)))) := by simp [fAdd]
theorem fInt_i (C : Int → Int → Prop) (g : Int → Int → Int) : fInt C g (.s (.int i)) (.s (.int j)) Q = (C i j ∧ Q (.s (.int (g i j)))) := by simp [fInt]
theorem fSub_i : fInt (fun _ _ => True) (· - ·) (.s (.int i)) (.s (.int j)) Q = Q (.s (.int (i - j))) := by simp [fInt]
theorem fMul_i : fMul (.s (.int i)) (.s (.int j)) Q = (CMul i j ∧ Q (.s (.int (i * j)))) := by simp [fMul]
theorem fNeg_i : fNeg (.s (.int i)) Q = Q (.s (.int (-i))) := by simp [fNeg]
theorem fEq_s (e : D) : fEq (.s d) (.s e) Q = (Sh d ∧ Sh e ∧ Q (.s (.bool (PyData.eqv d e)))) := by simp [fEq, look_s, look_l, sh_int, sh_bool, sh_none]
theorem fEq_i : fEq (.s (.int i)) (.s (.int j)) Q = Q (.s (.bool (PyData.eqv (.int i) (.int j)))) := by simp [fEq, look_s, sh_int]
theorem fEq_b (b' : Bool) : fEq (.s (.bool b)) (.s (.bool b')) Q = Q (.s (.bool (PyData.eqv (.bool b) (.bool b')))) := by simp [fEq, look_s, sh_bool]
theorem fEq_l : fEq (.l o ds) (.l o' es) Q = (Sh (.list ds) ∧ Sh (.list es) ∧ Q (.s (.bool (PyData.eqv (.list ds) (.list es))))) := by simp [fEq, look_s, look_l, sh_int, sh_bool, sh_none]
theorem fEq_L : fEq (.s (.list ds)) (.l o' es) Q = (Sh (.list ds) ∧ Sh (.list es) ∧ Q (.s (.bool (PyData.eqv (.list ds) (.list es))))) := by simp [fEq, look_s, look_l, sh_int, sh_bool, sh_none]
theorem fNe_s (e : D) : fNe (.s d) (.s e) Q = (Sh d ∧ Sh e ∧ Q (.s (.bool (!PyData.eqv d e)))) := by simp [fNe, look_s, look_l, sh_int, sh_bool, sh_none]
theorem fNe_i : fNe (.s (.int i)) (.s (.int j)) Q = Q (.s (.bool (!PyData.eqv (.int i) (.int j)))) := by simp [fNe, look_s, sh_int]
theorem fNe_b (b' : Bool) : fNe (.s (.bool b)) (.s (.bool b')) Q = Q (.s (.bool (!PyData.eqv (.bool b) (.bool b')))) := by simp [fNe, look_s, sh_bool]
theorem fNe_l : fNe (.l o ds) (.l o' es) Q = (Sh (.list ds) ∧ Sh (.list es) ∧ Q (.s (.bool (!PyData.eqv (.list ds) (.list es))))) := by simp [fNe, look_s, look_l, sh_int, sh_bool, sh_none]
theorem fNe_L : fNe (.s (.list ds)) (.l o' es) Q = (Sh (.list ds) ∧ Sh (.list es) ∧ Q (.s (.bool (!PyData.eqv (.list ds) (.list es))))) := by simp [fNe, look_s, look_l, sh_int, sh_bool, sh_none]
theorem fCmp_i (g : Int → Int → Bool) : fCmp g (.s (.int i)) (.s (.int j)) Q = Q (.s (.bool (g i j))) := by simp [fCmp]
theorem fLt_i : fLt (.s (.int i)) (.s (.int j)) Q = Q (.s (.bool (decide (i < j)))) := by simp [fLt]
theorem fIs_n (neg : Bool) : fIs neg (.s d) (.s .none) Q = Q (.s (.bool (neg != R.isN (.s d)))) := by simp [fIs, R.isS]
theorem fIs_b (neg : Bool) (b' : Bool) : fIs neg (.s (.bool b)) (.s (.bool b')) Q = Q (.s (.bool (neg != (b == b')))) := by simp [fIs]
theorem fIn_t (neg : Bool) : fIn neg (.s d) (.s (.tuple ds)) Q = (flatD d = true ∧ ds.all flatD = true ∧ Q (.s (.bool (neg != inD d ds)))) := by simp [fIn, kv_t, R.seq]
theorem fIx_t : fIx (.s (.tuple ds)) (.s (.int i)) Q = (∃ d, atI ds i = some d ∧ Q (.s d)) := by simp [fIx, kv_t, R.seq]
theorem fIx_t0 (a0 : D) : fIx (.s (.tuple (a0 :: ds))) (.s (.int 0)) Q = Q (.s a0) := by rw [fIx_t, ixk0]; simp
theorem fIx_t1 (a0 a1 : D) : fIx (.s (.tuple (a0 :: a1 :: ds))) (.s (.int 1)) Q = Q (.s a1) := by rw [fIx_t, ixk1]; simp
theorem fIx_t2 (a0 a1 a2 : D) : fIx (.s (.tuple (a0 :: a1 :: a2 :: ds))) (.s (.int 2)) Q = Q (.s a2) := by rw [fIx_t, ixk2]; simp
theorem fIx_t3 (a0 a1 a2 a3 : D) : fIx (.s (.tuple (a0 :: a1 :: a2 :: a3 :: ds))) (.s (.int 3)) Q = Q (.s a3) := by rw [fIx_t, ixk3]; simp
theorem fIx_t4 (a0 a1 a2 a3 a4 : D) : fIx (.s (.tuple (a0 :: a1 :: a2 :: a3 :: a4 :: ds))) (.s (.int 4)) Q = Q (.s a4) := by rw [fIx_t, ixk4]; simp
theorem fLen_t : fLen [.s (.tuple ds)] Q = Q (.s (.int ds.length)) := by simp [fLen, kv_t, R.seq]
theorem fList_t : fList [.s (.tuple ds)] Q = Q (.l true ds) := by simp [fList, R.seq]
theorem fTuple_t : fTuple [.s (.tuple ds)] Q = Q (.s (.tuple ds)) := by simp [fTuple, R.seq]
theorem fDict_t : fDict [.s (.tuple ds)] Q = (∃ kvs, pairsK ds = some kvs ∧ Q (.k true (kMerge [] kvs))) := by simp [fDict, kv_t, R.seq]
theorem fSl_t (lo hi : Option Int) : fSl (.s (.tuple ds)) lo hi Q = Q (.s (.tuple (cutD ds lo hi))) := rfl
theorem fIn_L (neg : Bool) : fIn neg (.s d) (.s (.list ds)) Q = (flatD d = true ∧ ds.all flatD = true ∧ Q (.s (.bool (neg != inD d ds)))) := by simp [fIn, kv_L, R.seq]
theorem fIx_L : fIx (.s (.list ds)) (.s (.int i)) Q = (∃ d, atI ds i = some d ∧ Q (.s d)) := by simp [fIx, kv_L, R.seq]
theorem fIx_L0 (a0 : D) : fIx (.s (.list (a0 :: ds))) (.s (.int 0)) Q = Q (.s a0) := by rw [fIx_L, ixk0]; simp
theorem fIx_L1 (a0 a1 : D) : fIx (.s (.list (a0 :: a1 :: ds))) (.s (.int 1)) Q = Q (.s a1) := by rw [fIx_L, ixk1]; simp
theorem fIx_L2 (a0 a1 a2 : D) : fIx (.s (.list (a0 :: a1 :: a2 :: ds))) (.s (.int 2)) Q = Q (.s a2) := by rw [fIx_L, ixk2]; simp
theorem fIx_L3 (a0 a1 a2 a3 : D) : fIx (.s (.list (a0 :: a1 :: a2 :: a3 :: ds))) (.s (.int 3)) Q = Q (.s a3) := by rw [fIx_L, ixk3]; simp
theorem fIx_L4 (a0 a1 a2 a3 a4 : D) : fIx (.s (.list (a0 :: a1 :: a2 :: a3 :: a4 :: ds))) (.s (.int 4)) Q = Q (.s a4) := by rw [fIx_L, ixk4]; simp
theorem fLen_L : fLen [.s (.list ds)] Q = Q (.s (.int ds.length)) := by simp [fLen, kv_L, R.seq]
theorem fList_L : fList [.s (.list ds)] Q = Q (.l true ds) := by simp [fList, R.seq]
theorem fTuple_L : fTuple [.s (.list ds)] Q = Q (.s (.tuple ds)) := by simp [fTuple, R.seq]
theorem fDict_L : fDict [.s (.list ds)] Q = (∃ kvs, pairsK ds = some kvs ∧ Q (.k true (kMerge [] kvs))) := by simp [fDict, kv_L, R.seq]
theorem fSl_L (lo hi : Option Int) : fSl (.s (.list ds)) lo hi Q = Q (.l true (cutD ds lo hi)) := rfl
theorem fIn_l (neg : Bool) : fIn neg (.s d) (.l o ds) Q = (flatD d = true ∧ ds.all flatD = true ∧ Q (.s (.bool (neg != inD d ds)))) := by simp [fIn, kv_l, R.seq]
theorem fIx_l : fIx (.l o ds) (.s (.int i)) Q = (∃ d, atI ds i = some d ∧ Q (.s d)) := by simp [fIx, kv_l, R.seq]
theorem fIx_l0 (a0 : D) : fIx (.l o (a0 :: ds)) (.s (.int 0)) Q = Q (.s a0) := by rw [fIx_l, ixk0]; simp
theorem fIx_l1 (a0 a1 : D) : fIx (.l o (a0 :: a1 :: ds)) (.s (.int 1)) Q = Q (.s a1) := by rw [fIx_l, ixk1]; simp
theorem fIx_l2 (a0 a1 a2 : D) : fIx (.l o (a0 :: a1 :: a2 :: ds)) (.s (.int 2)) Q = Q (.s a2) := by rw [fIx_l, ixk2]; simp
theorem fIx_l3 (a0 a1 a2 a3 : D) : fIx (.l o (a0 :: a1 :: a2 :: a3 :: ds)) (.s (.int 3)) Q = Q (.s a3) := by rw [fIx_l, ixk3]; simp
theorem fIx_l4 (a0 a1 a2 a3 a4 : D) : fIx (.l o (a0 :: a1 :: a2 :: a3 :: a4 :: ds)) (.s (.int 4)) Q = Q (.s a4) := by rw [fIx_l, ixk4]; simp
theorem fLen_l : fLen [.l o ds] Q = Q (.s (.int ds.length)) := by simp [fLen, kv_l, R.seq]
theorem fList_l : fList [.l o ds] Q = Q (.l true ds) := by simp [fList, R.seq]
theorem fTuple_l : fTuple [.l o ds] Q = Q (.s (.tuple ds)) := by simp [fTuple, R.seq]
theorem fDict_l : fDict [.l o ds] Q = (∃ kvs, pairsK ds = some kvs ∧ Q (.k true (kMerge [] kvs))) := by simp [fDict, kv_l, R.seq]
theorem fSl_l (lo hi : Option Int) : fSl (.l o ds) lo hi Q = Q (.l true (cutD ds lo hi)) := rfl
theorem fIn_k (neg : Bool) : fIn neg (.s d) (.k o kvs) Q = (∃ k, ofK d = some k ∧ Q (.s (.bool (neg != (kGet kvs k).isSome)))) := by simp [fIn, kv_k, seq_k]
theorem fIn_ki (neg : Bool) : fIn neg (.s (.int i)) (.k o kvs) Q = Q (.s (.bool (neg != (kGet kvs (.inl i)).isSome))) := by simp [fIn, kv_k, seq_k, ofK_int]
theorem fIn_ks (neg : Bool) : fIn neg (.s (.str x)) (.k o kvs) Q = Q (.s (.bool (neg != (kGet kvs (.inr x)).isSome))) := by simp [fIn, kv_k, seq_k, ofK_str]
theorem fIx_k : fIx (.k o kvs) (.s d) Q = (∃ k, ofK d = some k ∧ ∃ e, kGet kvs k = some e ∧ Q (.s e)) := by simp [fIx, kv_k, seq_k]
theorem fIx_ki : fIx (.k o kvs) (.s (.int i)) Q = (∃ e, kGet kvs (.inl i) = some e ∧ Q (.s e)) := by simp [fIx, kv_k, seq_k, ofK_int]
theorem fIx_ks : fIx (.k o kvs) (.s (.str x)) Q = (∃ e, kGet kvs (.inr x) = some e ∧ Q (.s e)) := by simp [fIx, kv_k, seq_k, ofK_str]
theorem fLen_k : fLen [.k o kvs] Q = Q (.s (.int kvs.length)) := by simp [fLen, kv_k, seq_k]
theorem fLen_d : fLen [.s (.dict (kvD kvs))] Q = Q (.s (.int kvs.length)) := by simp [fLen, kv_d, seq_d]
theorem fDict_k : fDict [.k o kvs] Q = Q (.k true kvs) := by simp [fDict, kv_k, seq_k]
theorem fDict_d : fDict [.s (.dict (kvD kvs))] Q = Q (.k true kvs) := by simp [fDict, kv_d, seq_d]
theorem fSorted_l : fSorted [.l o ds] Q = (SrtOk ds ∧ Q (.l true (sortD ds))) := by unfold fSorted; exact propext ⟨fun ⟨r, es, e, h, a, b⟩ => by cases e; rcases h with ⟨_, h⟩ | h <;> cases h; exact ⟨a, b⟩, fun ⟨a, b⟩ => ⟨_, ds, rfl, .inl ⟨o, rfl⟩, a, b⟩⟩
theorem fSorted_L : fSorted [.s (.list ds)] Q = (SrtOk ds ∧ Q (.l true (sortD ds))) := by simp [fSorted]
theorem revQ_t : revQ (.s (.tuple ds)) Q = Q (.s (.tuple ds.reverse)) := by simp [revQ]
theorem revQ_l : revQ (.l o ds) Q = Q (.l true ds.reverse) := by unfold revQ; exact propext ⟨fun h => by rcases h with ⟨_, h, _⟩ | ⟨_, ⟨_, h⟩ | h, q⟩ <;> cases h; exact q, fun h => .inr ⟨_, .inl ⟨_, rfl⟩, h⟩⟩
theorem revQ_L : revQ (.s (.list ds)) Q = Q (.l true ds.reverse) := by unfold revQ; exact propext ⟨fun h => by rcases h with ⟨_, h, _⟩ | ⟨_, ⟨_, h⟩ | h, q⟩ <;> cases h; exact q, fun h => .inr ⟨_, .inr rfl, h⟩⟩
theorem fIntOf_i : fIntOf [.s (.int i)] Q = Q (.s (.int i)) := by simp [fIntOf]
theorem fMax2_i : fMax2 [.s (.int i), .s (.int j)] Q = Q (.s (.int (if j > i then j else i))) := propext ⟨fun ⟨_, _, e, h⟩ => by cases e; exact h, fun h => ⟨_, _, rfl, h⟩⟩
theorem fMin2_i : fMin2 [.s (.int i), .s (.int j)] Q = Q (.s (.int (if j < i then j else i))) := propext ⟨fun ⟨_, _, e, h⟩ => by cases e; exact h, fun h => ⟨_, _, rfl, h⟩⟩
theorem pick_at (E : Value → Prop) : c_pick [.g, .s (.int i)] Q E = (0 < i ∧ i < 1073741824 ∧ ∀ r : Int, 0 ≤ r → r < i → Q (.s (.int r))) := propext ⟨fun ⟨_, e, h⟩ => by cases e; exact h, fun h => ⟨_, rfl, h⟩⟩
theorem putR_li  : putR (.l true ds) (.s (.int i)) d Q = (∃ j, ixN ds.length i = some j ∧ Q (.l true (ds.set j d))) := by simp [putR]
theorem putR_ki  : putR (.k true kvs) (.s (.int i)) d Q = (kvs.length < 16777216 ∧ Q (.k true (kPut kvs (.inl i) d))) := by simp [putR, ofK_int]
theorem putR_ks  : putR (.k true kvs) (.s (.str x)) d Q = (kvs.length < 16777216 ∧ Q (.k true (kPut kvs (.inr x) d))) := by simp [putR, ofK_str]
end
theorem getQ_0  (l : Rho) (r : R) (k : R → Prop) : getQ 0 (some r :: l) k = k r := propext ⟨fun ⟨_, e, h⟩ => by cases e; exact h, fun h => ⟨_, rfl, h⟩⟩
theorem setQ_0 (x : Option R) (l : Rho) (r : R) (k : Rho → Prop) : setQ 0 (x :: l) r k = k (some r :: l) := propext ⟨fun h => h.2, fun h => ⟨by simp, h⟩⟩
theorem getQ_1 (x0 : Option R) (l : Rho) (r : R) (k : R → Prop) : getQ 1 (x0 :: some r :: l) k = k r := propext ⟨fun ⟨_, e, h⟩ => by cases e; exact h, fun h => ⟨_, rfl, h⟩⟩
theorem setQ_1 (x0 x : Option R) (l : Rho) (r : R) (k : Rho → Prop) : setQ 1 (x0 :: x :: l) r k = k (x0 :: some r :: l) := propext ⟨fun h => h.2, fun h => ⟨by simp, h⟩⟩
theorem getQ_2 (x0 x1 : Option R) (l : Rho) (r : R) (k : R → Prop) : getQ 2 (x0 :: x1 :: some r :: l) k = k r := propext ⟨fun ⟨_, e, h⟩ => by cases e; exact h, fun h => ⟨_, rfl, h⟩⟩
theorem setQ_2 (x0 x1 x : Option R) (l : Rho) (r : R) (k : Rho → Prop) : setQ 2 (x0 :: x1 :: x :: l) r k = k (x0 :: x1 :: some r :: l) := propext ⟨fun h => h.2, fun h => ⟨by simp, h⟩⟩
theorem getQ_3 (x0 x1 x2 : Option R) (l : Rho) (r : R) (k : R → Prop) : getQ 3 (x0 :: x1 :: x2 :: some r :: l) k = k r := propext ⟨fun ⟨_, e, h⟩ => by cases e; exact h, fun h => ⟨_, rfl, h⟩⟩
theorem setQ_3 (x0 x1 x2 x : Option R) (l : Rho) (r : R) (k : Rho → Prop) : setQ 3 (x0 :: x1 :: x2 :: x :: l) r k = k (x0 :: x1 :: x2 :: some r :: l) := propext ⟨fun h => h.2, fun h => ⟨by simp, h⟩⟩
theorem getQ_4 (x0 x1 x2 x3 : Option R) (l : Rho) (r : R) (k : R → Prop) : getQ 4 (x0 :: x1 :: x2 :: x3 :: some r :: l) k = k r := propext ⟨fun ⟨_, e, h⟩ => by cases e; exact h, fun h => ⟨_, rfl, h⟩⟩
theorem setQ_4 (x0 x1 x2 x3 x : Option R) (l : Rho) (r : R) (k : Rho → Prop) : setQ 4 (x0 :: x1 :: x2 :: x3 :: x :: l) r k = k (x0 :: x1 :: x2 :: x3 :: some r :: l) := propext ⟨fun h => h.2, fun h => ⟨by simp, h⟩⟩
theorem getQ_5 (x0 x1 x2 x3 x4 : Option R) (l : Rho) (r : R) (k : R → Prop) : getQ 5 (x0 :: x1 :: x2 :: x3 :: x4 :: some r :: l) k = k r := propext ⟨fun ⟨_, e, h⟩ => by cases e; exact h, fun h => ⟨_, rfl, h⟩⟩
theorem setQ_5 (x0 x1 x2 x3 x4 x : Option R) (l : Rho) (r : R) (k : Rho → Prop) : setQ 5 (x0 :: x1 :: x2 :: x3 :: x4 :: x :: l) r k = k (x0 :: x1 :: x2 :: x3 :: x4 :: some r :: l) := propext ⟨fun h => h.2, fun h => ⟨by simp, h⟩⟩
theorem getQ_6 (x0 x1 x2 x3 x4 x5 : Option R) (l : Rho) (r : R) (k : R → Prop) : getQ 6 (x0 :: x1 :: x2 :: x3 :: x4 :: x5 :: some r :: l) k = k r := propext ⟨fun ⟨_, e, h⟩ => by cases e; exact h, fun h => ⟨_, rfl, h⟩⟩
theorem setQ_6 (x0 x1 x2 x3 x4 x5 x : Option R) (l : Rho) (r : R) (k : Rho → Prop) : setQ 6 (x0 :: x1 :: x2 :: x3 :: x4 :: x5 :: x :: l) r k = k (x0 :: x1 :: x2 :: x3 :: x4 :: x5 :: some r :: l) := propext ⟨fun h => h.2, fun h => ⟨by simp, h⟩⟩
theorem getQ_7 (x0 x1 x2 x3 x4 x5 x6 : Option R) (l : Rho) (r : R) (k : R → Prop) : getQ 7 (x0 :: x1 :: x2 :: x3 :: x4 :: x5 :: x6 :: some r :: l) k = k r := propext ⟨fun ⟨_, e, h⟩ => by cases e; exact h, fun h => ⟨_, rfl, h⟩⟩
theorem setQ_7 (x0 x1 x2 x3 x4 x5 x6 x : Option R) (l : Rho) (r : R) (k : Rho → Prop) : setQ 7 (x0 :: x1 :: x2 :: x3 :: x4 :: x5 :: x6 :: x :: l) r k = k (x0 :: x1 :: x2 :: x3 :: x4 :: x5 :: x6 :: some r :: l) := propext ⟨fun h => h.2, fun h => ⟨by simp, h⟩⟩
theorem getQ_8 (x0 x1 x2 x3 x4 x5 x6 x7 : Option R) (l : Rho) (r : R) (k : R → Prop) : getQ 8 (x0 :: x1 :: x2 :: x3 :: x4 :: x5 :: x6 :: x7 :: some r :: l) k = k r := propext ⟨fun ⟨_, e, h⟩ => by cases e; exact h, fun h => ⟨_, rfl, h⟩⟩
theorem setQ_8 (x0 x1 x2 x3 x4 x5 x6 x7 x : Option R) (l : Rho) (r : R) (k : Rho → Prop) : setQ 8 (x0 :: x1 :: x2 :: x3 :: x4 :: x5 :: x6 :: x7 :: x :: l) r k = k (x0 :: x1 :: x2 :: x3 :: x4 :: x5 :: x6 :: x7 :: some r :: l) := propext ⟨fun h => h.2, fun h => ⟨by simp, h⟩⟩
theorem getQ_9 (x0 x1 x2 x3 x4 x5 x6 x7 x8 : Option R) (l : Rho) (r : R) (k : R → Prop) : getQ 9 (x0 :: x1 :: x2 :: x3 :: x4 :: x5 :: x6 :: x7 :: x8 :: some r :: l) k = k r := propext ⟨fun ⟨_, e, h⟩ => by cases e; exact h, fun h => ⟨_, rfl, h⟩⟩
theorem setQ_9 (x0 x1 x2 x3 x4 x5 x6 x7 x8 x : Option R) (l : Rho) (r : R) (k : Rho → Prop) : setQ 9 (x0 :: x1 :: x2 :: x3 :: x4 :: x5 :: x6 :: x7 :: x8 :: x :: l) r k = k (x0 :: x1 :: x2 :: x3 :: x4 :: x5 :: x6 :: x7 :: x8 :: some r :: l) := propext ⟨fun h => h.2, fun h => ⟨by simp, h⟩⟩
theorem getQ_10 (x0 x1 x2 x3 x4 x5 x6 x7 x8 x9 : Option R) (l : Rho) (r : R) (k : R → Prop) : getQ 10 (x0 :: x1 :: x2 :: x3 :: x4 :: x5 :: x6 :: x7 :: x8 :: x9 :: some r :: l) k = k r := propext ⟨fun ⟨_, e, h⟩ => by cases e; exact h, fun h => ⟨_, rfl, h⟩⟩
theorem setQ_10 (x0 x1 x2 x3 x4 x5 x6 x7 x8 x9 x : Option R) (l : Rho) (r : R) (k : Rho → Prop) : setQ 10 (x0 :: x1 :: x2 :: x3 :: x4 :: x5 :: x6 :: x7 :: x8 :: x9 :: x :: l) r k = k (x0 :: x1 :: x2 :: x3 :: x4 :: x5 :: x6 :: x7 :: x8 :: x9 :: some r :: l) := propext ⟨fun h => h.2, fun h => ⟨by simp, h⟩⟩
theorem getQ_11 (x0 x1 x2 x3 x4 x5 x6 x7 x8 x9 x10 : Option R) (l : Rho) (r : R) (k : R → Prop) : getQ 11 (x0 :: x1 :: x2 :: x3 :: x4 :: x5 :: x6 :: x7 :: x8 :: x9 :: x10 :: some r :: l) k = k r := propext ⟨fun ⟨_, e, h⟩ => by cases e; exact h, fun h => ⟨_, rfl, h⟩⟩
theorem setQ_11 (x0 x1 x2 x3 x4 x5 x6 x7 x8 x9 x10 x : Option R) (l : Rho) (r : R) (k : Rho → Prop) : setQ 11 (x0 :: x1 :: x2 :: x3 :: x4 :: x5 :: x6 :: x7 :: x8 :: x9 :: x10 :: x :: l) r k = k (x0 :: x1 :: x2 :: x3 :: x4 :: x5 :: x6 :: x7 :: x8 :: x9 :: x10 :: some r :: l) := propext ⟨fun h => h.2, fun h => ⟨by simp, h⟩⟩
theorem getQ_12 (x0 x1 x2 x3 x4 x5 x6 x7 x8 x9 x10 x11 : Option R) (l : Rho) (r : R) (k : R → Prop) : getQ 12 (x0 :: x1 :: x2 :: x3 :: x4 :: x5 :: x6 :: x7 :: x8 :: x9 :: x10 :: x11 :: some r :: l) k = k r := propext ⟨fun ⟨_, e, h⟩ => by cases e; exact h, fun h => ⟨_, rfl, h⟩⟩
theorem setQ_12 (x0 x1 x2 x3 x4 x5 x6 x7 x8 x9 x10 x11 x : Option R) (l : Rho) (r : R) (k : Rho → Prop) : setQ 12 (x0 :: x1 :: x2 :: x3 :: x4 :: x5 :: x6 :: x7 :: x8 :: x9 :: x10 :: x11 :: x :: l) r k = k (x0 :: x1 :: x2 :: x3 :: x4 :: x5 :: x6 :: x7 :: x8 :: x9 :: x10 :: x11 :: some r :: l) := propext ⟨fun h => h.2, fun h => ⟨by simp, h⟩⟩
theorem getQ_13 (x0 x1 x2 x3 x4 x5 x6 x7 x8 x9 x10 x11 x12 : Option R) (l : Rho) (r : R) (k : R → Prop) : getQ 13 (x0 :: x1 :: x2 :: x3 :: x4 :: x5 :: x6 :: x7 :: x8 :: x9 :: x10 :: x11 :: x12 :: some r :: l) k = k r := propext ⟨fun ⟨_, e, h⟩ => by cases e; exact h, fun h => ⟨_, rfl, h⟩⟩
theorem setQ_13 (x0 x1 x2 x3 x4 x5 x6 x7 x8 x9 x10 x11 x12 x : Option R) (l : Rho) (r : R) (k : Rho → Prop) : setQ 13 (x0 :: x1 :: x2 :: x3 :: x4 :: x5 :: x6 :: x7 :: x8 :: x9 :: x10 :: x11 :: x12 :: x :: l) r k = k (x0 :: x1 :: x2 :: x3 :: x4 :: x5 :: x6 :: x7 :: x8 :: x9 :: x10 :: x11 :: x12 :: some r :: l) := propext ⟨fun h => h.2, fun h => ⟨by simp, h⟩⟩
theorem getQ_14 (x0 x1 x2 x3 x4 x5 x6 x7 x8 x9 x10 x11 x12 x13 : Option R) (l : Rho) (r : R) (k : R → Prop) : getQ 14 (x0 :: x1 :: x2 :: x3 :: x4 :: x5 :: x6 :: x7 :: x8 :: x9 :: x10 :: x11 :: x12 :: x13 :: some r :: l) k = k r := propext ⟨fun ⟨_, e, h⟩ => by cases e; exact h, fun h => ⟨_, rfl, h⟩⟩
theorem setQ_14 (x0 x1 x2 x3 x4 x5 x6 x7 x8 x9 x10 x11 x12 x13 x : Option R) (l : Rho) (r : R) (k : Rho → Prop) : setQ 14 (x0 :: x1 :: x2 :: x3 :: x4 :: x5 :: x6 :: x7 :: x8 :: x9 :: x10 :: x11 :: x12 :: x13 :: x :: l) r k = k (x0 :: x1 :: x2 :: x3 :: x4 :: x5 :: x6 :: x7 :: x8 :: x9 :: x10 :: x11 :: x12 :: x13 :: some r :: l) := propext ⟨fun h => h.2, fun h => ⟨by simp, h⟩⟩
theorem getQ_15 (x0 x1 x2 x3 x4 x5 x6 x7 x8 x9 x10 x11 x12 x13 x14 : Option R) (l : Rho) (r : R) (k : R → Prop) : getQ 15 (x0 :: x1 :: x2 :: x3 :: x4 :: x5 :: x6 :: x7 :: x8 :: x9 :: x10 :: x11 :: x12 :: x13 :: x14 :: some r :: l) k = k r := propext ⟨fun ⟨_, e, h⟩ => by cases e; exact h, fun h => ⟨_, rfl, h⟩⟩
theorem setQ_15 (x0 x1 x2 x3 x4 x5 x6 x7 x8 x9 x10 x11 x12 x13 x14 x : Option R) (l : Rho) (r : R) (k : Rho → Prop) : setQ 15 (x0 :: x1 :: x2 :: x3 :: x4 :: x5 :: x6 :: x7 :: x8 :: x9 :: x10 :: x11 :: x12 :: x13 :: x14 :: x :: l) r k = k (x0 :: x1 :: x2 :: x3 :: x4 :: x5 :: x6 :: x7 :: x8 :: x9 :: x10 :: x11 :: x12 :: x13 :: x14 :: some r :: l) := propext ⟨fun h => h.2, fun h => ⟨by simp, h⟩⟩
theorem getQ_16 (x0 x1 x2 x3 x4 x5 x6 x7 x8 x9 x10 x11 x12 x13 x14 x15 : Option R) (l : Rho) (r : R) (k : R → Prop) : getQ 16 (x0 :: x1 :: x2 :: x3 :: x4 :: x5 :: x6 :: x7 :: x8 :: x9 :: x10 :: x11 :: x12 :: x13 :: x14 :: x15 :: some r :: l) k = k r := propext ⟨fun ⟨_, e, h⟩ => by cases e; exact h, fun h => ⟨_, rfl, h⟩⟩
theorem setQ_16 (x0 x1 x2 x3 x4 x5 x6 x7 x8 x9 x10 x11 x12 x13 x14 x15 x : Option R) (l : Rho) (r : R) (k : Rho → Prop) : setQ 16 (x0 :: x1 :: x2 :: x3 :: x4 :: x5 :: x6 :: x7 :: x8 :: x9 :: x10 :: x11 :: x12 :: x13 :: x14 :: x15 :: x :: l) r k = k (x0 :: x1 :: x2 :: x3 :: x4 :: x5 :: x6 :: x7 :: x8 :: x9 :: x10 :: x11 :: x12 :: x13 :: x14 :: x15 :: some r :: l) := propext ⟨fun h => h.2, fun h => ⟨by simp, h⟩⟩
theorem getQ_17 (x0 x1 x2 x3 x4 x5 x6 x7 x8 x9 x10 x11 x12 x13 x14 x15 x16 : Option R) (l : Rho) (r : R) (k : R → Prop) : getQ 17 (x0 :: x1 :: x2 :: x3 :: x4 :: x5 :: x6 :: x7 :: x8 :: x9 :: x10 :: x11 :: x12 :: x13 :: x14 :: x15 :: x16 :: some r :: l) k = k r := propext ⟨fun ⟨_, e, h⟩ => by cases e; exact h, fun h => ⟨_, rfl, h⟩⟩
theorem setQ_17 (x0 x1 x2 x3 x4 x5 x6 x7 x8 x9 x10 x11 x12 x13 x14 x15 x16 x : Option R) (l : Rho) (r : R) (k : Rho → Prop) : setQ 17 (x0 :: x1 :: x2 :: x3 :: x4 :: x5 :: x6 :: x7 :: x8 :: x9 :: x10 :: x11 :: x12 :: x13 :: x14 :: x15 :: x16 :: x :: l) r k = k (x0 :: x1 :: x2 :: x3 :: x4 :: x5 :: x6 :: x7 :: x8 :: x9 :: x10 :: x11 :: x12 :: x13 :: x14 :: x15 :: x16 :: some r :: l) := propext ⟨fun h => h.2, fun h => ⟨by simp, h⟩⟩
theorem getQ_18 (x0 x1 x2 x3 x4 x5 x6 x7 x8 x9 x10 x11 x12 x13 x14 x15 x16 x17 : Option R) (l : Rho) (r : R) (k : R → Prop) : getQ 18 (x0 :: x1 :: x2 :: x3 :: x4 :: x5 :: x6 :: x7 :: x8 :: x9 :: x10 :: x11 :: x12 :: x13 :: x14 :: x15 :: x16 :: x17 :: some r :: l) k = k r := propext ⟨fun ⟨_, e, h⟩ => by cases e; exact h, fun h => ⟨_, rfl, h⟩⟩
theorem setQ_18 (x0 x1 x2 x3 x4 x5 x6 x7 x8 x9 x10 x11 x12 x13 x14 x15 x16 x17 x : Option R) (l : Rho) (r : R) (k : Rho → Prop) : setQ 18 (x0 :: x1 :: x2 :: x3 :: x4 :: x5 :: x6 :: x7 :: x8 :: x9 :: x10 :: x11 :: x12 :: x13 :: x14 :: x15 :: x16 :: x17 :: x :: l) r k = k (x0 :: x1 :: x2 :: x3 :: x4 :: x5 :: x6 :: x7 :: x8 :: x9 :: x10 :: x11 :: x12 :: x13 :: x14 :: x15 :: x16 :: x17 :: some r :: l) := propext ⟨fun h => h.2, fun h => ⟨by simp, h⟩⟩
theorem getQ_19 (x0 x1 x2 x3 x4 x5 x6 x7 x8 x9 x10 x11 x12 x13 x14 x15 x16 x17 x18 : Option R) (l : Rho) (r : R) (k : R → Prop) : getQ 19 (x0 :: x1 :: x2 :: x3 :: x4 :: x5 :: x6 :: x7 :: x8 :: x9 :: x10 :: x11 :: x12 :: x13 :: x14 :: x15 :: x16 :: x17 :: x18 :: some r :: l) k = k r := propext ⟨fun ⟨_, e, h⟩ => by cases e; exact h, fun h => ⟨_, rfl, h⟩⟩
theorem setQ_19 (x0 x1 x2 x3 x4 x5 x6 x7 x8 x9 x10 x11 x12 x13 x14 x15 x16 x17 x18 x : Option R) (l : Rho) (r : R) (k : Rho → Prop) : setQ 19 (x0 :: x1 :: x2 :: x3 :: x4 :: x5 :: x6 :: x7 :: x8 :: x9 :: x10 :: x11 :: x12 :: x13 :: x14 :: x15 :: x16 :: x17 :: x18 :: x :: l) r k = k (x0 :: x1 :: x2 :: x3 :: x4 :: x5 :: x6 :: x7 :: x8 :: x9 :: x10 :: x11 :: x12 :: x13 :: x14 :: x15 :: x16 :: x17 :: x18 :: some r :: l) := propext ⟨fun h => h.2, fun h => ⟨by simp, h⟩⟩
/-! what may be compared -/
def Shn (n : Nat) (d : D) : Prop := PyData.canLay0 d = true ∧ PyData.depth d ≤ n
theorem Shn.mono {n m : Nat} {d : D} (h : Shn n d) (l : n ≤ m) : Shn m d := ⟨h.1, Nat.le_trans h.2 l⟩
theorem Shn.sh {n : Nat} {d : D} (h : Shn n d) (l : n ≤ 64) : Sh d := Bool.and_eq_true_iff.mpr ⟨h.1, decide_eq_true (Nat.le_trans h.2 l)⟩
theorem Sh.n {d : D} (h : Sh d) : Shn 64 d := ⟨(Bool.and_eq_true_iff.mp h).1, of_decide_eq_true (Bool.and_eq_true_iff.mp h).2⟩
theorem shn_int (n : Nat) (i : Int) : Shn n (.int i) := ⟨by simp [PyData.canLay0], by simp [PyData.depth]⟩
theorem shn_bool (n : Nat) (i : Bool) : Shn n (.bool i) := ⟨by simp [PyData.canLay0], by simp [PyData.depth]⟩
theorem shn_none (n : Nat) : Shn n .none := ⟨by simp [PyData.canLay0], by simp [PyData.depth]⟩
theorem shn_str (n : Nat) {x : Str} (h : Sh (.str x)) : Shn n (.str x) := ⟨h.n.1, by simp [PyData.depth]⟩
theorem shn_all : ∀ {xs : List D} {n : Nat}, (∀ x ∈ xs, Shn n x) → PyData.canLayAll0 xs = true ∧ PyData.depthAll xs ≤ n
  | [], n, _ => ⟨by simp [PyData.canLayAll0], by simp [PyData.depthAll]⟩
  | x :: xs, n, h => by
    have h1 := h x List.mem_cons_self
    have h2 := shn_all (xs := xs) fun y hy => h y (List.mem_cons_of_mem _ hy)
    refine ⟨by simp only [PyData.canLayAll0, h1.1, h2.1, Bool.and_self], ?_⟩
    simp only [PyData.depthAll]
    have := h1.2
    have := h2.2
    omega
theorem shn_list {n : Nat} {xs : List D} (h : ∀ x ∈ xs, Shn n x) : Shn (n + 1) (.list xs) := ⟨by simp only [PyData.canLay0, (shn_all h).1], by simp only [PyData.depth]; have := (shn_all h).2; omega⟩
theorem shn_tup {n : Nat} {xs : List D} (h : ∀ x ∈ xs, Shn n x) : Shn (n + 1) (.tuple xs) := ⟨by simp only [PyData.canLay0, (shn_all h).1], by simp only [PyData.depth]; have := (shn_all h).2; omega⟩
theorem sh_nilL : Sh (.list []) = True := eq_true ((shn_list (n := 0) (xs := []) fun x h => nomatch h).sh (by decide))
theorem sh_nilT : Sh (.tuple []) = True := eq_true ((shn_tup (n := 0) (xs := []) fun x h => nomatch h).sh (by decide))
theorem eqv_nilL (xs : List D) : PyData.eqv (.list xs) (.list []) = xs.isEmpty := by cases xs <;> simp [PyData.eqv, PyData.eqvAll]
theorem eqv_nilT (xs : List D) : PyData.eqv (.tuple xs) (.tuple []) = xs.isEmpty := by cases xs <;> simp [PyData.eqv, PyData.eqvAll]
theorem isE_nil {α : Type} : ([] : List α).isEmpty = true := rfl
theorem isE_cons {α : Type} (x : α) (l : List α) : (x :: l).isEmpty = false := rfl
theorem isE_snoc {α : Type} (x : α) (l : List α) : (l ++ [x]).isEmpty = false := by cases l <;> rfl
theorem for_go {g : GW} {v : SW} {ρ : Rho} {E : DEnds} {ds : List D} (P : Nat → Rho → Prop) (h0 : P 0 ρ) (h1 : ∀ i d ρ', ds[i]? = some d → P i ρ' → g d ρ' fun ρ2 => v ρ2 { E with nx := P (i + 1), ct := P (i + 1), bk := E.nx }) (h2 : ∀ ρ', P ds.length ρ' → E.nx ρ') : forQ g v ρ E ds := ⟨P, h0, h1, h2⟩
def lenAt (i : Nat) (ρ : Rho) : Nat := match ρ[i]? with
  | some (some (.l _ ds)) => ds.length
  | _ => 0
theorem while_go {t : TW} {v : SW} {ρ : Rho} {E : DEnds} (P : Rho → Prop) (μ : Rho → Nat) (h0 : P ρ) (h1 : ∀ ρ', P ρ' → t ρ' (fun k => if k = true then v ρ' { E with nx := fun ρ'' => P ρ'' ∧ μ ρ'' < μ ρ', ct := fun ρ'' => P ρ'' ∧ μ ρ'' < μ ρ', bk := E.nx } else E.nx ρ') (fun cls => E.er cls ρ')) : wWhile t v ρ E := ⟨P, μ, h0, h1⟩
end DL

set_option Elab.async false
set_option linter.all false
set_option maxRecDepth 100000
/-! The data layer: loops and comprehensions, read from the top. -/
namespace DL
open PySem PySem.Spec PyProof.Rows L2
theorem range_at {a : Int} {n k : Nat} {d : D} (h : (rangeD a n)[k]? = some d) : d = .int (a + k) ∧ k < n := by
  unfold rangeD at h
  rw [List.getElem?_map] at h
  cases e : (List.range n)[k]? with
  | none => rw [e] at h; cases h
  | some j =>
    have hk : k < n := by have := get_lt e; rwa [List.length_range] at this
    rw [List.getElem?_range hk] at e
    cases e
    rw [List.getElem?_range hk] at h
    cases h
    exact ⟨rfl, hk⟩
theorem range0_at {n k : Nat} {d : D} (h : (rangeD 0 n)[k]? = some d) : d = .int (k : Int) ∧ k < n := by
  have := range_at h
  rwa [Int.zero_add] at this
theorem range_len (a : Int) (n : Nat) : (rangeD a n).length = n := by simp [rangeD]
theorem atI_of {α : Type} {l : List α} {i : Int} {j : Nat} {x : α} (h : i = (j : Int)) (e : l[j]? = some x) : L2.atI l i = some x := by
  subst h
  exact atI_nat e
/-- a comprehension that is told by what it has at each turn -/
theorem lc_go {tup : Bool} {is vs : List Nat} {wt : TW} {we : EW} {ρ : Rho} {Q : R → Prop} {ds : List D} (A : Nat → List D) (h0 : A 0 = [])
    (h1 : ∀ k d, ds[k]? = some d → gwNames tup is d fun es => (∀ i ∈ is, i < ρ.length) ∧ wt (putA (wipeR ρ vs) is es) (fun b => if b = true then we (putA (wipeR ρ vs) is es) (fun r => ∃ z, r.dat = some z ∧ (A k).length < 16777216 ∧ A (k + 1) = A k ++ [z]) (fun _ => False) else A (k + 1) = A k) (fun _ => False))
    (h2 : Q (.l true (A ds.length))) : lcQ tup is vs wt we ρ Q ds :=
  ⟨fun k acc => acc = A k, h0.symm, fun k acc d hd e => by
    subst e
    have := h1 k d hd
    simp only [eq_comm (a := A (k + 1))] at this
    exact this, fun acc e => by rw [e]; exact h2⟩
theorem gwN1 (i : Nat) (d : D) (Q : List D → Prop) : gwNames false [i] d Q = Q [d] := rfl
theorem gwNt (is : List Nat) (ds : List D) (Q : List D → Prop) : gwNames true is (.tuple ds) Q = (ds.length = is.length ∧ Q ds) := by
  unfold gwNames
  exact propext ⟨fun h => by obtain ⟨_, e, h⟩ := h; cases e; exact h, fun h => ⟨_, rfl, h⟩⟩
theorem take_succ_map {α β : Type} {l : List α} {k : Nat} {x : α} (f : α → β) (h : l[k]? = some x) : (l.take (k + 1)).map f = (l.take k).map f ++ [f x] := by
  rw [List.take_succ, h, List.map_append]
  rfl
theorem range_succ_map {β : Type} (k : Nat) (f : Nat → β) : (List.range (k + 1)).map f = (List.range k).map f ++ [f k] := by
  rw [List.range_succ, List.map_append]
  rfl
end DL

set_option Elab.async false
set_option linter.all false
set_option maxRecDepth 100000
/-! The data layer: calls with keywords alone, in the order of the parameters. -/
namespace DL
open PySem PySem.Spec PyProof.Rows L2
def BindsK (K : PySem.W.Frag) (fd : FuncData) (ps : List Str) : Prop := ∀ (s : Shared) (ws : List Value), K.In s.heap → ws.length = ps.length → BindsTo s fd ⟨[], ps.zip ws⟩ (ps.zip ws)
section
variable {X : Cx} {CX : CXT} {W : WX} {k : Nat} {f : Addr} {fd : FuncData} {ps : List Str} {sp : Sp} {E : L2.St → XK} {x : Str} {p pos : Pos} {kws : List Keyword} {tk : TA}
theorem run_fnK {pins : List (Addr × Obj)} {σ : L2.St} {H : Hp} {s : Shared} {Q : VK} {us : List Value} {vs : List V} (F : FnOk X.prog X.w X.K X.mg X.base CX k f fd ps sp) (hr : Room k X.A) (hb : BindsK X.K fd ps) (hx : PassesAt CX X σ (E σ))
    (I : Inv X pins σ H s) (r : Vals vs us) (h : sp vs H Q (E σ)) : wpAny (model X.prog X.w) X.A (call (.ref f) [] (ps.zip us)) (EP X pins σ Q) X.xe s := by
  have hl : us.length = ps.length := by rw [← r.length]; exact F.len _ _ _ _ h
  have b := hb s us I.kIn hl
  refine wpAny_call (codeAny_mono (F.run X.A X.stack s H ⟨[], ps.zip us⟩ us vs Q (E σ) hr I.env0 b r h) fun r s' hq => ?_)
  cases r with
  | error e => exact hx pins H s e s' I hq
  | ok fl =>
    cases fl with
    | ret u => exact I.after hq
    | next => exact False.elim hq
    | brk => exact False.elim hq
    | cont => exact False.elim hq
/-- f(k = v, ..), all parameters by keywords -/
theorem pe_callKA (F : FnOk X.prog X.w X.K X.mg X.base CX k f fd ps sp) (hr : Room k X.A) (hg : Gl X x) (hm : X.mg x = some (.ref f)) (hk : PySem.W.keepIn X.K (.ref f) = true) (hb : BindsK X.K fd ps) (hx : ∀ σ, PassesAt CX X σ (E σ))
    (hkw : PK X kws tk) (hall : (backToKw pos (keywordEach kws X.env)).all (·.1.isSome) = true := by rfl) (hks : (backToKw pos (keywordEach kws X.env)).filterMap (·.1) = ps := by rfl)
    (hdb : (x == ("__debug__" : Str)) = false := by decide)
    (hpl : ((backTo pos (starEach [] X.env)).any (·.1) || (backToKw pos (keywordEach kws X.env)).any (·.1.isNone)) = false := by rfl) :
    PE X (.Call (.Name x p) [] kws pos) (tCallS sp E tk) := by
  refine ⟨fun pins s σ H Q I h => ?_⟩
  refine wpAny_Call_Name_kw (ld_glob I hg hm ?_ hdb)
  refine PySem.W.callWith_KW0 (h₀ := X.base) I.ok.mod.kin hk hall (thn (hkw.run pos pins s σ H _ I h) fun ws s2 ⟨zs, H2, I2, rz, q2⟩ => ⟨I2.kIn, ?_⟩) hpl
  rw [hks, List.append_nil]
  exact run_fnK F hr hb (hx σ) I2 rz q2
end
abbrev PDk (X : Cx) (W : WX) (kws : List Keyword) (ws : AW) : Prop := PK X kws (TDa X.K W ws)
section
variable {X : Cx} {W : WX} {e : Expr} {kws : List Keyword} {w : EW} {ws : AW} {nm : Option Str} {kpos : Pos}
theorem pk_imp {t t' : TA} (h : PK X kws t) (i : ∀ σ H Q, t' σ H Q → t σ H Q) : PK X kws t' := ⟨fun pos pins s σ H Q I q => h.run pos pins s σ H Q I (i _ _ _ q)⟩
theorem pdk_nil : PDk X W [] wNil := pk_imp pk_nil fun σ H Q ⟨G, B0, H0, B, ρ, Qd, Qe, S, q, ok, _⟩ => ok _ _ _ _ S (Stp.refl ..) .nil trivial q
theorem pdk_cons (ha : PD X W e w) (hr : PDk X W kws ws) : PDk X W (⟨nm, e, kpos⟩ :: kws) (wCons w ws) :=
  pk_imp (pk_cons ha hr) fun σ H Q ⟨G, B0, H0, B, ρ, Qd, Qe, S, q, ok, er⟩ => by
    refine ⟨G, B0, H0, B, ρ, _, Qe, S, q, fun r x B1 H1 S1 s1 r1 q1 => ?_, er⟩
    refine ⟨G, B0, H0, B1, ρ, _, Qe, S1, q1, fun rs xs B2 H2 S2 s2 r2 a2 q2 => ok _ _ _ _ S2 (s1.trans s2) (.cons (r1.step s2) (r2.from s1)) ⟨fun o1 j u e1 o2 e2 => ?_, a2⟩ q2, erT er s1⟩
    obtain ⟨y, f1, f2⟩ := r2.get e1
    rw [e2] at f1; cases f1
    obtain ⟨p, ep, hp⟩ := f2.own_new o2
    obtain ⟨q', v, eq, hq⟩ := r1.own_at o1
    rw [ep] at eq; cases eq
    rw [hp] at hq; cases hq
end
theorem funBindsK {K : PySem.W.Frag} {x qual : Str} {st : Stmt} {f : Addr} {fd : FuncData} (F : Fun K x qual st f fd) {ps : List Str}
    (h : ∀ (kV doc pm : Value) (an : Option Addr) (cdv ct : Value) (us : List Value), us.length = ps.length → bindArgs (PySem.W.fnOf x qual (defArgs st) (defBody st) (defScope st) .none kV doc pm an cdv ct) ⟨[], ps.zip us⟩ = pure (ps.zip us)) : BindsK K fd ps := by
  obtain ⟨⟨oc, od, kV, doc, pm, an, cdv, ct, osl, rfl, lk, hcd⟩, _⟩ := F
  intro s us _ hl
  exact .of_eq (h kV doc pm an cdv ct us hl)
end DL

set_option Elab.async false
set_option linter.all false
set_option maxRecDepth 100000
set_option maxHeartbeats 4000000
/-! The data layer: x.extend(y), y a list or a tuple. -/
namespace DL
open PySem PySem.Spec PyProof.Rows L2
section
theorem ext_tup (l : Addr) (items : Array Value) (n : Nat) (b : Addr) (items2 : Array Value) (n2 : Nat) (dd : Option Addr) (sl : Array (Option Value)) (hs0 : ¬(!items.isEmpty && Builtin.List.listTooLong (items.size + items2.size)) = true) (hs1 : items.size ≤ sizeLine) (hs2 : items.size + items2.size ≤ sizeLine + 1) :
    Meets (Builtin.«list.extend» ⟨[.ref l, .ref b], []⟩) (fun _ R s => s.heap.get? l = some { cls := .type "list", dict := none, data := .seq items n, slots := #[] } ∧ s.heap.get? b = some { cls := .type "tuple", dict := dd, data := .seq items2 n2, slots := sl } ∧ R (.ok (.ret Value.none)) { s with heap := s.heap.update l (Obj.mapSeq fun x => x ++ items2), toks := s.toks }) :=
  .of_wp fun prog w A R s h => by
    obtain ⟨hp, g, d, tk, os⟩ := s; obtain ⟨hl, hb, h⟩ := h; have f1 := AutoSeq1.idx_int; have f2 := AutoSeq1.sub_tuple_tuple; have f3 := AutoSeq1.sub_list_list; have f4 := AutoSeq1.sub_tuple_list; have f5 := AutoSeq1.sub_list_tuple;
    have fits : (items ++ items2).size ≤ sizeLine + 1 := by
      rw [Array.size_append]
      exact hs2
    wp_walk using (wpAny_updateSeq hl rfl (hz := hs1) (_hz' := fits)), AutoSeq1.wpAny_loadPart' hl, AutoSeq1.wpAny_loadPart' hb; exact ⟨_, rfl, h⟩
end
section
variable {X : Cx}
def rExtT (K : Frag) : V → List V → Hp → VK → Prop := fun x vs H Q => ∃ l b xs zs, x = .ref l ∧ vs = [.ref b] ∧ H l = some (.lst xs) ∧ SqT K H b zs ∧ xs.length + zs.length ≤ sizeLine ∧ Q .non (upd H l (.lst (xs ++ zs)))
theorem mt_extT : MtM X "list.extend" (rExtT X.K) := by
  intro pins s σ H x vs v us Q I rx rv h
  obtain ⟨l, b, xs, zs, rfl, rfl, hH, hB, hz, q⟩ := h
  cases rx
  obtain ⟨u, rfl, ru⟩ := rv.one
  cases ru
  obtain ⟨z, its, n, r, hl, e⟩ := I.lstM hH
  obtain ⟨its2, r2, ⟨o2, e2, c2, n2, d2⟩, hl2⟩ := I.tuple hB
  have h2 := r2.length
  have hsz : its.toArray.size + its2.toArray.size ≤ sizeLine := by rw [List.size_toArray, List.size_toArray]; omega
  have hlong : ¬ (!its.toArray.isEmpty && Builtin.List.listTooLong (its.toArray.size + its2.toArray.size)) = true := by
    rw [notLongL hsz, Bool.and_false]
    exact Bool.false_ne_true
  have e2' : s.heap.get? b = some { cls := .type "tuple", dict := o2.dict, data := .seq its2.toArray n2, slots := o2.slots } := by
    rw [e2]
    cases o2
    simp only at c2 d2
    subst c2
    subst d2
    rfl
  refine call_meets F.slot_list_extend ⟨_, e, rfl⟩ F.entry_list_extend (F.args_list_extend_2 _ _)
    (ext_tup l its.toArray n b its2.toArray n2 o2.dict o2.slots hlong (by rw [List.size_toArray]; omega) (by omega)) ⟨e, e2', ?_⟩
  refine ⟨.non, _, I.lset (its' := its ++ its2) hH e (by simp) (r.append r2) ?_, rfl, q⟩
  rw [List.length_append]
  omega
def rExtB (K : Frag) : V → List V → Hp → VK → Prop := fun x vs H Q => rExtend x vs H Q ∨ rExtT K x vs H Q
theorem mt_extB : MtM X "list.extend" (rExtB X.K) := fun pins s σ H x vs v us Q I rx rv h =>
  h.elim (mt_extend pins s σ H x vs v us Q I rx rv) (mt_extT pins s σ H x vs v us Q I rx rv)
def extOf : R → Option (List D)
  | .l _ xs => some xs
  | .s (.tuple xs) => some xs
  | _ => none
/-- x.extend(y), y a list or a tuple -/
def wExt (i : Nat) (w : EW) : SW := fun ρ E => ∃ ds, ρ[i]? = some (some (.l true ds)) ∧ w ρ (fun r => ∃ es, extOf r = some es ∧ ds.length + es.length ≤ 16777216 ∧ E.nx (ρ.set i (some (.l true (ds ++ es))))) (fun cls => E.er cls ρ)
variable {W : WX} {st : Stmt} {w : EW}
theorem pds_ext {i : Nat} (h : PS X st (tDrop (tBM X.K "list" (rExtB X.K) (tVar i) (tCons (TDe X.K W w) tNil)))) : PSD X W st (wExt i w) := ps_imp h fun D σ H ⟨G, B0, H0, B, ρ, E, S, ⟨ds, e1, q⟩, l⟩ => by
  obtain ⟨x, e2, ⟨p, xs, ex, h1, h2, h3, h4, h5⟩⟩ := S.sl i _ e1
  subst ex
  refine ⟨_, e2, .inl ⟨rfl, xs, .inl (.inl h1)⟩, G, B0, H0, B, ρ, _, _, S, q, fun r y B' H' S' s r' q' => ?_, fun cls d B' H' q' S' s => l.er cls d ρ σ B' H' S' s.bb q'⟩
  obtain ⟨es, eq, hlen, q'⟩ := q'
  have k1 : H' p = some (.lst xs) := (hide_some (s.hh p _ (by rw [hide_out h4]; exact h1))).2
  have fin : ∀ (xs2 : List V), DpAll X.K B' xs2 es → D.nx σ (upd H' p (.lst (xs ++ xs2))) := fun xs2 g2 =>
    l.nx _ _ _ _ (S'.mut (r' := .l true (ds ++ es)) e1 rfl e2 ⟨p, _, rfl, upd_same, (DpAll.mono s.bb h2).append g2, s.nw p _ h3 (by rw [hide_out h4]; exact h1), h4, h5⟩) s.bb q'
  match r, eq, r' with
  | .l o es', eq, r' =>
    cases eq
    obtain ⟨p2, xs2, rfl, g1, g2, _⟩ := r'
    exact .inl ⟨p, p2, xs, xs2, rfl, rfl, k1, (hide_some g1).2, by rw [line_eq, h2.length, g2.length]; exact hlen, fin xs2 g2⟩
  | .s (.tuple es'), eq, r' =>
    cases eq
    obtain ⟨p2, xs2, rfl, g1, g2⟩ := Rs.tup r'
    exact .inr ⟨p, p2, xs, xs2, rfl, rfl, k1, (g1.up (S'.bh.trans (hide_le H'))).t, by rw [line_eq, h2.length, g2.length]; exact hlen, fin xs2 g2⟩
end
theorem extOf_l (o : Bool) (ds : List D) : extOf (.l o ds) = some ds := rfl
theorem extOf_t (ds : List D) : extOf (.s (.tuple ds)) = some ds := rfl
def extQ (r : R) (Q : List D → Prop) : Prop := ∃ es, extOf r = some es ∧ Q es
theorem extQ_l (o : Bool) (ds : List D) (Q : List D → Prop) : extQ (.l o ds) Q = Q ds := propext ⟨fun ⟨_, e, h⟩ => by cases e; exact h, fun h => ⟨_, rfl, h⟩⟩
theorem extQ_t (ds : List D) (Q : List D → Prop) : extQ (.s (.tuple ds)) Q = Q ds := propext ⟨fun ⟨_, e, h⟩ => by cases e; exact h, fun h => ⟨_, rfl, h⟩⟩
theorem u_ext (i : Nat) (w : EW) (ρ : Rho) (Y : DEnds) : wExt i w ρ Y = getQ i ρ fun r0 => ownQ r0 fun ds => w ρ (fun r => extQ r fun es => ds.length + es.length ≤ 16777216 ∧ setQ i ρ (.l true (ds ++ es)) Y.nx) (fun cls => Y.er cls ρ) := by
  unfold wExt getQ ownQ extQ setQ
  refine propext ⟨fun ⟨n, h, q⟩ => ⟨_, h, n, rfl, ?_⟩, fun ⟨r, h, n, e, q⟩ => ⟨n, by rw [h, e], ?_⟩⟩
  · simpa only [get_lt h, true_and] using q
  · simpa only [get_lt h, true_and] using q
end DL

set_option Elab.async false
set_option linter.all false
set_option maxRecDepth 100000
set_option maxHeartbeats 4000000
/-! The data layer: y = [x.pop(e) for k in ..], x a list of one's own. -/
namespace DL
open PySem PySem.Spec PyProof.Rows L2
theorem DpAll.dropAt {K : Frag} {H : Hp} : ∀ {xs : List V} {ds : List D} (j : Nat), DpAll K H xs ds → DpAll K H (xs.eraseIdx j) (ds.eraseIdx j)
  | _, _, _, .nil => .nil
  | _, _, 0, .cons _ t => t
  | _, _, j + 1, .cons h t => .cons h (DpAll.dropAt j t)
/-- t = [x.pop(we) for k in wi], x the list in slot i -/
def wPopAll (t i k : Nat) (wi : IW) (we : EW) : SW := fun ρ E => ∃ ds0, ρ[i]? = some (some (.l true ds0)) ∧ wi ρ (fun ds => ∃ P : Nat → List D → List D → Prop, P 0 ds0 [] ∧
  (∀ j rest acc d, ds[j]? = some d → P j rest acc → k < ρ.length ∧ we (putA (wipeR (ρ.set i (some (.l true rest))) [k]) [k] [d]) (fun r => ∃ n z, r = .s (.int n) ∧ 0 ≤ n ∧ n < 2 ^ 62 ∧ rest[n.toNat]? = some z ∧ acc.length < 16777216 ∧ P (j + 1) (rest.eraseIdx n.toNat) (acc ++ [z])) (fun _ => False)) ∧
  ∀ rest acc, P ds.length rest acc → t < ρ.length ∧ E.nx ((ρ.set i (some (.l true rest))).set t (some (.l true acc)))) (fun cls => E.er cls ρ)
theorem pds_popAll {X : Cx} {W : WX} {st : Stmt} {t i k : Nat} {wi : IW} {we : EW} (h : PS X st (tAsg (tLc (TDiF X.K W wi) (gC X.K false [k]) (TDt X.K W0 wYes) (tBM X.K "list" rPopAt (tVar i) (tCons (TDe X.K W0 we) tNil)) [k]) (gName t))) (hik : i ≠ k) : PSD X W st (wPopAll t i k wi we) :=
  ps_imp h fun Dn σ H ⟨G, B0, H0, B, ρ, E, S, ⟨ds0, e1, q⟩, l⟩ => by
  refine ⟨G, B0, H0, B, ρ, _, _, S, q, fun ds J B1 H1 S1 s1 it ⟨P, p0, turn, done⟩ => ?_, fun cls d B' H' q' S' s => l.er cls d ρ σ B' H' S' s.bb q'⟩
  intro Dl hD
  have dG : Dl ∉ G.at_ := S1.notG hD
  have d0 : hide G H0 Dl = none := S1.st.hh.free (hide_free hD)
  have aw : ∀ (j : Nat) (r : R), ρ[j]? = some (some r) → owns r = true → σ[j]? ≠ some (some (.ref Dl)) := fun j r e1 o e2 => by
    obtain ⟨x, f1, f2⟩ := S1.sl j r e1
    rw [e2] at f1; cases f1
    obtain ⟨p, u, ep, k1, _⟩ := f2.own o
    cases ep
    rw [hD] at k1; cases k1
  have hi : i < ρ.length := (List.getElem?_eq_some_iff.mp e1).1
  obtain ⟨x0, e2, ⟨p, xs0, ex0, _⟩⟩ := S1.sl i _ e1
  subst ex0
  have pD : p ≠ Dl := fun z => aw i _ e1 rfl (by rw [e2, z])
  have aw' : ∀ (rest : List D) (j : Nat) (r : R), (ρ.set i (some (.l true rest)))[j]? = some (some r) → owns r = true → σ[j]? ≠ some (some (.ref Dl)) := fun rest j r f1 o => by
    by_cases z : j = i
    · subst z; exact aw j _ e1 rfl
    · rw [List.getElem?_set_ne (Ne.symm z)] at f1; exact aw j r f1 o
  have same : ρ.set i (some (.l true ds0)) = ρ := List.ext_getElem? fun j => by
    by_cases z : i = j
    · subst z; rw [List.getElem?_set_self hi, e1]
    · rw [List.getElem?_set_ne z]
  refine ⟨fun j m H => m = ds.length - j ∧ j ≤ ds.length ∧ ∃ (B' : Hp) (rest acc : List D) (av : List V), Stt X.K G B0 H0 B' H σ (ρ.set i (some (.l true rest))) ∧ Same B1 B' ∧ H Dl = some (.lst av) ∧ DpAll X.K B' av acc ∧ B' Dl = none ∧ P j rest acc,
    ⟨_, rfl, Nat.zero_le _, B1, ds0, [], [], by rw [same]; exact S1.new hD, Same.refl _, upd_same, .nil, S1.freeB hD, p0⟩, ?_⟩
  rintro j m H2 ⟨rfl, hj, B2, rest, acc, av, S2, s2, hd, ha, hb, p2⟩
  have lat : LatF G B0 H0 B1 B2 H2 := ⟨s2, S2.bh, S2.gok, S2.st⟩
  by_cases hlt : j < ds.length
  · refine .inr ⟨it.go j _ _ lat hlt, fun H' => j + 1 ≤ ds.length ∧ ∃ (B' : Hp) (rest acc : List D) (av : List V), Stt X.K G B0 H0 B' H' σ (ρ.set i (some (.l true rest))) ∧ Same B1 B' ∧ H' Dl = some (.lst av) ∧ DpAll X.K B' av acc ∧ B' Dl = none ∧ P (j + 1) rest acc,
      fun H' ⟨z1, z2⟩ => ⟨ds.length - (j + 1), by omega, rfl, z1, z2⟩, fun x H3 y => ?_⟩
    obtain ⟨d, B3, y1, y2, s3, b3, g3⟩ := it.yld j _ _ x H3 lat hlt y
    have S3 := S2.step s3 b3 g3
    obtain ⟨hk, q3⟩ := turn j rest acc d y1 p2
    have trk : hide G H2 Dl = some (.lst av) := by rw [hide_out dG]; exact hd
    refine (?_ : wipe (putV (wipe σ [k]) [k] [x]) [k] = wipe σ [k] ∧ _)
    refine ⟨wipe_putV [k] [x] _ (wipe_wipe [k] fun _ h => h) (fun _ h => h), ?_⟩
    have T3 : Stt X.K G B0 H0 B3 H3 (putV (wipe σ [k]) [k] [x]) (putA (wipeR (ρ.set i (some (.l true rest))) [k]) [k] [d]) := Stt.putA [k] (S3.wipe [k]) (.cons y2 .nil) fun n hn => by
      rw [wipeR_length, List.length_set]
      rcases List.mem_cons.mp hn with rfl | hn
      · exact hk
      · cases hn
    refine ⟨G, B0, H0, B3, _, (fun b => b = true), fun _ => False, T3, rfl, fun b B4 H4 T4 s4 q4 => ?_, fun _ _ _ _ z => z.elim⟩
    subst q4
    refine iteT ?_
    have S4 := S3.step s4 T4.bh T4.gok
    obtain ⟨x4, f1, ⟨p4, xs4, ex4, g1, _⟩⟩ := S4.sl i _ (List.getElem?_set_self hi)
    have f1' := f1
    rw [e2] at f1
    cases f1
    cases ex4
    have look : (putV (wipe σ [k]) [k] [x])[i]? = some (some (.ref p)) := by
      show ((σ.set k none).set k (some x))[i]? = _
      rw [List.getElem?_set_ne (Ne.symm hik), List.getElem?_set_ne (Ne.symm hik), e2]
    refine ⟨_, look, .inl ⟨rfl, xs4, .inl (.inl g1)⟩, ?_⟩
    refine ⟨G, B0, H0, B4, _, _, _, T4, q3, fun r y5 B5 H5 T5 s5 r5 ⟨n, z, ez, n0, n1, hz, hlen, p5⟩ => ?_, fun _ _ _ _ z => z.elim⟩
    subst ez
    cases r5.int
    have S5 := S4.step s5 T5.bh T5.gok
    obtain ⟨x5, f5, ⟨p5', xs5, ex5, k1, k2, k3, k4, k5⟩⟩ := S5.sl i _ (List.getElem?_set_self hi)
    rw [e2] at f5
    cases f5
    cases ex5
    obtain ⟨yv, hy, hyd⟩ := k2.get hz
    have hlt5 : n.toNat < xs5.length := (List.getElem?_eq_some_iff.mp hy).1
    have t5 := s5.hh _ _ (s4.hh _ _ (s3.hh _ _ trk))
    have h5 : H5 Dl = some (.lst av) := (hide_some t5).2
    have b5 : B5 Dl = none := s5.nw _ _ (s4.nw _ _ (s3.nw _ _ hb trk) (s3.hh _ _ trk)) (s4.hh _ _ (s3.hh _ _ trk))
    have sq : seqIndex? n xs5.length = some n.toNat := by
      unfold seqIndex?
      simp only [show ¬ n < 0 by omega, if_false]
      rw [if_pos]
      simp only [Bool.and_eq_true, decide_eq_true_eq]
      omega
    refine ⟨p, xs5, n, n.toNat, yv, rfl, rfl, k1, by omega, by omega, sq, hy, ?_⟩
    have S6 := S5.mut (r' := .l true (rest.eraseIdx n.toNat)) (o := .lst (xs5.eraseIdx n.toNat)) (List.getElem?_set_self hi) rfl e2 ⟨p, _, rfl, upd_same, k2.dropAt n.toNat, k3, k4, k5⟩
    rw [List.set_set] at S6
    have S7 := S6.side (o := .lst (av ++ [yv])) b5 dG d0 (aw' _)
    exact ⟨av, by rw [upd_ne (Ne.symm pD)]; exact h5, by rw [line_eq, ha.length]; exact hlen, hlt, B5, _, acc ++ [z], av ++ [yv], S7, ((s2.trans s3.bb).trans s4.bb).trans s5.bb, upd_same, (DpAll.mono ((s3.bb.trans s4.bb).trans s5.bb) ha).append (.cons hyd .nil), b5, p5⟩
  · have e : j = ds.length := by omega
    subst e
    refine .inl ⟨it.stop _ _ lat, ?_⟩
    obtain ⟨ht, q4⟩ := done rest acc p2
    refine l.nx _ _ _ _ (S2.fillG (x := .ref Dl) (r := .l true acc) ⟨Dl, av, rfl, hd, ha, hb, dG, d0⟩ t (by rw [← S2.len, List.length_set]; exact ht) fun m u y _ f1 _ o2 f2 f3 => ?_) (s1.bb.trans s2) q4
    subst f3
    exact aw' rest m u f1 o2 f2
/-! x.insert(n, y) -/
abbrev rIns : V → List V → Hp → VK → Prop := fun x vs H Q => ∃ (l : Addr) (xs : List V) (n : Int) (y : V), x = .ref l ∧ vs = [.int n, y] ∧ H l = some (.lst xs) ∧ xs.length < sizeLine ∧ 0 ≤ n ∧ n < 2 ^ 63 ∧ Q .non (upd H l (.lst (xs.take n.toNat ++ [y] ++ xs.drop n.toNat)))
theorem mt_ins {X : Cx} : MtR X "list.insert" rIns := mt_insert
def wInsert (i : Nat) (wa wb : EW) : SW := fun ρ E => ∃ ds, ρ[i]? = some (some (.l true ds)) ∧ wa ρ (fun r => ∃ n, r = .s (.int n) ∧ wb ρ (fun u => ∃ d, u.dat = some d ∧ 0 ≤ n ∧ n < 2 ^ 62 ∧ ds.length < 16777216 ∧ E.nx (ρ.set i (some (.l true (ds.take n.toNat ++ [d] ++ ds.drop n.toNat))))) (fun cls => E.er cls ρ)) (fun cls => E.er cls ρ)
theorem pds_insert {X : Cx} {W : WX} {st : Stmt} {wa wb : EW} {i : Nat} (h : PS X st (tDrop (tBM X.K "list" rIns (tVar i) (tCons (TDe X.K W wa) (tCons (TDe X.K W wb) tNil))))) : PSD X W st (wInsert i wa wb) := ps_imp h fun Dn σ H ⟨G, B0, H0, B, ρ, E, S, ⟨ds, e1, q⟩, l⟩ => by
  obtain ⟨x, e2, ⟨p, xs, ex, h1, h2, h3, h4, h5⟩⟩ := S.sl i _ e1
  subst ex
  refine ⟨_, e2, .inl ⟨rfl, xs, .inl (.inl h1)⟩, G, B0, H0, B, ρ, _, _, S, q, fun r y B' H' S' s r' q' => ?_, fun cls d B' H' q' S' s => l.er cls d ρ σ B' H' S' s.bb q'⟩
  obtain ⟨n, en, q'⟩ := q'
  subst en
  cases r'.int
  refine ⟨G, B0, H0, B', ρ, _, _, S', q', fun u y2 B2 H2 S2 s2 r2 q2 => ?_, fun cls d B2 H2 q2 S2 s2 => l.er cls d ρ σ B2 H2 S2 (s.bb.trans s2.bb) q2⟩
  obtain ⟨d, ed, n0, n1, hlen, q2⟩ := q2
  have t := s2.hh _ _ (s.hh _ _ (by rw [hide_out h4]; exact h1 : hide G H p = some (.lst xs)))
  have k1 : H2 p = some (.lst xs) := (hide_some t).2
  have nw : B2 p = none := s2.nw _ _ (s.nw p _ h3 (by rw [hide_out h4]; exact h1)) (s.hh _ _ (by rw [hide_out h4]; exact h1))
  have ha : DpAll X.K B2 xs ds := DpAll.mono (s.bb.trans s2.bb) h2
  refine ⟨p, xs, n, y2, rfl, rfl, k1, by rw [line_eq, h2.length]; exact hlen, n0, by omega, ?_⟩
  exact l.nx _ _ _ _ (S2.mut (r' := .l true (ds.take n.toNat ++ [d] ++ ds.drop n.toNat)) e1 rfl e2 ⟨p, _, rfl, upd_same, ((ha.take _).append (.cons (r2.dat ed) .nil)).append (ha.drop _), nw, h4, h5⟩) (s.bb.trans s2.bb) q2
/-! {k: v} -/
def wDisp1 (wk wv : EW) : EW := fun ρ Q E => wk ρ (fun r => ∃ e y, r = .s e ∧ ofK e = some y ∧ wv ρ (fun u => ∃ d, u.dat = some d ∧ Q (.k true [(y, d)])) E) E
theorem pd_disp1 {X : Cx} {W : WX} {e : Expr} {wk wv : EW} (h : PE X e (tDisp [(TDe X.K W wk, TDe X.K W wv)])) : PD X W e (wDisp1 wk wv) := pe_imp h fun σ H Q ⟨G, B0, H0, B, ρ, Qd, Qe, S, q, ok, er⟩ => by
  intro p hp
  have pG : p ∉ G.at_ := S.notG hp
  have p0 : hide G H0 p = none := S.st.hh.free (hide_free hp)
  have aw : ∀ (j : Nat) (r : R), ρ[j]? = some (some r) → owns r = true → σ[j]? ≠ some (some (.ref p)) := fun j r e1 o e2 => by
    obtain ⟨x, f1, f2⟩ := S.sl j r e1
    rw [e2] at f1; cases f1
    obtain ⟨b, u, ep, k1, _⟩ := f2.own o
    cases ep
    rw [hp] at k1; cases k1
  have s0 : Stp G B H B (upd H p (.dK [])) := Stp.new hp
  refine ⟨G, B0, H0, B, ρ, _, Qe, S.new hp, q, fun r x B1 H1 S1 s1 r1 ⟨e, y, er', ey, q1⟩ => ?_, fun cls d B1 H1 q1 S1 s1 => er cls d B1 H1 q1 S1 (s0.trans s1)⟩
  subst er'
  obtain rfl := kV_of (show Dp X.K B1 x e from r1) ey
  refine ⟨G, B0, H0, B1, ρ, _, Qe, S1, q1, fun u v B2 H2 S2 s2 r2 ⟨d, ed, q2⟩ => ?_, fun cls d B2 H2 q2 S2 s2 => er cls d B2 H2 q2 S2 ((s0.trans s1).trans s2)⟩
  have s02 := (s0.trans s1).trans s2
  have t0 : hide G (upd H p (.dK [])) p = some (.dK []) := by rw [hide_out pG, upd_same]
  have t2 : H2 p = some (.dK []) := (hide_some (s2.hh _ _ (s1.hh _ _ t0))).2
  have b2 : B2 p = none := s2.nw _ _ (s1.nw _ _ (S.freeB hp) t0) (s1.hh _ _ t0)
  refine ⟨t2, [(y, v)], rfl, by show 1 ≤ 15; decide, ?_⟩
  refine ok (.k true [(y, d)]) (.ref p) B2 _ (S2.side b2 pG p0 aw) ⟨s02.bb, fun b w eb => ?_, s02.nw⟩ ⟨p, [(y, v)], rfl, by rw [hide_out pG]; exact upd_same, .cons (r2.dat ed) .nil, fun _ => ⟨b2, hide_free hp⟩⟩ q2
  rw [hide_upd pG, upd_ne (ne_of_none eb (hide_free hp))]
  exact s02.hh _ _ eb
/-! as words from the top -/
def popAllQ (t i k : Nat) (we : EW) (ρ : Rho) (E : DEnds) (ds0 ds : List D) : Prop := ∃ P : Nat → List D → List D → Prop, P 0 ds0 [] ∧
  (∀ j rest acc d, ds[j]? = some d → P j rest acc → k < ρ.length ∧ we (putA (wipeR (ρ.set i (some (.l true rest))) [k]) [k] [d]) (fun r => ∃ n z, r = .s (.int n) ∧ 0 ≤ n ∧ n < 2 ^ 62 ∧ rest[n.toNat]? = some z ∧ acc.length < 16777216 ∧ P (j + 1) (rest.eraseIdx n.toNat) (acc ++ [z])) (fun _ => False)) ∧
  ∀ rest acc, P ds.length rest acc → t < ρ.length ∧ E.nx ((ρ.set i (some (.l true rest))).set t (some (.l true acc)))
theorem u_popAll (t i k : Nat) (wi : IW) (we : EW) (ρ : Rho) (Y : DEnds) : wPopAll t i k wi we ρ Y = getQ i ρ fun r => ownQ r fun ds0 => wi ρ (fun ds => popAllQ t i k we ρ Y ds0 ds) (fun cls => Y.er cls ρ) := by
  unfold wPopAll getQ ownQ popAllQ
  exact propext ⟨fun ⟨n, h, q⟩ => ⟨_, h, n, rfl, q⟩, fun ⟨r, h, n, e, q⟩ => ⟨n, by rw [h, e], q⟩⟩
theorem u_insert (i : Nat) (wa wb : EW) (ρ : Rho) (Y : DEnds) : wInsert i wa wb ρ Y = getQ i ρ fun r => ownQ r fun ds => wa ρ (fun r => intQ r fun n => wb ρ (fun u => datQ u fun d => 0 ≤ n ∧ n < 2 ^ 62 ∧ ds.length < 16777216 ∧ setQ i ρ (.l true (ds.take n.toNat ++ [d] ++ ds.drop n.toNat)) Y.nx) (fun cls => Y.er cls ρ)) (fun cls => Y.er cls ρ) := by
  unfold wInsert getQ ownQ intQ datQ setQ
  refine propext ⟨fun ⟨n, h, q⟩ => ⟨_, h, n, rfl, ?_⟩, fun ⟨r, h, n, e, q⟩ => ⟨n, by rw [h, e], ?_⟩⟩
  · simpa only [get_lt h, true_and] using q
  · simpa only [get_lt h, true_and] using q
theorem u_disp1 (wk wv : EW) (ρ : Rho) (Q : R → Prop) (E : Value → Prop) : wDisp1 wk wv ρ Q E = wk ρ (fun r => keyQ r fun y => wv ρ (fun u => datQ u fun d => Q (.k true [(y, d)])) E) E := by
  unfold wDisp1
  have e : (fun r : R => ∃ e y, r = .s e ∧ ofK e = some y ∧ wv ρ (fun u => ∃ d, u.dat = some d ∧ Q (.k true [(y, d)])) E) = fun r => keyQ r fun y => wv ρ (fun u => datQ u fun d => Q (.k true [(y, d)])) E := rfl
  rw [e]
end DL

set_option Elab.async false
set_option linter.all false
set_option maxRecDepth 100000
set_option maxHeartbeats 4000000
/-! The data layer: x.index(y), x.index(y, from). -/
namespace DL
open PySem PySem.Spec PyProof.Rows L2
theorem index_from (l : Addr) (items : Array Value) (n : Nat) (dd : Option Addr) (sl : Array (Option Value)) (x : Value) (tk0 : Tok) (e : Value → Bool) (i j : Nat) (hj : j < items.size) (hij : i ≤ j) (few : (j : Int) < 2 ^ 63 - 1)
    (hit : e items[j] = true) (no : ∀ m (hm : m < items.size), i ≤ m → m < j → e items[m] = false) :
    Meets (Builtin.«list.index» ⟨[.ref l, x, .int (i : Int) tk0], []⟩)
      (fun A R s => s.heap.get? l = some { cls := .type "list", dict := dd, data := .seq items n, slots := sl } ∧ (∀ y, y ∈ items → SeqAt.EqAt A.in1 s y x (e y)) ∧ R (.ok (.ret (.int j s.toks))) { s with toks := s.toks + 1 }) := by
  intro prog w A R s h
  obtain ⟨hp, g, d, tk, os⟩ := s
  obtain ⟨hl, he, h⟩ := h
  have f1 := AutoSeq1.idx_int
  wp_walk using AutoSeq1.wpAny_loadPart' hl
  have a1 : ((fun b : Int => if b < 0 then max 0 (b + (items.size : Int)) else b) ((some (i : Int)).getD 0)) = ((i : Nat) : Int) := by simp; omega
  have a2 : ((fun b : Int => if b < 0 then max 0 (b + (items.size : Int)) else b) (Option.getD none (2 ^ 63 - 1))) = 2 ^ 63 - 1 := by
    simp
  rw [a1, a2]
  exact ⟨plainId_quiet MeetsSeq.plain_index_loop _, codeAny_builtin MeetsSeq.entry_index_loop (by
    rw [Around.under_plainId MeetsSeq.plain_index_loop _]
    exact SeqAt.index_loopAt l items n dd sl x e (2 ^ 63 - 1) j hj few hit _ i rfl hij no prog w A R _ ⟨hl, he, h⟩)⟩
section
variable {X : Cx}
/-- x.index(y) and x.index(y, from), y there, all flat -/
def rIndAny (K : Frag) : V → List V → Hp → VK → Prop := fun x xs H Q => ∃ (a : Addr) (ys : List V) (y : V) (i j : Nat) (z : V), x = V.ref a ∧ ((xs = [y] ∧ i = 0) ∨ xs = [y, .int (i : Int)]) ∧ SqL K H a ys ∧ flatV y = true ∧ ys.all flatV = true ∧ i ≤ j ∧ ys[j]? = some z ∧ eqV z y = true ∧
  (∀ (m : Nat) (z' : V), i ≤ m → m < j → ys[m]? = some z' → eqV z' y = false) ∧ Q (.int (j : Nat)) H
theorem mt_indAny : MtR X "list.index" (rIndAny X.K) := by
  intro pins s σ H x xs v us Q I rx rxs h
  obtain ⟨a, ys, y, i, j, z, rfl, hx, hs, fy, fys, hij, hz, hzj, hno, q⟩ := h
  rcases hx with ⟨rfl, rfl⟩ | rfl
  · exact mt_index pins s σ H _ _ v us Q I rx rxs ⟨a, ys, y, j, z, rfl, rfl, hs, fy, fys, hz, hzj, fun m z' h1 h2 => hno m z' (Nat.zero_le _) h1 h2, q⟩
  · cases rx
    obtain ⟨uy, ui, rfl, ry, ri⟩ := rxs.two
    obtain ⟨ti, rfl⟩ := ri
    obtain ⟨its, rv, ⟨⟨cls, dd, data, sl⟩, n, ho, hc, hdn, hd⟩, hlen⟩ := I.list hs
    simp only at hc hd
    subst hc hd
    obtain ⟨u, hu, ru⟩ := rv.get hz
    obtain ⟨jl, je⟩ := List.getElem?_eq_some_iff.mp hu
    have vl := rv.length
    have line := sizeLine_eq
    refine call_meets PySem.F.slot_list_index ⟨_, ho, rfl⟩ PySem.F.entry_list_index (PySem.F.args_list_index_3 _ _ _)
      (index_from a its.toArray n dd sl uy ti (eqU y) i j (by simpa using jl) hij (by omega) ?_ ?_) ⟨ho, fun w hw => mem_eqAt ry fy rv fys w (by simpa using hw), ⟨.int (j : Nat), H, I.tok _, ⟨_, rfl⟩, q⟩⟩
    · have e1 : its.toArray[j]'(by simpa using jl) = u := by simpa using je
      rw [e1, eqU_of ru (flat_at fys hz)]
      exact hzj
    · intro m hm him hmj
      have ml : m < its.length := by simpa using hm
      have my : m < ys.length := by omega
      have at_ : ys[m]? = some ys[m] := List.getElem?_eq_getElem my
      obtain ⟨u2, hu2, ru2⟩ := rv.get at_
      obtain ⟨_, me⟩ := List.getElem?_eq_some_iff.mp hu2
      have e1 : its.toArray[m] = u2 := by simpa using me
      rw [e1, eqU_of ru2 (flat_at fys at_)]
      exact hno m _ him hmj at_
end
def lstOf : R → Option (List D)
  | .l _ xs => some xs
  | .s (.list xs) => some xs
  | _ => none
/-- x.index(y), x.index(y, from): flat items, y there -/
def IndAt (ds : List D) (rs : List R) (Q : R → Prop) : Prop := ∃ (y z : D) (i j : Nat), ((rs = [.s y] ∧ i = 0) ∨ rs = [.s y, .s (.int (i : Int))]) ∧ flatD y = true ∧ ds.all flatD = true ∧ i ≤ j ∧ ds[j]? = some z ∧ PyData.eqv z y = true ∧
  (∀ (m : Nat) (z' : D), i ≤ m → m < j → ds[m]? = some z' → PyData.eqv z' y = false) ∧ Q (.s (.int (j : Int)))
def wInd (w : EW) (ws : AW) : EW := fun ρ Q E => w ρ (fun r => ∃ ds, lstOf r = some ds ∧ ws ρ (fun rs => IndAt ds rs Q) E) E
theorem pd_ind {X : Cx} {W : WX} {e : Expr} {w : EW} {ws : AW} (h : PE X e (tBM X.K "list" (rIndAny X.K) (TDe X.K W w) (TDa X.K W ws))) : PD X W e (wInd w ws) := pe_imp h fun σ H Q ⟨G, B0, H0, B, ρ, Qd, Qe, S, q, ok, er⟩ => by
  refine ⟨G, B0, H0, B, ρ, _, Qe, S, q, fun r x B1 H1 S1 s1 r1 ⟨ds, el, q1⟩ => ?_, er⟩
  have there : ∀ (B2 H2 : Hp), Stt X.K G B0 H0 B2 H2 σ ρ → Rs X.K G H B2 H2 x r → ∃ p xs, x = .ref p ∧ SqL X.K H2 p xs ∧ DpAll X.K B2 xs ds := fun B2 H2 S2 r2 => by
    match r, el, r2 with
    | .l o xs', el, r2 =>
      cases el
      obtain ⟨p, xs, e1, h1, h2, _⟩ := r2
      exact ⟨p, xs, e1, .inl (.inl (hide_some h1).2), h2⟩
    | .s (.list xs'), el, r2 =>
      cases el
      cases (show Dp X.K B2 x (.list _) from r2) with
      | lst h1 h2 => exact ⟨_, _, rfl, Same.sqL (S2.bh.trans (hide_le H2)) h1, h2⟩
  obtain ⟨p, xs, rfl, hq, _⟩ := there B1 H1 S1 r1
  refine ⟨.inl ⟨rfl, xs, hq⟩, G, B0, H0, B1, ρ, _, Qe, S1, q1, fun rs vs B2 H2 S2 s2 r2 _ q2 => ?_, fun cls d B2 H2 q2 S2 s2 => er cls d B2 H2 q2 S2 (s1.trans s2)⟩
  obtain ⟨y, z, i, j, hr, fy, fd, hij, hz, hzy, hno, q3⟩ := q2
  obtain ⟨p2, ys, e2, hq2, hd⟩ := there B2 H2 S2 (r1.step s2)
  cases e2
  obtain ⟨zv, k1, k2⟩ := hd.get hz
  have fin : ∀ (yv : V), Dp X.K B2 yv y → ((vs = [yv] ∧ i = 0) ∨ vs = [yv, .int (i : Int)]) → rIndAny X.K (.ref p) vs H2 Q := fun yv hy hv =>
    ⟨p, ys, yv, i, j, zv, rfl, hv, hq2, flatV_of hy fy, flatAll_of hd fd, hij, k1, by rw [eqV_of k2 hy (List.all_eq_true.mp fd z (List.mem_of_getElem? hz)) fy]; exact hzy, fun m z' m1 m2 m3 => by
      obtain ⟨d', f1, f2⟩ := hd.get' m3
      rw [eqV_of f2 hy (List.all_eq_true.mp fd d' (List.mem_of_getElem? f1)) fy]
      exact hno m d' m1 m2 f1, ok (.s (.int (j : Int))) (.int (j : Int)) B2 H2 S2 (s1.trans s2) (show Dp X.K B2 (.int (j : Int)) (.int (j : Int)) from .int _) q3⟩
  rcases hr with ⟨rfl, e0⟩ | rfl
  · obtain ⟨yv, rfl, h1⟩ := r2.one
    exact fin yv h1 (.inl ⟨rfl, e0⟩)
  · obtain ⟨yv, iv, rfl, h1, h2⟩ := r2.two
    cases h2.int
    exact fin yv h1 (.inr rfl)
def lstQ' (r : R) (Q : List D → Prop) : Prop := ∃ ds, lstOf r = some ds ∧ Q ds
theorem lstQ'_l (o : Bool) (ds : List D) (Q : List D → Prop) : lstQ' (.l o ds) Q = Q ds := propext ⟨fun ⟨_, e, h⟩ => by cases e; exact h, fun h => ⟨_, rfl, h⟩⟩
theorem lstQ'_L (ds : List D) (Q : List D → Prop) : lstQ' (.s (.list ds)) Q = Q ds := propext ⟨fun ⟨_, e, h⟩ => by cases e; exact h, fun h => ⟨_, rfl, h⟩⟩
theorem u_ind (w : EW) (ws : AW) (ρ : Rho) (Q : R → Prop) (E : Value → Prop) : wInd w ws ρ Q E = w ρ (fun r => lstQ' r fun ds => ws ρ (fun rs => IndAt ds rs Q) E) E := rfl
/-! list(x), x a list, a tuple or a dict -/
def fListB : FL := fun rs Q => fList rs Q ∨ ∃ r kvs, rs = [r] ∧ r.kv = some kvs ∧ Q (.l true (kvs.map fun p => kD p.1))
theorem DpAll.keys {K : Frag} {B : Hp} : ∀ {xs : List (Key × V)} {kvs : List (Key × D)}, KvP K B xs kvs → DpAll K B (xs.map fun kv => kV kv.1) (kvs.map fun p => kD p.1)
  | _, _, .nil => .nil
  | _, _, .cons (k := k) _ t => .cons (by cases k <;> constructor) (DpAll.keys t)
theorem c_listB {X : Cx} (hc : X.calm = true) : CallR X (.type "list") (liftL X.K fListB) := by
  intro pins s σ H xs us Q I rx hh
  obtain ⟨G, Hs, B, rs, Qd, c, ra, h | ⟨r, kvs, rfl, e1, q⟩, k⟩ := hh
  · exact c_list pins s σ H xs us Q I rx ⟨G, Hs, B, rs, Qd, c, ra, h, k⟩
  · obtain ⟨x, rfl, r1⟩ := ra.one
    obtain ⟨p, ys, rfl, h1, h2⟩ := r1.kv e1 c.bh
    exact call_listD hc pins s σ H _ us Q I rx ⟨p, ys, rfl, .inl h1, fun l hl => k.lst c hl (DpAll.keys h2) q⟩
theorem fListB_t (ds : List D) (Q : R → Prop) : fListB [.s (.tuple ds)] Q = Q (.l true ds) := by simp [fListB, fList, R.seq, kv_t]
theorem fListB_L (ds : List D) (Q : R → Prop) : fListB [.s (.list ds)] Q = Q (.l true ds) := by simp [fListB, fList, R.seq, kv_L]
theorem fListB_l (o : Bool) (ds : List D) (Q : R → Prop) : fListB [.l o ds] Q = Q (.l true ds) := by simp [fListB, fList, R.seq, kv_l]
theorem fListB_k (o : Bool) (kvs : List (Key × D)) (Q : R → Prop) : fListB [.k o kvs] Q = Q (.l true (kvs.map fun p => kD p.1)) := by simp [fListB, fList, seq_k, kv_k]
end DL

set_option Elab.async false
set_option linter.all false
set_option maxRecDepth 100000
set_option maxHeartbeats 4000000
namespace LK
open PySem PySem.Spec PyProof.Rows L2 DL
/-! ### places, scopes (printed by gen.py) -/
def top (i : Nat) : Stmt := PySem.Challenge.pw_heapsworn_k02_going_on.main.body.getD i (.Pass ⟨0, 0, 0, 0⟩)
abbrev s_is_int : Stmt := top 7
abbrev N_is_int : List Str := ["thing"]
abbrev P_is_int : List Str := ["thing"]
theorem sc_is_int : FnScope N_is_int P_is_int (defScope s_is_int) := ⟨rfl, rfl, rfl, by decide +kernel, rfl, by decide +kernel, by decide +kernel⟩
abbrev s_within : Stmt := top 8
abbrev N_within : List Str := ["thing", "low", "high"]
abbrev P_within : List Str := ["thing", "low", "high"]
theorem sc_within : FnScope N_within P_within (defScope s_within) := ⟨rfl, rfl, rfl, by decide +kernel, rfl, by decide +kernel, by decide +kernel⟩
abbrev s_is_row : Stmt := top 9
abbrev N_is_row : List Str := ["thing", "fewest", "most"]
abbrev P_is_row : List Str := ["thing", "fewest", "most"]
theorem sc_is_row : FnScope N_is_row P_is_row (defScope s_is_row) := ⟨rfl, rfl, rfl, by decide +kernel, rfl, by decide +kernel, by decide +kernel⟩
abbrev s_is_cell : Stmt := top 14
abbrev N_is_cell : List Str := ["thing"]
abbrev P_is_cell : List Str := ["thing"]
theorem sc_is_cell : FnScope N_is_cell P_is_cell (defScope s_is_cell) := ⟨rfl, rfl, rfl, by decide +kernel, rfl, by decide +kernel, by decide +kernel⟩
abbrev s_are_cells : Stmt := top 15
abbrev N_are_cells : List Str := ["thing", "one", "other"]
abbrev P_are_cells : List Str := ["thing"]
theorem sc_are_cells : FnScope N_are_cells P_are_cells (defScope s_are_cells) := ⟨rfl, rfl, rfl, by decide +kernel, rfl, by decide +kernel, by decide +kernel⟩
abbrev s_is_state_of : Stmt := top 16
abbrev N_is_state_of : List Str := ["thing", "place"]
abbrev P_is_state_of : List Str := ["thing"]
theorem sc_is_state_of : FnScope N_is_state_of P_is_state_of (defScope s_is_state_of) := ⟨rfl, rfl, rfl, by decide +kernel, rfl, by decide +kernel, by decide +kernel⟩
abbrev s_need_state : Stmt := top 17
abbrev N_need_state : List Str := ["state"]
abbrev P_need_state : List Str := ["state"]
theorem sc_need_state : FnScope N_need_state P_need_state (defScope s_need_state) := ⟨rfl, rfl, rfl, by decide +kernel, rfl, by decide +kernel, by decide +kernel⟩
abbrev s_places_of : Stmt := top 18
abbrev N_places_of : List Str := ["state", "found", "place", "following"]
abbrev P_places_of : List Str := ["state"]
theorem sc_places_of : FnScope N_places_of P_places_of (defScope s_places_of) := ⟨rfl, rfl, rfl, by decide +kernel, rfl, by decide +kernel, by decide +kernel⟩
abbrev s_reached_by : Stmt := top 20
abbrev N_reached_by : List Str := ["nexts", "starts", "found", "place"]
abbrev P_reached_by : List Str := ["nexts", "starts"]
theorem sc_reached_by : FnScope N_reached_by P_reached_by (defScope s_reached_by) := ⟨rfl, rfl, rfl, by decide +kernel, rfl, by decide +kernel, by decide +kernel⟩
abbrev s_is_place : Stmt := top 23
abbrev N_is_place : List Str := ["state", "thing"]
abbrev P_is_place : List Str := ["state", "thing"]
theorem sc_is_place : FnScope N_is_place P_is_place (defScope s_is_place) := ⟨rfl, rfl, rfl, by decide +kernel, rfl, by decide +kernel, by decide +kernel⟩
abbrev s_need_place : Stmt := top 24
abbrev N_need_place : List Str := ["state", "place"]
abbrev P_need_place : List Str := ["state", "place"]
theorem sc_need_place : FnScope N_need_place P_need_place (defScope s_need_place) := ⟨rfl, rfl, rfl, by decide +kernel, rfl, by decide +kernel, by decide +kernel⟩
abbrev s_trail_in : Stmt := top 25
abbrev N_trail_in : List Str := ["nexts", "place", "found"]
abbrev P_trail_in : List Str := ["nexts", "place"]
theorem sc_trail_in : FnScope N_trail_in P_trail_in (defScope s_trail_in) := ⟨rfl, rfl, rfl, by decide +kernel, rfl, by decide +kernel, by decide +kernel⟩
abbrev s_trail : Stmt := top 26
abbrev N_trail : List Str := ["state", "place", "found", "end"]
abbrev P_trail : List Str := ["state", "place"]
theorem sc_trail : FnScope N_trail P_trail (defScope s_trail) := ⟨rfl, rfl, rfl, by decide +kernel, rfl, by decide +kernel, by decide +kernel⟩
abbrev s_place_behind : Stmt := top 27
abbrev N_place_behind : List Str := ["state", "place", "count", "found", "end", "start"]
abbrev P_place_behind : List Str := ["state", "place", "count"]
theorem sc_place_behind : FnScope N_place_behind P_place_behind (defScope s_place_behind) := ⟨rfl, rfl, rfl, by decide +kernel, rfl, by decide +kernel, by decide +kernel⟩
abbrev s_steps_to : Stmt := top 28
abbrev N_steps_to : List Str := ["state", "place", "other", "found", "end"]
abbrev P_steps_to : List Str := ["state", "place", "other"]
theorem sc_steps_to : FnScope N_steps_to P_steps_to (defScope s_steps_to) := ⟨rfl, rfl, rfl, by decide +kernel, rfl, by decide +kernel, by decide +kernel⟩
abbrev s_law_deck : Stmt := top 30
abbrev N_law_deck : List Str := ["script", "cell"]
abbrev P_law_deck : List Str := ["script"]
theorem sc_law_deck : FnScope N_law_deck P_law_deck (defScope s_law_deck) := ⟨rfl, rfl, rfl, by decide +kernel, rfl, by decide +kernel, by decide +kernel⟩
abbrev s_law_pick : Stmt := top 31
abbrev N_law_pick : List Str := ["deck", "many", "cells", "cell", "found"]
abbrev P_law_pick : List Str := ["deck", "many"]
theorem sc_law_pick : FnScope N_law_pick P_law_pick (defScope s_law_pick) := ⟨rfl, rfl, rfl, by decide +kernel, rfl, by decide +kernel, by decide +kernel⟩
abbrev s_law_same : Stmt := top 32
abbrev N_law_same : List Str := ["told", "due", "waiting", "one", "two", "k"]
abbrev P_law_same : List Str := ["told", "due"]
theorem sc_law_same : FnScope N_law_same P_law_same (defScope s_law_same) := ⟨rfl, rfl, rfl, by decide +kernel, rfl, by decide +kernel, by decide +kernel⟩
abbrev s_law_places : Stmt := top 33
abbrev N_law_places : List Str := ["state", "found", "place", "following"]
abbrev P_law_places : List Str := ["state"]
theorem sc_law_places : FnScope N_law_places P_law_places (defScope s_law_places) := ⟨rfl, rfl, rfl, by decide +kernel, rfl, by decide +kernel, by decide +kernel⟩
abbrev s_law_made : Stmt := top 34
abbrev N_law_made : List Str := ["deck", "many", "extra", "most", "nexts", "used", "starts", "k", "kind", "size", "end", "at", "variables"]
abbrev P_law_made : List Str := ["deck", "many", "extra", "most"]
theorem sc_law_made : FnScope N_law_made P_law_made (defScope s_law_made) := ⟨rfl, rfl, rfl, by decide +kernel, rfl, by decide +kernel, by decide +kernel⟩
abbrev s_law_by : Stmt := top 35
abbrev N_law_by : List Str := ["state", "names", "cells", "place", "following"]
abbrev P_law_by : List Str := ["state", "names"]
theorem sc_law_by : FnScope N_law_by P_law_by (defScope s_law_by) := ⟨rfl, rfl, rfl, by decide +kernel, rfl, by decide +kernel, by decide +kernel⟩
abbrev s_law_scattered : Stmt := top 36
abbrev N_law_scattered : List Str := ["deck", "state", "names", "last", "wide", "own", "rows", "k"]
abbrev P_law_scattered : List Str := ["deck", "state"]
theorem sc_law_scattered : FnScope N_law_scattered P_law_scattered (defScope s_law_scattered) := ⟨rfl, rfl, rfl, by decide +kernel, rfl, by decide +kernel, by decide +kernel⟩
abbrev s_law_long : Stmt := top 37
abbrev N_law_long : List Str := ["deck", "count", "step", "row", "k", "cells"]
abbrev P_law_long : List Str := ["deck"]
theorem sc_law_long : FnScope N_law_long P_law_long (defScope s_law_long) := ⟨rfl, rfl, rfl, by decide +kernel, rfl, by decide +kernel, by decide +kernel⟩
abbrev s_law_walk : Stmt := top 38
abbrev N_law_walk : List Str := ["nexts", "start", "found", "step"]
abbrev P_law_walk : List Str := ["nexts", "start"]
theorem sc_law_walk : FnScope N_law_walk P_law_walk (defScope s_law_walk) := ⟨rfl, rfl, rfl, by decide +kernel, rfl, by decide +kernel, by decide +kernel⟩
abbrev s_law_behind : Stmt := top 39
abbrev N_law_behind : List Str := ["nexts", "start", "count", "walk", "first"]
abbrev P_law_behind : List Str := ["nexts", "start", "count"]
theorem sc_law_behind : FnScope N_law_behind P_law_behind (defScope s_law_behind) := ⟨rfl, rfl, rfl, by decide +kernel, rfl, by decide +kernel, by decide +kernel⟩
abbrev s_law_trail_due : Stmt := top 40
abbrev N_law_trail_due : List Str := ["nexts", "start", "cells", "end", "place"]
abbrev P_law_trail_due : List Str := ["nexts", "start"]
theorem sc_law_trail_due : FnScope N_law_trail_due P_law_trail_due (defScope s_law_trail_due) := ⟨rfl, rfl, rfl, by decide +kernel, rfl, by decide +kernel, by decide +kernel⟩
abbrev s_law_refused : Stmt := top 41
abbrev N_law_refused : List Str := ["which", "state", "place", "other", "word", "told"]
abbrev P_law_refused : List Str := ["which", "state", "place", "other"]
theorem sc_law_refused : FnScope N_law_refused P_law_refused (defScope s_law_refused) := ⟨rfl, rfl, rfl, by decide +kernel, rfl, by decide +kernel, by decide +kernel⟩
abbrev s_law_right : Stmt := top 42
abbrev N_law_right : List Str := ["deck", "state", "start", "nexts", "known", "walk", "counts", "count", "other", "due"]
abbrev P_law_right : List Str := ["deck", "state", "start"]
theorem sc_law_right : FnScope N_law_right P_law_right (defScope s_law_right) := ⟨rfl, rfl, rfl, by decide +kernel, rfl, by decide +kernel, by decide +kernel⟩
abbrev s_law_errors : Stmt := top 43
abbrev N_law_errors : List Str := ["deck", "state", "known", "wrong", "place", "count", "bad", "which"]
abbrev P_law_errors : List Str := ["deck", "state"]
theorem sc_law_errors : FnScope N_law_errors P_law_errors (defScope s_law_errors) := ⟨rfl, rfl, rfl, by decide +kernel, rfl, by decide +kernel, by decide +kernel⟩
abbrev s_law : Stmt := top 44
abbrev N_law : List Str := ["script", "deck", "turn", "state", "known", "start"]
abbrev P_law : List Str := ["script"]
theorem sc_law : FnScope N_law P_law (defScope s_law) := ⟨rfl, rfl, rfl, by decide +kernel, rfl, by decide +kernel, by decide +kernel⟩
/-- the addresses -/
structure Ad where
  c_HeapError : Addr
  c_BadState : Addr
  c_BadOther : Addr
  c_BadPlace : Addr
  c_BadCount : Addr
  f_is_int : Addr
  d_is_int : FuncData
  f_within : Addr
  d_within : FuncData
  f_is_row : Addr
  d_is_row : FuncData
  f_is_cell : Addr
  d_is_cell : FuncData
  f_are_cells : Addr
  d_are_cells : FuncData
  f_is_state_of : Addr
  d_is_state_of : FuncData
  f_need_state : Addr
  d_need_state : FuncData
  f_places_of : Addr
  d_places_of : FuncData
  f_reached_by : Addr
  d_reached_by : FuncData
  f_is_place : Addr
  d_is_place : FuncData
  f_need_place : Addr
  d_need_place : FuncData
  f_trail_in : Addr
  d_trail_in : FuncData
  f_trail : Addr
  d_trail : FuncData
  f_place_behind : Addr
  d_place_behind : FuncData
  f_steps_to : Addr
  d_steps_to : FuncData
  f_law_deck : Addr
  d_law_deck : FuncData
  f_law_pick : Addr
  d_law_pick : FuncData
  f_law_same : Addr
  d_law_same : FuncData
  f_law_places : Addr
  d_law_places : FuncData
  f_law_made : Addr
  d_law_made : FuncData
  f_law_by : Addr
  d_law_by : FuncData
  f_law_scattered : Addr
  d_law_scattered : FuncData
  f_law_long : Addr
  d_law_long : FuncData
  f_law_walk : Addr
  d_law_walk : FuncData
  f_law_behind : Addr
  d_law_behind : FuncData
  f_law_trail_due : Addr
  d_law_trail_due : FuncData
  f_law_refused : Addr
  d_law_refused : FuncData
  f_law_right : Addr
  d_law_right : FuncData
  f_law_errors : Addr
  d_law_errors : FuncData
  f_law : Addr
  d_law : FuncData
/-- what the top has written -/
structure Txt (K : Frag) (mg : Str → Option Value) (cl : Ad) : Prop where
  g_HeapError : mg "HeapError" = some (.ref cl.c_HeapError)
  x_HeapError : PySem.W.excIn K cl.c_HeapError [.type "ValueError", .type "Exception", .type "BaseException", .type "object"] "ValueError.__new__" = true
  k_HeapError : PySem.W.keepIn K (.ref cl.c_HeapError) = true
  s_HeapError : PySem.W.subIn K (.ref cl.c_HeapError) (.type "BaseException") = some true
  t_HeapError : PySem.W.typeIn K (.ref cl.c_HeapError) = some (.type "type")
  e_HeapError_BadState : PySem.W.exmOne K (.ref cl.c_HeapError) (.ref cl.c_BadState) = some false
  e_HeapError_BadOther : PySem.W.exmOne K (.ref cl.c_HeapError) (.ref cl.c_BadOther) = some false
  e_HeapError_BadPlace : PySem.W.exmOne K (.ref cl.c_HeapError) (.ref cl.c_BadPlace) = some false
  e_HeapError_BadCount : PySem.W.exmOne K (.ref cl.c_HeapError) (.ref cl.c_BadCount) = some false
  g_BadState : mg "BadState" = some (.ref cl.c_BadState)
  x_BadState : PySem.W.excIn K cl.c_BadState [.type "ValueError", .type "Exception", .type "BaseException", .type "object"] "ValueError.__new__" = true
  k_BadState : PySem.W.keepIn K (.ref cl.c_BadState) = true
  s_BadState : PySem.W.subIn K (.ref cl.c_BadState) (.type "BaseException") = some true
  t_BadState : PySem.W.typeIn K (.ref cl.c_BadState) = some (.type "type")
  e_BadState_BadState : PySem.W.exmOne K (.ref cl.c_BadState) (.ref cl.c_BadState) = some true
  e_BadState_BadOther : PySem.W.exmOne K (.ref cl.c_BadState) (.ref cl.c_BadOther) = some false
  e_BadState_BadPlace : PySem.W.exmOne K (.ref cl.c_BadState) (.ref cl.c_BadPlace) = some false
  e_BadState_BadCount : PySem.W.exmOne K (.ref cl.c_BadState) (.ref cl.c_BadCount) = some false
  g_BadOther : mg "BadOther" = some (.ref cl.c_BadOther)
  x_BadOther : PySem.W.excIn K cl.c_BadOther [.type "ValueError", .type "Exception", .type "BaseException", .type "object"] "ValueError.__new__" = true
  k_BadOther : PySem.W.keepIn K (.ref cl.c_BadOther) = true
  s_BadOther : PySem.W.subIn K (.ref cl.c_BadOther) (.type "BaseException") = some true
  t_BadOther : PySem.W.typeIn K (.ref cl.c_BadOther) = some (.type "type")
  e_BadOther_BadState : PySem.W.exmOne K (.ref cl.c_BadOther) (.ref cl.c_BadState) = some false
  e_BadOther_BadOther : PySem.W.exmOne K (.ref cl.c_BadOther) (.ref cl.c_BadOther) = some true
  e_BadOther_BadPlace : PySem.W.exmOne K (.ref cl.c_BadOther) (.ref cl.c_BadPlace) = some false
  e_BadOther_BadCount : PySem.W.exmOne K (.ref cl.c_BadOther) (.ref cl.c_BadCount) = some false
  g_BadPlace : mg "BadPlace" = some (.ref cl.c_BadPlace)
  x_BadPlace : PySem.W.excIn K cl.c_BadPlace [.type "ValueError", .type "Exception", .type "BaseException", .type "object"] "ValueError.__new__" = true
  k_BadPlace : PySem.W.keepIn K (.ref cl.c_BadPlace) = true
  s_BadPlace : PySem.W.subIn K (.ref cl.c_BadPlace) (.type "BaseException") = some true
  t_BadPlace : PySem.W.typeIn K (.ref cl.c_BadPlace) = some (.type "type")
  e_BadPlace_BadState : PySem.W.exmOne K (.ref cl.c_BadPlace) (.ref cl.c_BadState) = some false
  e_BadPlace_BadOther : PySem.W.exmOne K (.ref cl.c_BadPlace) (.ref cl.c_BadOther) = some false
  e_BadPlace_BadPlace : PySem.W.exmOne K (.ref cl.c_BadPlace) (.ref cl.c_BadPlace) = some true
  e_BadPlace_BadCount : PySem.W.exmOne K (.ref cl.c_BadPlace) (.ref cl.c_BadCount) = some false
  g_BadCount : mg "BadCount" = some (.ref cl.c_BadCount)
  x_BadCount : PySem.W.excIn K cl.c_BadCount [.type "ValueError", .type "Exception", .type "BaseException", .type "object"] "ValueError.__new__" = true
  k_BadCount : PySem.W.keepIn K (.ref cl.c_BadCount) = true
  s_BadCount : PySem.W.subIn K (.ref cl.c_BadCount) (.type "BaseException") = some true
  t_BadCount : PySem.W.typeIn K (.ref cl.c_BadCount) = some (.type "type")
  e_BadCount_BadState : PySem.W.exmOne K (.ref cl.c_BadCount) (.ref cl.c_BadState) = some false
  e_BadCount_BadOther : PySem.W.exmOne K (.ref cl.c_BadCount) (.ref cl.c_BadOther) = some false
  e_BadCount_BadPlace : PySem.W.exmOne K (.ref cl.c_BadCount) (.ref cl.c_BadPlace) = some false
  e_BadCount_BadCount : PySem.W.exmOne K (.ref cl.c_BadCount) (.ref cl.c_BadCount) = some true
  F_is_int : Fun K "is_int" "is_int" s_is_int cl.f_is_int cl.d_is_int
  m_is_int : mg "is_int" = some (.ref cl.f_is_int)
  b_is_int : Binds K cl.d_is_int P_is_int []
  F_within : Fun K "within" "within" s_within cl.f_within cl.d_within
  m_within : mg "within" = some (.ref cl.f_within)
  b_within : Binds K cl.d_within P_within []
  F_is_row : Fun K "is_row" "is_row" s_is_row cl.f_is_row cl.d_is_row
  m_is_row : mg "is_row" = some (.ref cl.f_is_row)
  b_is_row : Binds K cl.d_is_row P_is_row []
  F_is_cell : Fun K "is_cell" "is_cell" s_is_cell cl.f_is_cell cl.d_is_cell
  m_is_cell : mg "is_cell" = some (.ref cl.f_is_cell)
  b_is_cell : Binds K cl.d_is_cell P_is_cell []
  F_are_cells : Fun K "are_cells" "are_cells" s_are_cells cl.f_are_cells cl.d_are_cells
  m_are_cells : mg "are_cells" = some (.ref cl.f_are_cells)
  b_are_cells : Binds K cl.d_are_cells P_are_cells []
  F_is_state_of : Fun K "is_state_of" "is_state_of" s_is_state_of cl.f_is_state_of cl.d_is_state_of
  m_is_state_of : mg "is_state_of" = some (.ref cl.f_is_state_of)
  b_is_state_of : Binds K cl.d_is_state_of P_is_state_of []
  F_need_state : Fun K "need_state" "need_state" s_need_state cl.f_need_state cl.d_need_state
  m_need_state : mg "need_state" = some (.ref cl.f_need_state)
  b_need_state : Binds K cl.d_need_state P_need_state []
  F_places_of : Fun K "places_of" "places_of" s_places_of cl.f_places_of cl.d_places_of
  m_places_of : mg "places_of" = some (.ref cl.f_places_of)
  b_places_of : Binds K cl.d_places_of P_places_of []
  F_reached_by : Fun K "reached_by" "reached_by" s_reached_by cl.f_reached_by cl.d_reached_by
  m_reached_by : mg "reached_by" = some (.ref cl.f_reached_by)
  b_reached_by : Binds K cl.d_reached_by P_reached_by []
  F_is_place : Fun K "is_place" "is_place" s_is_place cl.f_is_place cl.d_is_place
  m_is_place : mg "is_place" = some (.ref cl.f_is_place)
  b_is_place : Binds K cl.d_is_place P_is_place []
  F_need_place : Fun K "need_place" "need_place" s_need_place cl.f_need_place cl.d_need_place
  m_need_place : mg "need_place" = some (.ref cl.f_need_place)
  b_need_place : Binds K cl.d_need_place P_need_place []
  F_trail_in : Fun K "trail_in" "trail_in" s_trail_in cl.f_trail_in cl.d_trail_in
  m_trail_in : mg "trail_in" = some (.ref cl.f_trail_in)
  b_trail_in : Binds K cl.d_trail_in P_trail_in []
  F_trail : Fun K "trail" "trail" s_trail cl.f_trail cl.d_trail
  m_trail : mg "trail" = some (.ref cl.f_trail)
  b_trail : Binds K cl.d_trail P_trail []
  F_place_behind : Fun K "place_behind" "place_behind" s_place_behind cl.f_place_behind cl.d_place_behind
  m_place_behind : mg "place_behind" = some (.ref cl.f_place_behind)
  b_place_behind : Binds K cl.d_place_behind P_place_behind []
  F_steps_to : Fun K "steps_to" "steps_to" s_steps_to cl.f_steps_to cl.d_steps_to
  m_steps_to : mg "steps_to" = some (.ref cl.f_steps_to)
  b_steps_to : Binds K cl.d_steps_to P_steps_to []
  F_law_deck : Fun K "_law_deck" "_law_deck" s_law_deck cl.f_law_deck cl.d_law_deck
  m_law_deck : mg "_law_deck" = some (.ref cl.f_law_deck)
  b_law_deck : Binds K cl.d_law_deck P_law_deck []
  F_law_pick : Fun K "_law_pick" "_law_pick" s_law_pick cl.f_law_pick cl.d_law_pick
  m_law_pick : mg "_law_pick" = some (.ref cl.f_law_pick)
  b_law_pick : Binds K cl.d_law_pick P_law_pick []
  F_law_same : Fun K "_law_same" "_law_same" s_law_same cl.f_law_same cl.d_law_same
  m_law_same : mg "_law_same" = some (.ref cl.f_law_same)
  b_law_same : Binds K cl.d_law_same P_law_same []
  F_law_places : Fun K "_law_places" "_law_places" s_law_places cl.f_law_places cl.d_law_places
  m_law_places : mg "_law_places" = some (.ref cl.f_law_places)
  b_law_places : Binds K cl.d_law_places P_law_places []
  F_law_made : Fun K "_law_made" "_law_made" s_law_made cl.f_law_made cl.d_law_made
  m_law_made : mg "_law_made" = some (.ref cl.f_law_made)
  b_law_made : Binds K cl.d_law_made P_law_made []
  F_law_by : Fun K "_law_by" "_law_by" s_law_by cl.f_law_by cl.d_law_by
  m_law_by : mg "_law_by" = some (.ref cl.f_law_by)
  b_law_by : Binds K cl.d_law_by P_law_by []
  F_law_scattered : Fun K "_law_scattered" "_law_scattered" s_law_scattered cl.f_law_scattered cl.d_law_scattered
  m_law_scattered : mg "_law_scattered" = some (.ref cl.f_law_scattered)
  b_law_scattered : Binds K cl.d_law_scattered P_law_scattered []
  F_law_long : Fun K "_law_long" "_law_long" s_law_long cl.f_law_long cl.d_law_long
  m_law_long : mg "_law_long" = some (.ref cl.f_law_long)
  b_law_long : Binds K cl.d_law_long P_law_long []
  F_law_walk : Fun K "_law_walk" "_law_walk" s_law_walk cl.f_law_walk cl.d_law_walk
  m_law_walk : mg "_law_walk" = some (.ref cl.f_law_walk)
  b_law_walk : Binds K cl.d_law_walk P_law_walk []
  F_law_behind : Fun K "_law_behind" "_law_behind" s_law_behind cl.f_law_behind cl.d_law_behind
  m_law_behind : mg "_law_behind" = some (.ref cl.f_law_behind)
  b_law_behind : Binds K cl.d_law_behind P_law_behind []
  F_law_trail_due : Fun K "_law_trail_due" "_law_trail_due" s_law_trail_due cl.f_law_trail_due cl.d_law_trail_due
  m_law_trail_due : mg "_law_trail_due" = some (.ref cl.f_law_trail_due)
  b_law_trail_due : Binds K cl.d_law_trail_due P_law_trail_due []
  F_law_refused : Fun K "_law_refused" "_law_refused" s_law_refused cl.f_law_refused cl.d_law_refused
  m_law_refused : mg "_law_refused" = some (.ref cl.f_law_refused)
  b_law_refused : Binds K cl.d_law_refused P_law_refused []
  F_law_right : Fun K "_law_right" "_law_right" s_law_right cl.f_law_right cl.d_law_right
  m_law_right : mg "_law_right" = some (.ref cl.f_law_right)
  b_law_right : Binds K cl.d_law_right P_law_right []
  F_law_errors : Fun K "_law_errors" "_law_errors" s_law_errors cl.f_law_errors cl.d_law_errors
  m_law_errors : mg "_law_errors" = some (.ref cl.f_law_errors)
  b_law_errors : Binds K cl.d_law_errors P_law_errors []
  F_law : Fun K "law" "law" s_law cl.f_law cl.d_law
  m_law : mg "law" = some (.ref cl.f_law)
  b_law : Binds K cl.d_law P_law []
  n_all : mg "all" = none
  n_bool : mg "bool" = none
  n_dict : mg "dict" = none
  n_int : mg "int" = none
  n_isinstance : mg "isinstance" = none
  n_len : mg "len" = none
  n_list : mg "list" = none
  n_max : mg "max" = none
  n_min : mg "min" = none
  n_range : mg "range" = none
  n_set : mg "set" = none
  n_sorted : mg "sorted" = none
  n_str : mg "str" = none
  n_tuple : mg "tuple" = none
  n_zip : mg "zip" = none
  v_LAST_PLACE : ∃ t, mg "LAST_PLACE" = some (.int 1000000 t)
  v_MOST_CELLS : ∃ t, mg "MOST_CELLS" = some (.int 150 t)
  v_MOST_COUNT : ∃ t, mg "MOST_COUNT" = some (.int 1000000000 t)
  v_MOST_VARIABLES : ∃ t, mg "MOST_VARIABLES" = some (.int 4 t)
section
variable {P : Program} {wd : World} {K : Frag} {mg : Str → Option Value} {base : Heap} {cl : Ad}
def w_is_int (K : Frag) (cl : Ad) : SW :=
  (wRet (wAndV (wIsi isI (wVar 0)) (wNotV (wIsi isB (wVar 0)))))
theorem ok_is_int (T : Txt K mg cl) {k : Nat} {c : Ct} (hlen : ∀ rs Q E, c rs Q E → rs.length = P_is_int.length)
    (hw : ∀ rs Q E, c rs Q E → w_is_int K cl (rho N_is_int.length rs) { nx := fun _ => Q (.s .none), rt := Q, er := fun cls _ => E cls }) :
    FnOk P wd K mg base (L2.CX P wd) (k + 1) cl.f_is_int cl.d_is_int P_is_int (spD K c) :=
  fnD T.F_is_int sc_is_int hlen (fun cdv A outer s H E hr => by
  have tk := takes_of (X := cxOf (L2.CX P wd) P wd K mg base N_is_int "is_int" (defScope s_is_int) cl.f_is_int cdv A outer s H E) rfl rfl rfl rfl
  exact (pds_one (pds_ret (pd_and (pd_isi (pe_callB call_isi (by rfl) T.n_isinstance (by decide +kernel) (pa_cons (pd_var (pv 0)) (pa_cons (pe_bltn (by rfl) T.n_int (by decide +kernel) rfl) pa_nil))) kit_int) (pd_one (pd_not (pd_isi (pe_callB call_isi (by rfl) T.n_isinstance (by decide +kernel) (pa_cons (pd_var (pv 0)) (pa_cons (pe_bltn (by rfl) T.n_bool (by decide +kernel) rfl) pa_nil))) kit_bool))))))) hw
def w_within (K : Frag) (cl : Ad) (c_is_int : Ct) : SW :=
  (wRet (wAndV (wCall c_is_int (wCons (wVar 0) wNil)) (wChain fLe fLe (wVar 1) (wVar 0) (wVar 2))))
theorem ok_within (T : Txt K mg cl) {k : Nat} {c : Ct} {j_is_int : Nat} {c_is_int : Ct} (G_is_int : FnOk P wd K mg base (L2.CX P wd) j_is_int cl.f_is_int cl.d_is_int P_is_int (spD K c_is_int)) (h_is_int : j_is_int ≤ k) (hlen : ∀ rs Q E, c rs Q E → rs.length = P_within.length)
    (hw : ∀ rs Q E, c rs Q E → w_within K cl c_is_int (rho N_within.length rs) { nx := fun _ => Q (.s .none), rt := Q, er := fun cls _ => E cls }) :
    FnOk P wd K mg base (L2.CX P wd) (k + 1) cl.f_within cl.d_within P_within (spD K c) :=
  fnD T.F_within sc_within hlen (fun cdv A outer s H E hr => by
  have tk := takes_of (X := cxOf (L2.CX P wd) P wd K mg base N_within "within" (defScope s_within) cl.f_within cdv A outer s H E) rfl rfl rfl rfl
  exact (pds_one (pds_ret (pd_and (pd_call (pe_callS G_is_int (hr.mono h_is_int) (by rfl) T.m_is_int T.F_is_int.kp T.b_is_int (fun σ => passAt tk σ) (pda_cons (pd_var (pv 0)) pda_nil))) (pd_one (pd_chain (pe_chain o_le o_le (pd_var (pv 1)) (pd_var (pv 0)) (pd_var (pv 2))))))))) hw
def w_is_row (K : Frag) (cl : Ad) : SW :=
  (wRet (wAndV (wIsi isT (wVar 0)) (wChain fLe fLe (wVar 1) (wCall1 fLen (wCons (wVar 0) wNil)) (wVar 2))))
theorem ok_is_row (T : Txt K mg cl) {k : Nat} {c : Ct} (hlen : ∀ rs Q E, c rs Q E → rs.length = P_is_row.length)
    (hw : ∀ rs Q E, c rs Q E → w_is_row K cl (rho N_is_row.length rs) { nx := fun _ => Q (.s .none), rt := Q, er := fun cls _ => E cls }) :
    FnOk P wd K mg base (L2.CX P wd) (k + 1) cl.f_is_row cl.d_is_row P_is_row (spD K c) :=
  fnD T.F_is_row sc_is_row hlen (fun cdv A outer s H E hr => by
  have tk := takes_of (X := cxOf (L2.CX P wd) P wd K mg base N_is_row "is_row" (defScope s_is_row) cl.f_is_row cdv A outer s H E) rfl rfl rfl rfl
  exact (pds_one (pds_ret (pd_and (pd_isi (pe_callB call_isi (by rfl) T.n_isinstance (by decide +kernel) (pa_cons (pd_var (pv 0)) (pa_cons (pe_bltn (by rfl) T.n_tuple (by decide +kernel) rfl) pa_nil))) kit_tuple) (pd_one (pd_chain (pe_chain o_le o_le (pd_var (pv 1)) (call_core (t := fun _ _ _ => True) (pe_callB c_len (by rfl) T.n_len (by decide +kernel) (pda_cons (pd_var (pv 0)) pda_nil))) (pd_var (pv 2))))))))) hw
def w_is_cell (K : Frag) (cl : Ad) (c_within c_is_row : Ct) : SW :=
  (wRet (wAndV (wCall c_is_row (wCons (wVar 0) (wCons (wC (.s (.int 2))) (wCons (wC (.s (.int 2))) wNil)))) (wAndV (wCall c_within (wCons (wOp fIx (wVar 0) (wC (.s (.int 0)))) (wCons (wC (.s (.int 1))) (wCons (wC (.s (.int 1000000))) wNil)))) (wCall c_within (wCons (wOp fIx (wVar 0) (wC (.s (.int 1)))) (wCons (wC (.s (.int 0))) (wCons (wC (.s (.int 1000000))) wNil)))))))
theorem ok_is_cell (T : Txt K mg cl) {k : Nat} {c : Ct} {j_within : Nat} {c_within : Ct} (G_within : FnOk P wd K mg base (L2.CX P wd) j_within cl.f_within cl.d_within P_within (spD K c_within)) (h_within : j_within ≤ k) {j_is_row : Nat} {c_is_row : Ct} (G_is_row : FnOk P wd K mg base (L2.CX P wd) j_is_row cl.f_is_row cl.d_is_row P_is_row (spD K c_is_row)) (h_is_row : j_is_row ≤ k) (hlen : ∀ rs Q E, c rs Q E → rs.length = P_is_cell.length)
    (hw : ∀ rs Q E, c rs Q E → w_is_cell K cl c_within c_is_row (rho N_is_cell.length rs) { nx := fun _ => Q (.s .none), rt := Q, er := fun cls _ => E cls }) :
    FnOk P wd K mg base (L2.CX P wd) (k + 1) cl.f_is_cell cl.d_is_cell P_is_cell (spD K c) :=
  fnD T.F_is_cell sc_is_cell hlen (fun cdv A outer s H E hr => by
  have tk := takes_of (X := cxOf (L2.CX P wd) P wd K mg base N_is_cell "is_cell" (defScope s_is_cell) cl.f_is_cell cdv A outer s H E) rfl rfl rfl rfl
  exact (pds_one (pds_ret (pd_and (pd_call (pe_callS G_is_row (hr.mono h_is_row) (by rfl) T.m_is_row T.F_is_row.kp T.b_is_row (fun σ => passAt tk σ) (pda_cons (pd_var (pv 0)) (pda_cons pd_int (pda_cons pd_int pda_nil))))) (pd_and (pd_call (pe_callS G_within (hr.mono h_within) (by rfl) T.m_within T.F_within.kp T.b_within (fun σ => passAt tk σ) (pda_cons (pd_ix (o_ix hr.units) (pd_var (pv 0)) pd_int (fun _ _ => rfl)) (pda_cons pd_int (pda_cons (pd_const (v := .int 1000000) (d := .int 1000000) (pe_glob (v := .int 1000000) rfl T.v_LAST_PLACE.choose_spec ⟨_, rfl⟩) (fun _ => .int _)) pda_nil))))) (pd_one (pd_call (pe_callS G_within (hr.mono h_within) (by rfl) T.m_within T.F_within.kp T.b_within (fun σ => passAt tk σ) (pda_cons (pd_ix (o_ix hr.units) (pd_var (pv 0)) pd_int (fun _ _ => rfl)) (pda_cons pd_int (pda_cons (pd_const (v := .int 1000000) (d := .int 1000000) (pe_glob (v := .int 1000000) rfl T.v_LAST_PLACE.choose_spec ⟨_, rfl⟩) (fun _ => .int _)) pda_nil))))))))))) hw
def w_are_cells (K : Frag) (cl : Ad) (c_is_row c_is_cell : Ct) : SW :=
  (wSeq (wIfS (wOrT (wNotT (wTst (wCall c_is_row (wCons (wVar 0) (wCons (wC (.s (.int 0))) (wCons (wC (.s (.int 150))) wNil)))))) (wNotT (wTst (wCall1 fAll (wCons (wLc (wSeqC (wVar 0)) false [1] [1] wYes (wFrz (wCall c_is_cell (wCons (wVar 1) wNil)))) wNil)))))
  (wRet (wC (.s (.bool false))))
  wNext)
  (wRet (wCall1 fAll (wCons (wLc (wZip (wCons (wVar 0) (wCons (wFrz (wSl (wVar 0) (wOSome (wC (.s (.int 1)))) wONone)) wNil))) true [1, 2] [1, 2] wYes (wOp fLt (wOp fIx (wVar 1) (wC (.s (.int 0)))) (wOp fIx (wVar 2) (wC (.s (.int 0)))))) wNil))))
theorem ok_are_cells (T : Txt K mg cl) {k : Nat} {c : Ct} {j_is_row : Nat} {c_is_row : Ct} (G_is_row : FnOk P wd K mg base (L2.CX P wd) j_is_row cl.f_is_row cl.d_is_row P_is_row (spD K c_is_row)) (h_is_row : j_is_row ≤ k) {j_is_cell : Nat} {c_is_cell : Ct} (G_is_cell : FnOk P wd K mg base (L2.CX P wd) j_is_cell cl.f_is_cell cl.d_is_cell P_is_cell (spD K c_is_cell)) (h_is_cell : j_is_cell ≤ k) (hlen : ∀ rs Q E, c rs Q E → rs.length = P_are_cells.length)
    (hw : ∀ rs Q E, c rs Q E → w_are_cells K cl c_is_row c_is_cell (rho N_are_cells.length rs) { nx := fun _ => Q (.s .none), rt := Q, er := fun cls _ => E cls }) :
    FnOk P wd K mg base (L2.CX P wd) (k + 1) cl.f_are_cells cl.d_are_cells P_are_cells (spD K c) :=
  fnD T.F_are_cells sc_are_cells hlen (fun cdv A outer s H E hr => by
  have tk := takes_of (X := cxOf (L2.CX P wd) P wd K mg base N_are_cells "are_cells" (defScope s_are_cells) cl.f_are_cells cdv A outer s H E) rfl rfl rfl rfl
  exact (pds_cons (pds_if (pdt_w (pdw_or (pdt_not (pdt_val (pd_call (pe_callS G_is_row (hr.mono h_is_row) (by rfl) T.m_is_row T.F_is_row.kp T.b_is_row (fun σ => passAt tk σ) (pda_cons (pd_var (pv 0)) (pda_cons pd_int (pda_cons (pd_const (v := .int 150) (d := .int 150) (pe_glob (v := .int 150) rfl T.v_MOST_CELLS.choose_spec ⟨_, rfl⟩) (fun _ => .int _)) pda_nil))))))) (pdw_or1 (pdt_not (pdt_val (call_core (t := fun _ _ _ => True) (pe_callB (c_all rfl) (by rfl) T.n_all (by decide +kernel) (pda_cons (pd_lc (tup := false) (is := [1]) (pe_lc (own := [("one", 1)]) (g := gC K false [1]) rfl sc_are_cells.nd (pic_seq (pd_var (pv 0))) (blkOk_by (own := [("one", 1)]) (N := N_are_cells) (sc := defScope s_are_cells) (by decide +kernel)) (fun _ _ _ _ _ => (pg_name (i := 1) sc_are_cells.nd rfl (by first | exact Or.inl rfl | exact Or.inr rfl))) (fun _ _ _ _ _ => pdts_nil) (fun _ _ _ _ _ => (pd_frz (pd_call (pe_callS G_is_cell (hr.mono h_is_cell) (by rfl) T.m_is_cell T.F_is_cell.kp T.b_is_cell (fun σ => passAt takes0 σ) (pda_cons (pd_var (pv 1)) pda_nil)))))) (by decide) (by first | exact Or.inl rfl | exact Or.inr ⟨_, rfl⟩)) pda_nil))))))))
  (pds_one (pds_ret pd_bl))
  pds_nil)
  (pds_one (pds_ret (call_core (t := fun _ _ _ => True) (pe_callB (c_all rfl) (by rfl) T.n_all (by decide +kernel) (pda_cons (pd_lc (tup := true) (is := [1, 2]) (pe_lc (own := [("one", 1), ("other", 2)]) (g := gC K true [1, 2]) rfl sc_are_cells.nd (pic_zip (pi_zipN (by rfl) T.n_zip (pda_cons (pd_var (pv 0)) (pda_cons (pd_frz (pd_sl (pe_slice o_sl (pd_var (pv 0)) (pdo_some pd_int) pdo_none))) pda_nil)))) (blkOk_by (own := [("one", 1), ("other", 2)]) (N := N_are_cells) (sc := defScope s_are_cells) (by decide +kernel)) (fun _ _ _ _ _ => (pg_tup rfl (pgs_cons (pg_name (i := 1) sc_are_cells.nd rfl (by first | exact Or.inl rfl | exact Or.inr rfl)) (pgs_cons (pg_name (i := 2) sc_are_cells.nd rfl (by first | exact Or.inl rfl | exact Or.inr rfl)) pgs_nil)))) (fun _ _ _ _ _ => pdts_nil) (fun _ _ _ _ _ => (pd_cmp (o_lt hr.units0) (pd_ix (o_ix hr.units) (pd_var (pv 1)) pd_int (fun _ _ => rfl)) (pd_ix (o_ix hr.units) (pd_var (pv 2)) pd_int (fun _ _ => rfl)) (nomark _)))) (by decide) (by first | exact Or.inl rfl | exact Or.inr ⟨_, rfl⟩)) pda_nil))))))) hw
def w_is_state_of (K : Frag) (cl : Ad) (c_within c_is_row c_are_cells : Ct) : SW :=
  (wSeq (wIfS (wOrT (wNotT (wTst (wCall c_is_row (wCons (wVar 0) (wCons (wC (.s (.int 2))) (wCons (wC (.s (.int 2))) wNil)))))) (wNotT (wTst (wCall c_is_row (wCons (wOp fIx (wVar 0) (wC (.s (.int 0)))) (wCons (wC (.s (.int 0))) (wCons (wC (.s (.int 4))) wNil)))))))
  (wRet (wC (.s (.bool false))))
  wNext)
  (wRet (wAndV (wCall1 fAll (wCons (wLc (wSeqC (wOp fIx (wVar 0) (wC (.s (.int 0))))) false [1] [1] wYes (wFrz (wCall c_within (wCons (wVar 1) (wCons (wC (.s (.int 0))) (wCons (wC (.s (.int 1000000))) wNil)))))) wNil)) (wCall c_are_cells (wCons (wOp fIx (wVar 0) (wC (.s (.int 1)))) wNil)))))
theorem ok_is_state_of (T : Txt K mg cl) {k : Nat} {c : Ct} {j_within : Nat} {c_within : Ct} (G_within : FnOk P wd K mg base (L2.CX P wd) j_within cl.f_within cl.d_within P_within (spD K c_within)) (h_within : j_within ≤ k) {j_is_row : Nat} {c_is_row : Ct} (G_is_row : FnOk P wd K mg base (L2.CX P wd) j_is_row cl.f_is_row cl.d_is_row P_is_row (spD K c_is_row)) (h_is_row : j_is_row ≤ k) {j_are_cells : Nat} {c_are_cells : Ct} (G_are_cells : FnOk P wd K mg base (L2.CX P wd) j_are_cells cl.f_are_cells cl.d_are_cells P_are_cells (spD K c_are_cells)) (h_are_cells : j_are_cells ≤ k) (hlen : ∀ rs Q E, c rs Q E → rs.length = P_is_state_of.length)
    (hw : ∀ rs Q E, c rs Q E → w_is_state_of K cl c_within c_is_row c_are_cells (rho N_is_state_of.length rs) { nx := fun _ => Q (.s .none), rt := Q, er := fun cls _ => E cls }) :
    FnOk P wd K mg base (L2.CX P wd) (k + 1) cl.f_is_state_of cl.d_is_state_of P_is_state_of (spD K c) :=
  fnD T.F_is_state_of sc_is_state_of hlen (fun cdv A outer s H E hr => by
  have tk := takes_of (X := cxOf (L2.CX P wd) P wd K mg base N_is_state_of "is_state_of" (defScope s_is_state_of) cl.f_is_state_of cdv A outer s H E) rfl rfl rfl rfl
  exact (pds_cons (pds_if (pdt_w (pdw_or (pdt_not (pdt_val (pd_call (pe_callS G_is_row (hr.mono h_is_row) (by rfl) T.m_is_row T.F_is_row.kp T.b_is_row (fun σ => passAt tk σ) (pda_cons (pd_var (pv 0)) (pda_cons pd_int (pda_cons pd_int pda_nil))))))) (pdw_or1 (pdt_not (pdt_val (pd_call (pe_callS G_is_row (hr.mono h_is_row) (by rfl) T.m_is_row T.F_is_row.kp T.b_is_row (fun σ => passAt tk σ) (pda_cons (pd_ix (o_ix hr.units) (pd_var (pv 0)) pd_int (fun _ _ => rfl)) (pda_cons pd_int (pda_cons (pd_const (v := .int 4) (d := .int 4) (pe_glob (v := .int 4) rfl T.v_MOST_VARIABLES.choose_spec ⟨_, rfl⟩) (fun _ => .int _)) pda_nil))))))))))
  (pds_one (pds_ret pd_bl))
  pds_nil)
  (pds_one (pds_ret (pd_and (call_core (t := fun _ _ _ => True) (pe_callB (c_all rfl) (by rfl) T.n_all (by decide +kernel) (pda_cons (pd_lc (tup := false) (is := [1]) (pe_lc (own := [("place", 1)]) (g := gC K false [1]) rfl sc_is_state_of.nd (pic_seq (pd_ix (o_ix hr.units) (pd_var (pv 0)) pd_int (fun _ _ => rfl))) (blkOk_by (own := [("place", 1)]) (N := N_is_state_of) (sc := defScope s_is_state_of) (by decide +kernel)) (fun _ _ _ _ _ => (pg_name (i := 1) sc_is_state_of.nd rfl (by first | exact Or.inl rfl | exact Or.inr rfl))) (fun _ _ _ _ _ => pdts_nil) (fun _ _ _ _ _ => (pd_frz (pd_call (pe_callS G_within (hr.mono h_within) (by rfl) T.m_within T.F_within.kp T.b_within (fun σ => passAt takes0 σ) (pda_cons (pd_var (pv 1)) (pda_cons pd_int (pda_cons (pd_const (v := .int 1000000) (d := .int 1000000) (pe_glob (v := .int 1000000) rfl T.v_LAST_PLACE.choose_spec ⟨_, rfl⟩) (fun _ => .int _)) pda_nil)))))))) (by decide) (by first | exact Or.inl rfl | exact Or.inr ⟨_, rfl⟩)) pda_nil))) (pd_one (pd_call (pe_callS G_are_cells (hr.mono h_are_cells) (by rfl) T.m_are_cells T.F_are_cells.kp T.b_are_cells (fun σ => passAt tk σ) (pda_cons (pd_ix (o_ix hr.units) (pd_var (pv 0)) pd_int (fun _ _ => rfl)) pda_nil))))))))) hw
def w_need_state (K : Frag) (cl : Ad) (c_is_state_of : Ct) : SW :=
  (wIfS (wNotT (wTst (wCall c_is_state_of (wCons (wVar 0) wNil))))
  (wRaise (.ref cl.c_BadState))
  wNext)
theorem ok_need_state (T : Txt K mg cl) {k : Nat} {c : Ct} {j_is_state_of : Nat} {c_is_state_of : Ct} (G_is_state_of : FnOk P wd K mg base (L2.CX P wd) j_is_state_of cl.f_is_state_of cl.d_is_state_of P_is_state_of (spD K c_is_state_of)) (h_is_state_of : j_is_state_of ≤ k) (hlen : ∀ rs Q E, c rs Q E → rs.length = P_need_state.length)
    (hw : ∀ rs Q E, c rs Q E → w_need_state K cl c_is_state_of (rho N_need_state.length rs) { nx := fun _ => Q (.s .none), rt := Q, er := fun cls _ => E cls }) :
    FnOk P wd K mg base (L2.CX P wd) (k + 1) cl.f_need_state cl.d_need_state P_need_state (spD K c) :=
  fnD T.F_need_state sc_need_state hlen (fun cdv A outer s H E hr => by
  have tk := takes_of (X := cxOf (L2.CX P wd) P wd K mg base N_need_state "need_state" (defScope s_need_state) cl.f_need_state cdv A outer s H E) rfl rfl rfl rfl
  exact (pds_one (pds_if (pdt_not (pdt_val (pd_call (pe_callS G_is_state_of (hr.mono h_is_state_of) (by rfl) T.m_is_state_of T.F_is_state_of.kp T.b_is_state_of (fun σ => passAt tk σ) (pda_cons (pd_var (pv 0)) pda_nil)))))
  (pds_one (pds_raise tk (pmk_own PySem.F.excBase_ValueError T.x_BadState T.g_BadState T.k_BadState (raises_own T.s_BadState T.t_BadState) (by rfl)) rfl))
  pds_nil))) hw
def w_places_of_b1 (K : Frag) (cl : Ad) : SW :=
  (wExt 1 (wLst (wCons (wVar 2) (wCons (wVar 3) wNil))))
def w_places_of (K : Frag) (cl : Ad) : SW :=
  (wSeq (wAsg 1 (wCall1 fList (wCons (wOp fIx (wVar 0) (wC (.s (.int 0)))) wNil)))
  (wSeq (wFor (wSeqF (wOp fIx (wVar 0) (wC (.s (.int 1))))) (gwTup 2 (gwCons (gwName 2) (gwCons (gwName 3) gwNil))) (w_places_of_b1 K cl))
  (wRet (wSortSc (wSeqC (wVar 1)) false [2] [2] (wTst (wOp fGt (wVar 2) (wC (.s (.int 0))))) (wVar 2)))))
theorem ok_places_of (T : Txt K mg cl) {k : Nat} {c : Ct} (hlen : ∀ rs Q E, c rs Q E → rs.length = P_places_of.length)
    (hw : ∀ rs Q E, c rs Q E → w_places_of K cl (rho N_places_of.length rs) { nx := fun _ => Q (.s .none), rt := Q, er := fun cls _ => E cls }) :
    FnOk P wd K mg base (L2.CX P wd) (k + 1) cl.f_places_of cl.d_places_of P_places_of (spD K c) :=
  fnD T.F_places_of sc_places_of hlen (fun cdv A outer s H E hr => by
  have tk := takes_of (X := cxOf (L2.CX P wd) P wd K mg base N_places_of "places_of" (defScope s_places_of) cl.f_places_of cdv A outer s H E) rfl rfl rfl rfl
  exact (pds_cons (pds_set (ps_set (i := 1) sc_places_of.nd rfl (by first | exact Or.inl rfl | exact Or.inr rfl) (call_core (t := fun _ _ _ => True) (pe_callTy c_list (by rfl) T.n_list (by decide +kernel) (pda_cons (pd_ix (o_ix hr.units) (pd_var (pv 0)) pd_int (fun _ _ => rfl)) pda_nil)))))
  (pds_cons (pds_for (ps_for (passes_of rfl) rfl (pif_seq (pd_ix (o_ix hr.units) (pd_var (pv 0)) pd_int (fun _ _ => rfl))) (pgd_tup (pg_tup rfl (pgds_cons (pgs_cons (pgd_name (pg_name (i := 2) sc_places_of.nd rfl (by first | exact Or.inl rfl | exact Or.inr rfl))) (pgds_cons (pgs_cons (pgd_name (pg_name (i := 3) sc_places_of.nd rfl (by first | exact Or.inl rfl | exact Or.inr rfl))) pgds_nil)))))) (pds_one (pds_ext (i := 1) (ps_expr (pe_bm PySem.F.plainAttrs_list PySem.F.slot_list_extend PySem.F.type_list_extend mt_extB (pv 1) (pa_cons (pd_lst (pda_cons (pd_var (pv 2)) (pda_cons (pd_var (pv 3)) pda_nil))) pa_nil)))))))
  (pds_one (pds_ret (pd_sortSc (tup := false) (is := [2]) (pe_callB (cr_setAny rfl) (by rfl) T.n_sorted (by decide +kernel) (pa_cons (pe_scI (own := [("place", 2)]) (g := gC K false [2]) rfl sc_places_of.nd (pic_seq (pd_var (pv 1))) (blkOk_by (own := [("place", 2)]) (N := N_places_of) (sc := defScope s_places_of) (by decide +kernel)) (fun _ _ _ _ _ => (pg_name (i := 2) sc_places_of.nd rfl (by first | exact Or.inl rfl | exact Or.inr rfl))) (fun _ _ _ _ _ => (pdts_one (pdt_cmp o_gt (pd_var (pv 2)) pd_int (nomark _)))) (fun _ _ _ _ _ => (pd_var (pv 2)))) pa_nil)) (by decide) (by first | exact Or.inl rfl | exact Or.inr ⟨_, rfl⟩))))))) hw
def w_reached_by_b1 (K : Frag) (cl : Ad) : SW :=
  (wSeq (wSetIx 2 (wC (.s (.bool true))) (wVar 3))
  (wAsg 3 (wOp fIx (wVar 0) (wVar 3))))
def w_reached_by_b2 (K : Frag) (cl : Ad) : SW :=
  (wWhile (wAndT (wTst (wOp (fIn false) (wVar 3) (wVar 0))) (wTst (wOp (fIn true) (wVar 3) (wVar 2)))) (w_reached_by_b1 K cl))
def w_reached_by (K : Frag) (cl : Ad) : SW :=
  (wSeq (wAsg 2 wDNew)
  (wSeq (wFor (wSeqF (wVar 1)) (gwName 3) (w_reached_by_b2 K cl))
  (wRetS 2)))
theorem ok_reached_by (T : Txt K mg cl) {k : Nat} {c : Ct} (hlen : ∀ rs Q E, c rs Q E → rs.length = P_reached_by.length)
    (hw : ∀ rs Q E, c rs Q E → w_reached_by K cl (rho N_reached_by.length rs) { nx := fun _ => Q (.s .none), rt := Q, er := fun cls _ => E cls }) :
    FnOk P wd K mg base (L2.CX P wd) (k + 1) cl.f_reached_by cl.d_reached_by P_reached_by (spD K c) :=
  fnD T.F_reached_by sc_reached_by hlen (fun cdv A outer s H E hr => by
  have tk := takes_of (X := cxOf (L2.CX P wd) P wd K mg base N_reached_by "reached_by" (defScope s_reached_by) cl.f_reached_by cdv A outer s H E) rfl rfl rfl rfl
  exact (pds_cons (pds_set (ps_set (i := 2) sc_reached_by.nd rfl (by first | exact Or.inl rfl | exact Or.inr rfl) (pd_dnew pe_dnewK)))
  (pds_cons (pds_for (ps_for (passes_of rfl) rfl (pif_seq (pd_var (pv 1))) (pgd_name (pg_name (i := 3) sc_reached_by.nd rfl (by first | exact Or.inl rfl | exact Or.inr rfl))) (pds_one (pds_while (passes_of rfl) (pdt_w (pdw_and (pdt_cmp (o_in hr.units) (pd_var (pv 3)) (pd_var (pv 0)) (by rfl)) (pdw_and1 (pdt_cmp (o_notIn hr.units) (pd_var (pv 3)) (pd_var (pv 2)) (by rfl))))) (pds_cons (pds_setIx (i := 2) (ps_asg pd_bl (pg_sub (pv 2) (pd_var (pv 3)) (set_both hr.units))))
  (pds_one (pds_set (ps_set (i := 3) sc_reached_by.nd rfl (by first | exact Or.inl rfl | exact Or.inr rfl) (pd_ix (o_ix hr.units) (pd_var (pv 0)) (pd_var (pv 3)) (fun _ _ => rfl))))))))))
  (pds_one (pds_retS (i := 2) (ps_ret (pv 2))))))) hw
def w_is_place (K : Frag) (cl : Ad) (c_within c_places_of : Ct) : SW :=
  (wRet (wAndV (wCall c_within (wCons (wVar 1) (wCons (wC (.s (.int 0))) (wCons (wFrz (wOp fPow (wC (.s (.int 10))) (wC (.s (.int 6))))) wNil)))) (wOrV (wOp fEq (wVar 1) (wC (.s (.int 0)))) (wOp (fIn false) (wVar 1) (wCall c_places_of (wCons (wVar 0) wNil))))))
theorem ok_is_place (T : Txt K mg cl) {k : Nat} {c : Ct} {j_within : Nat} {c_within : Ct} (G_within : FnOk P wd K mg base (L2.CX P wd) j_within cl.f_within cl.d_within P_within (spD K c_within)) (h_within : j_within ≤ k) {j_places_of : Nat} {c_places_of : Ct} (G_places_of : FnOk P wd K mg base (L2.CX P wd) j_places_of cl.f_places_of cl.d_places_of P_places_of (spD K c_places_of)) (h_places_of : j_places_of ≤ k) (hlen : ∀ rs Q E, c rs Q E → rs.length = P_is_place.length)
    (hw : ∀ rs Q E, c rs Q E → w_is_place K cl c_within c_places_of (rho N_is_place.length rs) { nx := fun _ => Q (.s .none), rt := Q, er := fun cls _ => E cls }) :
    FnOk P wd K mg base (L2.CX P wd) (k + 1) cl.f_is_place cl.d_is_place P_is_place (spD K c) :=
  fnD T.F_is_place sc_is_place hlen (fun cdv A outer s H E hr => by
  have tk := takes_of (X := cxOf (L2.CX P wd) P wd K mg base N_is_place "is_place" (defScope s_is_place) cl.f_is_place cdv A outer s H E) rfl rfl rfl rfl
  exact (pds_one (pds_ret (pd_and (pd_call (pe_callS G_within (hr.mono h_within) (by rfl) T.m_within T.F_within.kp T.b_within (fun σ => passAt tk σ) (pda_cons (pd_var (pv 1)) (pda_cons pd_int (pda_cons (pd_frz (pd_op o_pow pd_int pd_int)) pda_nil))))) (pd_one (pd_or (pd_cmp (o_eq hr.units) (pd_var (pv 1)) pd_int (nomark _)) (pd_one (pd_cmp (o_in hr.units) (pd_var (pv 1)) (pd_call (pe_callS G_places_of (hr.mono h_places_of) (by rfl) T.m_places_of T.F_places_of.kp T.b_places_of (fun σ => passAt tk σ) (pda_cons (pd_var (pv 0)) pda_nil))) (by rfl))))))))) hw
def w_need_place (K : Frag) (cl : Ad) (c_need_state c_is_place : Ct) : SW :=
  (wSeq (wExpr (wCall c_need_state (wCons (wVar 0) wNil)))
  (wIfS (wNotT (wTst (wCall c_is_place (wCons (wVar 0) (wCons (wVar 1) wNil)))))
  (wRaise (.ref cl.c_BadPlace))
  wNext))
theorem ok_need_place (T : Txt K mg cl) {k : Nat} {c : Ct} {j_need_state : Nat} {c_need_state : Ct} (G_need_state : FnOk P wd K mg base (L2.CX P wd) j_need_state cl.f_need_state cl.d_need_state P_need_state (spD K c_need_state)) (h_need_state : j_need_state ≤ k) {j_is_place : Nat} {c_is_place : Ct} (G_is_place : FnOk P wd K mg base (L2.CX P wd) j_is_place cl.f_is_place cl.d_is_place P_is_place (spD K c_is_place)) (h_is_place : j_is_place ≤ k) (hlen : ∀ rs Q E, c rs Q E → rs.length = P_need_place.length)
    (hw : ∀ rs Q E, c rs Q E → w_need_place K cl c_need_state c_is_place (rho N_need_place.length rs) { nx := fun _ => Q (.s .none), rt := Q, er := fun cls _ => E cls }) :
    FnOk P wd K mg base (L2.CX P wd) (k + 1) cl.f_need_place cl.d_need_place P_need_place (spD K c) :=
  fnD T.F_need_place sc_need_place hlen (fun cdv A outer s H E hr => by
  have tk := takes_of (X := cxOf (L2.CX P wd) P wd K mg base N_need_place "need_place" (defScope s_need_place) cl.f_need_place cdv A outer s H E) rfl rfl rfl rfl
  exact (pds_cons (pds_expr (ps_expr (pd_call (pe_callS G_need_state (hr.mono h_need_state) (by rfl) T.m_need_state T.F_need_state.kp T.b_need_state (fun σ => passAt tk σ) (pda_cons (pd_var (pv 0)) pda_nil)))))
  (pds_one (pds_if (pdt_not (pdt_val (pd_call (pe_callS G_is_place (hr.mono h_is_place) (by rfl) T.m_is_place T.F_is_place.kp T.b_is_place (fun σ => passAt tk σ) (pda_cons (pd_var (pv 0)) (pda_cons (pd_var (pv 1)) pda_nil))))))
  (pds_one (pds_raise tk (pmk_own PySem.F.excBase_ValueError T.x_BadPlace T.g_BadPlace T.k_BadPlace (raises_own T.s_BadPlace T.t_BadPlace) (by rfl)) rfl))
  pds_nil)))) hw
def w_trail_in (K : Frag) (cl : Ad) (c_reached_by : Ct) : SW :=
  (wSeq (wAsg 2 (wCall1 fListB (wCons (wCall c_reached_by (wCons (wVar 0) (wCons (wFrz (wLst (wCons (wVar 1) wNil))) wNil))) wNil)))
  (wFrzS 2 (wRet (wTup (wCons (wVar 2) (wCons (wIf (wTst (wOp fNe (wVar 2) (wLst wNil))) (wOp fIx (wVar 0) (wOp fIx (wVar 2) (wUn fNeg (wC (.s (.int 1)))))) (wVar 1)) wNil))))))
theorem ok_trail_in (T : Txt K mg cl) {k : Nat} {c : Ct} {j_reached_by : Nat} {c_reached_by : Ct} (G_reached_by : FnOk P wd K mg base (L2.CX P wd) j_reached_by cl.f_reached_by cl.d_reached_by P_reached_by (spD K c_reached_by)) (h_reached_by : j_reached_by ≤ k) (hlen : ∀ rs Q E, c rs Q E → rs.length = P_trail_in.length)
    (hw : ∀ rs Q E, c rs Q E → w_trail_in K cl c_reached_by (rho N_trail_in.length rs) { nx := fun _ => Q (.s .none), rt := Q, er := fun cls _ => E cls }) :
    FnOk P wd K mg base (L2.CX P wd) (k + 1) cl.f_trail_in cl.d_trail_in P_trail_in (spD K c) :=
  fnD T.F_trail_in sc_trail_in hlen (fun cdv A outer s H E hr => by
  have tk := takes_of (X := cxOf (L2.CX P wd) P wd K mg base N_trail_in "trail_in" (defScope s_trail_in) cl.f_trail_in cdv A outer s H E) rfl rfl rfl rfl
  exact (pds_cons (pds_set (ps_set (i := 2) sc_trail_in.nd rfl (by first | exact Or.inl rfl | exact Or.inr rfl) (call_core (t := fun _ _ _ => True) (pe_callTy (c_listB rfl) (by rfl) T.n_list (by decide +kernel) (pda_cons (pd_call (pe_callS G_reached_by (hr.mono h_reached_by) (by rfl) T.m_reached_by T.F_reached_by.kp T.b_reached_by (fun σ => passAt tk σ) (pda_cons (pd_var (pv 0)) (pda_cons (pd_frz (pd_lst (pda_cons (pd_var (pv 1)) pda_nil))) pda_nil)))) pda_nil)))))
  (pds_one (pds_frz (i := 2) (pds_ret (pd_tup (pda_cons (pd_var (pv 2)) (pda_cons (pd_if (pdt_cmp (o_ne hr.units) (pd_var (pv 2)) (pd_lst pda_nil) (nomark _)) (pd_ix (o_ix hr.units) (pd_var (pv 0)) (pd_ix (o_ix hr.units) (pd_var (pv 2)) (pd_un o_neg pd_int) (fun _ _ => rfl)) (fun _ _ => rfl)) (pd_var (pv 1))) pda_nil)))))))) hw
def w_trail (K : Frag) (cl : Ad) (c_need_place c_trail_in : Ct) : SW :=
  (wSeq (wExpr (wCall c_need_place (wCons (wVar 0) (wCons (wVar 1) wNil))))
  (wSeq (wAsgT (wFrz (wCall c_trail_in (wCons (wFrz (wCall1 fDict (wCons (wOp fIx (wVar 0) (wC (.s (.int 1)))) wNil))) (wCons (wVar 1) wNil)))) (gwTup 2 (gwCons (gwName 2) (gwCons (gwName 3) gwNil))))
  (wRet (wTup (wCons (wCall1 fTuple (wCons (wVar 2) wNil)) (wCons (wVar 3) wNil))))))
theorem ok_trail (T : Txt K mg cl) {k : Nat} {c : Ct} {j_need_place : Nat} {c_need_place : Ct} (G_need_place : FnOk P wd K mg base (L2.CX P wd) j_need_place cl.f_need_place cl.d_need_place P_need_place (spD K c_need_place)) (h_need_place : j_need_place ≤ k) {j_trail_in : Nat} {c_trail_in : Ct} (G_trail_in : FnOk P wd K mg base (L2.CX P wd) j_trail_in cl.f_trail_in cl.d_trail_in P_trail_in (spD K c_trail_in)) (h_trail_in : j_trail_in ≤ k) (hlen : ∀ rs Q E, c rs Q E → rs.length = P_trail.length)
    (hw : ∀ rs Q E, c rs Q E → w_trail K cl c_need_place c_trail_in (rho N_trail.length rs) { nx := fun _ => Q (.s .none), rt := Q, er := fun cls _ => E cls }) :
    FnOk P wd K mg base (L2.CX P wd) (k + 1) cl.f_trail cl.d_trail P_trail (spD K c) :=
  fnD T.F_trail sc_trail hlen (fun cdv A outer s H E hr => by
  have tk := takes_of (X := cxOf (L2.CX P wd) P wd K mg base N_trail "trail" (defScope s_trail) cl.f_trail cdv A outer s H E) rfl rfl rfl rfl
  exact (pds_cons (pds_expr (ps_expr (pd_call (pe_callS G_need_place (hr.mono h_need_place) (by rfl) T.m_need_place T.F_need_place.kp T.b_need_place (fun σ => passAt tk σ) (pda_cons (pd_var (pv 0)) (pda_cons (pd_var (pv 1)) pda_nil))))))
  (pds_cons (pds_asgT (ps_asg (pd_frz (pd_call (pe_callS G_trail_in (hr.mono h_trail_in) (by rfl) T.m_trail_in T.F_trail_in.kp T.b_trail_in (fun σ => passAt tk σ) (pda_cons (pd_frz (call_core (t := fun _ _ _ => True) (pe_callTy (c_dict rfl) (by rfl) T.n_dict (by decide +kernel) (pda_cons (pd_ix (o_ix hr.units) (pd_var (pv 0)) pd_int (fun _ _ => rfl)) pda_nil)))) (pda_cons (pd_var (pv 1)) pda_nil))))) (pgd_tup (pg_tup rfl (pgds_cons (pgs_cons (pgd_name (pg_name (i := 2) sc_trail.nd rfl (by first | exact Or.inl rfl | exact Or.inr rfl))) (pgds_cons (pgs_cons (pgd_name (pg_name (i := 3) sc_trail.nd rfl (by first | exact Or.inl rfl | exact Or.inr rfl))) pgds_nil))))))))
  (pds_one (pds_ret (pd_tup (pda_cons (call_core (t := fun _ _ _ => True) (pe_callTy c_tuple (by rfl) T.n_tuple (by decide +kernel) (pda_cons (pd_var (pv 2)) pda_nil))) (pda_cons (pd_var (pv 3)) pda_nil)))))))) hw
def w_place_behind (K : Frag) (cl : Ad) (c_within c_need_place c_trail_in : Ct) : SW :=
  (wSeq (wExpr (wCall c_need_place (wCons (wVar 0) (wCons (wVar 1) wNil))))
  (wSeq (wIfS (wNotT (wTst (wCall c_within (wCons (wVar 2) (wCons (wC (.s (.int 0))) (wCons (wC (.s (.int 1000000000))) wNil))))))
  (wRaise (.ref cl.c_BadCount))
  wNext)
  (wSeq (wAsgT (wFrz (wCall c_trail_in (wCons (wFrz (wCall1 fDict (wCons (wOp fIx (wVar 0) (wC (.s (.int 1)))) wNil))) (wCons (wVar 1) wNil)))) (gwTup 2 (gwCons (gwName 3) (gwCons (gwName 4) gwNil))))
  (wSeq (wIfS (wTst (wOp fLt (wVar 2) (wCall1 fLen (wCons (wVar 3) wNil))))
  (wRet (wOp fIx (wVar 3) (wVar 2)))
  wNext)
  (wSeq (wIfS (wTst (wOp (fIn false) (wVar 4) (wVar 3)))
  (wSeq (wAsg 5 (wInd (wVar 3) (wCons (wVar 4) wNil)))
  (wRet (wOp fIx (wVar 3) (wOp fAdd (wVar 5) (wOp fMod (wOp fSub (wVar 2) (wVar 5)) (wOp fSub (wCall1 fLen (wCons (wVar 3) wNil)) (wVar 5)))))))
  wNext)
  (wRet (wIf (wTst (wOp fEq (wVar 2) (wCall1 fLen (wCons (wVar 3) wNil)))) (wVar 4) (wC (.s .none)))))))))
theorem ok_place_behind (T : Txt K mg cl) {k : Nat} {c : Ct} {j_within : Nat} {c_within : Ct} (G_within : FnOk P wd K mg base (L2.CX P wd) j_within cl.f_within cl.d_within P_within (spD K c_within)) (h_within : j_within ≤ k) {j_need_place : Nat} {c_need_place : Ct} (G_need_place : FnOk P wd K mg base (L2.CX P wd) j_need_place cl.f_need_place cl.d_need_place P_need_place (spD K c_need_place)) (h_need_place : j_need_place ≤ k) {j_trail_in : Nat} {c_trail_in : Ct} (G_trail_in : FnOk P wd K mg base (L2.CX P wd) j_trail_in cl.f_trail_in cl.d_trail_in P_trail_in (spD K c_trail_in)) (h_trail_in : j_trail_in ≤ k) (hlen : ∀ rs Q E, c rs Q E → rs.length = P_place_behind.length)
    (hw : ∀ rs Q E, c rs Q E → w_place_behind K cl c_within c_need_place c_trail_in (rho N_place_behind.length rs) { nx := fun _ => Q (.s .none), rt := Q, er := fun cls _ => E cls }) :
    FnOk P wd K mg base (L2.CX P wd) (k + 1) cl.f_place_behind cl.d_place_behind P_place_behind (spD K c) :=
  fnD T.F_place_behind sc_place_behind hlen (fun cdv A outer s H E hr => by
  have tk := takes_of (X := cxOf (L2.CX P wd) P wd K mg base N_place_behind "place_behind" (defScope s_place_behind) cl.f_place_behind cdv A outer s H E) rfl rfl rfl rfl
  exact (pds_cons (pds_expr (ps_expr (pd_call (pe_callS G_need_place (hr.mono h_need_place) (by rfl) T.m_need_place T.F_need_place.kp T.b_need_place (fun σ => passAt tk σ) (pda_cons (pd_var (pv 0)) (pda_cons (pd_var (pv 1)) pda_nil))))))
  (pds_cons (pds_if (pdt_not (pdt_val (pd_call (pe_callS G_within (hr.mono h_within) (by rfl) T.m_within T.F_within.kp T.b_within (fun σ => passAt tk σ) (pda_cons (pd_var (pv 2)) (pda_cons pd_int (pda_cons (pd_const (v := .int 1000000000) (d := .int 1000000000) (pe_glob (v := .int 1000000000) rfl T.v_MOST_COUNT.choose_spec ⟨_, rfl⟩) (fun _ => .int _)) pda_nil)))))))
  (pds_one (pds_raise tk (pmk_own PySem.F.excBase_ValueError T.x_BadCount T.g_BadCount T.k_BadCount (raises_own T.s_BadCount T.t_BadCount) (by rfl)) rfl))
  pds_nil)
  (pds_cons (pds_asgT (ps_asg (pd_frz (pd_call (pe_callS G_trail_in (hr.mono h_trail_in) (by rfl) T.m_trail_in T.F_trail_in.kp T.b_trail_in (fun σ => passAt tk σ) (pda_cons (pd_frz (call_core (t := fun _ _ _ => True) (pe_callTy (c_dict rfl) (by rfl) T.n_dict (by decide +kernel) (pda_cons (pd_ix (o_ix hr.units) (pd_var (pv 0)) pd_int (fun _ _ => rfl)) pda_nil)))) (pda_cons (pd_var (pv 1)) pda_nil))))) (pgd_tup (pg_tup rfl (pgds_cons (pgs_cons (pgd_name (pg_name (i := 3) sc_place_behind.nd rfl (by first | exact Or.inl rfl | exact Or.inr rfl))) (pgds_cons (pgs_cons (pgd_name (pg_name (i := 4) sc_place_behind.nd rfl (by first | exact Or.inl rfl | exact Or.inr rfl))) pgds_nil))))))))
  (pds_cons (pds_if (pdt_cmp (o_lt hr.units0) (pd_var (pv 2)) (call_core (t := fun _ _ _ => True) (pe_callB c_len (by rfl) T.n_len (by decide +kernel) (pda_cons (pd_var (pv 3)) pda_nil))) (nomark _))
  (pds_one (pds_ret (pd_ix (o_ix hr.units) (pd_var (pv 3)) (pd_var (pv 2)) (fun _ _ => rfl))))
  pds_nil)
  (pds_cons (pds_if (pdt_cmp (o_in hr.units) (pd_var (pv 4)) (pd_var (pv 3)) (by rfl))
  (pds_cons (pds_set (ps_set (i := 5) sc_place_behind.nd rfl (by first | exact Or.inl rfl | exact Or.inr rfl) (pd_ind (pe_bm PySem.F.plainAttrs_list PySem.F.slot_list_index PySem.F.type_list_index mt_indAny (pd_var (pv 3)) (pda_cons (pd_var (pv 4)) pda_nil)))))
  (pds_one (pds_ret (pd_ix (o_ix hr.units) (pd_var (pv 3)) (pd_op o_add (pd_var (pv 5)) (pd_op o_mod (pd_op o_sub (pd_var (pv 2)) (pd_var (pv 5))) (pd_op o_sub (call_core (t := fun _ _ _ => True) (pe_callB c_len (by rfl) T.n_len (by decide +kernel) (pda_cons (pd_var (pv 3)) pda_nil))) (pd_var (pv 5))))) (fun _ _ => rfl)))))
  pds_nil)
  (pds_one (pds_ret (pd_if (pdt_cmp (o_eq hr.units) (pd_var (pv 2)) (call_core (t := fun _ _ _ => True) (pe_callB c_len (by rfl) T.n_len (by decide +kernel) (pda_cons (pd_var (pv 3)) pda_nil))) (nomark _)) (pd_var (pv 4)) pd_non))))))))) hw
def w_steps_to (K : Frag) (cl : Ad) (c_is_place c_need_place c_trail_in : Ct) : SW :=
  (wSeq (wExpr (wCall c_need_place (wCons (wVar 0) (wCons (wVar 1) wNil))))
  (wSeq (wIfS (wNotT (wTst (wCall c_is_place (wCons (wVar 0) (wCons (wVar 2) wNil)))))
  (wRaise (.ref cl.c_BadOther))
  wNext)
  (wSeq (wAsgT (wFrz (wCall c_trail_in (wCons (wFrz (wCall1 fDict (wCons (wOp fIx (wVar 0) (wC (.s (.int 1)))) wNil))) (wCons (wVar 1) wNil)))) (gwTup 2 (gwCons (gwName 3) (gwCons (gwName 4) gwNil))))
  (wSeq (wIfS (wTst (wOp (fIn false) (wVar 2) (wVar 3)))
  (wRet (wInd (wVar 3) (wCons (wVar 2) wNil)))
  wNext)
  (wRet (wIf (wTst (wOp fEq (wVar 2) (wVar 4))) (wCall1 fLen (wCons (wVar 3) wNil)) (wC (.s .none))))))))
theorem ok_steps_to (T : Txt K mg cl) {k : Nat} {c : Ct} {j_is_place : Nat} {c_is_place : Ct} (G_is_place : FnOk P wd K mg base (L2.CX P wd) j_is_place cl.f_is_place cl.d_is_place P_is_place (spD K c_is_place)) (h_is_place : j_is_place ≤ k) {j_need_place : Nat} {c_need_place : Ct} (G_need_place : FnOk P wd K mg base (L2.CX P wd) j_need_place cl.f_need_place cl.d_need_place P_need_place (spD K c_need_place)) (h_need_place : j_need_place ≤ k) {j_trail_in : Nat} {c_trail_in : Ct} (G_trail_in : FnOk P wd K mg base (L2.CX P wd) j_trail_in cl.f_trail_in cl.d_trail_in P_trail_in (spD K c_trail_in)) (h_trail_in : j_trail_in ≤ k) (hlen : ∀ rs Q E, c rs Q E → rs.length = P_steps_to.length)
    (hw : ∀ rs Q E, c rs Q E → w_steps_to K cl c_is_place c_need_place c_trail_in (rho N_steps_to.length rs) { nx := fun _ => Q (.s .none), rt := Q, er := fun cls _ => E cls }) :
    FnOk P wd K mg base (L2.CX P wd) (k + 1) cl.f_steps_to cl.d_steps_to P_steps_to (spD K c) :=
  fnD T.F_steps_to sc_steps_to hlen (fun cdv A outer s H E hr => by
  have tk := takes_of (X := cxOf (L2.CX P wd) P wd K mg base N_steps_to "steps_to" (defScope s_steps_to) cl.f_steps_to cdv A outer s H E) rfl rfl rfl rfl
  exact (pds_cons (pds_expr (ps_expr (pd_call (pe_callS G_need_place (hr.mono h_need_place) (by rfl) T.m_need_place T.F_need_place.kp T.b_need_place (fun σ => passAt tk σ) (pda_cons (pd_var (pv 0)) (pda_cons (pd_var (pv 1)) pda_nil))))))
  (pds_cons (pds_if (pdt_not (pdt_val (pd_call (pe_callS G_is_place (hr.mono h_is_place) (by rfl) T.m_is_place T.F_is_place.kp T.b_is_place (fun σ => passAt tk σ) (pda_cons (pd_var (pv 0)) (pda_cons (pd_var (pv 2)) pda_nil))))))
  (pds_one (pds_raise tk (pmk_own PySem.F.excBase_ValueError T.x_BadOther T.g_BadOther T.k_BadOther (raises_own T.s_BadOther T.t_BadOther) (by rfl)) rfl))
  pds_nil)
  (pds_cons (pds_asgT (ps_asg (pd_frz (pd_call (pe_callS G_trail_in (hr.mono h_trail_in) (by rfl) T.m_trail_in T.F_trail_in.kp T.b_trail_in (fun σ => passAt tk σ) (pda_cons (pd_frz (call_core (t := fun _ _ _ => True) (pe_callTy (c_dict rfl) (by rfl) T.n_dict (by decide +kernel) (pda_cons (pd_ix (o_ix hr.units) (pd_var (pv 0)) pd_int (fun _ _ => rfl)) pda_nil)))) (pda_cons (pd_var (pv 1)) pda_nil))))) (pgd_tup (pg_tup rfl (pgds_cons (pgs_cons (pgd_name (pg_name (i := 3) sc_steps_to.nd rfl (by first | exact Or.inl rfl | exact Or.inr rfl))) (pgds_cons (pgs_cons (pgd_name (pg_name (i := 4) sc_steps_to.nd rfl (by first | exact Or.inl rfl | exact Or.inr rfl))) pgds_nil))))))))
  (pds_cons (pds_if (pdt_cmp (o_in hr.units) (pd_var (pv 2)) (pd_var (pv 3)) (by rfl))
  (pds_one (pds_ret (pd_ind (pe_bm PySem.F.plainAttrs_list PySem.F.slot_list_index PySem.F.type_list_index mt_indAny (pd_var (pv 3)) (pda_cons (pd_var (pv 2)) pda_nil)))))
  pds_nil)
  (pds_one (pds_ret (pd_if (pdt_cmp (o_eq hr.units) (pd_var (pv 2)) (pd_var (pv 4)) (nomark _)) (call_core (t := fun _ _ _ => True) (pe_callB c_len (by rfl) T.n_len (by decide +kernel) (pda_cons (pd_var (pv 3)) pda_nil))) pd_non)))))))) hw
def w_law_same_b1 (K : Frag) (cl : Ad) : SW :=
  (wSeq (wPop 2 (gwTup 2 (gwCons (gwName 3) (gwCons (gwName 4) gwNil))))
  (wIfS (wTst (wIsi isT (wVar 4)))
  (wSeq (wIfS (wOrT (wNotT (wTst (wIsi isT (wVar 3)))) (wTst (wOp fNe (wCall1 fLen (wCons (wVar 3) wNil)) (wCall1 fLen (wCons (wVar 4) wNil)))))
  (wRet (wC (.s (.bool false))))
  wNext)
  (wExt 2 (wLc (wRange1 (wCons (wCall1 fLen (wCons (wVar 4) wNil)) wNil)) false [5] [5] wYes (wTup (wCons (wOp fIx (wVar 3) (wVar 5)) (wCons (wOp fIx (wVar 4) (wVar 5)) wNil))))))
  (wIfS (wTst (wOp (fIs false) (wVar 4) (wC (.s .none))))
  (wIfS (wTst (wOp (fIs true) (wVar 3) (wC (.s .none))))
  (wRet (wC (.s (.bool false))))
  wNext)
  (wIfS (wTst (wIsi isB (wVar 4)))
  (wIfS (wOrT (wNotT (wTst (wIsi isB (wVar 3)))) (wTst (wOp fNe (wVar 3) (wVar 4))))
  (wRet (wC (.s (.bool false))))
  wNext)
  (wIfS (wTst (wIsi isS (wVar 4)))
  (wIfS (wOrT (wNotT (wTst (wIsi isS (wVar 3)))) (wTst (wOp fNe (wVar 3) (wVar 4))))
  (wRet (wC (.s (.bool false))))
  wNext)
  (wIfS (wOrT (wNotT (wTst (wIsi isI (wVar 3)))) (wOrT (wTst (wIsi isB (wVar 3))) (wTst (wOp fNe (wVar 3) (wVar 4)))))
  (wRet (wC (.s (.bool false))))
  wNext))))))
def w_law_same (K : Frag) (cl : Ad) : SW :=
  (wSeq (wAsg 2 (wLst (wCons (wTup (wCons (wVar 0) (wCons (wVar 1) wNil))) wNil)))
  (wSeq (wWhile (wTst (wOp fNe (wVar 2) (wLst wNil))) (w_law_same_b1 K cl))
  (wRet (wC (.s (.bool true))))))
theorem ok_law_same (T : Txt K mg cl) {k : Nat} {c : Ct} (hlen : ∀ rs Q E, c rs Q E → rs.length = P_law_same.length)
    (hw : ∀ rs Q E, c rs Q E → w_law_same K cl (rho N_law_same.length rs) { nx := fun _ => Q (.s .none), rt := Q, er := fun cls _ => E cls }) :
    FnOk P wd K mg base (L2.CX P wd) (k + 1) cl.f_law_same cl.d_law_same P_law_same (spD K c) :=
  fnD T.F_law_same sc_law_same hlen (fun cdv A outer s H E hr => by
  have tk := takes_of (X := cxOf (L2.CX P wd) P wd K mg base N_law_same "_law_same" (defScope s_law_same) cl.f_law_same cdv A outer s H E) rfl rfl rfl rfl
  exact (pds_cons (pds_set (ps_set (i := 2) sc_law_same.nd rfl (by first | exact Or.inl rfl | exact Or.inr rfl) (pd_lst (pda_cons (pd_tup (pda_cons (pd_var (pv 0)) (pda_cons (pd_var (pv 1)) pda_nil))) pda_nil))))
  (pds_cons (pds_while (passes_of rfl) (pdt_cmp (o_ne hr.units) (pd_var (pv 2)) (pd_lst pda_nil) (nomark _)) (pds_cons (pds_pop (i := 2) (ps_asg (pe_bm0 PySem.F.plainAttrs_list PySem.F.slot_list_pop PySem.F.type_list_pop mt_pop (pv 2)) (pgd_tup (pg_tup rfl (pgds_cons (pgs_cons (pgd_name (pg_name (i := 3) sc_law_same.nd rfl (by first | exact Or.inl rfl | exact Or.inr rfl))) (pgds_cons (pgs_cons (pgd_name (pg_name (i := 4) sc_law_same.nd rfl (by first | exact Or.inl rfl | exact Or.inr rfl))) pgds_nil))))))))
  (pds_one (pds_if (pdt_val (pd_isi (pe_callB call_isi (by rfl) T.n_isinstance (by decide +kernel) (pa_cons (pd_var (pv 4)) (pa_cons (pe_bltn (by rfl) T.n_tuple (by decide +kernel) rfl) pa_nil))) kit_tuple))
  (pds_cons (pds_if (pdt_w (pdw_or (pdt_not (pdt_val (pd_isi (pe_callB call_isi (by rfl) T.n_isinstance (by decide +kernel) (pa_cons (pd_var (pv 3)) (pa_cons (pe_bltn (by rfl) T.n_tuple (by decide +kernel) rfl) pa_nil))) kit_tuple))) (pdw_or1 (pdt_cmp (o_ne hr.units) (call_core (t := fun _ _ _ => True) (pe_callB c_len (by rfl) T.n_len (by decide +kernel) (pda_cons (pd_var (pv 3)) pda_nil))) (call_core (t := fun _ _ _ => True) (pe_callB c_len (by rfl) T.n_len (by decide +kernel) (pda_cons (pd_var (pv 4)) pda_nil))) (nomark _)))))
  (pds_one (pds_ret pd_bl))
  pds_nil)
  (pds_one (pds_ext (i := 2) (ps_expr (pe_bm PySem.F.plainAttrs_list PySem.F.slot_list_extend PySem.F.type_list_extend mt_extB (pv 2) (pa_cons (pd_lc (tup := false) (is := [5]) (pe_lc (own := [("k", 5)]) (g := gC K false [5]) rfl sc_law_same.nd (pic_range1 (pi_range1 (by rfl) T.n_range (pda_cons (call_core (t := fun _ _ _ => True) (pe_callB c_len (by rfl) T.n_len (by decide +kernel) (pda_cons (pd_var (pv 4)) pda_nil))) pda_nil))) (blkOk_by (own := [("k", 5)]) (N := N_law_same) (sc := defScope s_law_same) (by decide +kernel)) (fun _ _ _ _ _ => (pg_name (i := 5) sc_law_same.nd rfl (by first | exact Or.inl rfl | exact Or.inr rfl))) (fun _ _ _ _ _ => pdts_nil) (fun _ _ _ _ _ => (pd_tup (pda_cons (pd_ix (o_ix hr.units) (pd_var (pv 3)) (pd_var (pv 5)) (fun _ _ => rfl)) (pda_cons (pd_ix (o_ix hr.units) (pd_var (pv 4)) (pd_var (pv 5)) (fun _ _ => rfl)) pda_nil))))) (by decide) (by first | exact Or.inl rfl | exact Or.inr ⟨_, rfl⟩)) pa_nil))))))
  (pds_one (pds_if (pdt_cmp o_is (pd_var (pv 4)) pd_non (nomark _))
  (pds_one (pds_if (pdt_cmp o_isNot (pd_var (pv 3)) pd_non (nomark _))
  (pds_one (pds_ret pd_bl))
  pds_nil))
  (pds_one (pds_if (pdt_val (pd_isi (pe_callB call_isi (by rfl) T.n_isinstance (by decide +kernel) (pa_cons (pd_var (pv 4)) (pa_cons (pe_bltn (by rfl) T.n_bool (by decide +kernel) rfl) pa_nil))) kit_bool))
  (pds_one (pds_if (pdt_w (pdw_or (pdt_not (pdt_val (pd_isi (pe_callB call_isi (by rfl) T.n_isinstance (by decide +kernel) (pa_cons (pd_var (pv 3)) (pa_cons (pe_bltn (by rfl) T.n_bool (by decide +kernel) rfl) pa_nil))) kit_bool))) (pdw_or1 (pdt_cmp (o_ne hr.units) (pd_var (pv 3)) (pd_var (pv 4)) (nomark _)))))
  (pds_one (pds_ret pd_bl))
  pds_nil))
  (pds_one (pds_if (pdt_val (pd_isi (pe_callB call_isi (by rfl) T.n_isinstance (by decide +kernel) (pa_cons (pd_var (pv 4)) (pa_cons (pe_bltn (by rfl) T.n_str (by decide +kernel) rfl) pa_nil))) kit_str))
  (pds_one (pds_if (pdt_w (pdw_or (pdt_not (pdt_val (pd_isi (pe_callB call_isi (by rfl) T.n_isinstance (by decide +kernel) (pa_cons (pd_var (pv 3)) (pa_cons (pe_bltn (by rfl) T.n_str (by decide +kernel) rfl) pa_nil))) kit_str))) (pdw_or1 (pdt_cmp (o_ne hr.units) (pd_var (pv 3)) (pd_var (pv 4)) (nomark _)))))
  (pds_one (pds_ret pd_bl))
  pds_nil))
  (pds_one (pds_if (pdt_w (pdw_or (pdt_not (pdt_val (pd_isi (pe_callB call_isi (by rfl) T.n_isinstance (by decide +kernel) (pa_cons (pd_var (pv 3)) (pa_cons (pe_bltn (by rfl) T.n_int (by decide +kernel) rfl) pa_nil))) kit_int))) (pdw_or (pdt_val (pd_isi (pe_callB call_isi (by rfl) T.n_isinstance (by decide +kernel) (pa_cons (pd_var (pv 3)) (pa_cons (pe_bltn (by rfl) T.n_bool (by decide +kernel) rfl) pa_nil))) kit_bool)) (pdw_or1 (pdt_cmp (o_ne hr.units) (pd_var (pv 3)) (pd_var (pv 4)) (nomark _))))))
  (pds_one (pds_ret pd_bl))
  pds_nil))))))))))))
  (pds_one (pds_ret pd_bl))))) hw
def w_law_places_b1 (K : Frag) (cl : Ad) : SW :=
  (wExt 1 (wLst (wCons (wVar 2) (wCons (wVar 3) wNil))))
def w_law_places (K : Frag) (cl : Ad) : SW :=
  (wSeq (wAsg 1 (wCall1 fList (wCons (wOp fIx (wVar 0) (wC (.s (.int 0)))) wNil)))
  (wSeq (wFor (wSeqF (wOp fIx (wVar 0) (wC (.s (.int 1))))) (gwTup 2 (gwCons (gwName 2) (gwCons (gwName 3) gwNil))) (w_law_places_b1 K cl))
  (wRet (wLc (wSeqC (wSortSet (wVar 1))) false [2] [2] (wTst (wOp fGt (wVar 2) (wC (.s (.int 0))))) (wVar 2)))))
theorem ok_law_places (T : Txt K mg cl) {k : Nat} {c : Ct} (hlen : ∀ rs Q E, c rs Q E → rs.length = P_law_places.length)
    (hw : ∀ rs Q E, c rs Q E → w_law_places K cl (rho N_law_places.length rs) { nx := fun _ => Q (.s .none), rt := Q, er := fun cls _ => E cls }) :
    FnOk P wd K mg base (L2.CX P wd) (k + 1) cl.f_law_places cl.d_law_places P_law_places (spD K c) :=
  fnD T.F_law_places sc_law_places hlen (fun cdv A outer s H E hr => by
  have tk := takes_of (X := cxOf (L2.CX P wd) P wd K mg base N_law_places "_law_places" (defScope s_law_places) cl.f_law_places cdv A outer s H E) rfl rfl rfl rfl
  exact (pds_cons (pds_set (ps_set (i := 1) sc_law_places.nd rfl (by first | exact Or.inl rfl | exact Or.inr rfl) (call_core (t := fun _ _ _ => True) (pe_callTy c_list (by rfl) T.n_list (by decide +kernel) (pda_cons (pd_ix (o_ix hr.units) (pd_var (pv 0)) pd_int (fun _ _ => rfl)) pda_nil)))))
  (pds_cons (pds_for (ps_for (passes_of rfl) rfl (pif_seq (pd_ix (o_ix hr.units) (pd_var (pv 0)) pd_int (fun _ _ => rfl))) (pgd_tup (pg_tup rfl (pgds_cons (pgs_cons (pgd_name (pg_name (i := 2) sc_law_places.nd rfl (by first | exact Or.inl rfl | exact Or.inr rfl))) (pgds_cons (pgs_cons (pgd_name (pg_name (i := 3) sc_law_places.nd rfl (by first | exact Or.inl rfl | exact Or.inr rfl))) pgds_nil)))))) (pds_one (pds_ext (i := 1) (ps_expr (pe_bm PySem.F.plainAttrs_list PySem.F.slot_list_extend PySem.F.type_list_extend mt_extB (pv 1) (pa_cons (pd_lst (pda_cons (pd_var (pv 2)) (pda_cons (pd_var (pv 3)) pda_nil))) pa_nil)))))))
  (pds_one (pds_ret (pd_lc (tup := false) (is := [2]) (pe_lc (own := [("place", 2)]) (g := gC K false [2]) rfl sc_law_places.nd (pic_seq (pd_sortSet (pe_callB (cr_setAny rfl) (by rfl) T.n_sorted (by decide +kernel) (pa_cons (pe_callTy (c_setL rfl) (by rfl) T.n_set (by decide +kernel) (pa_cons (pd_var (pv 1)) pa_nil)) pa_nil)))) (blkOk_by (own := [("place", 2)]) (N := N_law_places) (sc := defScope s_law_places) (by decide +kernel)) (fun _ _ _ _ _ => (pg_name (i := 2) sc_law_places.nd rfl (by first | exact Or.inl rfl | exact Or.inr rfl))) (fun _ _ _ _ _ => (pdts_one (pdt_cmp o_gt (pd_var (pv 2)) pd_int (nomark _)))) (fun _ _ _ _ _ => (pd_var (pv 2)))) (by decide) (by first | exact Or.inl rfl | exact Or.inr ⟨_, rfl⟩))))))) hw
def w_law_made_t1 (K : Frag) (cl : Ad) (c_law_pick : Ct) : SW :=
  (wAsg 5 (wOp fAdd (wVar 5) (wC (.s (.int 1)))))
def w_law_made_b2 (K : Frag) (cl : Ad) (c_law_pick : Ct) : SW :=
  (wSetIx 4 (wFrz (wOp fAdd (wOp fAdd (wVar 5) (wVar 11)) (wC (.s (.int 1))))) (wOp fAdd (wVar 5) (wVar 11)))
def w_law_made_t3 (K : Frag) (cl : Ad) (c_law_pick : Ct) : SW :=
  (wAsg 5 (wOp fAdd (wOp fAdd (wVar 5) (wVar 9)) (wIf (wTst (wOp fEq (wVar 10) (wOp fAdd (wVar 5) (wVar 9)))) (wC (.s (.int 1))) (wC (.s (.int 0))))))
def w_law_made_t4 (K : Frag) (cl : Ad) (c_law_pick : Ct) : SW :=
  (wSeq (wAppend 6 (wVar 5))
  (w_law_made_t3 K cl c_law_pick))
def w_law_made_t5 (K : Frag) (cl : Ad) (c_law_pick : Ct) : SW :=
  (wSeq (wSetIx 4 (wIf (wTst (wOp fGt (wVar 10) (wOp fAdd (wVar 5) (wVar 9)))) (wC (.s (.int 0))) (wVar 10)) (wOp fSub (wOp fAdd (wVar 5) (wVar 9)) (wC (.s (.int 1)))))
  (w_law_made_t4 K cl c_law_pick))
def w_law_made_t6 (K : Frag) (cl : Ad) (c_law_pick : Ct) : SW :=
  (wSeq (wFor (wRange1 (wCons (wVar 9) wNil)) (gwName 11) (w_law_made_b2 K cl c_law_pick))
  (w_law_made_t5 K cl c_law_pick))
def w_law_made_t7 (K : Frag) (cl : Ad) (c_law_pick : Ct) : SW :=
  (wIfS (wTst (wOp fEq (wVar 8) (wC (.s (.int 0)))))
  (wAppend 6 (wCall c_law_pick (wCons (wVar 0) (wCons (wVar 5) wNil))))
  (wIfS (wOrT (wTst (wOp fEq (wVar 8) (wC (.s (.int 1))))) (wTst (wOp fLt (wVar 9) (wC (.s (.int 1))))))
  (wSeq (wAppend 6 (wVar 5))
  (w_law_made_t1 K cl c_law_pick))
  (wSeq (wAsg 10 (wCall c_law_pick (wCons (wVar 0) (wCons (wFrz (wOp fAdd (wOp fAdd (wVar 5) (wVar 9)) (wC (.s (.int 4))))) wNil))))
  (w_law_made_t6 K cl c_law_pick))))
def w_law_made_t8 (K : Frag) (cl : Ad) (c_law_pick : Ct) : SW :=
  (wSeq (wAsg 9 (wCall1 fMin2 (wCons (wVar 9) (wCons (wOp fSub (wVar 3) (wCall1 fLen (wCons (wVar 4) wNil))) wNil))))
  (w_law_made_t7 K cl c_law_pick))
def w_law_made_t9 (K : Frag) (cl : Ad) (c_law_pick : Ct) : SW :=
  (wSeq (wAsg 9 (wOp fAdd (wC (.s (.int 1))) (wCall c_law_pick (wCons (wVar 0) (wCons (wIf (wTst (wOp fEq (wCall c_law_pick (wCons (wVar 0) (wCons (wC (.s (.int 8))) wNil))) (wC (.s (.int 0))))) (wC (.s (.int 14))) (wC (.s (.int 4)))) wNil)))))
  (w_law_made_t8 K cl c_law_pick))
def w_law_made_b10 (K : Frag) (cl : Ad) (c_law_pick : Ct) : SW :=
  (wSeq (wAsg 8 (wCall c_law_pick (wCons (wVar 0) (wCons (wC (.s (.int 6))) wNil))))
  (w_law_made_t9 K cl c_law_pick))
def w_law_made_t11 (K : Frag) (cl : Ad) (c_law_pick : Ct) : SW :=
  (wRet (wTup (wCons (wCall1 fTuple (wCons (wVar 12) wNil)) (wCons (wCall1 fTuple (wCons (wSortIt (wVar 4)) wNil)) wNil))))
def w_law_made_t12 (K : Frag) (cl : Ad) (c_law_pick : Ct) : SW :=
  (wSeq (wPopAll 12 6 7 (wRange1 (wCons (wVar 1) wNil)) (wCall c_law_pick (wCons (wVar 0) (wCons (wCall1 fLen (wCons (wVar 6) wNil)) wNil))))
  (w_law_made_t11 K cl c_law_pick))
def w_law_made_t13 (K : Frag) (cl : Ad) (c_law_pick : Ct) : SW :=
  (wSeq (wFor (wRange1 (wCons (wOp fAdd (wVar 1) (wVar 2)) wNil)) (gwName 7) (w_law_made_b10 K cl c_law_pick))
  (w_law_made_t12 K cl c_law_pick))
def w_law_made (K : Frag) (cl : Ad) (c_law_pick : Ct) : SW :=
  (wSeq (wParN [4, 5, 6] (wCons wDNew (wCons (wC (.s (.int 1))) (wCons (wLst wNil) wNil))))
  (w_law_made_t13 K cl c_law_pick))
theorem ok_law_made (T : Txt K mg cl) {k : Nat} {c : Ct} {j_law_pick : Nat} {c_law_pick : Ct} (G_law_pick : FnOk P wd K mg base (L2.CX P wd) j_law_pick cl.f_law_pick cl.d_law_pick P_law_pick (spD K c_law_pick)) (h_law_pick : j_law_pick ≤ k) (hlen : ∀ rs Q E, c rs Q E → rs.length = P_law_made.length)
    (hw : ∀ rs Q E, c rs Q E → w_law_made K cl c_law_pick (rho N_law_made.length rs) { nx := fun _ => Q (.s .none), rt := Q, er := fun cls _ => E cls }) :
    FnOk P wd K mg base (L2.CX P wd) (k + 1) cl.f_law_made cl.d_law_made P_law_made (spD K c) :=
  fnD T.F_law_made sc_law_made hlen (fun cdv A outer s H E hr => by
  have tk := takes_of (X := cxOf (L2.CX P wd) P wd K mg base N_law_made "_law_made" (defScope s_law_made) cl.f_law_made cdv A outer s H E) rfl rfl rfl rfl
  exact (pds_cons (pds_parT (is := [4, 5, 6]) (by decide) (ps_asg (peN_tup (pda_cons (pd_dnew pe_dnewK) (pda_cons pd_int (pda_cons (pd_lst pda_nil) pda_nil)))) (pg_tup rfl (pgs_cons (pg_name (i := 4) sc_law_made.nd rfl (by first | exact Or.inl rfl | exact Or.inr rfl)) (pgs_cons (pg_name (i := 5) sc_law_made.nd rfl (by first | exact Or.inl rfl | exact Or.inr rfl)) (pgs_cons (pg_name (i := 6) sc_law_made.nd rfl (by first | exact Or.inl rfl | exact Or.inr rfl)) pgs_nil))))))
  (pds_cons (pds_for (ps_for (passes_of rfl) rfl (pif_range1 (pi_range1 (by rfl) T.n_range (pda_cons (pd_op o_add (pd_var (pv 1)) (pd_var (pv 2))) pda_nil))) (pgd_name (pg_name (i := 7) sc_law_made.nd rfl (by first | exact Or.inl rfl | exact Or.inr rfl))) (pds_cons (pds_set (ps_set (i := 8) sc_law_made.nd rfl (by first | exact Or.inl rfl | exact Or.inr rfl) (pd_call (pe_callS G_law_pick (hr.mono h_law_pick) (by rfl) T.m_law_pick T.F_law_pick.kp T.b_law_pick (fun σ => passAt tk σ) (pda_cons (pd_var (pv 0)) (pda_cons pd_int pda_nil))))))
  (pds_cons (pds_set (ps_set (i := 9) sc_law_made.nd rfl (by first | exact Or.inl rfl | exact Or.inr rfl) (pd_op o_add pd_int (pd_call (pe_callS G_law_pick (hr.mono h_law_pick) (by rfl) T.m_law_pick T.F_law_pick.kp T.b_law_pick (fun σ => passAt tk σ) (pda_cons (pd_var (pv 0)) (pda_cons (pd_if (pdt_cmp (o_eq hr.units) (pd_call (pe_callS G_law_pick (hr.mono h_law_pick) (by rfl) T.m_law_pick T.F_law_pick.kp T.b_law_pick (fun σ => passAt tk σ) (pda_cons (pd_var (pv 0)) (pda_cons pd_int pda_nil)))) pd_int (nomark _)) pd_int pd_int) pda_nil)))))))
  (pds_cons (pds_set (ps_set (i := 9) sc_law_made.nd rfl (by first | exact Or.inl rfl | exact Or.inr rfl) (call_core (t := fun _ _ _ => True) (pe_callB (c_min2 rfl) (by rfl) T.n_min (by decide +kernel) (pda_cons (pd_var (pv 9)) (pda_cons (pd_op o_sub (pd_var (pv 3)) (call_core (t := fun _ _ _ => True) (pe_callB c_len (by rfl) T.n_len (by decide +kernel) (pda_cons (pd_var (pv 4)) pda_nil)))) pda_nil))))))
  (pds_one (pds_if (pdt_cmp (o_eq hr.units) (pd_var (pv 8)) pd_int (nomark _))
  (pds_one (pds_append (i := 6) (ps_expr (pe_bm PySem.F.plainAttrs_list PySem.F.slot_list_append PySem.F.type_list_append mt_append (pv 6) (pa_cons (pd_call (pe_callS G_law_pick (hr.mono h_law_pick) (by rfl) T.m_law_pick T.F_law_pick.kp T.b_law_pick (fun σ => passAt tk σ) (pda_cons (pd_var (pv 0)) (pda_cons (pd_var (pv 5)) pda_nil)))) pa_nil)))))
  (pds_one (pds_if (pdt_w (pdw_or (pdt_cmp (o_eq hr.units) (pd_var (pv 8)) pd_int (nomark _)) (pdw_or1 (pdt_cmp (o_lt hr.units0) (pd_var (pv 9)) pd_int (nomark _)))))
  (pds_cons (pds_append (i := 6) (ps_expr (pe_bm PySem.F.plainAttrs_list PySem.F.slot_list_append PySem.F.type_list_append mt_append (pv 6) (pa_cons (pd_var (pv 5)) pa_nil))))
  (pds_one (pds_set (ps_set (i := 5) sc_law_made.nd rfl (by first | exact Or.inl rfl | exact Or.inr rfl) (pd_op o_add (pd_var (pv 5)) pd_int)))))
  (pds_cons (pds_set (ps_set (i := 10) sc_law_made.nd rfl (by first | exact Or.inl rfl | exact Or.inr rfl) (pd_call (pe_callS G_law_pick (hr.mono h_law_pick) (by rfl) T.m_law_pick T.F_law_pick.kp T.b_law_pick (fun σ => passAt tk σ) (pda_cons (pd_var (pv 0)) (pda_cons (pd_frz (pd_op o_add (pd_op o_add (pd_var (pv 5)) (pd_var (pv 9))) pd_int)) pda_nil))))))
  (pds_cons (pds_for (ps_for (passes_of rfl) rfl (pif_range1 (pi_range1 (by rfl) T.n_range (pda_cons (pd_var (pv 9)) pda_nil))) (pgd_name (pg_name (i := 11) sc_law_made.nd rfl (by first | exact Or.inl rfl | exact Or.inr rfl))) (pds_one (pds_setIx (i := 4) (ps_asg (pd_frz (pd_op o_add (pd_op o_add (pd_var (pv 5)) (pd_var (pv 11))) pd_int)) (pg_sub (pv 4) (pd_op o_add (pd_var (pv 5)) (pd_var (pv 11))) (set_both hr.units)))))))
  (pds_cons (pds_setIx (i := 4) (ps_asg (pd_if (pdt_cmp o_gt (pd_var (pv 10)) (pd_op o_add (pd_var (pv 5)) (pd_var (pv 9))) (nomark _)) pd_int (pd_var (pv 10))) (pg_sub (pv 4) (pd_op o_sub (pd_op o_add (pd_var (pv 5)) (pd_var (pv 9))) pd_int) (set_both hr.units))))
  (pds_cons (pds_append (i := 6) (ps_expr (pe_bm PySem.F.plainAttrs_list PySem.F.slot_list_append PySem.F.type_list_append mt_append (pv 6) (pa_cons (pd_var (pv 5)) pa_nil))))
  (pds_one (pds_set (ps_set (i := 5) sc_law_made.nd rfl (by first | exact Or.inl rfl | exact Or.inr rfl) (pd_op o_add (pd_op o_add (pd_var (pv 5)) (pd_var (pv 9))) (pd_if (pdt_cmp (o_eq hr.units) (pd_var (pv 10)) (pd_op o_add (pd_var (pv 5)) (pd_var (pv 9))) (nomark _)) pd_int pd_int))))))))))))))))))
  (pds_cons (pds_popAll (t := 12) (i := 6) (k := 7) (ps_setLc (i := 12) (own := [("k", 7)]) (g := gC K false [7]) rfl sc_law_made.nd rfl rfl (sw_true rfl rfl rfl (by decide +kernel)) (pif_range1 (pi_range1 (by rfl) T.n_range (pda_cons (pd_var (pv 1)) pda_nil))) (blkOk_by (own := [("k", 7)]) (N := N_law_made) (sc := defScope s_law_made) (by decide +kernel)) (fun _ _ _ _ _ => (pg_name (i := 7) sc_law_made.nd rfl (by first | exact Or.inl rfl | exact Or.inr rfl))) (fun _ _ _ _ _ => pdts_nil) (fun _ _ _ _ _ => (pe_bm PySem.F.plainAttrs_list PySem.F.slot_list_pop PySem.F.type_list_pop mt_popAt (pv 6) (pa_cons (pd_call (pe_callS G_law_pick (hr.mono h_law_pick) (by rfl) T.m_law_pick T.F_law_pick.kp T.b_law_pick (fun σ => passAt takes0 σ) (pda_cons (pd_var (pv 0)) (pda_cons (call_core (t := fun _ _ _ => True) (pe_callB c_len (by rfl) T.n_len (by decide +kernel) (pda_cons (pd_var (pv 6)) pda_nil))) pda_nil)))) pa_nil)))) (by decide))
  (pds_one (pds_ret (pd_tup (pda_cons (call_core (t := fun _ _ _ => True) (pe_callTy c_tuple (by rfl) T.n_tuple (by decide +kernel) (pda_cons (pd_var (pv 12)) pda_nil))) (pda_cons (call_core (t := fun _ _ _ => True) (pe_callTy c_tuple (by rfl) T.n_tuple (by decide +kernel) (pda_cons (pd_sortIt (pe_callB (c_sortIt rfl hr.units) (by rfl) T.n_sorted (by decide +kernel) (pa_cons (pe_bm0 PySem.F.plainAttrs_dict PySem.F.slot_dict_items PySem.F.type_dict_items mt_itemsK (pd_var (pv 4))) pa_nil))) pda_nil))) pda_nil))))))))) hw
def w_law_by (K : Frag) (cl : Ad) : SW :=
  (wSeq (wAsg 2 (wCall1 fSorted (wCons (wLc (wSeqC (wOp fIx (wVar 0) (wC (.s (.int 1))))) true [3, 4] [3, 4] wYes (wTup (wCons (wOp fIx (wVar 1) (wVar 3)) (wCons (wOp fIx (wVar 1) (wVar 4)) wNil)))) wNil)))
  (wRet (wTup (wCons (wCall1 fTuple (wCons (wLc (wSeqC (wOp fIx (wVar 0) (wC (.s (.int 0))))) false [3] [3] wYes (wOp fIx (wVar 1) (wVar 3))) wNil)) (wCons (wCall1 fTuple (wCons (wVar 2) wNil)) wNil)))))
theorem ok_law_by (T : Txt K mg cl) {k : Nat} {c : Ct} (hlen : ∀ rs Q E, c rs Q E → rs.length = P_law_by.length)
    (hw : ∀ rs Q E, c rs Q E → w_law_by K cl (rho N_law_by.length rs) { nx := fun _ => Q (.s .none), rt := Q, er := fun cls _ => E cls }) :
    FnOk P wd K mg base (L2.CX P wd) (k + 1) cl.f_law_by cl.d_law_by P_law_by (spD K c) :=
  fnD T.F_law_by sc_law_by hlen (fun cdv A outer s H E hr => by
  have tk := takes_of (X := cxOf (L2.CX P wd) P wd K mg base N_law_by "_law_by" (defScope s_law_by) cl.f_law_by cdv A outer s H E) rfl rfl rfl rfl
  exact (pds_cons (pds_set (ps_set (i := 2) sc_law_by.nd rfl (by first | exact Or.inl rfl | exact Or.inr rfl) (call_core (t := fun _ _ _ => True) (pe_callB (c_sorted hr.units) (by rfl) T.n_sorted (by decide +kernel) (pda_cons (pd_lc (tup := true) (is := [3, 4]) (pe_lc (own := [("place", 3), ("following", 4)]) (g := gC K true [3, 4]) rfl sc_law_by.nd (pic_seq (pd_ix (o_ix hr.units) (pd_var (pv 0)) pd_int (fun _ _ => rfl))) (blkOk_by (own := [("place", 3), ("following", 4)]) (N := N_law_by) (sc := defScope s_law_by) (by decide +kernel)) (fun _ _ _ _ _ => (pg_tup rfl (pgs_cons (pg_name (i := 3) sc_law_by.nd rfl (by first | exact Or.inl rfl | exact Or.inr rfl)) (pgs_cons (pg_name (i := 4) sc_law_by.nd rfl (by first | exact Or.inl rfl | exact Or.inr rfl)) pgs_nil)))) (fun _ _ _ _ _ => pdts_nil) (fun _ _ _ _ _ => (pd_tup (pda_cons (pd_ix (o_ix hr.units) (pd_var (pv 1)) (pd_var (pv 3)) (fun _ _ => rfl)) (pda_cons (pd_ix (o_ix hr.units) (pd_var (pv 1)) (pd_var (pv 4)) (fun _ _ => rfl)) pda_nil))))) (by decide) (by first | exact Or.inl rfl | exact Or.inr ⟨_, rfl⟩)) pda_nil)))))
  (pds_one (pds_ret (pd_tup (pda_cons (call_core (t := fun _ _ _ => True) (pe_callTy c_tuple (by rfl) T.n_tuple (by decide +kernel) (pda_cons (pd_lc (tup := false) (is := [3]) (pe_lc (own := [("place", 3)]) (g := gC K false [3]) rfl sc_law_by.nd (pic_seq (pd_ix (o_ix hr.units) (pd_var (pv 0)) pd_int (fun _ _ => rfl))) (blkOk_by (own := [("place", 3)]) (N := N_law_by) (sc := defScope s_law_by) (by decide +kernel)) (fun _ _ _ _ _ => (pg_name (i := 3) sc_law_by.nd rfl (by first | exact Or.inl rfl | exact Or.inr rfl))) (fun _ _ _ _ _ => pdts_nil) (fun _ _ _ _ _ => (pd_ix (o_ix hr.units) (pd_var (pv 1)) (pd_var (pv 3)) (fun _ _ => rfl)))) (by decide) (by first | exact Or.inl rfl | exact Or.inr ⟨_, rfl⟩)) pda_nil))) (pda_cons (call_core (t := fun _ _ _ => True) (pe_callTy c_tuple (by rfl) T.n_tuple (by decide +kernel) (pda_cons (pd_var (pv 2)) pda_nil))) pda_nil))))))) hw
def w_law_scattered_b1 (K : Frag) (cl : Ad) (c_law_pick c_law_places c_law_by : Ct) : SW :=
  (wSeq (wAsg 3 (wOp fAdd (wOp fAdd (wVar 3) (wC (.s (.int 1)))) (wOp fMul (wVar 4) (wCall c_law_pick (wCons (wVar 0) (wCons (wC (.s (.int 3))) wNil))))))
  (wInsert 6 (wCall c_law_pick (wCons (wVar 0) (wCons (wFrz (wOp fAdd (wVar 7) (wC (.s (.int 1))))) wNil))) (wVar 3)))
def w_law_scattered_b2 (K : Frag) (cl : Ad) (c_law_pick c_law_places c_law_by : Ct) : SW :=
  (wSetIx 2 (wOp fIx (wVar 6) (wVar 7)) (wOp fIx (wVar 5) (wVar 7)))
def w_law_scattered (K : Frag) (cl : Ad) (c_law_pick c_law_places c_law_by : Ct) : SW :=
  (wSeq (wParN [2, 3, 4] (wCons (wDisp1 (wC (.s (.int 0))) (wC (.s (.int 0)))) (wCons (wC (.s (.int 0))) (wCons (wOp fIx (wLst (wCons (wC (.s (.int 1))) (wCons (wC (.s (.int 1))) (wCons (wC (.s (.int 40))) (wCons (wC (.s (.int 9000))) wNil))))) (wCall c_law_pick (wCons (wVar 0) (wCons (wC (.s (.int 4))) wNil)))) wNil))))
  (wSeq (wPar 5 6 (wCall c_law_places (wCons (wVar 1) wNil)) (wLst wNil))
  (wSeq (wFor (wRange1 (wCons (wCall1 fLen (wCons (wVar 5) wNil)) wNil)) (gwName 7) (w_law_scattered_b1 K cl c_law_pick c_law_places c_law_by))
  (wSeq (wFor (wRange1 (wCons (wCall1 fLen (wCons (wVar 5) wNil)) wNil)) (gwName 7) (w_law_scattered_b2 K cl c_law_pick c_law_places c_law_by))
  (wRet (wCall c_law_by (wCons (wVar 1) (wCons (wVar 2) wNil))))))))
theorem ok_law_scattered (T : Txt K mg cl) {k : Nat} {c : Ct} {j_law_pick : Nat} {c_law_pick : Ct} (G_law_pick : FnOk P wd K mg base (L2.CX P wd) j_law_pick cl.f_law_pick cl.d_law_pick P_law_pick (spD K c_law_pick)) (h_law_pick : j_law_pick ≤ k) {j_law_places : Nat} {c_law_places : Ct} (G_law_places : FnOk P wd K mg base (L2.CX P wd) j_law_places cl.f_law_places cl.d_law_places P_law_places (spD K c_law_places)) (h_law_places : j_law_places ≤ k) {j_law_by : Nat} {c_law_by : Ct} (G_law_by : FnOk P wd K mg base (L2.CX P wd) j_law_by cl.f_law_by cl.d_law_by P_law_by (spD K c_law_by)) (h_law_by : j_law_by ≤ k) (hlen : ∀ rs Q E, c rs Q E → rs.length = P_law_scattered.length)
    (hw : ∀ rs Q E, c rs Q E → w_law_scattered K cl c_law_pick c_law_places c_law_by (rho N_law_scattered.length rs) { nx := fun _ => Q (.s .none), rt := Q, er := fun cls _ => E cls }) :
    FnOk P wd K mg base (L2.CX P wd) (k + 1) cl.f_law_scattered cl.d_law_scattered P_law_scattered (spD K c) :=
  fnD T.F_law_scattered sc_law_scattered hlen (fun cdv A outer s H E hr => by
  have tk := takes_of (X := cxOf (L2.CX P wd) P wd K mg base N_law_scattered "_law_scattered" (defScope s_law_scattered) cl.f_law_scattered cdv A outer s H E) rfl rfl rfl rfl
  exact (pds_cons (pds_par3 (i := 2) (j := 3) (l := 4) (ps_par3 rfl sc_law_scattered.nd rfl rfl rfl (by decide) (by decide) (by decide) rfl rfl rfl (pda_cons (pd_disp1 (pe_disp (pps_cons pd_int pd_int pps_nil) rfl rfl (by simp) (by decide))) (pda_cons pd_int (pda_cons (pd_ix (o_ix hr.units) (pd_lst (pda_cons pd_int (pda_cons pd_int (pda_cons pd_int (pda_cons pd_int pda_nil))))) (pd_call (pe_callS G_law_pick (hr.mono h_law_pick) (by rfl) T.m_law_pick T.F_law_pick.kp T.b_law_pick (fun σ => passAt tk σ) (pda_cons (pd_var (pv 0)) (pda_cons pd_int pda_nil)))) (fun _ _ => rfl)) pda_nil))) (by rfl)))
  (pds_cons (pds_par (i := 5) (j := 6) (ps_par rfl sc_law_scattered.nd rfl rfl (by decide) rfl rfl (pda_cons (pd_call (pe_callS G_law_places (hr.mono h_law_places) (by rfl) T.m_law_places T.F_law_places.kp T.b_law_places (fun σ => passAt tk σ) (pda_cons (pd_var (pv 1)) pda_nil))) (pda_cons (pd_lst pda_nil) pda_nil)) (by rfl)))
  (pds_cons (pds_for (ps_for (passes_of rfl) rfl (pif_range1 (pi_range1 (by rfl) T.n_range (pda_cons (call_core (t := fun _ _ _ => True) (pe_callB c_len (by rfl) T.n_len (by decide +kernel) (pda_cons (pd_var (pv 5)) pda_nil))) pda_nil))) (pgd_name (pg_name (i := 7) sc_law_scattered.nd rfl (by first | exact Or.inl rfl | exact Or.inr rfl))) (pds_cons (pds_set (ps_set (i := 3) sc_law_scattered.nd rfl (by first | exact Or.inl rfl | exact Or.inr rfl) (pd_op o_add (pd_op o_add (pd_var (pv 3)) pd_int) (pd_op o_mul (pd_var (pv 4)) (pd_call (pe_callS G_law_pick (hr.mono h_law_pick) (by rfl) T.m_law_pick T.F_law_pick.kp T.b_law_pick (fun σ => passAt tk σ) (pda_cons (pd_var (pv 0)) (pda_cons pd_int pda_nil))))))))
  (pds_one (pds_insert (i := 6) (ps_expr (pe_bm PySem.F.plainAttrs_list PySem.F.slot_list_insert PySem.F.type_list_insert mt_ins (pv 6) (pa_cons (pd_call (pe_callS G_law_pick (hr.mono h_law_pick) (by rfl) T.m_law_pick T.F_law_pick.kp T.b_law_pick (fun σ => passAt tk σ) (pda_cons (pd_var (pv 0)) (pda_cons (pd_frz (pd_op o_add (pd_var (pv 7)) pd_int)) pda_nil)))) (pa_cons (pd_var (pv 3)) pa_nil)))))))))
  (pds_cons (pds_for (ps_for (passes_of rfl) rfl (pif_range1 (pi_range1 (by rfl) T.n_range (pda_cons (call_core (t := fun _ _ _ => True) (pe_callB c_len (by rfl) T.n_len (by decide +kernel) (pda_cons (pd_var (pv 5)) pda_nil))) pda_nil))) (pgd_name (pg_name (i := 7) sc_law_scattered.nd rfl (by first | exact Or.inl rfl | exact Or.inr rfl))) (pds_one (pds_setIx (i := 2) (ps_asg (pd_ix (o_ix hr.units) (pd_var (pv 6)) (pd_var (pv 7)) (fun _ _ => rfl)) (pg_sub (pv 2) (pd_ix (o_ix hr.units) (pd_var (pv 5)) (pd_var (pv 7)) (fun _ _ => rfl)) (set_both hr.units)))))))
  (pds_one (pds_ret (pd_call (pe_callS G_law_by (hr.mono h_law_by) (by rfl) T.m_law_by T.F_law_by.kp T.b_law_by (fun σ => passAt tk σ) (pda_cons (pd_var (pv 1)) (pda_cons (pd_var (pv 2)) pda_nil))))))))))) hw
def w_law_long (K : Frag) (cl : Ad) (c_law_pick : Ct) : SW :=
  (wSeq (wParN [1, 2] (wCons (wOp fAdd (wC (.s (.int 100))) (wCall c_law_pick (wCons (wVar 0) (wCons (wC (.s (.int 51))) wNil)))) (wCons (wOp fAdd (wC (.s (.int 1))) (wOp fMul (wC (.s (.int 2))) (wCall c_law_pick (wCons (wVar 0) (wCons (wC (.s (.int 490))) wNil))))) wNil)))
  (wSeq (wAsg 3 (wLc (wRange1 (wCons (wVar 1) wNil)) false [4] [4] wYes (wFrz (wOp fAdd (wC (.s (.int 1))) (wOp fMod (wOp fMul (wVar 2) (wCall1 fIntOf (wCons (wOp fAdd (wOp fMul (wVar 4) (wC (.s (.int 151)))) (wC (.s (.int 7)))) wNil))) (wC (.s (.int 1009))))))))
  (wSeq (wAsg 5 (wLc (wRange1 (wCons (wOp fSub (wVar 1) (wC (.s (.int 1)))) wNil)) false [4] [4] wYes (wTup (wCons (wOp fIx (wVar 3) (wVar 4)) (wCons (wOp fIx (wVar 3) (wOp fAdd (wVar 4) (wC (.s (.int 1))))) wNil)))))
  (wRet (wTup (wCons (wTup (wCons (wOp fIx (wVar 3) (wC (.s (.int 0)))) wNil)) (wCons (wCall1 fTuple (wCons (wCall1 fSorted (wCons (wOp fAdd (wVar 5) (wLst (wCons (wTup (wCons (wOp fIx (wVar 3) (wOp fSub (wVar 1) (wC (.s (.int 1))))) (wCons (wOp fIx (wVar 3) (wCall c_law_pick (wCons (wVar 0) (wCons (wVar 1) wNil)))) wNil))) wNil))) wNil)) wNil)) wNil)))))))
theorem ok_law_long (T : Txt K mg cl) {k : Nat} {c : Ct} {j_law_pick : Nat} {c_law_pick : Ct} (G_law_pick : FnOk P wd K mg base (L2.CX P wd) j_law_pick cl.f_law_pick cl.d_law_pick P_law_pick (spD K c_law_pick)) (h_law_pick : j_law_pick ≤ k) (hlen : ∀ rs Q E, c rs Q E → rs.length = P_law_long.length)
    (hw : ∀ rs Q E, c rs Q E → w_law_long K cl c_law_pick (rho N_law_long.length rs) { nx := fun _ => Q (.s .none), rt := Q, er := fun cls _ => E cls }) :
    FnOk P wd K mg base (L2.CX P wd) (k + 1) cl.f_law_long cl.d_law_long P_law_long (spD K c) :=
  fnD T.F_law_long sc_law_long hlen (fun cdv A outer s H E hr => by
  have tk := takes_of (X := cxOf (L2.CX P wd) P wd K mg base N_law_long "_law_long" (defScope s_law_long) cl.f_law_long cdv A outer s H E) rfl rfl rfl rfl
  exact (pds_cons (pds_parT (is := [1, 2]) (by decide) (ps_asg (peN_tup (pda_cons (pd_op o_add pd_int (pd_call (pe_callS G_law_pick (hr.mono h_law_pick) (by rfl) T.m_law_pick T.F_law_pick.kp T.b_law_pick (fun σ => passAt tk σ) (pda_cons (pd_var (pv 0)) (pda_cons pd_int pda_nil))))) (pda_cons (pd_op o_add pd_int (pd_op o_mul pd_int (pd_call (pe_callS G_law_pick (hr.mono h_law_pick) (by rfl) T.m_law_pick T.F_law_pick.kp T.b_law_pick (fun σ => passAt tk σ) (pda_cons (pd_var (pv 0)) (pda_cons pd_int pda_nil)))))) pda_nil))) (pg_tup rfl (pgs_cons (pg_name (i := 1) sc_law_long.nd rfl (by first | exact Or.inl rfl | exact Or.inr rfl)) (pgs_cons (pg_name (i := 2) sc_law_long.nd rfl (by first | exact Or.inl rfl | exact Or.inr rfl)) pgs_nil)))))
  (pds_cons (pds_set (ps_set (i := 3) sc_law_long.nd rfl (by first | exact Or.inl rfl | exact Or.inr rfl) (pd_lc (tup := false) (is := [4]) (pe_lc (own := [("k", 4)]) (g := gC K false [4]) rfl sc_law_long.nd (pic_range1 (pi_range1 (by rfl) T.n_range (pda_cons (pd_var (pv 1)) pda_nil))) (blkOk_by (own := [("k", 4)]) (N := N_law_long) (sc := defScope s_law_long) (by decide +kernel)) (fun _ _ _ _ _ => (pg_name (i := 4) sc_law_long.nd rfl (by first | exact Or.inl rfl | exact Or.inr rfl))) (fun _ _ _ _ _ => pdts_nil) (fun _ _ _ _ _ => (pd_frz (pd_op o_add pd_int (pd_op o_mod (pd_op o_mul (pd_var (pv 2)) (call_core (t := fun _ _ _ => True) (pe_callTy c_int (by rfl) T.n_int (by decide +kernel) (pda_cons (pd_op o_add (pd_op o_mul (pd_var (pv 4)) pd_int) pd_int) pda_nil)))) pd_int))))) (by decide) (by first | exact Or.inl rfl | exact Or.inr ⟨_, rfl⟩))))
  (pds_cons (pds_setLc (tup := false) (is := [4]) (ps_setLc (i := 5) (own := [("k", 4)]) (g := gC K false [4]) rfl sc_law_long.nd rfl rfl (sw_true rfl rfl rfl (by decide +kernel)) (pic_range1 (pi_range1 (by rfl) T.n_range (pda_cons (pd_op o_sub (pd_var (pv 1)) pd_int) pda_nil))) (blkOk_by (own := [("k", 4)]) (N := N_law_long) (sc := defScope s_law_long) (by decide +kernel)) (fun _ _ _ _ _ => (pg_name (i := 4) sc_law_long.nd rfl (by first | exact Or.inl rfl | exact Or.inr rfl))) (fun _ _ _ _ _ => pdts_nil) (fun _ _ _ _ _ => (pd_tup (pda_cons (pd_ix (o_ix hr.units) (pd_var (pv 3)) (pd_var (pv 4)) (fun _ _ => rfl)) (pda_cons (pd_ix (o_ix hr.units) (pd_var (pv 3)) (pd_op o_add (pd_var (pv 4)) pd_int) (fun _ _ => rfl)) pda_nil))))) (by decide) (by first | exact Or.inl rfl | exact Or.inr ⟨_, rfl⟩))
  (pds_one (pds_ret (pd_tup (pda_cons (pd_tup (pda_cons (pd_ix (o_ix hr.units) (pd_var (pv 3)) pd_int (fun _ _ => rfl)) pda_nil)) (pda_cons (call_core (t := fun _ _ _ => True) (pe_callTy c_tuple (by rfl) T.n_tuple (by decide +kernel) (pda_cons (call_core (t := fun _ _ _ => True) (pe_callB (c_sorted hr.units) (by rfl) T.n_sorted (by decide +kernel) (pda_cons (pd_op o_add (pd_var (pv 5)) (pd_lst (pda_cons (pd_tup (pda_cons (pd_ix (o_ix hr.units) (pd_var (pv 3)) (pd_op o_sub (pd_var (pv 1)) pd_int) (fun _ _ => rfl)) (pda_cons (pd_ix (o_ix hr.units) (pd_var (pv 3)) (pd_call (pe_callS G_law_pick (hr.mono h_law_pick) (by rfl) T.m_law_pick T.F_law_pick.kp T.b_law_pick (fun σ => passAt tk σ) (pda_cons (pd_var (pv 0)) (pda_cons (pd_var (pv 1)) pda_nil)))) (fun _ _ => rfl)) pda_nil))) pda_nil))) pda_nil))) pda_nil))) pda_nil))))))))) hw
def w_law_walk_b1 (K : Frag) (cl : Ad) : SW :=
  (wIfS (wTst (wOp (fIn false) (wOp fIx (wVar 2) (wUn fNeg (wC (.s (.int 1))))) (wVar 0)))
  (wAppend 2 (wOp fIx (wVar 0) (wOp fIx (wVar 2) (wUn fNeg (wC (.s (.int 1)))))))
  wNext)
def w_law_walk (K : Frag) (cl : Ad) : SW :=
  (wSeq (wAsg 2 (wLst (wCons (wVar 1) wNil)))
  (wSeq (wFor (wRange1 (wCons (wOp fAdd (wCall1 fLen (wCons (wVar 0) wNil)) (wC (.s (.int 2)))) wNil)) (gwName 3) (w_law_walk_b1 K cl))
  (wRetS 2)))
theorem ok_law_walk (T : Txt K mg cl) {k : Nat} {c : Ct} (hlen : ∀ rs Q E, c rs Q E → rs.length = P_law_walk.length)
    (hw : ∀ rs Q E, c rs Q E → w_law_walk K cl (rho N_law_walk.length rs) { nx := fun _ => Q (.s .none), rt := Q, er := fun cls _ => E cls }) :
    FnOk P wd K mg base (L2.CX P wd) (k + 1) cl.f_law_walk cl.d_law_walk P_law_walk (spD K c) :=
  fnD T.F_law_walk sc_law_walk hlen (fun cdv A outer s H E hr => by
  have tk := takes_of (X := cxOf (L2.CX P wd) P wd K mg base N_law_walk "_law_walk" (defScope s_law_walk) cl.f_law_walk cdv A outer s H E) rfl rfl rfl rfl
  exact (pds_cons (pds_set (ps_set (i := 2) sc_law_walk.nd rfl (by first | exact Or.inl rfl | exact Or.inr rfl) (pd_lst (pda_cons (pd_var (pv 1)) pda_nil))))
  (pds_cons (pds_for (ps_for (passes_of rfl) rfl (pif_range1 (pi_range1 (by rfl) T.n_range (pda_cons (pd_op o_add (call_core (t := fun _ _ _ => True) (pe_callB c_len (by rfl) T.n_len (by decide +kernel) (pda_cons (pd_var (pv 0)) pda_nil))) pd_int) pda_nil))) (pgd_name (pg_name (i := 3) sc_law_walk.nd rfl (by first | exact Or.inl rfl | exact Or.inr rfl))) (pds_one (pds_if (pdt_cmp (o_in hr.units) (pd_ix (o_ix hr.units) (pd_var (pv 2)) (pd_un o_neg pd_int) (fun _ _ => rfl)) (pd_var (pv 0)) (by rfl))
  (pds_one (pds_append (i := 2) (ps_expr (pe_bm PySem.F.plainAttrs_list PySem.F.slot_list_append PySem.F.type_list_append mt_append (pv 2) (pa_cons (pd_ix (o_ix hr.units) (pd_var (pv 0)) (pd_ix (o_ix hr.units) (pd_var (pv 2)) (pd_un o_neg pd_int) (fun _ _ => rfl)) (fun _ _ => rfl)) pa_nil)))))
  pds_nil))))
  (pds_one (pds_retS (i := 2) (ps_ret (pv 2))))))) hw
def w_law_behind (K : Frag) (cl : Ad) (c_law_walk : Ct) : SW :=
  (wSeq (wAsg 3 (wCall c_law_walk (wCons (wVar 0) (wCons (wVar 1) wNil))))
  (wSeq (wIfS (wTst (wOp fLt (wVar 2) (wCall1 fLen (wCons (wVar 3) wNil))))
  (wRet (wOp fIx (wVar 3) (wVar 2)))
  wNext)
  (wSeq (wIfS (wTst (wOp (fIn true) (wOp fIx (wVar 3) (wUn fNeg (wC (.s (.int 1))))) (wVar 0)))
  (wRet (wC (.s .none)))
  wNext)
  (wSeq (wAsg 4 (wInd (wVar 3) (wCons (wOp fIx (wVar 3) (wUn fNeg (wC (.s (.int 1))))) wNil)))
  (wRet (wOp fIx (wVar 3) (wOp fAdd (wVar 4) (wOp fMod (wCall1 fIntOf (wCons (wOp fSub (wVar 2) (wVar 4)) wNil)) (wOp fSub (wInd (wVar 3) (wCons (wOp fIx (wVar 3) (wUn fNeg (wC (.s (.int 1))))) (wCons (wOp fAdd (wVar 4) (wC (.s (.int 1)))) wNil))) (wVar 4))))))))))
theorem ok_law_behind (T : Txt K mg cl) {k : Nat} {c : Ct} {j_law_walk : Nat} {c_law_walk : Ct} (G_law_walk : FnOk P wd K mg base (L2.CX P wd) j_law_walk cl.f_law_walk cl.d_law_walk P_law_walk (spD K c_law_walk)) (h_law_walk : j_law_walk ≤ k) (hlen : ∀ rs Q E, c rs Q E → rs.length = P_law_behind.length)
    (hw : ∀ rs Q E, c rs Q E → w_law_behind K cl c_law_walk (rho N_law_behind.length rs) { nx := fun _ => Q (.s .none), rt := Q, er := fun cls _ => E cls }) :
    FnOk P wd K mg base (L2.CX P wd) (k + 1) cl.f_law_behind cl.d_law_behind P_law_behind (spD K c) :=
  fnD T.F_law_behind sc_law_behind hlen (fun cdv A outer s H E hr => by
  have tk := takes_of (X := cxOf (L2.CX P wd) P wd K mg base N_law_behind "_law_behind" (defScope s_law_behind) cl.f_law_behind cdv A outer s H E) rfl rfl rfl rfl
  exact (pds_cons (pds_set (ps_set (i := 3) sc_law_behind.nd rfl (by first | exact Or.inl rfl | exact Or.inr rfl) (pd_call (pe_callS G_law_walk (hr.mono h_law_walk) (by rfl) T.m_law_walk T.F_law_walk.kp T.b_law_walk (fun σ => passAt tk σ) (pda_cons (pd_var (pv 0)) (pda_cons (pd_var (pv 1)) pda_nil))))))
  (pds_cons (pds_if (pdt_cmp (o_lt hr.units0) (pd_var (pv 2)) (call_core (t := fun _ _ _ => True) (pe_callB c_len (by rfl) T.n_len (by decide +kernel) (pda_cons (pd_var (pv 3)) pda_nil))) (nomark _))
  (pds_one (pds_ret (pd_ix (o_ix hr.units) (pd_var (pv 3)) (pd_var (pv 2)) (fun _ _ => rfl))))
  pds_nil)
  (pds_cons (pds_if (pdt_cmp (o_notIn hr.units) (pd_ix (o_ix hr.units) (pd_var (pv 3)) (pd_un o_neg pd_int) (fun _ _ => rfl)) (pd_var (pv 0)) (by rfl))
  (pds_one (pds_ret pd_non))
  pds_nil)
  (pds_cons (pds_set (ps_set (i := 4) sc_law_behind.nd rfl (by first | exact Or.inl rfl | exact Or.inr rfl) (pd_ind (pe_bm PySem.F.plainAttrs_list PySem.F.slot_list_index PySem.F.type_list_index mt_indAny (pd_var (pv 3)) (pda_cons (pd_ix (o_ix hr.units) (pd_var (pv 3)) (pd_un o_neg pd_int) (fun _ _ => rfl)) pda_nil)))))
  (pds_one (pds_ret (pd_ix (o_ix hr.units) (pd_var (pv 3)) (pd_op o_add (pd_var (pv 4)) (pd_op o_mod (call_core (t := fun _ _ _ => True) (pe_callTy c_int (by rfl) T.n_int (by decide +kernel) (pda_cons (pd_op o_sub (pd_var (pv 2)) (pd_var (pv 4))) pda_nil))) (pd_op o_sub (pd_ind (pe_bm PySem.F.plainAttrs_list PySem.F.slot_list_index PySem.F.type_list_index mt_indAny (pd_var (pv 3)) (pda_cons (pd_ix (o_ix hr.units) (pd_var (pv 3)) (pd_un o_neg pd_int) (fun _ _ => rfl)) (pda_cons (pd_op o_add (pd_var (pv 4)) pd_int) pda_nil)))) (pd_var (pv 4))))) (fun _ _ => rfl))))))))) hw
def w_law_trail_due_b1 (K : Frag) (cl : Ad) (c_law_walk : Ct) : SW :=
  (wIfS (wAndT (wTst (wOp (fIn false) (wVar 4) (wVar 0))) (wTst (wOp (fIn true) (wVar 4) (wVar 2))))
  (wSeq (wAppend 2 (wVar 4))
  (wAsg 3 (wOp fIx (wVar 0) (wVar 4))))
  wNext)
def w_law_trail_due (K : Frag) (cl : Ad) (c_law_walk : Ct) : SW :=
  (wSeq (wPar 2 3 (wLst wNil) (wVar 1))
  (wSeq (wFor (wSeqF (wFrz (wCall c_law_walk (wCons (wVar 0) (wCons (wVar 1) wNil))))) (gwName 4) (w_law_trail_due_b1 K cl c_law_walk))
  (wRet (wTup (wCons (wCall1 fTuple (wCons (wVar 2) wNil)) (wCons (wVar 3) wNil))))))
theorem ok_law_trail_due (T : Txt K mg cl) {k : Nat} {c : Ct} {j_law_walk : Nat} {c_law_walk : Ct} (G_law_walk : FnOk P wd K mg base (L2.CX P wd) j_law_walk cl.f_law_walk cl.d_law_walk P_law_walk (spD K c_law_walk)) (h_law_walk : j_law_walk ≤ k) (hlen : ∀ rs Q E, c rs Q E → rs.length = P_law_trail_due.length)
    (hw : ∀ rs Q E, c rs Q E → w_law_trail_due K cl c_law_walk (rho N_law_trail_due.length rs) { nx := fun _ => Q (.s .none), rt := Q, er := fun cls _ => E cls }) :
    FnOk P wd K mg base (L2.CX P wd) (k + 1) cl.f_law_trail_due cl.d_law_trail_due P_law_trail_due (spD K c) :=
  fnD T.F_law_trail_due sc_law_trail_due hlen (fun cdv A outer s H E hr => by
  have tk := takes_of (X := cxOf (L2.CX P wd) P wd K mg base N_law_trail_due "_law_trail_due" (defScope s_law_trail_due) cl.f_law_trail_due cdv A outer s H E) rfl rfl rfl rfl
  exact (pds_cons (pds_par (i := 2) (j := 3) (ps_par rfl sc_law_trail_due.nd rfl rfl (by decide) rfl rfl (pda_cons (pd_lst pda_nil) (pda_cons (pd_var (pv 1)) pda_nil)) (by rfl)))
  (pds_cons (pds_for (ps_for (passes_of rfl) rfl (pif_seq (pd_frz (pd_call (pe_callS G_law_walk (hr.mono h_law_walk) (by rfl) T.m_law_walk T.F_law_walk.kp T.b_law_walk (fun σ => passAt tk σ) (pda_cons (pd_var (pv 0)) (pda_cons (pd_var (pv 1)) pda_nil)))))) (pgd_name (pg_name (i := 4) sc_law_trail_due.nd rfl (by first | exact Or.inl rfl | exact Or.inr rfl))) (pds_one (pds_if (pdt_w (pdw_and (pdt_cmp (o_in hr.units) (pd_var (pv 4)) (pd_var (pv 0)) (by rfl)) (pdw_and1 (pdt_cmp (o_notIn hr.units) (pd_var (pv 4)) (pd_var (pv 2)) (by rfl)))))
  (pds_cons (pds_append (i := 2) (ps_expr (pe_bm PySem.F.plainAttrs_list PySem.F.slot_list_append PySem.F.type_list_append mt_append (pv 2) (pa_cons (pd_var (pv 4)) pa_nil))))
  (pds_one (pds_set (ps_set (i := 3) sc_law_trail_due.nd rfl (by first | exact Or.inl rfl | exact Or.inr rfl) (pd_ix (o_ix hr.units) (pd_var (pv 0)) (pd_var (pv 4)) (fun _ _ => rfl))))))
  pds_nil))))
  (pds_one (pds_ret (pd_tup (pda_cons (call_core (t := fun _ _ _ => True) (pe_callTy c_tuple (by rfl) T.n_tuple (by decide +kernel) (pda_cons (pd_var (pv 2)) pda_nil))) (pda_cons (pd_var (pv 3)) pda_nil)))))))) hw
def w_law_refused (K : Frag) (cl : Ad) (c_trail c_place_behind c_steps_to : Ct) : SW :=
  (wSeq (wAsg 4 (wC (.s (.str "none"))))
  (wSeq (wTry K (wIfS (wTst (wOp fEq (wVar 0) (wC (.s (.int 0)))))
  (wAsg 5 (wCall c_trail (wCons (wVar 1) (wCons (wVar 2) wNil))))
  (wAsg 5 (wIf (wTst (wOp fEq (wVar 0) (wC (.s (.int 1))))) (wCall c_place_behind (wCons (wVar 1) (wCons (wVar 2) (wCons (wVar 3) wNil)))) (wCall c_steps_to (wCons (wVar 1) (wCons (wVar 2) (wCons (wVar 3) wNil))))))) [(.ref cl.c_BadState, (wAsg 4 (wC (.s (.str "state"))))), (.ref cl.c_BadPlace, (wAsg 4 (wC (.s (.str "place"))))), (.ref cl.c_BadOther, (wAsg 4 (wC (.s (.str "other"))))), (.ref cl.c_BadCount, (wAsg 4 (wC (.s (.str "count")))))])
  (wRetS 4)))
theorem ok_law_refused (T : Txt K mg cl) {k : Nat} {c : Ct} {j_trail : Nat} {c_trail : Ct} (G_trail : FnOk P wd K mg base (L2.CX P wd) j_trail cl.f_trail cl.d_trail P_trail (spD K c_trail)) (h_trail : j_trail ≤ k) {j_place_behind : Nat} {c_place_behind : Ct} (G_place_behind : FnOk P wd K mg base (L2.CX P wd) j_place_behind cl.f_place_behind cl.d_place_behind P_place_behind (spD K c_place_behind)) (h_place_behind : j_place_behind ≤ k) {j_steps_to : Nat} {c_steps_to : Ct} (G_steps_to : FnOk P wd K mg base (L2.CX P wd) j_steps_to cl.f_steps_to cl.d_steps_to P_steps_to (spD K c_steps_to)) (h_steps_to : j_steps_to ≤ k) (hlen : ∀ rs Q E, c rs Q E → rs.length = P_law_refused.length)
    (hw : ∀ rs Q E, c rs Q E → w_law_refused K cl c_trail c_place_behind c_steps_to (rho N_law_refused.length rs) { nx := fun _ => Q (.s .none), rt := Q, er := fun cls _ => E cls }) :
    FnOk P wd K mg base (L2.CX P wd) (k + 1) cl.f_law_refused cl.d_law_refused P_law_refused (spD K c) :=
  fnD T.F_law_refused sc_law_refused hlen (fun cdv A outer s H E hr => by
  have tk := takes_of (X := cxOf (L2.CX P wd) P wd K mg base N_law_refused "_law_refused" (defScope s_law_refused) cl.f_law_refused cdv A outer s H E) rfl rfl rfl rfl
  exact (pds_cons (pds_set (ps_set (i := 4) sc_law_refused.nd rfl (by first | exact Or.inl rfl | exact Or.inr rfl) pd_str))
  (pds_cons (pds_try (hs := [(.ref cl.c_BadState, (wAsg 4 (wC (.s (.str "state"))))), (.ref cl.c_BadPlace, (wAsg 4 (wC (.s (.str "place"))))), (.ref cl.c_BadOther, (wAsg 4 (wC (.s (.str "other"))))), (.ref cl.c_BadCount, (wAsg 4 (wC (.s (.str "count")))))]) rfl rfl tk (fun W' pn xe tk' _ => (pds_one (pds_if (pdt_cmp (o_eq hr.units) (pd_var (pv 0)) pd_int (nomark _))
  (pds_one (pds_set (ps_set (i := 5) sc_law_refused.nd rfl (by first | exact Or.inl rfl | exact Or.inr rfl) (pd_call (pe_callS G_trail (hr.mono h_trail) (by rfl) T.m_trail T.F_trail.kp T.b_trail (fun σ => passAt tk' σ) (pda_cons (pd_var (pv 1)) (pda_cons (pd_var (pv 2)) pda_nil)))))))
  (pds_one (pds_set (ps_set (i := 5) sc_law_refused.nd rfl (by first | exact Or.inl rfl | exact Or.inr rfl) (pd_if (pdt_cmp (o_eq hr.units) (pd_var (pv 0)) pd_int (nomark _)) (pd_call (pe_callS G_place_behind (hr.mono h_place_behind) (by rfl) T.m_place_behind T.F_place_behind.kp T.b_place_behind (fun σ => passAt tk' σ) (pda_cons (pd_var (pv 1)) (pda_cons (pd_var (pv 2)) (pda_cons (pd_var (pv 3)) pda_nil))))) (pd_call (pe_callS G_steps_to (hr.mono h_steps_to) (by rfl) T.m_steps_to T.F_steps_to.kp T.b_steps_to (fun σ => passAt tk' σ) (pda_cons (pd_var (pv 1)) (pda_cons (pd_var (pv 2)) (pda_cons (pd_var (pv 3)) pda_nil)))))))))))) (HdsOk.cons (ts := fun _ _ _ => TDs K W0 (wAsg 4 (wC (.s (.str "state"))))) ⟨rfl, by decide, .inl T.g_BadState⟩ (fun _ _ _ _ _ _ _ => (pds_one (pds_set (ps_set (i := 4) sc_law_refused.nd rfl (by first | exact Or.inl rfl | exact Or.inr rfl) pd_str)))) (HdsOk.cons (ts := fun _ _ _ => TDs K W0 (wAsg 4 (wC (.s (.str "place"))))) ⟨rfl, by decide, .inl T.g_BadPlace⟩ (fun _ _ _ _ _ _ _ => (pds_one (pds_set (ps_set (i := 4) sc_law_refused.nd rfl (by first | exact Or.inl rfl | exact Or.inr rfl) pd_str)))) (HdsOk.cons (ts := fun _ _ _ => TDs K W0 (wAsg 4 (wC (.s (.str "other"))))) ⟨rfl, by decide, .inl T.g_BadOther⟩ (fun _ _ _ _ _ _ _ => (pds_one (pds_set (ps_set (i := 4) sc_law_refused.nd rfl (by first | exact Or.inl rfl | exact Or.inr rfl) pd_str)))) (HdsOk.cons (ts := fun _ _ _ => TDs K W0 (wAsg 4 (wC (.s (.str "count"))))) ⟨rfl, by decide, .inl T.g_BadCount⟩ (fun _ _ _ _ _ _ _ => (pds_one (pds_set (ps_set (i := 4) sc_law_refused.nd rfl (by first | exact Or.inl rfl | exact Or.inr rfl) pd_str)))) HdsOk.nil)))))
  (pds_one (pds_retS (i := 4) (ps_ret (pv 4))))))) hw
def w_law_right_b1 (K : Frag) (cl : Ad) (c_trail c_place_behind c_steps_to c_law_pick c_law_same c_law_places c_law_walk c_law_behind c_law_trail_due : Ct) : SW :=
  (wIfS (wNotT (wTst (wCall c_law_same (wCons (wFrz (wCall c_place_behind (wCons (wVar 1) (wCons (wVar 2) (wCons (wVar 7) wNil))))) (wCons (wFrz (wCall c_law_behind (wCons (wVar 3) (wCons (wVar 2) (wCons (wVar 7) wNil))))) wNil)))))
  (wRet (wC (.s (.bool false))))
  wNext)
def w_law_right_t2 (K : Frag) (cl : Ad) (c_trail c_place_behind c_steps_to c_law_pick c_law_same c_law_places c_law_walk c_law_behind c_law_trail_due : Ct) : SW :=
  (wIfS (wNotT (wTst (wCall c_law_same (wCons (wFrz (wCall c_steps_to (wCons (wVar 1) (wCons (wVar 2) (wCons (wVar 8) wNil))))) (wCons (wVar 9) wNil)))))
  (wRet (wC (.s (.bool false))))
  wNext)
def w_law_right_b3 (K : Frag) (cl : Ad) (c_trail c_place_behind c_steps_to c_law_pick c_law_same c_law_places c_law_walk c_law_behind c_law_trail_due : Ct) : SW :=
  (wSeq (wAsg 9 (wIf (wTst (wOp (fIn false) (wVar 8) (wVar 5))) (wInd (wVar 5) (wCons (wVar 8) wNil)) (wC (.s .none))))
  (w_law_right_t2 K cl c_trail c_place_behind c_steps_to c_law_pick c_law_same c_law_places c_law_walk c_law_behind c_law_trail_due))
def w_law_right_t4 (K : Frag) (cl : Ad) (c_trail c_place_behind c_steps_to c_law_pick c_law_same c_law_places c_law_walk c_law_behind c_law_trail_due : Ct) : SW :=
  (wRet (wC (.s (.bool true))))
def w_law_right_t5 (K : Frag) (cl : Ad) (c_trail c_place_behind c_steps_to c_law_pick c_law_same c_law_places c_law_walk c_law_behind c_law_trail_due : Ct) : SW :=
  (wSeq (wFor (wSeqF (wFrz (wLst (wCons (wVar 2) (wCons (wOp fIx (wVar 4) (wCall c_law_pick (wCons (wVar 0) (wCons (wCall1 fLen (wCons (wVar 4) wNil)) wNil)))) (wCons (wOp fIx (wVar 4) (wCall c_law_pick (wCons (wVar 0) (wCons (wCall1 fLen (wCons (wVar 4) wNil)) wNil)))) (wCons (wOp fIx (wVar 5) (wUn fNeg (wC (.s (.int 1))))) wNil))))))) (gwName 8) (w_law_right_b3 K cl c_trail c_place_behind c_steps_to c_law_pick c_law_same c_law_places c_law_walk c_law_behind c_law_trail_due))
  (w_law_right_t4 K cl c_trail c_place_behind c_steps_to c_law_pick c_law_same c_law_places c_law_walk c_law_behind c_law_trail_due))
def w_law_right_t6 (K : Frag) (cl : Ad) (c_trail c_place_behind c_steps_to c_law_pick c_law_same c_law_places c_law_walk c_law_behind c_law_trail_due : Ct) : SW :=
  (wSeq (wFrzS 6 (wFor (wSeqF (wVar 6)) (gwName 7) (w_law_right_b1 K cl c_trail c_place_behind c_steps_to c_law_pick c_law_same c_law_places c_law_walk c_law_behind c_law_trail_due)))
  (w_law_right_t5 K cl c_trail c_place_behind c_steps_to c_law_pick c_law_same c_law_places c_law_walk c_law_behind c_law_trail_due))
def w_law_right_t7 (K : Frag) (cl : Ad) (c_trail c_place_behind c_steps_to c_law_pick c_law_same c_law_places c_law_walk c_law_behind c_law_trail_due : Ct) : SW :=
  (wSeq (wAsg 6 (wLst (wCons (wC (.s (.int 0))) (wCons (wC (.s (.int 1))) (wCons (wFrz (wOp fSub (wCall1 fLen (wCons (wVar 5) wNil)) (wC (.s (.int 1))))) (wCons (wCall1 fLen (wCons (wVar 5) wNil)) (wCons (wCall c_law_pick (wCons (wVar 0) (wCons (wC (.s (.int 14))) wNil))) (wCons (wCall c_law_pick (wCons (wVar 0) (wCons (wFrz (wOp fAdd (wOp fPow (wC (.s (.int 10))) (wC (.s (.int 9)))) (wC (.s (.int 1))))) wNil))) (wCons (wFrz (wOp fPow (wC (.s (.int 10))) (wC (.s (.int 9))))) wNil)))))))))
  (w_law_right_t6 K cl c_trail c_place_behind c_steps_to c_law_pick c_law_same c_law_places c_law_walk c_law_behind c_law_trail_due))
def w_law_right_t8 (K : Frag) (cl : Ad) (c_trail c_place_behind c_steps_to c_law_pick c_law_same c_law_places c_law_walk c_law_behind c_law_trail_due : Ct) : SW :=
  (wSeq (wIfS (wNotT (wTst (wCall c_law_same (wCons (wFrz (wCall c_trail (wCons (wVar 1) (wCons (wVar 2) wNil)))) (wCons (wFrz (wCall c_law_trail_due (wCons (wVar 3) (wCons (wVar 2) wNil)))) wNil)))))
  (wRet (wC (.s (.bool false))))
  wNext)
  (w_law_right_t7 K cl c_trail c_place_behind c_steps_to c_law_pick c_law_same c_law_places c_law_walk c_law_behind c_law_trail_due))
def w_law_right_t9 (K : Frag) (cl : Ad) (c_trail c_place_behind c_steps_to c_law_pick c_law_same c_law_places c_law_walk c_law_behind c_law_trail_due : Ct) : SW :=
  (wSeq (wAsg 5 (wCall c_law_walk (wCons (wVar 3) (wCons (wVar 2) wNil))))
  (w_law_right_t8 K cl c_trail c_place_behind c_steps_to c_law_pick c_law_same c_law_places c_law_walk c_law_behind c_law_trail_due))
def w_law_right (K : Frag) (cl : Ad) (c_trail c_place_behind c_steps_to c_law_pick c_law_same c_law_places c_law_walk c_law_behind c_law_trail_due : Ct) : SW :=
  (wSeq (wPar 3 4 (wCall1 fDict (wCons (wOp fIx (wVar 1) (wC (.s (.int 1)))) wNil)) (wOp fAdd (wLst (wCons (wC (.s (.int 0))) wNil)) (wCall c_law_places (wCons (wVar 1) wNil))))
  (w_law_right_t9 K cl c_trail c_place_behind c_steps_to c_law_pick c_law_same c_law_places c_law_walk c_law_behind c_law_trail_due))
theorem ok_law_right (T : Txt K mg cl) {k : Nat} {c : Ct} {j_trail : Nat} {c_trail : Ct} (G_trail : FnOk P wd K mg base (L2.CX P wd) j_trail cl.f_trail cl.d_trail P_trail (spD K c_trail)) (h_trail : j_trail ≤ k) {j_place_behind : Nat} {c_place_behind : Ct} (G_place_behind : FnOk P wd K mg base (L2.CX P wd) j_place_behind cl.f_place_behind cl.d_place_behind P_place_behind (spD K c_place_behind)) (h_place_behind : j_place_behind ≤ k) {j_steps_to : Nat} {c_steps_to : Ct} (G_steps_to : FnOk P wd K mg base (L2.CX P wd) j_steps_to cl.f_steps_to cl.d_steps_to P_steps_to (spD K c_steps_to)) (h_steps_to : j_steps_to ≤ k) {j_law_pick : Nat} {c_law_pick : Ct} (G_law_pick : FnOk P wd K mg base (L2.CX P wd) j_law_pick cl.f_law_pick cl.d_law_pick P_law_pick (spD K c_law_pick)) (h_law_pick : j_law_pick ≤ k) {j_law_same : Nat} {c_law_same : Ct} (G_law_same : FnOk P wd K mg base (L2.CX P wd) j_law_same cl.f_law_same cl.d_law_same P_law_same (spD K c_law_same)) (h_law_same : j_law_same ≤ k) {j_law_places : Nat} {c_law_places : Ct} (G_law_places : FnOk P wd K mg base (L2.CX P wd) j_law_places cl.f_law_places cl.d_law_places P_law_places (spD K c_law_places)) (h_law_places : j_law_places ≤ k) {j_law_walk : Nat} {c_law_walk : Ct} (G_law_walk : FnOk P wd K mg base (L2.CX P wd) j_law_walk cl.f_law_walk cl.d_law_walk P_law_walk (spD K c_law_walk)) (h_law_walk : j_law_walk ≤ k) {j_law_behind : Nat} {c_law_behind : Ct} (G_law_behind : FnOk P wd K mg base (L2.CX P wd) j_law_behind cl.f_law_behind cl.d_law_behind P_law_behind (spD K c_law_behind)) (h_law_behind : j_law_behind ≤ k) {j_law_trail_due : Nat} {c_law_trail_due : Ct} (G_law_trail_due : FnOk P wd K mg base (L2.CX P wd) j_law_trail_due cl.f_law_trail_due cl.d_law_trail_due P_law_trail_due (spD K c_law_trail_due)) (h_law_trail_due : j_law_trail_due ≤ k) (hlen : ∀ rs Q E, c rs Q E → rs.length = P_law_right.length)
    (hw : ∀ rs Q E, c rs Q E → w_law_right K cl c_trail c_place_behind c_steps_to c_law_pick c_law_same c_law_places c_law_walk c_law_behind c_law_trail_due (rho N_law_right.length rs) { nx := fun _ => Q (.s .none), rt := Q, er := fun cls _ => E cls }) :
    FnOk P wd K mg base (L2.CX P wd) (k + 1) cl.f_law_right cl.d_law_right P_law_right (spD K c) :=
  fnD T.F_law_right sc_law_right hlen (fun cdv A outer s H E hr => by
  have tk := takes_of (X := cxOf (L2.CX P wd) P wd K mg base N_law_right "_law_right" (defScope s_law_right) cl.f_law_right cdv A outer s H E) rfl rfl rfl rfl
  exact (pds_cons (pds_par (i := 3) (j := 4) (ps_par rfl sc_law_right.nd rfl rfl (by decide) rfl rfl (pda_cons (call_core (t := fun _ _ _ => True) (pe_callTy (c_dict rfl) (by rfl) T.n_dict (by decide +kernel) (pda_cons (pd_ix (o_ix hr.units) (pd_var (pv 1)) pd_int (fun _ _ => rfl)) pda_nil))) (pda_cons (pd_op o_add (pd_lst (pda_cons pd_int pda_nil)) (pd_call (pe_callS G_law_places (hr.mono h_law_places) (by rfl) T.m_law_places T.F_law_places.kp T.b_law_places (fun σ => passAt tk σ) (pda_cons (pd_var (pv 1)) pda_nil)))) pda_nil)) (by rfl)))
  (pds_cons (pds_set (ps_set (i := 5) sc_law_right.nd rfl (by first | exact Or.inl rfl | exact Or.inr rfl) (pd_call (pe_callS G_law_walk (hr.mono h_law_walk) (by rfl) T.m_law_walk T.F_law_walk.kp T.b_law_walk (fun σ => passAt tk σ) (pda_cons (pd_var (pv 3)) (pda_cons (pd_var (pv 2)) pda_nil))))))
  (pds_cons (pds_if (pdt_not (pdt_val (pd_call (pe_callS G_law_same (hr.mono h_law_same) (by rfl) T.m_law_same T.F_law_same.kp T.b_law_same (fun σ => passAt tk σ) (pda_cons (pd_frz (pd_call (pe_callS G_trail (hr.mono h_trail) (by rfl) T.m_trail T.F_trail.kp T.b_trail (fun σ => passAt tk σ) (pda_cons (pd_var (pv 1)) (pda_cons (pd_var (pv 2)) pda_nil))))) (pda_cons (pd_frz (pd_call (pe_callS G_law_trail_due (hr.mono h_law_trail_due) (by rfl) T.m_law_trail_due T.F_law_trail_due.kp T.b_law_trail_due (fun σ => passAt tk σ) (pda_cons (pd_var (pv 3)) (pda_cons (pd_var (pv 2)) pda_nil))))) pda_nil))))))
  (pds_one (pds_ret pd_bl))
  pds_nil)
  (pds_cons (pds_set (ps_set (i := 6) sc_law_right.nd rfl (by first | exact Or.inl rfl | exact Or.inr rfl) (pd_lst (pda_cons pd_int (pda_cons pd_int (pda_cons (pd_frz (pd_op o_sub (call_core (t := fun _ _ _ => True) (pe_callB c_len (by rfl) T.n_len (by decide +kernel) (pda_cons (pd_var (pv 5)) pda_nil))) pd_int)) (pda_cons (call_core (t := fun _ _ _ => True) (pe_callB c_len (by rfl) T.n_len (by decide +kernel) (pda_cons (pd_var (pv 5)) pda_nil))) (pda_cons (pd_call (pe_callS G_law_pick (hr.mono h_law_pick) (by rfl) T.m_law_pick T.F_law_pick.kp T.b_law_pick (fun σ => passAt tk σ) (pda_cons (pd_var (pv 0)) (pda_cons pd_int pda_nil)))) (pda_cons (pd_call (pe_callS G_law_pick (hr.mono h_law_pick) (by rfl) T.m_law_pick T.F_law_pick.kp T.b_law_pick (fun σ => passAt tk σ) (pda_cons (pd_var (pv 0)) (pda_cons (pd_frz (pd_op o_add (pd_op o_pow pd_int pd_int) pd_int)) pda_nil)))) (pda_cons (pd_frz (pd_op o_pow pd_int pd_int)) pda_nil))))))))))
  (pds_cons (pds_frz (i := 6) (pds_for (ps_for (passes_of rfl) rfl (pif_seq (pd_var (pv 6))) (pgd_name (pg_name (i := 7) sc_law_right.nd rfl (by first | exact Or.inl rfl | exact Or.inr rfl))) (pds_one (pds_if (pdt_not (pdt_val (pd_call (pe_callS G_law_same (hr.mono h_law_same) (by rfl) T.m_law_same T.F_law_same.kp T.b_law_same (fun σ => passAt tk σ) (pda_cons (pd_frz (pd_call (pe_callS G_place_behind (hr.mono h_place_behind) (by rfl) T.m_place_behind T.F_place_behind.kp T.b_place_behind (fun σ => passAt tk σ) (pda_cons (pd_var (pv 1)) (pda_cons (pd_var (pv 2)) (pda_cons (pd_var (pv 7)) pda_nil)))))) (pda_cons (pd_frz (pd_call (pe_callS G_law_behind (hr.mono h_law_behind) (by rfl) T.m_law_behind T.F_law_behind.kp T.b_law_behind (fun σ => passAt tk σ) (pda_cons (pd_var (pv 3)) (pda_cons (pd_var (pv 2)) (pda_cons (pd_var (pv 7)) pda_nil)))))) pda_nil))))))
  (pds_one (pds_ret pd_bl))
  pds_nil)))))
  (pds_cons (pds_for (ps_for (passes_of rfl) rfl (pif_seq (pd_frz (pd_lst (pda_cons (pd_var (pv 2)) (pda_cons (pd_ix (o_ix hr.units) (pd_var (pv 4)) (pd_call (pe_callS G_law_pick (hr.mono h_law_pick) (by rfl) T.m_law_pick T.F_law_pick.kp T.b_law_pick (fun σ => passAt tk σ) (pda_cons (pd_var (pv 0)) (pda_cons (call_core (t := fun _ _ _ => True) (pe_callB c_len (by rfl) T.n_len (by decide +kernel) (pda_cons (pd_var (pv 4)) pda_nil))) pda_nil)))) (fun _ _ => rfl)) (pda_cons (pd_ix (o_ix hr.units) (pd_var (pv 4)) (pd_call (pe_callS G_law_pick (hr.mono h_law_pick) (by rfl) T.m_law_pick T.F_law_pick.kp T.b_law_pick (fun σ => passAt tk σ) (pda_cons (pd_var (pv 0)) (pda_cons (call_core (t := fun _ _ _ => True) (pe_callB c_len (by rfl) T.n_len (by decide +kernel) (pda_cons (pd_var (pv 4)) pda_nil))) pda_nil)))) (fun _ _ => rfl)) (pda_cons (pd_ix (o_ix hr.units) (pd_var (pv 5)) (pd_un o_neg pd_int) (fun _ _ => rfl)) pda_nil))))))) (pgd_name (pg_name (i := 8) sc_law_right.nd rfl (by first | exact Or.inl rfl | exact Or.inr rfl))) (pds_cons (pds_set (ps_set (i := 9) sc_law_right.nd rfl (by first | exact Or.inl rfl | exact Or.inr rfl) (pd_if (pdt_cmp (o_in hr.units) (pd_var (pv 8)) (pd_var (pv 5)) (by rfl)) (pd_ind (pe_bm PySem.F.plainAttrs_list PySem.F.slot_list_index PySem.F.type_list_index mt_indAny (pd_var (pv 5)) (pda_cons (pd_var (pv 8)) pda_nil))) pd_non)))
  (pds_one (pds_if (pdt_not (pdt_val (pd_call (pe_callS G_law_same (hr.mono h_law_same) (by rfl) T.m_law_same T.F_law_same.kp T.b_law_same (fun σ => passAt tk σ) (pda_cons (pd_frz (pd_call (pe_callS G_steps_to (hr.mono h_steps_to) (by rfl) T.m_steps_to T.F_steps_to.kp T.b_steps_to (fun σ => passAt tk σ) (pda_cons (pd_var (pv 1)) (pda_cons (pd_var (pv 2)) (pda_cons (pd_var (pv 8)) pda_nil)))))) (pda_cons (pd_var (pv 9)) pda_nil))))))
  (pds_one (pds_ret pd_bl))
  pds_nil)))))
  (pds_one (pds_ret pd_bl))))))))) hw
def w_law_errors_t1 (K : Frag) (cl : Ad) (c_law_pick c_law_places c_law_refused : Ct) : SW :=
  (wRet (wAndV (wOp fEq (wCall c_law_refused (wCons (wC (.s (.int 1))) (wCons (wVar 1) (wCons (wVar 4) (wCons (wVar 5) wNil))))) (wC (.s (.str "count")))) (wOp fEq (wCall c_law_refused (wCons (wC (.s (.int 2))) (wCons (wVar 1) (wCons (wVar 4) (wCons (wVar 3) wNil))))) (wC (.s (.str "other"))))))
def w_law_errors_t2 (K : Frag) (cl : Ad) (c_law_pick c_law_places c_law_refused : Ct) : SW :=
  (wSeq (wIfS (wTst (wOp fNe (wLc (wRange1 (wCons (wC (.s (.int 3))) wNil)) false [7] [7] wYes (wFrz (wCall c_law_refused (wCons (wVar 7) (wCons (wVar 1) (wCons (wVar 3) (wCons (wUn fNeg (wC (.s (.int 1)))) wNil))))))) (wLst (wCons (wC (.s (.str "place"))) (wCons (wC (.s (.str "place"))) (wCons (wC (.s (.str "place"))) wNil))))))
  (wRet (wC (.s (.bool false))))
  wNext)
  (w_law_errors_t1 K cl c_law_pick c_law_places c_law_refused))
def w_law_errors_t3 (K : Frag) (cl : Ad) (c_law_pick c_law_places c_law_refused : Ct) : SW :=
  (wSeq (wIfS (wTst (wOp fNe (wLc (wRange1 (wCons (wC (.s (.int 3))) wNil)) false [7] [7] wYes (wFrz (wCall c_law_refused (wCons (wVar 7) (wCons (wVar 6) (wCons (wVar 3) (wCons (wVar 5) wNil))))))) (wLst (wCons (wC (.s (.str "state"))) (wCons (wC (.s (.str "state"))) (wCons (wC (.s (.str "state"))) wNil))))))
  (wRet (wC (.s (.bool false))))
  wNext)
  (w_law_errors_t2 K cl c_law_pick c_law_places c_law_refused))
def w_law_errors_t4 (K : Frag) (cl : Ad) (c_law_pick c_law_places c_law_refused : Ct) : SW :=
  (wSeq (wAsg 6 (wOp fIx (wLst (wCons (wTup (wCons (wOp fIx (wVar 1) (wC (.s (.int 0)))) (wCons (wFrz (wCall1 fList (wCons (wOp fIx (wVar 1) (wC (.s (.int 1)))) wNil))) wNil))) (wCons (wTup (wCons (wFrz (wOp fAdd (wOp fIx (wVar 1) (wC (.s (.int 0)))) (wTup (wCons (wUn fNeg (wC (.s (.int 1)))) wNil)))) (wCons (wOp fIx (wVar 1) (wC (.s (.int 1)))) wNil))) (wCons (wC (.s .none)) wNil)))) (wCall c_law_pick (wCons (wVar 0) (wCons (wC (.s (.int 3))) wNil)))))
  (w_law_errors_t3 K cl c_law_pick c_law_places c_law_refused))
def w_law_errors_t5 (K : Frag) (cl : Ad) (c_law_pick c_law_places c_law_refused : Ct) : SW :=
  (wSeq (wParN [4, 5] (wCons (wOp fIx (wVar 2) (wCall c_law_pick (wCons (wVar 0) (wCons (wCall1 fLen (wCons (wVar 2) wNil)) wNil)))) (wCons (wOp fIx (wLst (wCons (wUn fNeg (wC (.s (.int 1)))) (wCons (wFrz (wOp fAdd (wOp fPow (wC (.s (.int 10))) (wC (.s (.int 9)))) (wC (.s (.int 1))))) (wCons (wC (.s (.bool true))) (wCons (wUn fNeg (wOp fPow (wC (.s (.int 10))) (wC (.s (.int 30))))) wNil))))) (wCall c_law_pick (wCons (wVar 0) (wCons (wC (.s (.int 4))) wNil)))) wNil)))
  (w_law_errors_t4 K cl c_law_pick c_law_places c_law_refused))
def w_law_errors_t6 (K : Frag) (cl : Ad) (c_law_pick c_law_places c_law_refused : Ct) : SW :=
  (wSeq (wAsg 3 (wOp fIx (wLst (wCons (wUn fNeg (wC (.s (.int 1)))) (wCons (wFrz (wOp fAdd (wCall1 fMax1 (wCons (wVar 2) wNil)) (wC (.s (.int 1))))) (wCons (wFrz (wOp fPow (wC (.s (.int 10))) (wC (.s (.int 20))))) wNil)))) (wCall c_law_pick (wCons (wVar 0) (wCons (wC (.s (.int 3))) wNil)))))
  (w_law_errors_t5 K cl c_law_pick c_law_places c_law_refused))
def w_law_errors (K : Frag) (cl : Ad) (c_law_pick c_law_places c_law_refused : Ct) : SW :=
  (wSeq (wAsg 2 (wOp fAdd (wLst (wCons (wC (.s (.int 0))) wNil)) (wCall c_law_places (wCons (wVar 1) wNil))))
  (w_law_errors_t6 K cl c_law_pick c_law_places c_law_refused))
theorem ok_law_errors (T : Txt K mg cl) {k : Nat} {c : Ct} {j_law_pick : Nat} {c_law_pick : Ct} (G_law_pick : FnOk P wd K mg base (L2.CX P wd) j_law_pick cl.f_law_pick cl.d_law_pick P_law_pick (spD K c_law_pick)) (h_law_pick : j_law_pick ≤ k) {j_law_places : Nat} {c_law_places : Ct} (G_law_places : FnOk P wd K mg base (L2.CX P wd) j_law_places cl.f_law_places cl.d_law_places P_law_places (spD K c_law_places)) (h_law_places : j_law_places ≤ k) {j_law_refused : Nat} {c_law_refused : Ct} (G_law_refused : FnOk P wd K mg base (L2.CX P wd) j_law_refused cl.f_law_refused cl.d_law_refused P_law_refused (spD K c_law_refused)) (h_law_refused : j_law_refused ≤ k) (hlen : ∀ rs Q E, c rs Q E → rs.length = P_law_errors.length)
    (hw : ∀ rs Q E, c rs Q E → w_law_errors K cl c_law_pick c_law_places c_law_refused (rho N_law_errors.length rs) { nx := fun _ => Q (.s .none), rt := Q, er := fun cls _ => E cls }) :
    FnOk P wd K mg base (L2.CX P wd) (k + 1) cl.f_law_errors cl.d_law_errors P_law_errors (spD K c) :=
  fnD T.F_law_errors sc_law_errors hlen (fun cdv A outer s H E hr => by
  have tk := takes_of (X := cxOf (L2.CX P wd) P wd K mg base N_law_errors "_law_errors" (defScope s_law_errors) cl.f_law_errors cdv A outer s H E) rfl rfl rfl rfl
  exact (pds_cons (pds_set (ps_set (i := 2) sc_law_errors.nd rfl (by first | exact Or.inl rfl | exact Or.inr rfl) (pd_op o_add (pd_lst (pda_cons pd_int pda_nil)) (pd_call (pe_callS G_law_places (hr.mono h_law_places) (by rfl) T.m_law_places T.F_law_places.kp T.b_law_places (fun σ => passAt tk σ) (pda_cons (pd_var (pv 1)) pda_nil))))))
  (pds_cons (pds_set (ps_set (i := 3) sc_law_errors.nd rfl (by first | exact Or.inl rfl | exact Or.inr rfl) (pd_ix (o_ix hr.units) (pd_lst (pda_cons (pd_un o_neg pd_int) (pda_cons (pd_frz (pd_op o_add (call_core (t := fun _ _ _ => True) (pe_callB (c_max1 rfl) (by rfl) T.n_max (by decide +kernel) (pda_cons (pd_var (pv 2)) pda_nil))) pd_int)) (pda_cons (pd_frz (pd_op o_pow pd_int pd_int)) pda_nil)))) (pd_call (pe_callS G_law_pick (hr.mono h_law_pick) (by rfl) T.m_law_pick T.F_law_pick.kp T.b_law_pick (fun σ => passAt tk σ) (pda_cons (pd_var (pv 0)) (pda_cons pd_int pda_nil)))) (fun _ _ => rfl))))
  (pds_cons (pds_parT (is := [4, 5]) (by decide) (ps_asg (peN_tup (pda_cons (pd_ix (o_ix hr.units) (pd_var (pv 2)) (pd_call (pe_callS G_law_pick (hr.mono h_law_pick) (by rfl) T.m_law_pick T.F_law_pick.kp T.b_law_pick (fun σ => passAt tk σ) (pda_cons (pd_var (pv 0)) (pda_cons (call_core (t := fun _ _ _ => True) (pe_callB c_len (by rfl) T.n_len (by decide +kernel) (pda_cons (pd_var (pv 2)) pda_nil))) pda_nil)))) (fun _ _ => rfl)) (pda_cons (pd_ix (o_ix hr.units) (pd_lst (pda_cons (pd_un o_neg pd_int) (pda_cons (pd_frz (pd_op o_add (pd_op o_pow pd_int pd_int) pd_int)) (pda_cons pd_bl (pda_cons (pd_un o_neg (pd_op o_pow pd_int pd_int)) pda_nil))))) (pd_call (pe_callS G_law_pick (hr.mono h_law_pick) (by rfl) T.m_law_pick T.F_law_pick.kp T.b_law_pick (fun σ => passAt tk σ) (pda_cons (pd_var (pv 0)) (pda_cons pd_int pda_nil)))) (fun _ _ => rfl)) pda_nil))) (pg_tup rfl (pgs_cons (pg_name (i := 4) sc_law_errors.nd rfl (by first | exact Or.inl rfl | exact Or.inr rfl)) (pgs_cons (pg_name (i := 5) sc_law_errors.nd rfl (by first | exact Or.inl rfl | exact Or.inr rfl)) pgs_nil)))))
  (pds_cons (pds_set (ps_set (i := 6) sc_law_errors.nd rfl (by first | exact Or.inl rfl | exact Or.inr rfl) (pd_ix (o_ix hr.units) (pd_lst (pda_cons (pd_tup (pda_cons (pd_ix (o_ix hr.units) (pd_var (pv 1)) pd_int (fun _ _ => rfl)) (pda_cons (pd_frz (call_core (t := fun _ _ _ => True) (pe_callTy c_list (by rfl) T.n_list (by decide +kernel) (pda_cons (pd_ix (o_ix hr.units) (pd_var (pv 1)) pd_int (fun _ _ => rfl)) pda_nil)))) pda_nil))) (pda_cons (pd_tup (pda_cons (pd_frz (pd_op o_add (pd_ix (o_ix hr.units) (pd_var (pv 1)) pd_int (fun _ _ => rfl)) (pd_tup (pda_cons (pd_un o_neg pd_int) pda_nil)))) (pda_cons (pd_ix (o_ix hr.units) (pd_var (pv 1)) pd_int (fun _ _ => rfl)) pda_nil))) (pda_cons pd_non pda_nil)))) (pd_call (pe_callS G_law_pick (hr.mono h_law_pick) (by rfl) T.m_law_pick T.F_law_pick.kp T.b_law_pick (fun σ => passAt tk σ) (pda_cons (pd_var (pv 0)) (pda_cons pd_int pda_nil)))) (fun _ _ => rfl))))
  (pds_cons (pds_if (pdt_cmp (o_ne hr.units) (pd_lc (tup := false) (is := [7]) (pe_lc (own := [("which", 7)]) (g := gC K false [7]) rfl sc_law_errors.nd (pic_range1 (pi_range1 (by rfl) T.n_range (pda_cons pd_int pda_nil))) (blkOk_by (own := [("which", 7)]) (N := N_law_errors) (sc := defScope s_law_errors) (by decide +kernel)) (fun _ _ _ _ _ => (pg_name (i := 7) sc_law_errors.nd rfl (by first | exact Or.inl rfl | exact Or.inr rfl))) (fun _ _ _ _ _ => pdts_nil) (fun _ _ _ _ _ => (pd_frz (pd_call (pe_callS G_law_refused (hr.mono h_law_refused) (by rfl) T.m_law_refused T.F_law_refused.kp T.b_law_refused (fun σ => passAt takes0 σ) (pda_cons (pd_var (pv 7)) (pda_cons (pd_var (pv 6)) (pda_cons (pd_var (pv 3)) (pda_cons (pd_var (pv 5)) pda_nil))))))))) (by decide) (by first | exact Or.inl rfl | exact Or.inr ⟨_, rfl⟩)) (pd_lst (pda_cons pd_str (pda_cons pd_str (pda_cons pd_str pda_nil)))) (nomark _))
  (pds_one (pds_ret pd_bl))
  pds_nil)
  (pds_cons (pds_if (pdt_cmp (o_ne hr.units) (pd_lc (tup := false) (is := [7]) (pe_lc (own := [("which", 7)]) (g := gC K false [7]) rfl sc_law_errors.nd (pic_range1 (pi_range1 (by rfl) T.n_range (pda_cons pd_int pda_nil))) (blkOk_by (own := [("which", 7)]) (N := N_law_errors) (sc := defScope s_law_errors) (by decide +kernel)) (fun _ _ _ _ _ => (pg_name (i := 7) sc_law_errors.nd rfl (by first | exact Or.inl rfl | exact Or.inr rfl))) (fun _ _ _ _ _ => pdts_nil) (fun _ _ _ _ _ => (pd_frz (pd_call (pe_callS G_law_refused (hr.mono h_law_refused) (by rfl) T.m_law_refused T.F_law_refused.kp T.b_law_refused (fun σ => passAt takes0 σ) (pda_cons (pd_var (pv 7)) (pda_cons (pd_var (pv 1)) (pda_cons (pd_var (pv 3)) (pda_cons (pd_un o_neg pd_int) pda_nil))))))))) (by decide) (by first | exact Or.inl rfl | exact Or.inr ⟨_, rfl⟩)) (pd_lst (pda_cons pd_str (pda_cons pd_str (pda_cons pd_str pda_nil)))) (nomark _))
  (pds_one (pds_ret pd_bl))
  pds_nil)
  (pds_one (pds_ret (pd_and (pd_cmp (o_eq hr.units) (pd_call (pe_callS G_law_refused (hr.mono h_law_refused) (by rfl) T.m_law_refused T.F_law_refused.kp T.b_law_refused (fun σ => passAt tk σ) (pda_cons pd_int (pda_cons (pd_var (pv 1)) (pda_cons (pd_var (pv 4)) (pda_cons (pd_var (pv 5)) pda_nil)))))) pd_str (nomark _)) (pd_one (pd_cmp (o_eq hr.units) (pd_call (pe_callS G_law_refused (hr.mono h_law_refused) (by rfl) T.m_law_refused T.F_law_refused.kp T.b_law_refused (fun σ => passAt tk σ) (pda_cons pd_int (pda_cons (pd_var (pv 1)) (pda_cons (pd_var (pv 4)) (pda_cons (pd_var (pv 3)) pda_nil)))))) pd_str (nomark _))))))))))))) hw
theorem ok_law_pick (T : Txt K mg cl) : FnOk P wd K mg base (L2.CX P wd) 1 cl.f_law_pick cl.d_law_pick P_law_pick (spD K c_pick) := by
  have nd := sc_law_pick.nd
  refine T.F_law_pick.okX sc_law_pick (fun vs H Q E h => ?_) (fun cdv A outer s H vs Q E hr h => ?_)
  · obtain ⟨G, F', rs, Qd, Qe, _, _, h1, ⟨n, e, _⟩, _⟩ := h
    rw [h1.length, e]
    rfl
  obtain ⟨G, F', rs, Qd, Qe, sF, gok, ra, ⟨n, e, n0, n1, q⟩, ok, _⟩ := h
  rw [e] at ra
  obtain ⟨x, y, rfl, ⟨a0, c, rfl, rfl⟩, r2⟩ := ra.two
  cases r2.int
  obtain ⟨cells, s_, m_, d⟩ := DeckAt.of gok
  have fin : ∀ (H' : Hp) (cells' : List Int) (s' m' r : Int), DeckAt a0 c H' cells' s' m' → Same (hide (deckG a0 c) H) (hide (deckG a0 c) H') → 0 ≤ r → r < n → Q (.int r) H' := fun H' cells' s' m' r d' sh r0 r1 =>
    ok (.s (.int r)) (.int r) F' H' ⟨Same.refl _, sh, fun _ _ z _ => z⟩ (sF.trans sh) d'.ok (show DL.Dp K F' (.int r) (.int r) from .int r) (q r r0 r1)
  -- if deck[1] < 10 ** 6 and cells != []: ..
  refine ⟨_, pss_cons (ps_set (i := 2) nd rfl (by first | exact Or.inl rfl | exact Or.inr rfl) (pe_ix ix_list (pv 0) pe_int (fun _ _ => rfl)))
    (pss_cons (ps_imp (t' := tPickA) (ps_if (PW.pt (pw_and (pt_cmpR op_lt (pe_ix ix_list (pv 0) pe_int (fun _ _ => rfl)) (pe_op op_pow pe_int pe_int) (nomark _)) (pw_and1 (pt_cmpR (op_neD hr.units) (pv 2) (pe_lst pa_nil) (nomark _)))))
        (pss_cons (ps_set (i := 3) nd rfl (by first | exact Or.inl rfl | exact Or.inr rfl) (pe_bm PySem.F.plainAttrs_list PySem.F.slot_list_pop PySem.F.type_list_pop mt_popAt (pv 2) (pa_cons pe_int pa_nil)))
          (pss_one (ps_if (pt_cmpR op_ge (pv 3) (pe_op op_pow pe_int pe_int) (nomark _))
            (pss_one (ps_asg (pv 3) (pg_sub (pv 0) pe_int set_list)))
            (pss_one (ps_asg (pe_op op_mod (pe_callTy call_int1 (by rfl) T.n_int (by decide +kernel) (pa_cons (pe_op op_add (pe_op op_add (pe_op op_mul (pe_ix ix_list (pv 0) pe_int (fun _ _ => rfl)) pe_int)
              (pe_op op_mul (pe_op op_mod (pe_callTy call_int1 (by rfl) T.n_int (by decide +kernel) (pa_cons (pv 3) pa_nil)) pe_int) pe_int)) pe_int) pa_nil)) pe_int) (pg_sub (pv 0) pe_int set_list))))))
        pss_nil) ?p1)
      (pss_cons (ps_if (pt_cmpR op_ge (pe_ix ix_list (pv 0) pe_int (fun _ _ => rfl)) (pe_op op_pow pe_int pe_int) (nomark _))
          (pss_cons (ps_set (i := 4) nd rfl (by first | exact Or.inl rfl | exact Or.inr rfl) (pe_op op_mod (pe_callTy call_int1 (by rfl) T.n_int (by decide +kernel) (pa_cons (pe_ix ix_list (pv 0) pe_int (fun _ _ => rfl)) pa_nil)) (pv 1)))
            (pss_cons (ps_asg (pe_op op_fdiv (pe_ix ix_list (pv 0) pe_int (fun _ _ => rfl)) (pv 1)) (pg_sub (pv 0) pe_int set_list)) (pss_one (ps_ret (pv 4)))))
          pss_nil)
        (pss_cons (ps_asg (pe_op op_mod (pe_callTy call_int1 (by rfl) T.n_int (by decide +kernel) (pa_cons (pe_op op_add (pe_op op_mul (pe_ix ix_list (pv 0) pe_int (fun _ _ => rfl)) pe_int) pe_int) pa_nil)) pe_int) (pg_sub (pv 0) pe_int set_list))
          (pss_one (ps_ret (pe_op op_mod (pe_callTy call_int1 (by rfl) T.n_int (by decide +kernel) (pa_cons (pe_op op_fdiv (pe_ix ix_list (pv 0) pe_int (fun _ _ => rfl)) pe_int) pa_nil)) (pv 1))))))), ?_⟩
  case p1 =>
    rintro D σ H1 ⟨a, c, n, cells, s, m, rfl, d, nx⟩
    have lt6 : ((10 : Int) ^ (6 : Int).toNat) = 1000000 := by decide
    have lt18 : ((10 : Int) ^ (18 : Int).toNat) = 1000000000000000000 := by decide
    refine ⟨_, rfl, a, _, 1, _, rfl, rfl, .inl (.inl d.h1), atI_nat (j := 1) rfl, _, _, rfl, rfl, by unfold CPow; decide, _, _, rfl, rfl, _, rfl, ?_⟩
    refine ite2 (fun _ => ?_) (fun _ => iteF (nx none H1 cells s m d (Same.refl _)))
    refine ⟨_, rfl, Nat.zero_le _, fun p hp => ?_⟩
    have d1 : DeckAt a c (upd H1 p (.lst [])) cells s m := d.new hp
    have sh1 : Same (hide (deckG a c) H1) (hide (deckG a c) (upd H1 p (.lst []))) := (Stp.new (G := deckG a c) (B := H1) hp).hh
    refine ⟨_, _, .lst (.inl (.inl d1.h2)) (old_ints cells), .lst (.inl (.inl upd_same)) .nil, sh_ints cells, by decide, _, rfl, ?_⟩
    refine ite2 (fun he => ?_) (fun _ => nx none _ cells s m d1 sh1)
    cases cells with
    | nil => simp [PyData.eqv, PyData.eqvAll] at he
    | cons x cells =>
      have hx := d.h3 x List.mem_cons_self
      refine ⟨_, rfl, .inl ⟨rfl, _, .inl (.inl d1.h2)⟩, c, _, 0, 0, _, rfl, rfl, d1.h2, by decide, by decide, by simp [seqIndex?], rfl, ?_⟩
      have d2 := d1.pop
      have sh2 : Same (hide (deckG a c) H1) (hide (deckG a c) (upd (upd H1 p (.lst [])) c (.lst (cells.map V.int)))) := by rw [hide_ghost (by show c ∈ [a, c]; simp)]; exact sh1
      refine ⟨_, rfl, _, _, rfl, rfl, by unfold CPow; decide, _, _, rfl, rfl, _, rfl, ?_⟩
      refine ite2 (fun _ => ?_) (fun _ => ?_)
      · refine ⟨_, rfl, _, rfl, a, _, 1, 1, rfl, rfl, d2.h1, by simp [ixN], ?_⟩
        exact nx _ _ _ _ _ (d2.setS (s' := x) hx.1 hx.2) (by rw [hide_ghost (by show a ∈ [a, c]; simp)]; exact sh2)
      · refine ⟨_, rfl, a, _, 2, _, rfl, rfl, .inl (.inl d2.h1), atI_nat (j := 2) rfl, _, _, rfl, rfl, .inr (by decide), _, rfl, .inl ⟨_, rfl, _, _, rfl, rfl, (by show (0 : Int) < _; decide), _, _, rfl, rfl, .inr (by decide), _, _, rfl, rfl, _, _, rfl, rfl, .inl ⟨_, rfl, _, _, rfl, rfl, (by show (0 : Int) < _; decide), ?_⟩⟩⟩
        refine ⟨_, rfl, a, _, 2, 2, rfl, rfl, d2.h1, by simp [ixN], ?_⟩
        refine nx _ _ _ _ _ (d2.setM (Int.emod_nonneg _ (by decide)) ?_) (by rw [hide_ghost (by show a ∈ [a, c]; simp)]; exact sh2)
        exact Int.lt_trans (Int.emod_lt_of_pos _ (by decide)) (by decide)
  refine ⟨_, rfl, a0, _, 0, _, rfl, rfl, .inl (.inl d.h1), atI_nat (j := 0) rfl, ?_⟩
  refine ⟨a0, c, n, cells, s_, m_, rfl, d, fun v H1 cells1 s1 m1 d1 sh1 => ?_⟩
  refine ⟨_, rfl, a0, _, 1, _, rfl, rfl, .inl (.inl d1.h1), atI_nat (j := 1) rfl, _, _, rfl, rfl, by unfold CPow; decide, _, _, rfl, rfl, _, rfl, ?_⟩
  refine ite2 (fun _ => ?_) (fun _ => ?_)
  · refine ⟨_, rfl, a0, _, 1, _, rfl, rfl, .inl (.inl d1.h1), atI_nat (j := 1) rfl, .inl ⟨_, rfl, _, rfl, _, _, rfl, rfl, n0, ?_⟩⟩
    refine ⟨_, rfl, a0, _, 1, _, rfl, rfl, .inl (.inl d1.h1), atI_nat (j := 1) rfl, _, rfl, _, _, rfl, rfl, ⟨n0, n1⟩, ?_⟩
    refine ⟨_, rfl, a0, _, 1, 1, rfl, rfl, d1.h1, by simp [ixN], ?_⟩
    have q0 : 0 ≤ s1 / n := Int.ediv_nonneg d1.s0 (Int.le_of_lt n0)
    have q1 : s1 / n < 10 ^ 60 := Int.lt_of_le_of_lt (Int.ediv_le_self _ d1.s0) d1.s1
    exact ⟨_, rfl, fin _ _ _ _ _ (d1.setS q0 q1) (by rw [hide_ghost (by show a0 ∈ [a0, c]; simp)]; exact sh1) (Int.emod_nonneg _ (Int.ne_of_gt n0)) (Int.emod_lt_of_pos _ n0)⟩
  · refine ⟨_, rfl, a0, _, 2, _, rfl, rfl, .inl (.inl d1.h1), atI_nat (j := 2) rfl, _, _, rfl, rfl, .inr (by decide), _, _, rfl, rfl, .inl ⟨_, rfl, _, _, rfl, rfl, (by show (0 : Int) < _; decide), ?_⟩⟩
    refine ⟨_, rfl, a0, _, 2, 2, rfl, rfl, d1.h1, by simp [ixN], ?_⟩
    have d2 := d1.setM (m' := (m1 * 48271 + 11) % 2147483647) (Int.emod_nonneg _ (by decide)) (Int.emod_lt_of_pos _ (by decide))
    refine ⟨_, rfl, a0, _, 2, _, rfl, rfl, .inl (.inl d2.h1), atI_nat (j := 2) rfl, _, _, rfl, rfl, ⟨by decide, by decide⟩, .inl ⟨_, rfl, _, rfl, _, _, rfl, rfl, n0, ?_⟩⟩
    exact fin _ _ _ _ _ d2 (by rw [hide_ghost (by show a0 ∈ [a0, c]; simp)]; exact sh1) (Int.emod_nonneg _ (Int.ne_of_gt n0)) (Int.emod_lt_of_pos _ n0)

theorem ok_law_deck (T : Txt K mg cl) : FnOk P wd K mg base (L2.CX P wd) 1 cl.f_law_deck cl.d_law_deck P_law_deck (spDeck K) := by
  refine T.F_law_deck.okX sc_law_deck (fun vs H Q E h => ?_) (fun cdv A outer s H vs Q E hr h => ⟨_, ?_, deck_read h⟩)
  · obtain ⟨a, ns, rfl, _⟩ := h
    rfl
  · exact pss_one (ps_ret (pe_lst (pa_cons (pe_lc (own := [("cell", 1)]) (g := gName 1) (tt := tYes) rfl sc_law_deck.nd (pi_list (pe_slice sl_list (pv 0) po_none (po_some pe_int))) (blkOk_by (own := [("cell", 1)]) (N := N_law_deck) (sc := defScope s_law_deck) (by decide +kernel))
      (fun _ _ _ _ _ => pg_name (i := 1) sc_law_deck.nd rfl (by first | exact Or.inl rfl | exact Or.inr rfl)) (fun _ _ _ _ _ => pts_nil)
      (fun _ _ _ _ _ => pe_op op_mod (pe_callTy call_int1 (by rfl) T.n_int (by decide +kernel) (pa_cons (pv 1) pa_nil)) (pe_op op_pow pe_int pe_int))) (pa_cons pe_int (pa_cons pe_int pa_nil)))))
def w_law_b1 (K : Frag) (cl : Ad) (c_law_pick c_law_places c_law_made c_law_scattered c_law_long c_law_right c_law_errors : Ct) : SW :=
  (wIfS (wNotT (wTst (wCall c_law_right (wCons (wVar 1) (wCons (wVar 3) (wCons (wVar 5) wNil))))))
  (wRet (wC (.s (.bool false))))
  wNext)
def w_law_b2 (K : Frag) (cl : Ad) (c_law_pick c_law_places c_law_made c_law_scattered c_law_long c_law_right c_law_errors : Ct) : SW :=
  (wSeq (wAsg 3 (wCall c_law_scattered (wCons (wVar 1) (wCons (wFrz (wCall c_law_made (wCons (wVar 1) (wCons (wCall c_law_pick (wCons (wVar 1) (wCons (wC (.s (.int 5))) wNil))) (wCons (wCall c_law_pick (wCons (wVar 1) (wCons (wC (.s (.int 3))) wNil))) (wCons (wC (.s (.int 12))) wNil)))))) wNil))))
  (wSeq (wAsg 4 (wOp fAdd (wLst (wCons (wC (.s (.int 0))) wNil)) (wCall c_law_places (wCons (wVar 3) wNil))))
  (wSeq (wFor (wSeqF (wFrz (wOp fAdd (wSl (wVar 4) wONone (wOSome (wC (.s (.int 9))))) (wLst (wCons (wOp fIx (wVar 4) (wCall c_law_pick (wCons (wVar 1) (wCons (wCall1 fLen (wCons (wVar 4) wNil)) wNil)))) wNil))))) (gwName 5) (w_law_b1 K cl c_law_pick c_law_places c_law_made c_law_scattered c_law_long c_law_right c_law_errors))
  (wIfS (wNotT (wTst (wCall c_law_errors (wCons (wVar 1) (wCons (wVar 3) wNil)))))
  (wRet (wC (.s (.bool false))))
  wNext))))
def w_law (K : Frag) (cl : Ad) (c_law_pick c_law_places c_law_made c_law_scattered c_law_long c_law_right c_law_errors : Ct) : SW :=
  (wSeq (wFor (wRange1 (wCons (wOp fAdd (wC (.s (.int 2))) (wCall1 fMin2 (wCons (wCall1 fLen (wCons (wVar 0) wNil)) (wCons (wC (.s (.int 6))) wNil)))) wNil)) (gwName 2) (w_law_b2 K cl c_law_pick c_law_places c_law_made c_law_scattered c_law_long c_law_right c_law_errors))
  (wSeq (wAsg 3 (wCall c_law_long (wCons (wVar 1) wNil)))
  (wRet (wAndV (wCall c_law_right (wCons (wVar 1) (wCons (wVar 3) (wCons (wOp fIx (wOp fIx (wVar 3) (wC (.s (.int 0)))) (wC (.s (.int 0)))) wNil)))) (wCall c_law_right (wCons (wVar 1) (wCons (wVar 3) (wCons (wOp fIx (wCall c_law_places (wCons (wVar 3) wNil)) (wCall c_law_pick (wCons (wVar 1) (wCons (wC (.s (.int 9))) wNil)))) wNil))))))))
theorem ok_law (T : Txt K mg cl) {k : Nat} (h1 : 1 ≤ k) {j_law_pick : Nat} {c_law_pick : Ct} (G_law_pick : FnOk P wd K mg base (L2.CX P wd) j_law_pick cl.f_law_pick cl.d_law_pick P_law_pick (spD K c_law_pick)) (h_law_pick : j_law_pick ≤ k) {j_law_places : Nat} {c_law_places : Ct} (G_law_places : FnOk P wd K mg base (L2.CX P wd) j_law_places cl.f_law_places cl.d_law_places P_law_places (spD K c_law_places)) (h_law_places : j_law_places ≤ k) {j_law_made : Nat} {c_law_made : Ct} (G_law_made : FnOk P wd K mg base (L2.CX P wd) j_law_made cl.f_law_made cl.d_law_made P_law_made (spD K c_law_made)) (h_law_made : j_law_made ≤ k) {j_law_scattered : Nat} {c_law_scattered : Ct} (G_law_scattered : FnOk P wd K mg base (L2.CX P wd) j_law_scattered cl.f_law_scattered cl.d_law_scattered P_law_scattered (spD K c_law_scattered)) (h_law_scattered : j_law_scattered ≤ k) {j_law_long : Nat} {c_law_long : Ct} (G_law_long : FnOk P wd K mg base (L2.CX P wd) j_law_long cl.f_law_long cl.d_law_long P_law_long (spD K c_law_long)) (h_law_long : j_law_long ≤ k) {j_law_right : Nat} {c_law_right : Ct} (G_law_right : FnOk P wd K mg base (L2.CX P wd) j_law_right cl.f_law_right cl.d_law_right P_law_right (spD K c_law_right)) (h_law_right : j_law_right ≤ k) {j_law_errors : Nat} {c_law_errors : Ct} (G_law_errors : FnOk P wd K mg base (L2.CX P wd) j_law_errors cl.f_law_errors cl.d_law_errors P_law_errors (spD K c_law_errors)) (h_law_errors : j_law_errors ≤ k)
    (hw : ∀ ns : List Int, ns.length ≤ 63 → w_law K cl c_law_pick c_law_places c_law_made c_law_scattered c_law_long c_law_right c_law_errors (some (.s (.list (ns.map PyData.int))) :: some .g :: List.replicate (N_law.length - 2) none) { nx := fun _ => False, rt := fun r => r = .s (.bool true) }) :
    FnOk P wd K mg base CX0 (k + 1) cl.f_law cl.d_law P_law (spLaw K) := by
  refine T.F_law.ok sc_law (fun vs H Q E h => ?_) (fun cdv A outer s H vs Q E hr h => ⟨_, ?_, law_read (N := N_law) (by decide) h hw⟩)
  · obtain ⟨a, ns, rfl, _⟩ := h
    rfl
  · have GD := ok_law_deck (P := P) (wd := wd) (base := base) T
    exact pss_cons (ps_set (i := 1) sc_law.nd rfl (by first | exact Or.inl rfl | exact Or.inr rfl) (pe_callS GD (hr.mono h1) (by rfl) T.m_law_deck T.F_law_deck.kp T.b_law_deck (fun σ => passAt takes0 σ) (pa_cons (pv 0) pa_nil)))
        (pds_cons (pds_for (ps_for PassesOwn.never rfl (pif_range1 (pi_range1 (by rfl) T.n_range (pda_cons (pd_op o_add pd_int (call_core (t := fun _ _ _ => True) (pe_callB (c_min2 rfl) (by rfl) T.n_min (by decide +kernel) (pda_cons (call_core (t := fun _ _ _ => True) (pe_callB c_len (by rfl) T.n_len (by decide +kernel) (pda_cons (pd_var (pv 0)) pda_nil))) (pda_cons pd_int pda_nil))))) pda_nil))) (pgd_name (pg_name (i := 2) sc_law.nd rfl (by first | exact Or.inl rfl | exact Or.inr rfl))) (pds_cons (pds_set (ps_set (i := 3) sc_law.nd rfl (by first | exact Or.inl rfl | exact Or.inr rfl) (pd_call (pe_callS G_law_scattered (hr.mono h_law_scattered) (by rfl) T.m_law_scattered T.F_law_scattered.kp T.b_law_scattered (fun σ => passAt takes0 σ) (pda_cons (pd_var (pv 1)) (pda_cons (pd_frz (pd_call (pe_callS G_law_made (hr.mono h_law_made) (by rfl) T.m_law_made T.F_law_made.kp T.b_law_made (fun σ => passAt takes0 σ) (pda_cons (pd_var (pv 1)) (pda_cons (pd_call (pe_callS G_law_pick (hr.mono h_law_pick) (by rfl) T.m_law_pick T.F_law_pick.kp T.b_law_pick (fun σ => passAt takes0 σ) (pda_cons (pd_var (pv 1)) (pda_cons pd_int pda_nil)))) (pda_cons (pd_call (pe_callS G_law_pick (hr.mono h_law_pick) (by rfl) T.m_law_pick T.F_law_pick.kp T.b_law_pick (fun σ => passAt takes0 σ) (pda_cons (pd_var (pv 1)) (pda_cons pd_int pda_nil)))) (pda_cons pd_int pda_nil))))))) pda_nil))))))
          (pds_cons (pds_set (ps_set (i := 4) sc_law.nd rfl (by first | exact Or.inl rfl | exact Or.inr rfl) (pd_op o_add (pd_lst (pda_cons pd_int pda_nil)) (pd_call (pe_callS G_law_places (hr.mono h_law_places) (by rfl) T.m_law_places T.F_law_places.kp T.b_law_places (fun σ => passAt takes0 σ) (pda_cons (pd_var (pv 3)) pda_nil))))))
          (pds_cons (pds_for (ps_for PassesOwn.never rfl (pif_seq (pd_frz (pd_op o_add (pd_sl (pe_slice o_sl (pd_var (pv 4)) pdo_none (pdo_some pd_int))) (pd_lst (pda_cons (pd_ix (o_ix hr.units) (pd_var (pv 4)) (pd_call (pe_callS G_law_pick (hr.mono h_law_pick) (by rfl) T.m_law_pick T.F_law_pick.kp T.b_law_pick (fun σ => passAt takes0 σ) (pda_cons (pd_var (pv 1)) (pda_cons (call_core (t := fun _ _ _ => True) (pe_callB c_len (by rfl) T.n_len (by decide +kernel) (pda_cons (pd_var (pv 4)) pda_nil))) pda_nil)))) (fun _ _ => rfl)) pda_nil))))) (pgd_name (pg_name (i := 5) sc_law.nd rfl (by first | exact Or.inl rfl | exact Or.inr rfl))) (pds_one (pds_if (pdt_not (pdt_val (pd_call (pe_callS G_law_right (hr.mono h_law_right) (by rfl) T.m_law_right T.F_law_right.kp T.b_law_right (fun σ => passAt takes0 σ) (pda_cons (pd_var (pv 1)) (pda_cons (pd_var (pv 3)) (pda_cons (pd_var (pv 5)) pda_nil)))))))
          (pds_one (pds_ret pd_bl))
          pds_nil))))
          (pds_one (pds_if (pdt_not (pdt_val (pd_call (pe_callS G_law_errors (hr.mono h_law_errors) (by rfl) T.m_law_errors T.F_law_errors.kp T.b_law_errors (fun σ => passAt takes0 σ) (pda_cons (pd_var (pv 1)) (pda_cons (pd_var (pv 3)) pda_nil))))))
          (pds_one (pds_ret pd_bl))
          pds_nil)))))))
          (pds_cons (pds_set (ps_set (i := 3) sc_law.nd rfl (by first | exact Or.inl rfl | exact Or.inr rfl) (pd_call (pe_callS G_law_long (hr.mono h_law_long) (by rfl) T.m_law_long T.F_law_long.kp T.b_law_long (fun σ => passAt takes0 σ) (pda_cons (pd_var (pv 1)) pda_nil)))))
          (pds_one (pds_ret (pd_and (pd_call (pe_callS G_law_right (hr.mono h_law_right) (by rfl) T.m_law_right T.F_law_right.kp T.b_law_right (fun σ => passAt takes0 σ) (pda_cons (pd_var (pv 1)) (pda_cons (pd_var (pv 3)) (pda_cons (pd_ix (o_ix hr.units) (pd_ix (o_ix hr.units) (pd_var (pv 3)) pd_int (fun _ _ => rfl)) pd_int (fun _ _ => rfl)) pda_nil))))) (pd_one (pd_call (pe_callS G_law_right (hr.mono h_law_right) (by rfl) T.m_law_right T.F_law_right.kp T.b_law_right (fun σ => passAt takes0 σ) (pda_cons (pd_var (pv 1)) (pda_cons (pd_var (pv 3)) (pda_cons (pd_ix (o_ix hr.units) (pd_call (pe_callS G_law_places (hr.mono h_law_places) (by rfl) T.m_law_places T.F_law_places.kp T.b_law_places (fun σ => passAt takes0 σ) (pda_cons (pd_var (pv 3)) pda_nil))) (pd_call (pe_callS G_law_pick (hr.mono h_law_pick) (by rfl) T.m_law_pick T.F_law_pick.kp T.b_law_pick (fun σ => passAt takes0 σ) (pda_cons (pd_var (pv 1)) (pda_cons pd_int pda_nil)))) (fun _ _ => rfl)) pda_nil)))))))))))
end
theorem txt_mk {K : PySem.W.Frag} {h : Heap} {mg : Str → Option Value} (X : K.In h) (G : h.Ns mainGlobals mg)
    {c_HeapError : Addr}
    {c_BadState : Addr}
    {c_BadOther : Addr}
    {c_BadPlace : Addr}
    {c_BadCount : Addr}
    {f_is_int : Addr}
    {d_is_int : FuncData}
    {f_within : Addr}
    {d_within : FuncData}
    {f_is_row : Addr}
    {d_is_row : FuncData}
    {f_is_cell : Addr}
    {d_is_cell : FuncData}
    {f_are_cells : Addr}
    {d_are_cells : FuncData}
    {f_is_state_of : Addr}
    {d_is_state_of : FuncData}
    {f_need_state : Addr}
    {d_need_state : FuncData}
    {f_places_of : Addr}
    {d_places_of : FuncData}
    {f_reached_by : Addr}
    {d_reached_by : FuncData}
    {f_is_place : Addr}
    {d_is_place : FuncData}
    {f_need_place : Addr}
    {d_need_place : FuncData}
    {f_trail_in : Addr}
    {d_trail_in : FuncData}
    {f_trail : Addr}
    {d_trail : FuncData}
    {f_place_behind : Addr}
    {d_place_behind : FuncData}
    {f_steps_to : Addr}
    {d_steps_to : FuncData}
    {f_law_deck : Addr}
    {d_law_deck : FuncData}
    {f_law_pick : Addr}
    {d_law_pick : FuncData}
    {f_law_same : Addr}
    {d_law_same : FuncData}
    {f_law_places : Addr}
    {d_law_places : FuncData}
    {f_law_made : Addr}
    {d_law_made : FuncData}
    {f_law_by : Addr}
    {d_law_by : FuncData}
    {f_law_scattered : Addr}
    {d_law_scattered : FuncData}
    {f_law_long : Addr}
    {d_law_long : FuncData}
    {f_law_walk : Addr}
    {d_law_walk : FuncData}
    {f_law_behind : Addr}
    {d_law_behind : FuncData}
    {f_law_trail_due : Addr}
    {d_law_trail_due : FuncData}
    {f_law_refused : Addr}
    {d_law_refused : FuncData}
    {f_law_right : Addr}
    {d_law_right : FuncData}
    {f_law_errors : Addr}
    {d_law_errors : FuncData}
    {f_law : Addr}
    {d_law : FuncData}
    {t_LAST_PLACE : Tok}
    {t_MOST_CELLS : Tok}
    {t_MOST_COUNT : Tok}
    {t_MOST_VARIABLES : Tok}
    (g_HeapError : PySem.W.nsIn K mainGlobals "HeapError" = some (some (.ref c_HeapError)))
    (x_HeapError : PySem.W.excIn K c_HeapError [.type "ValueError", .type "Exception", .type "BaseException", .type "object"] "ValueError.__new__" = true)
    (k_HeapError : PySem.W.keepIn K (.ref c_HeapError) = true)
    (s_HeapError : PySem.W.subIn K (.ref c_HeapError) (.type "BaseException") = some true)
    (t_HeapError : PySem.W.typeIn K (.ref c_HeapError) = some (.type "type"))
    (g_BadState : PySem.W.nsIn K mainGlobals "BadState" = some (some (.ref c_BadState)))
    (x_BadState : PySem.W.excIn K c_BadState [.type "ValueError", .type "Exception", .type "BaseException", .type "object"] "ValueError.__new__" = true)
    (k_BadState : PySem.W.keepIn K (.ref c_BadState) = true)
    (s_BadState : PySem.W.subIn K (.ref c_BadState) (.type "BaseException") = some true)
    (t_BadState : PySem.W.typeIn K (.ref c_BadState) = some (.type "type"))
    (g_BadOther : PySem.W.nsIn K mainGlobals "BadOther" = some (some (.ref c_BadOther)))
    (x_BadOther : PySem.W.excIn K c_BadOther [.type "ValueError", .type "Exception", .type "BaseException", .type "object"] "ValueError.__new__" = true)
    (k_BadOther : PySem.W.keepIn K (.ref c_BadOther) = true)
    (s_BadOther : PySem.W.subIn K (.ref c_BadOther) (.type "BaseException") = some true)
    (t_BadOther : PySem.W.typeIn K (.ref c_BadOther) = some (.type "type"))
    (g_BadPlace : PySem.W.nsIn K mainGlobals "BadPlace" = some (some (.ref c_BadPlace)))
    (x_BadPlace : PySem.W.excIn K c_BadPlace [.type "ValueError", .type "Exception", .type "BaseException", .type "object"] "ValueError.__new__" = true)
    (k_BadPlace : PySem.W.keepIn K (.ref c_BadPlace) = true)
    (s_BadPlace : PySem.W.subIn K (.ref c_BadPlace) (.type "BaseException") = some true)
    (t_BadPlace : PySem.W.typeIn K (.ref c_BadPlace) = some (.type "type"))
    (g_BadCount : PySem.W.nsIn K mainGlobals "BadCount" = some (some (.ref c_BadCount)))
    (x_BadCount : PySem.W.excIn K c_BadCount [.type "ValueError", .type "Exception", .type "BaseException", .type "object"] "ValueError.__new__" = true)
    (k_BadCount : PySem.W.keepIn K (.ref c_BadCount) = true)
    (s_BadCount : PySem.W.subIn K (.ref c_BadCount) (.type "BaseException") = some true)
    (t_BadCount : PySem.W.typeIn K (.ref c_BadCount) = some (.type "type"))
    (e_HeapError_BadState : PySem.W.exmOne K (.ref c_HeapError) (.ref c_BadState) = some false)
    (e_HeapError_BadOther : PySem.W.exmOne K (.ref c_HeapError) (.ref c_BadOther) = some false)
    (e_HeapError_BadPlace : PySem.W.exmOne K (.ref c_HeapError) (.ref c_BadPlace) = some false)
    (e_HeapError_BadCount : PySem.W.exmOne K (.ref c_HeapError) (.ref c_BadCount) = some false)
    (e_BadState_BadState : PySem.W.exmOne K (.ref c_BadState) (.ref c_BadState) = some true)
    (e_BadState_BadOther : PySem.W.exmOne K (.ref c_BadState) (.ref c_BadOther) = some false)
    (e_BadState_BadPlace : PySem.W.exmOne K (.ref c_BadState) (.ref c_BadPlace) = some false)
    (e_BadState_BadCount : PySem.W.exmOne K (.ref c_BadState) (.ref c_BadCount) = some false)
    (e_BadOther_BadState : PySem.W.exmOne K (.ref c_BadOther) (.ref c_BadState) = some false)
    (e_BadOther_BadOther : PySem.W.exmOne K (.ref c_BadOther) (.ref c_BadOther) = some true)
    (e_BadOther_BadPlace : PySem.W.exmOne K (.ref c_BadOther) (.ref c_BadPlace) = some false)
    (e_BadOther_BadCount : PySem.W.exmOne K (.ref c_BadOther) (.ref c_BadCount) = some false)
    (e_BadPlace_BadState : PySem.W.exmOne K (.ref c_BadPlace) (.ref c_BadState) = some false)
    (e_BadPlace_BadOther : PySem.W.exmOne K (.ref c_BadPlace) (.ref c_BadOther) = some false)
    (e_BadPlace_BadPlace : PySem.W.exmOne K (.ref c_BadPlace) (.ref c_BadPlace) = some true)
    (e_BadPlace_BadCount : PySem.W.exmOne K (.ref c_BadPlace) (.ref c_BadCount) = some false)
    (e_BadCount_BadState : PySem.W.exmOne K (.ref c_BadCount) (.ref c_BadState) = some false)
    (e_BadCount_BadOther : PySem.W.exmOne K (.ref c_BadCount) (.ref c_BadOther) = some false)
    (e_BadCount_BadPlace : PySem.W.exmOne K (.ref c_BadCount) (.ref c_BadPlace) = some false)
    (e_BadCount_BadCount : PySem.W.exmOne K (.ref c_BadCount) (.ref c_BadCount) = some true)
    (m_is_int : PySem.W.nsIn K mainGlobals "is_int" = some (some (.ref f_is_int)))
    (F_is_int : Fun K "is_int" "is_int" s_is_int f_is_int d_is_int)
    (m_within : PySem.W.nsIn K mainGlobals "within" = some (some (.ref f_within)))
    (F_within : Fun K "within" "within" s_within f_within d_within)
    (m_is_row : PySem.W.nsIn K mainGlobals "is_row" = some (some (.ref f_is_row)))
    (F_is_row : Fun K "is_row" "is_row" s_is_row f_is_row d_is_row)
    (m_is_cell : PySem.W.nsIn K mainGlobals "is_cell" = some (some (.ref f_is_cell)))
    (F_is_cell : Fun K "is_cell" "is_cell" s_is_cell f_is_cell d_is_cell)
    (m_are_cells : PySem.W.nsIn K mainGlobals "are_cells" = some (some (.ref f_are_cells)))
    (F_are_cells : Fun K "are_cells" "are_cells" s_are_cells f_are_cells d_are_cells)
    (m_is_state_of : PySem.W.nsIn K mainGlobals "is_state_of" = some (some (.ref f_is_state_of)))
    (F_is_state_of : Fun K "is_state_of" "is_state_of" s_is_state_of f_is_state_of d_is_state_of)
    (m_need_state : PySem.W.nsIn K mainGlobals "need_state" = some (some (.ref f_need_state)))
    (F_need_state : Fun K "need_state" "need_state" s_need_state f_need_state d_need_state)
    (m_places_of : PySem.W.nsIn K mainGlobals "places_of" = some (some (.ref f_places_of)))
    (F_places_of : Fun K "places_of" "places_of" s_places_of f_places_of d_places_of)
    (m_reached_by : PySem.W.nsIn K mainGlobals "reached_by" = some (some (.ref f_reached_by)))
    (F_reached_by : Fun K "reached_by" "reached_by" s_reached_by f_reached_by d_reached_by)
    (m_is_place : PySem.W.nsIn K mainGlobals "is_place" = some (some (.ref f_is_place)))
    (F_is_place : Fun K "is_place" "is_place" s_is_place f_is_place d_is_place)
    (m_need_place : PySem.W.nsIn K mainGlobals "need_place" = some (some (.ref f_need_place)))
    (F_need_place : Fun K "need_place" "need_place" s_need_place f_need_place d_need_place)
    (m_trail_in : PySem.W.nsIn K mainGlobals "trail_in" = some (some (.ref f_trail_in)))
    (F_trail_in : Fun K "trail_in" "trail_in" s_trail_in f_trail_in d_trail_in)
    (m_trail : PySem.W.nsIn K mainGlobals "trail" = some (some (.ref f_trail)))
    (F_trail : Fun K "trail" "trail" s_trail f_trail d_trail)
    (m_place_behind : PySem.W.nsIn K mainGlobals "place_behind" = some (some (.ref f_place_behind)))
    (F_place_behind : Fun K "place_behind" "place_behind" s_place_behind f_place_behind d_place_behind)
    (m_steps_to : PySem.W.nsIn K mainGlobals "steps_to" = some (some (.ref f_steps_to)))
    (F_steps_to : Fun K "steps_to" "steps_to" s_steps_to f_steps_to d_steps_to)
    (m_law_deck : PySem.W.nsIn K mainGlobals "_law_deck" = some (some (.ref f_law_deck)))
    (F_law_deck : Fun K "_law_deck" "_law_deck" s_law_deck f_law_deck d_law_deck)
    (m_law_pick : PySem.W.nsIn K mainGlobals "_law_pick" = some (some (.ref f_law_pick)))
    (F_law_pick : Fun K "_law_pick" "_law_pick" s_law_pick f_law_pick d_law_pick)
    (m_law_same : PySem.W.nsIn K mainGlobals "_law_same" = some (some (.ref f_law_same)))
    (F_law_same : Fun K "_law_same" "_law_same" s_law_same f_law_same d_law_same)
    (m_law_places : PySem.W.nsIn K mainGlobals "_law_places" = some (some (.ref f_law_places)))
    (F_law_places : Fun K "_law_places" "_law_places" s_law_places f_law_places d_law_places)
    (m_law_made : PySem.W.nsIn K mainGlobals "_law_made" = some (some (.ref f_law_made)))
    (F_law_made : Fun K "_law_made" "_law_made" s_law_made f_law_made d_law_made)
    (m_law_by : PySem.W.nsIn K mainGlobals "_law_by" = some (some (.ref f_law_by)))
    (F_law_by : Fun K "_law_by" "_law_by" s_law_by f_law_by d_law_by)
    (m_law_scattered : PySem.W.nsIn K mainGlobals "_law_scattered" = some (some (.ref f_law_scattered)))
    (F_law_scattered : Fun K "_law_scattered" "_law_scattered" s_law_scattered f_law_scattered d_law_scattered)
    (m_law_long : PySem.W.nsIn K mainGlobals "_law_long" = some (some (.ref f_law_long)))
    (F_law_long : Fun K "_law_long" "_law_long" s_law_long f_law_long d_law_long)
    (m_law_walk : PySem.W.nsIn K mainGlobals "_law_walk" = some (some (.ref f_law_walk)))
    (F_law_walk : Fun K "_law_walk" "_law_walk" s_law_walk f_law_walk d_law_walk)
    (m_law_behind : PySem.W.nsIn K mainGlobals "_law_behind" = some (some (.ref f_law_behind)))
    (F_law_behind : Fun K "_law_behind" "_law_behind" s_law_behind f_law_behind d_law_behind)
    (m_law_trail_due : PySem.W.nsIn K mainGlobals "_law_trail_due" = some (some (.ref f_law_trail_due)))
    (F_law_trail_due : Fun K "_law_trail_due" "_law_trail_due" s_law_trail_due f_law_trail_due d_law_trail_due)
    (m_law_refused : PySem.W.nsIn K mainGlobals "_law_refused" = some (some (.ref f_law_refused)))
    (F_law_refused : Fun K "_law_refused" "_law_refused" s_law_refused f_law_refused d_law_refused)
    (m_law_right : PySem.W.nsIn K mainGlobals "_law_right" = some (some (.ref f_law_right)))
    (F_law_right : Fun K "_law_right" "_law_right" s_law_right f_law_right d_law_right)
    (m_law_errors : PySem.W.nsIn K mainGlobals "_law_errors" = some (some (.ref f_law_errors)))
    (F_law_errors : Fun K "_law_errors" "_law_errors" s_law_errors f_law_errors d_law_errors)
    (m_law : PySem.W.nsIn K mainGlobals "law" = some (some (.ref f_law)))
    (F_law : Fun K "law" "law" s_law f_law d_law)
    (n_all : PySem.W.nsIn K mainGlobals "all" = some none)
    (n_bool : PySem.W.nsIn K mainGlobals "bool" = some none)
    (n_dict : PySem.W.nsIn K mainGlobals "dict" = some none)
    (n_int : PySem.W.nsIn K mainGlobals "int" = some none)
    (n_isinstance : PySem.W.nsIn K mainGlobals "isinstance" = some none)
    (n_len : PySem.W.nsIn K mainGlobals "len" = some none)
    (n_list : PySem.W.nsIn K mainGlobals "list" = some none)
    (n_max : PySem.W.nsIn K mainGlobals "max" = some none)
    (n_min : PySem.W.nsIn K mainGlobals "min" = some none)
    (n_range : PySem.W.nsIn K mainGlobals "range" = some none)
    (n_set : PySem.W.nsIn K mainGlobals "set" = some none)
    (n_sorted : PySem.W.nsIn K mainGlobals "sorted" = some none)
    (n_str : PySem.W.nsIn K mainGlobals "str" = some none)
    (n_tuple : PySem.W.nsIn K mainGlobals "tuple" = some none)
    (n_zip : PySem.W.nsIn K mainGlobals "zip" = some none)
    (v_LAST_PLACE : PySem.W.nsIn K mainGlobals "LAST_PLACE" = some (some (.int 1000000 t_LAST_PLACE)))
    (v_MOST_CELLS : PySem.W.nsIn K mainGlobals "MOST_CELLS" = some (some (.int 150 t_MOST_CELLS)))
    (v_MOST_COUNT : PySem.W.nsIn K mainGlobals "MOST_COUNT" = some (some (.int 1000000000 t_MOST_COUNT)))
    (v_MOST_VARIABLES : PySem.W.nsIn K mainGlobals "MOST_VARIABLES" = some (some (.int 4 t_MOST_VARIABLES)))
    : Txt K mg { c_HeapError := c_HeapError, c_BadState := c_BadState, c_BadOther := c_BadOther, c_BadPlace := c_BadPlace, c_BadCount := c_BadCount, f_is_int := f_is_int, d_is_int := d_is_int, f_within := f_within, d_within := d_within, f_is_row := f_is_row, d_is_row := d_is_row, f_is_cell := f_is_cell, d_is_cell := d_is_cell, f_are_cells := f_are_cells, d_are_cells := d_are_cells, f_is_state_of := f_is_state_of, d_is_state_of := d_is_state_of, f_need_state := f_need_state, d_need_state := d_need_state, f_places_of := f_places_of, d_places_of := d_places_of, f_reached_by := f_reached_by, d_reached_by := d_reached_by, f_is_place := f_is_place, d_is_place := d_is_place, f_need_place := f_need_place, d_need_place := d_need_place, f_trail_in := f_trail_in, d_trail_in := d_trail_in, f_trail := f_trail, d_trail := d_trail, f_place_behind := f_place_behind, d_place_behind := d_place_behind, f_steps_to := f_steps_to, d_steps_to := d_steps_to, f_law_deck := f_law_deck, d_law_deck := d_law_deck, f_law_pick := f_law_pick, d_law_pick := d_law_pick, f_law_same := f_law_same, d_law_same := d_law_same, f_law_places := f_law_places, d_law_places := d_law_places, f_law_made := f_law_made, d_law_made := d_law_made, f_law_by := f_law_by, d_law_by := d_law_by, f_law_scattered := f_law_scattered, d_law_scattered := d_law_scattered, f_law_long := f_law_long, d_law_long := d_law_long, f_law_walk := f_law_walk, d_law_walk := d_law_walk, f_law_behind := f_law_behind, d_law_behind := d_law_behind, f_law_trail_due := f_law_trail_due, d_law_trail_due := d_law_trail_due, f_law_refused := f_law_refused, d_law_refused := d_law_refused, f_law_right := f_law_right, d_law_right := d_law_right, f_law_errors := f_law_errors, d_law_errors := d_law_errors, f_law := f_law, d_law := d_law } :=
  { g_HeapError := PySem.W.mg_of X G g_HeapError,
    x_HeapError := x_HeapError,
    k_HeapError := k_HeapError,
    s_HeapError := s_HeapError,
    t_HeapError := t_HeapError,
    g_BadState := PySem.W.mg_of X G g_BadState,
    x_BadState := x_BadState,
    k_BadState := k_BadState,
    s_BadState := s_BadState,
    t_BadState := t_BadState,
    g_BadOther := PySem.W.mg_of X G g_BadOther,
    x_BadOther := x_BadOther,
    k_BadOther := k_BadOther,
    s_BadOther := s_BadOther,
    t_BadOther := t_BadOther,
    g_BadPlace := PySem.W.mg_of X G g_BadPlace,
    x_BadPlace := x_BadPlace,
    k_BadPlace := k_BadPlace,
    s_BadPlace := s_BadPlace,
    t_BadPlace := t_BadPlace,
    g_BadCount := PySem.W.mg_of X G g_BadCount,
    x_BadCount := x_BadCount,
    k_BadCount := k_BadCount,
    s_BadCount := s_BadCount,
    t_BadCount := t_BadCount,
    e_HeapError_BadState := e_HeapError_BadState,
    e_HeapError_BadOther := e_HeapError_BadOther,
    e_HeapError_BadPlace := e_HeapError_BadPlace,
    e_HeapError_BadCount := e_HeapError_BadCount,
    e_BadState_BadState := e_BadState_BadState,
    e_BadState_BadOther := e_BadState_BadOther,
    e_BadState_BadPlace := e_BadState_BadPlace,
    e_BadState_BadCount := e_BadState_BadCount,
    e_BadOther_BadState := e_BadOther_BadState,
    e_BadOther_BadOther := e_BadOther_BadOther,
    e_BadOther_BadPlace := e_BadOther_BadPlace,
    e_BadOther_BadCount := e_BadOther_BadCount,
    e_BadPlace_BadState := e_BadPlace_BadState,
    e_BadPlace_BadOther := e_BadPlace_BadOther,
    e_BadPlace_BadPlace := e_BadPlace_BadPlace,
    e_BadPlace_BadCount := e_BadPlace_BadCount,
    e_BadCount_BadState := e_BadCount_BadState,
    e_BadCount_BadOther := e_BadCount_BadOther,
    e_BadCount_BadPlace := e_BadCount_BadPlace,
    e_BadCount_BadCount := e_BadCount_BadCount,
    F_is_int := F_is_int,
    m_is_int := PySem.W.mg_of X G m_is_int,
    b_is_int := F_is_int.binds (ps := P_is_int) fun _ _ _ _ _ _ us hl => match us, hl with | [_], _ => rfl,
    F_within := F_within,
    m_within := PySem.W.mg_of X G m_within,
    b_within := F_within.binds (ps := P_within) fun _ _ _ _ _ _ us hl => match us, hl with | [_, _, _], _ => rfl,
    F_is_row := F_is_row,
    m_is_row := PySem.W.mg_of X G m_is_row,
    b_is_row := F_is_row.binds (ps := P_is_row) fun _ _ _ _ _ _ us hl => match us, hl with | [_, _, _], _ => rfl,
    F_is_cell := F_is_cell,
    m_is_cell := PySem.W.mg_of X G m_is_cell,
    b_is_cell := F_is_cell.binds (ps := P_is_cell) fun _ _ _ _ _ _ us hl => match us, hl with | [_], _ => rfl,
    F_are_cells := F_are_cells,
    m_are_cells := PySem.W.mg_of X G m_are_cells,
    b_are_cells := F_are_cells.binds (ps := P_are_cells) fun _ _ _ _ _ _ us hl => match us, hl with | [_], _ => rfl,
    F_is_state_of := F_is_state_of,
    m_is_state_of := PySem.W.mg_of X G m_is_state_of,
    b_is_state_of := F_is_state_of.binds (ps := P_is_state_of) fun _ _ _ _ _ _ us hl => match us, hl with | [_], _ => rfl,
    F_need_state := F_need_state,
    m_need_state := PySem.W.mg_of X G m_need_state,
    b_need_state := F_need_state.binds (ps := P_need_state) fun _ _ _ _ _ _ us hl => match us, hl with | [_], _ => rfl,
    F_places_of := F_places_of,
    m_places_of := PySem.W.mg_of X G m_places_of,
    b_places_of := F_places_of.binds (ps := P_places_of) fun _ _ _ _ _ _ us hl => match us, hl with | [_], _ => rfl,
    F_reached_by := F_reached_by,
    m_reached_by := PySem.W.mg_of X G m_reached_by,
    b_reached_by := F_reached_by.binds (ps := P_reached_by) fun _ _ _ _ _ _ us hl => match us, hl with | [_, _], _ => rfl,
    F_is_place := F_is_place,
    m_is_place := PySem.W.mg_of X G m_is_place,
    b_is_place := F_is_place.binds (ps := P_is_place) fun _ _ _ _ _ _ us hl => match us, hl with | [_, _], _ => rfl,
    F_need_place := F_need_place,
    m_need_place := PySem.W.mg_of X G m_need_place,
    b_need_place := F_need_place.binds (ps := P_need_place) fun _ _ _ _ _ _ us hl => match us, hl with | [_, _], _ => rfl,
    F_trail_in := F_trail_in,
    m_trail_in := PySem.W.mg_of X G m_trail_in,
    b_trail_in := F_trail_in.binds (ps := P_trail_in) fun _ _ _ _ _ _ us hl => match us, hl with | [_, _], _ => rfl,
    F_trail := F_trail,
    m_trail := PySem.W.mg_of X G m_trail,
    b_trail := F_trail.binds (ps := P_trail) fun _ _ _ _ _ _ us hl => match us, hl with | [_, _], _ => rfl,
    F_place_behind := F_place_behind,
    m_place_behind := PySem.W.mg_of X G m_place_behind,
    b_place_behind := F_place_behind.binds (ps := P_place_behind) fun _ _ _ _ _ _ us hl => match us, hl with | [_, _, _], _ => rfl,
    F_steps_to := F_steps_to,
    m_steps_to := PySem.W.mg_of X G m_steps_to,
    b_steps_to := F_steps_to.binds (ps := P_steps_to) fun _ _ _ _ _ _ us hl => match us, hl with | [_, _, _], _ => rfl,
    F_law_deck := F_law_deck,
    m_law_deck := PySem.W.mg_of X G m_law_deck,
    b_law_deck := F_law_deck.binds (ps := P_law_deck) fun _ _ _ _ _ _ us hl => match us, hl with | [_], _ => rfl,
    F_law_pick := F_law_pick,
    m_law_pick := PySem.W.mg_of X G m_law_pick,
    b_law_pick := F_law_pick.binds (ps := P_law_pick) fun _ _ _ _ _ _ us hl => match us, hl with | [_, _], _ => rfl,
    F_law_same := F_law_same,
    m_law_same := PySem.W.mg_of X G m_law_same,
    b_law_same := F_law_same.binds (ps := P_law_same) fun _ _ _ _ _ _ us hl => match us, hl with | [_, _], _ => rfl,
    F_law_places := F_law_places,
    m_law_places := PySem.W.mg_of X G m_law_places,
    b_law_places := F_law_places.binds (ps := P_law_places) fun _ _ _ _ _ _ us hl => match us, hl with | [_], _ => rfl,
    F_law_made := F_law_made,
    m_law_made := PySem.W.mg_of X G m_law_made,
    b_law_made := F_law_made.binds (ps := P_law_made) fun _ _ _ _ _ _ us hl => match us, hl with | [_, _, _, _], _ => rfl,
    F_law_by := F_law_by,
    m_law_by := PySem.W.mg_of X G m_law_by,
    b_law_by := F_law_by.binds (ps := P_law_by) fun _ _ _ _ _ _ us hl => match us, hl with | [_, _], _ => rfl,
    F_law_scattered := F_law_scattered,
    m_law_scattered := PySem.W.mg_of X G m_law_scattered,
    b_law_scattered := F_law_scattered.binds (ps := P_law_scattered) fun _ _ _ _ _ _ us hl => match us, hl with | [_, _], _ => rfl,
    F_law_long := F_law_long,
    m_law_long := PySem.W.mg_of X G m_law_long,
    b_law_long := F_law_long.binds (ps := P_law_long) fun _ _ _ _ _ _ us hl => match us, hl with | [_], _ => rfl,
    F_law_walk := F_law_walk,
    m_law_walk := PySem.W.mg_of X G m_law_walk,
    b_law_walk := F_law_walk.binds (ps := P_law_walk) fun _ _ _ _ _ _ us hl => match us, hl with | [_, _], _ => rfl,
    F_law_behind := F_law_behind,
    m_law_behind := PySem.W.mg_of X G m_law_behind,
    b_law_behind := F_law_behind.binds (ps := P_law_behind) fun _ _ _ _ _ _ us hl => match us, hl with | [_, _, _], _ => rfl,
    F_law_trail_due := F_law_trail_due,
    m_law_trail_due := PySem.W.mg_of X G m_law_trail_due,
    b_law_trail_due := F_law_trail_due.binds (ps := P_law_trail_due) fun _ _ _ _ _ _ us hl => match us, hl with | [_, _], _ => rfl,
    F_law_refused := F_law_refused,
    m_law_refused := PySem.W.mg_of X G m_law_refused,
    b_law_refused := F_law_refused.binds (ps := P_law_refused) fun _ _ _ _ _ _ us hl => match us, hl with | [_, _, _, _], _ => rfl,
    F_law_right := F_law_right,
    m_law_right := PySem.W.mg_of X G m_law_right,
    b_law_right := F_law_right.binds (ps := P_law_right) fun _ _ _ _ _ _ us hl => match us, hl with | [_, _, _], _ => rfl,
    F_law_errors := F_law_errors,
    m_law_errors := PySem.W.mg_of X G m_law_errors,
    b_law_errors := F_law_errors.binds (ps := P_law_errors) fun _ _ _ _ _ _ us hl => match us, hl with | [_, _], _ => rfl,
    F_law := F_law,
    m_law := PySem.W.mg_of X G m_law,
    b_law := F_law.binds (ps := P_law) fun _ _ _ _ _ _ us hl => match us, hl with | [_], _ => rfl,
    n_all := PySem.W.mg_none_of X G n_all,
    n_bool := PySem.W.mg_none_of X G n_bool,
    n_dict := PySem.W.mg_none_of X G n_dict,
    n_int := PySem.W.mg_none_of X G n_int,
    n_isinstance := PySem.W.mg_none_of X G n_isinstance,
    n_len := PySem.W.mg_none_of X G n_len,
    n_list := PySem.W.mg_none_of X G n_list,
    n_max := PySem.W.mg_none_of X G n_max,
    n_min := PySem.W.mg_none_of X G n_min,
    n_range := PySem.W.mg_none_of X G n_range,
    n_set := PySem.W.mg_none_of X G n_set,
    n_sorted := PySem.W.mg_none_of X G n_sorted,
    n_str := PySem.W.mg_none_of X G n_str,
    n_tuple := PySem.W.mg_none_of X G n_tuple,
    n_zip := PySem.W.mg_none_of X G n_zip,
    v_LAST_PLACE := ⟨_, PySem.W.mg_of X G v_LAST_PLACE⟩,
    v_MOST_CELLS := ⟨_, PySem.W.mg_of X G v_MOST_CELLS⟩,
    v_MOST_COUNT := ⟨_, PySem.W.mg_of X G v_MOST_COUNT⟩,
    v_MOST_VARIABLES := ⟨_, PySem.W.mg_of X G v_MOST_VARIABLES⟩ }
end LK

set_option Elab.async false
set_option linter.all false
set_option maxRecDepth 100000
set_option maxHeartbeats 4000000
namespace LK
open PySem PySem.Spec PyProof.Rows L2 DL
local macro_rules | `(tactic| walk_at "dl") => `(tactic| simp only [wVar, wC, wNil, wCons, wFrz, wTup, wLst, wOp, wUn, wCall1, wMeth, wTst, wAndT, wOrT, wNotT, wAndV, wOrV, wNotV, wIf, wChain, wNext, wSeq, wBreak, wCont, wRet, wAsg, wAsgT, wPar, wIfS, wAug, wExpr, wRaise, wCall, wIsi, wSl, wONone, wOSome, wLc, wSeqC, wSeqF, wParF, wRange1, wRange2, wFor, wWhile, wYes, gwNames, putA, wipeR, wAppend, wExtend, wExt, extOf_l, extOf_t, wPopAll, wInsert, wDisp1, wPop, wSetIx, wFrzS, wDPop, wRetS, wParN, wDNew, wSortIt, wSortSet, wSortSc, wZip, wRev, wTry, wHand, gwName, gwNil, gwCons, gwTup,
  kv_k, kv_d, kv_t, kv_L, kv_l, kv_i, kv_s, seq_k, seq_d, seq_i, seq_s, frz_k, peek_k, keeps_k, keeps_g, owns_k, owns_l, putR_l, putR_k, frzR_s, frzR_l, frzR_k, putRs_nil, putRs_cons, zip_t, ofK_int, ofK_str, all_keeps, all_keeps0, fDict, fSorted, fMax1,
  rho, seq_l, seq_t, seq_L, stab_t, stab_L, look_s, look_l, dat_s, frz_s, frz_l, peek_s, peek_l, peek_g, keeps_s, keeps_l, dats_nil, dats_cons, isS_s, fAdd, fInt, fSub, fMul, fNeg, fEq, fNe, fCmp, fLt, fIs, fIn, fIx, fLen, fAll, fAny, fSum, fList, fTuple, fIntOf, fMax2, fMin2, fSl,
  List.map_cons, List.map_nil, List.length_cons, List.length_nil, List.getElem?_cons_zero, List.getElem?_cons_succ, Option.some.injEq, exists_eq_left', exists_eq_left, exists_eq', R.s.injEq, R.l.injEq, PyData.int.injEq, PyData.bool.injEq, PyData.str.injEq, PyData.tuple.injEq, PyData.list.injEq, and_true, true_and, List.cons.injEq, reduceCtorEq,
  List.cons_append, List.nil_append, List.replicate, Nat.reduceAdd, Nat.reduceSub, Nat.reduceLT, false_and, exists_false, and_false, or_false, false_or, exists_and_left, exists_and_right, and_assoc, ite_true, ite_false, Bool.false_eq_true, if_true, if_false, List.mem_cons, List.not_mem_nil, forall_eq_or_imp, forall_eq, List.set_cons_zero, List.set_cons_succ, sh_int, sh_bool, sh_none, eqv_int, eqv_bool, eqv_str, Bool.not_true, Bool.not_false, Bool.not_not, isN_none, isN_int, isN_bool, isN_str, isN_tup, bne_ff, bne_tt, at0, at1, at2, at3, flat_none, flat_bool, flat_int, flat_str, List.all_cons, List.all_nil, Bool.and_self, Nat.reduceLeDiff])
local macro_rules | `(tactic| walk_at "dm") => `(tactic| simp only [wVar, wC, wNil, wCons, wFrz, wTup, wLst, wOp, wUn, wCall1, wMeth, wTst, wAndT, wOrT, wNotT, wAndV, wOrV, wNotV, wIf, wChain, wNext, wSeq, wBreak, wCont, wRet, wAsg, wAsgT, wPar, wIfS, wAug, wExpr, wRaise, wCall, wIsi, wSl, wONone, wOSome, wLc, wSeqC, wSeqF, wParF, wRange1, wRange2, wFor, wWhile, wYes, gwNames, putA, wipeR, wAppend, wExtend, wExt, extOf_l, extOf_t, wPopAll, wInsert, wDisp1, wPop, wSetIx, wFrzS, wDPop, wRetS, wParN, wDNew, wSortIt, wSortSet, wSortSc, wZip, wRev, wTry, wHand, gwName, gwNil, gwCons, gwTup,
  kv_k, kv_d, kv_t, kv_L, kv_l, kv_i, kv_s, seq_k, seq_d, seq_i, seq_s, frz_k, peek_k, keeps_k, keeps_g, owns_k, owns_l, putR_l, putR_k, frzR_s, frzR_l, frzR_k, putRs_nil, putRs_cons, zip_t, ofK_int, ofK_str, all_keeps, all_keeps0, fDict, fSorted, fMax1,
  rho, seq_l, seq_t, seq_L, stab_t, stab_L, look_s, look_l, dat_s, frz_s, frz_l, peek_s, peek_l, peek_g, keeps_s, keeps_l, dats_nil, dats_cons, isS_s, fAdd, fInt, fSub, fMul, fNeg, fEq, fNe, fCmp, fLt, fIs, fIn, fIx, fLen, fAll, fAny, fSum, fList, fTuple, fIntOf, fMax2, fMin2, fSl,
  List.map_cons, List.map_nil, List.length_cons, List.length_nil, List.getElem?_cons_zero, List.getElem?_cons_succ, Option.some.injEq, exists_eq_left', exists_eq_left, exists_eq', R.s.injEq, R.l.injEq, PyData.int.injEq, PyData.bool.injEq, PyData.str.injEq, PyData.tuple.injEq, PyData.list.injEq, and_true, true_and, List.cons.injEq, reduceCtorEq,
  List.cons_append, List.nil_append, List.replicate, Nat.reduceAdd, Nat.reduceSub, Nat.reduceLT, false_and, exists_false, and_false, or_false, false_or, exists_and_left, exists_and_right, and_assoc, ite_true, ite_false, Bool.false_eq_true, if_true, if_false, List.mem_cons, List.not_mem_nil, forall_eq_or_imp, forall_eq, List.set_cons_zero, List.set_cons_succ, sh_int, sh_bool, sh_none, eqv_int, eqv_bool, eqv_str, Bool.not_true, Bool.not_false, Bool.not_not, beq_self_eq_true, Bool.true_beq, Bool.false_beq, beq_true, beq_false, Bool.or_false, Bool.or_true, Bool.and_true, Bool.and_false, Bool.true_and, Bool.false_and, Bool.true_or, Bool.false_or, decide_true, decide_false, isN_none, isN_int, isN_bool, isN_str, isN_tup, bne_ff, bne_tt, at0, at1, at2, at3, flat_none, flat_bool, flat_int, flat_str, List.all_cons, List.all_nil, Bool.and_self, Nat.reduceLeDiff])
local macro_rules | `(tactic| walk_at "dy") => `(tactic| (try simp only [rho, List.map_cons, List.map_nil, List.length_cons, List.length_nil, List.replicate, Nat.reduceAdd, Nat.reduceSub, List.cons_append, List.nil_append]) <;> (try simp only [↓u_var, ↓u_frz, ↓u_tup, ↓u_lst, ↓u_tst, ↓u_andV, ↓u_orV, ↓u_notV, ↓u_chain, ↓u_asg, ↓u_asgT, ↓u_par, ↓u_aug, ↓u_append, ↓u_extend, ↓u_pop, ↓u_setIx, ↓u_dpop, ↓u_frzS, ↓u_retS, ↓u_parN, ↓u_seqC, ↓u_seqF, ↓u_range1, ↓u_range2, ↓rng1_at, ↓rng2_at, ↓u_zip, ↓zip_at, ↓u_isi, ↓u_some, ↓u_for, ↓u_lc, ↓u_sc, ↓u_sortIt, ↓u_call, ↓u_rev, ↓parQ_nil, ↓parQ_cons, ↓pksQ_nil, ↓pksQ_cons, ↓gw_name, ↓gw_nil, ↓gw_cons, ↓gw_tup, ↓peekQ_s, ↓peekQ_l, ↓peekQ_k, ↓peekQ_g, ↓frzQ_s, ↓frzQ_lt, ↓frzQ_lf, ↓frzQ_kt, ↓frzQ_kf, ↓keepQ_s, ↓keepQ_l, ↓keepQ_k, ↓keepQ_g, ↓boolQ_b, ↓intQ_i, ↓datQ_s, ↓lookQ_s, ↓lookQ_l, ↓seqQ_t, ↓seqQ_L, ↓stabQ_t, ↓stabQ_L, ↓seqQ_l, ↓kvQ_k, ↓kvQ_d, ↓ownQ_l, ↓ownKQ_k, ↓lQ_l, ↓keyQ_i, ↓keyQ_s, ↓popQ_1, ↓popQ_s, ↓tupQ_0, ↓tupQ_1, ↓tupQ_2, ↓tupQ_3, ↓tupQ_4, ↓tupQ_5, ↓tupQ_6, ↓tupQ_7, ↓tupQ_8, ↓lstQ_0, ↓lstQ_1, ↓lstQ_2, ↓lstQ_3, ↓lstQ_4, ↓lstQ_5, ↓lstQ_6, ↓lstQ_7, ↓lstQ_8, ↓fAdd_i, ↓fAdd_t, ↓fAdd_l, ↓fAdd_s, ↓fInt_i, ↓fSub_i, ↓fMul_i, ↓fNeg_i, ↓fEq_s, ↓fEq_i, ↓fEq_b, ↓fEq_l, ↓fEq_L, ↓fNe_s, ↓fNe_i, ↓fNe_b, ↓fNe_l, ↓fNe_L, ↓fCmp_i, ↓fLt_i, ↓fIs_n, ↓fIs_b, ↓fIn_t, ↓fIx_t, ↓fIx_t0, ↓fIx_t1, ↓fIx_t2, ↓fIx_t3, ↓fIx_t4, ↓fLen_t, ↓fList_t, ↓fTuple_t, ↓fDict_t, ↓fSl_t, ↓fIn_L, ↓fIx_L, ↓fIx_L0, ↓fIx_L1, ↓fIx_L2, ↓fIx_L3, ↓fIx_L4, ↓fLen_L, ↓fList_L, ↓fTuple_L, ↓fDict_L, ↓fSl_L, ↓fIn_l, ↓fIx_l, ↓fIx_l0, ↓fIx_l1, ↓fIx_l2, ↓fIx_l3, ↓fIx_l4, ↓fLen_l, ↓fList_l, ↓fTuple_l, ↓fDict_l, ↓fSl_l, ↓fIn_k, ↓fIn_ki, ↓fIn_ks, ↓fIx_k, ↓fIx_ki, ↓fIx_ks, ↓fLen_k, ↓fLen_d, ↓fDict_k, ↓fDict_d, ↓fSorted_l, ↓fSorted_L, ↓revQ_t, ↓revQ_l, ↓revQ_L, ↓fIntOf_i, ↓fMax2_i, ↓fMin2_i, ↓pick_at, ↓putR_li, ↓putR_ki, ↓putR_ks, ↓getQ_0, ↓setQ_0, ↓getQ_1, ↓setQ_1, ↓getQ_2, ↓setQ_2, ↓getQ_3, ↓setQ_3, ↓getQ_4, ↓setQ_4, ↓getQ_5, ↓setQ_5, ↓getQ_6, ↓setQ_6, ↓getQ_7, ↓setQ_7, ↓getQ_8, ↓setQ_8, ↓getQ_9, ↓setQ_9, ↓getQ_10, ↓setQ_10, ↓getQ_11, ↓setQ_11, ↓getQ_12, ↓setQ_12, ↓getQ_13, ↓setQ_13, ↓getQ_14, ↓setQ_14, ↓getQ_15, ↓setQ_15, ↓getQ_16, ↓setQ_16, ↓getQ_17, ↓setQ_17, ↓getQ_18, ↓setQ_18, ↓getQ_19, ↓setQ_19, ↓u_ext, ↓extQ_l, ↓extQ_t, ↓u_popAll, ↓u_insert, ↓u_disp1, ↓u_ind, ↓lstQ'_l, ↓lstQ'_L, ↓fListB_t, ↓fListB_L, ↓fListB_l, ↓fListB_k, ↓frzR_s, ↓frzR_l, ↓frzR_k, ↓reduceIte, wC, wOp, wUn, wCall1, wMeth, wNil, wCons, wAndT, wOrT, wNotT, wIf, wNext, wSeq, wBreak, wCont, wRet, wIfS, wExpr, wRaise, wSl, wONone, wTry, wYes, wDNew, kv_k, kv_d, kv_t, kv_L, kv_l, kv_i, kv_s, seq_k, seq_d, seq_i, seq_s, frz_k, peek_k, frz_s, frz_l, peek_s, peek_l, peek_g, dat_s, look_s, look_l, isS_s, List.length_cons, List.length_nil, Option.some.injEq, exists_eq_left', exists_eq_left, exists_eq', R.s.injEq, R.l.injEq, PyData.int.injEq, PyData.bool.injEq, PyData.str.injEq, PyData.tuple.injEq, PyData.list.injEq, and_true, true_and, List.cons.injEq, reduceCtorEq, List.cons_append, List.nil_append, Nat.reduceAdd, Nat.reduceSub, Nat.reduceLT, false_and, and_false, or_false, false_or, ite_true, ite_false, Bool.false_eq_true, if_true, if_false, sh_int, sh_bool, sh_none, eqv_int, eqv_bool, eqv_str, Bool.not_true, Bool.not_false, Bool.not_not, beq_self_eq_true, Bool.true_beq, Bool.false_beq, beq_true, beq_false, Bool.or_false, Bool.or_true, Bool.and_true, Bool.and_false, Bool.true_and, Bool.false_and, Bool.true_or, Bool.false_or, decide_true, decide_false, isN_none, isN_int, isN_bool, isN_str, isN_tup, bne_ff, bne_tt, at0, at1, at2, at3, flat_none, flat_bool, flat_int, flat_str, List.all_cons, List.all_nil, Bool.and_self, Nat.reduceLeDiff, sh_nilL, sh_nilT, eqv_nilL, eqv_nilT, isE_nil, isE_cons, isE_snoc, ofK_int, ofK_str, List.map_cons, List.map_nil]))

def isInt : D → Bool
  | .int _ => true
  | _ => false
def c_is_int : Ct := fun rs Q _ => ∃ d, rs = [.s d] ∧ Q (.s (.bool (isInt d)))
theorem d_is_int {K : Frag} {cl : Ad} : ∀ rs Q E, c_is_int rs Q E → w_is_int K cl (rho N_is_int.length rs) { nx := fun _ => Q (.s .none), rt := Q, er := fun cls _ => E cls } := by
  rintro rs Q E ⟨d, rfl, q⟩
  unfold w_is_int
  try walk_at "dl"
  cases d <;> simp [isI, isB] <;> exact q
def within (d : D) (a b : Int) : Bool := match d with
  | .int i => decide (a ≤ i) && decide (i ≤ b)
  | _ => false
def c_within : Ct := fun rs Q _ => ∃ d a b, rs = [.s d, .s (.int a), .s (.int b)] ∧ Q (.s (.bool (within d a b)))
theorem d_within {K : Frag} {cl : Ad} : ∀ rs Q E, c_within rs Q E → w_within K cl c_is_int (rho N_within.length rs) { nx := fun _ => Q (.s .none), rt := Q, er := fun cls _ => E cls } := by
  rintro rs Q E ⟨d, a, b, rfl, q⟩
  unfold w_within c_is_int
  try walk_at "dl"
  cases d <;> simp only [isInt, within, Bool.false_eq_true, if_false, if_true, PyData.int.injEq, exists_eq_left', exists_eq_left] at * <;> try exact q
  refine ite_both (fun h => ?_) (fun h => ?_) <;> simpa [h] using q
def isRow (d : D) (a b : Int) : Bool := match d with
  | .tuple l => decide (a ≤ l.length) && decide ((l.length : Int) ≤ b)
  | _ => false
def c_is_row : Ct := fun rs Q _ => ∃ d a b, rs = [.s d, .s (.int a), .s (.int b)] ∧ Q (.s (.bool (isRow d a b)))
theorem d_is_row {K : Frag} {cl : Ad} : ∀ rs Q E, c_is_row rs Q E → w_is_row K cl (rho N_is_row.length rs) { nx := fun _ => Q (.s .none), rt := Q, er := fun cls _ => E cls } := by
  rintro rs Q E ⟨d, a, b, rfl, q⟩
  unfold w_is_row
  try walk_at "dl"
  cases d <;> simp only [isT, isRow, Bool.false_eq_true, if_false, if_true] at * <;> try exact q
  try walk_at "dl"
  refine ite_both (fun h => ?_) (fun h => ?_) <;> simpa [h] using q

/-! `_law_same` -/
mutual
def plainD : D → Bool
  | .none | .bool _ | .int _ => true
  | .str x => PyData.canLay0 (.str x)
  | .tuple xs => plainAll xs
  | .list _ | .dict _ => false
def plainAll : List D → Bool
  | [] => true
  | x :: xs => plainD x && plainAll xs
end
mutual
def nd : D → Nat
  | .tuple xs => ndAll xs + 1
  | .none | .bool _ | .int _ | .str _ | .list _ | .dict _ => 1
def ndAll : List D → Nat
  | [] => 0
  | x :: xs => nd x + ndAll xs
end
mutual
def same : D → D → Bool
  | a, .tuple ys => match a with
    | .tuple xs => xs.length == ys.length && sameAll xs ys
    | _ => false
  | a, .none => match a with | .none => true | _ => false
  | a, .bool k => match a with | .bool j => j == k | _ => false
  | a, .str k => match a with | .str j => j == k | _ => false
  | a, .int k => match a with | .int j => j == k | _ => false
  | _, .list _ => false
  | _, .dict _ => false
def sameAll : List D → List D → Bool
  | x :: xs, y :: ys => same x y && sameAll xs ys
  | _, _ => true
end
mutual
theorem same_refl : ∀ d : D, plainD d = true → same d d = true
  | .none, _ => by simp [same]
  | .bool b, _ => by simp [same]
  | .int b, _ => by simp [same]
  | .str b, _ => by simp [same]
  | .tuple xs, h => by
    simp only [plainD] at h
    simp [same, sameAll_refl xs h]
  | .list _, h => by simp [plainD] at h
  | .dict _, h => by simp [plainD] at h
theorem sameAll_refl : ∀ xs : List D, plainAll xs = true → sameAll xs xs = true
  | [], _ => by simp [sameAll]
  | x :: xs, h => by
    simp only [plainAll, Bool.and_eq_true] at h
    simp [sameAll, same_refl x h.1, sameAll_refl xs h.2]
end
theorem plainAll_mem : ∀ {xs : List D}, plainAll xs = true → ∀ x ∈ xs, plainD x = true
  | _ :: _, h, x, hx => by
    simp only [plainAll, Bool.and_eq_true] at h
    rcases List.mem_cons.mp hx with rfl | hx
    · exact h.1
    · exact plainAll_mem h.2 x hx
theorem layAll_mem : ∀ {xs : List D}, PyData.canLayAll0 xs = true → ∀ x ∈ xs, PyData.canLay0 x = true
  | _ :: _, h, x, hx => by
    simp only [PyData.canLayAll0, Bool.and_eq_true] at h
    rcases List.mem_cons.mp hx with rfl | hx
    · exact h.1
    · exact layAll_mem h.2 x hx
theorem ndAll_sum : ∀ xs : List D, ndAll xs = (xs.map nd).sum
  | [] => by simp [ndAll]
  | x :: xs => by simp [ndAll, ndAll_sum xs]
theorem nd_pos' (d : D) : 1 ≤ nd d := by cases d <;> simp [nd]
theorem nd_len (ys : List D) : ys.length ≤ (ys.map nd).sum := by
  induction ys with
  | nil => exact Nat.le_refl _
  | cons z ys ih => have := nd_pos' z; simp only [List.length_cons, List.map_cons, List.sum_cons]; omega
theorem nd_pos (d : D) : 1 ≤ nd d := by cases d <;> simp [nd]
theorem sameAll_zip : ∀ xs ys : List D, sameAll xs ys = (xs.zip ys).all fun p => same p.1 p.2
  | [], [] => by simp [sameAll]
  | [], _ :: _ => by simp [sameAll]
  | _ :: _, [] => by simp [sameAll]
  | x :: xs, y :: ys => by simp [sameAll, sameAll_zip xs ys]
def pairD (p : D × D) : D := .tuple [p.1, p.2]
def ndP : D → Nat
  | .tuple [_, b] => nd b
  | _ => 0
def muS (ρ : Rho) : Nat := match (ρ[2]? : Option (Option R)) with
  | some (some (R.l _ xs)) => (xs.map ndP).sum
  | _ => 0
def GoodP (p : D × D) : Prop := PyData.canLay0 p.1 = true ∧ plainD p.2 = true ∧ PyData.depth p.1 ≤ 60 ∧ PyData.depth p.2 ≤ 60
def c_same : Ct := fun rs Q _ => ∃ a b, rs = [.s a, .s b] ∧ PyData.canLay0 a = true ∧ plainD b = true ∧ PyData.depth a ≤ 60 ∧ PyData.depth b ≤ 60 ∧ nd b ≤ 100000 ∧ Q (.s (.bool (same a b)))
theorem sum_ndP (W : List (D × D)) : ((W.map pairD).map ndP).sum = (W.map fun p => nd p.2).sum := by
  rw [List.map_map]; rfl
theorem len_ndP (W : List (D × D)) : W.length ≤ (W.map fun p => nd p.2).sum := by
  induction W with
  | nil => exact Nat.le_refl _
  | cons p W ih =>
    have := nd_pos p.2
    simp only [List.length_cons, List.map_cons, List.sum_cons]
    omega
mutual
theorem plain_lay : ∀ d : D, plainD d = true → PyData.canLay0 d = true
  | .none, _ => by simp [PyData.canLay0]
  | .bool b, _ => by simp [PyData.canLay0]
  | .int b, _ => by simp [PyData.canLay0]
  | .str b, h => by simpa [plainD] using h
  | .tuple xs, h => by
    simp only [plainD] at h
    simp only [PyData.canLay0, plainAll_lay xs h]
  | .list _, h => by simp [plainD] at h
  | .dict _, h => by simp [plainD] at h
theorem plainAll_lay : ∀ xs : List D, plainAll xs = true → PyData.canLayAll0 xs = true
  | [], _ => by simp [PyData.canLayAll0]
  | x :: xs, h => by
    simp only [plainAll, Bool.and_eq_true] at h
    simp only [PyData.canLayAll0, plain_lay x h.1, plainAll_lay xs h.2, Bool.and_self]
end
theorem depthAll_mem : ∀ {xs : List D} {n : Nat}, PyData.depthAll xs ≤ n → ∀ x ∈ xs, PyData.depth x ≤ n
  | _ :: _, n, h, x, hx => by
    simp only [PyData.depthAll] at h
    rcases List.mem_cons.mp hx with rfl | hx
    · omega
    · exact depthAll_mem (by omega) x hx
theorem depthAll_le : ∀ {xs : List D} {n : Nat}, (∀ x ∈ xs, PyData.depth x ≤ n) → PyData.depthAll xs ≤ n
  | [], n, _ => by simp [PyData.depthAll]
  | x :: xs, n, h => by
    simp only [PyData.depthAll]
    have := h x List.mem_cons_self
    have := depthAll_le (xs := xs) fun y hy => h y (List.mem_cons_of_mem _ hy)
    omega
theorem layAll_of : ∀ {xs : List D}, (∀ x ∈ xs, PyData.canLay0 x = true) → PyData.canLayAll0 xs = true
  | [], _ => by simp [PyData.canLayAll0]
  | x :: xs, h => by
    simp only [PyData.canLayAll0, h x List.mem_cons_self, layAll_of fun y hy => h y (List.mem_cons_of_mem _ hy), Bool.and_self]
theorem sh_pairs {W : List (D × D)} (h : ∀ p ∈ W, GoodP p) : Sh (.list (W.map pairD)) := by
  have h1 : PyData.canLayAll0 (W.map pairD) = true := layAll_of fun x hx => by
    obtain ⟨p, hp, rfl⟩ := List.mem_map.mp hx
    obtain ⟨a, b, _⟩ := h p hp
    simp only [pairD, PyData.canLay0, PyData.canLayAll0, a, plain_lay _ b, Bool.and_self]
  have h2 : PyData.depthAll (W.map pairD) ≤ 61 := depthAll_le fun x hx => by
    obtain ⟨p, hp, rfl⟩ := List.mem_map.mp hx
    obtain ⟨_, _, a, b⟩ := h p hp
    simp only [pairD, PyData.depth, PyData.depthAll]
    omega
  unfold Sh SeqAt.shaped
  simp only [PyData.canLay0, PyData.depth, h1, Bool.true_and]
  exact decide_eq_true (by omega)
theorem last_of {α : Type} (l : List α) : l = [] ∨ ∃ L b, l = L ++ [b] := by
  rcases l.eq_nil_or_concat with h | ⟨L, b, h⟩
  · exact .inl h
  · exact .inr ⟨L, b, by rw [h, List.concat_eq_append]⟩
theorem lay_sh {d : D} (h : PyData.canLay0 d = true) (hd : PyData.depth d = 0) : Sh d := by
  unfold Sh SeqAt.shaped
  rw [h, hd]; rfl
theorem d_law_same {K : Frag} {cl : Ad} : ∀ rs Q E, c_same rs Q E → w_law_same K cl (rho N_law_same.length rs) { nx := fun _ => Q (.s .none), rt := Q, er := fun cls _ => E cls } := by
  rintro rs Q E ⟨a, b, rfl, ha, hb, da, db, hn, q⟩
  unfold w_law_same
  try walk_at "dl"
  refine ⟨fun (ρ : Rho) => ∃ (W : List (D × D)) (v3 v4 v5 : Option R), ρ = [some (.s a), some (.s b), some (.l true (W.map pairD)), v3, v4, v5] ∧ (∀ p ∈ W, GoodP p) ∧ (W.map fun p => nd p.2).sum ≤ 100000 ∧ same a b = W.all fun p => same p.1 p.2,
    ⟨[(a, b)], none, none, none, rfl, ?_, ?_, ?_⟩, muS, ?_⟩
  · intro p hp
    rw [List.mem_singleton] at hp
    subst hp
    exact ⟨ha, hb, da, db⟩
  · simpa using hn
  · simp
  rintro ρ ⟨W, v3, v4, v5, rfl, hg, hs, he⟩
  unfold w_law_same_b1
  have hl := len_ndP W
  rcases last_of W with rfl | ⟨W', ⟨x, y⟩, rfl⟩
  · rw [he] at q
    try walk_at "dl"
    exact ⟨sh_of rfl, sh_of rfl, by simpa [PyData.eqv, PyData.eqvAll] using q⟩
  have hxy := hg (x, y) (by simp)
  have hg' : ∀ p ∈ W', GoodP p := fun p hp => hg p (by simp [hp])
  rw [List.map_append, List.sum_append] at hs
  simp only [List.map_cons, List.map_nil, List.sum_cons, List.sum_nil] at hs
  rw [List.all_append] at he
  simp only [List.all_cons, List.all_nil, Bool.and_true] at he
  have fail : same x y = false → Q (.s (.bool false)) := fun h => by
    rw [he, h, Bool.and_false] at q
    exact q
  have mu : ∀ (z3 z4 z5 u3 u4 u5 : Option R) (Z : List (D × D)), (Z.map fun p => nd p.2).sum < nd y → muS [some (.s a), some (.s b), some (.l true ((W' ++ Z).map pairD)), z3, z4, z5] < muS [some (.s a), some (.s b), some (.l true ((W' ++ [(x, y)]).map pairD)), u3, u4, u5] := fun z3 z4 z5 u3 u4 u5 Z h => by
    show (((W' ++ Z).map pairD).map ndP).sum < (((W' ++ [(x, y)]).map pairD).map ndP).sum
    rw [sum_ndP, sum_ndP, List.map_append, List.map_append, List.sum_append, List.sum_append]
    simp only [List.map_cons, List.map_nil, List.sum_cons, List.sum_nil]
    omega
  have nxt : same x y = true → (∃ W : List (D × D), W'.map pairD = W.map pairD ∧ (∀ p ∈ W, GoodP p) ∧ (W.map fun p => nd p.2).sum ≤ 100000 ∧ same a b = W.all fun p => same p.1 p.2) ∧
      ∀ (z3 z4 z5 u3 u4 u5 : Option R), muS [some (.s a), some (.s b), some (.l true (W'.map pairD)), z3, z4, z5] < muS [some (.s a), some (.s b), some (.l true ((W' ++ [(x, y)]).map pairD)), u3, u4, u5] := fun h => by
    refine ⟨⟨W', rfl, hg', by omega, by rw [he, h, Bool.and_true]⟩, fun z3 z4 z5 u3 u4 u5 => ?_⟩
    have := mu z3 z4 z5 u3 u4 u5 [] (by have := nd_pos y; simp only [List.map_nil, List.sum_nil]; omega)
    simpa using this
  have shW : Sh (.list ((W' ++ [(x, y)]).map pairD)) := sh_pairs hg
  have ne : PyData.eqv (.list ((W' ++ [(x, y)]).map pairD)) (.list []) = false := by cases W' <;> simp [PyData.eqv, PyData.eqvAll]
  try walk_at "dl"
  refine ⟨shW, sh_of rfl, ?_⟩
  rw [ne]
  try walk_at "dl"
  refine ⟨W'.map pairD, pairD (x, y), by simp, ?_⟩
  simp only [pairD]
  try walk_at "dl"
  have scal : ∀ {c : Bool} {A : Prop}, same x y = c → (c = true → A) → if (!c) = true then Q (.s (.bool false)) else A := fun {c A} e h => by
    cases c with
    | true => simpa using h rfl
    | false => simpa using fail e
  cases y with
  | tuple ys =>
    simp only [isT, if_true]
    cases x with
    | tuple xs =>
      try walk_at "dl"
      have hlen : (!((xs.length : Int) == (ys.length : Int))) = !(xs.length == ys.length) := by
        rw [Bool.eq_iff_iff]; simp; omega
      rw [hlen]
      by_cases hc : xs.length = ys.length
      · have hnd : nd (.tuple ys) = (ys.map nd).sum + 1 := by rw [nd, ndAll_sum]
        have hb2 := nd_len ys
        have hwl := len_ndP W'
        simp only [hc, beq_self_eq_true, Bool.not_true, Bool.false_eq_true, if_false]
        refine ⟨by omega, by omega, fun k (acc : List D) => acc = ((xs.zip ys).take k).map pairD, rfl, fun k acc d hd e => ?_, fun acc e => ?_⟩
        · subst e
          have hk : k < ys.length := by
            have := (List.getElem?_eq_some_iff.mp hd).1
            simpa [rangeD] using this
          have ed : d = .int (k : Int) := by
            have : (rangeD 0 ys.length)[k]? = some (.int (0 + (k : Int))) := by simp [rangeD, hk]
            simp only [Int.toNat_natCast] at hd
            rw [this] at hd
            cases hd
            simp
          subst ed
          have hx : xs[k]? = some (xs[k]'(by omega)) := List.getElem?_eq_getElem (by omega)
          have hy : ys[k]? = some (ys[k]'hk) := List.getElem?_eq_getElem hk
          have hz : (xs.zip ys)[k]? = some (xs[k]'(by omega), ys[k]'hk) := by rw [List.getElem?_zip_eq_some]; exact ⟨hx, hy⟩
          refine ⟨k, rfl, _, atI_nat hx, k, rfl, _, atI_nat hy, ?_, ?_⟩
          · rw [List.length_map, List.length_take]; omega
          · dsimp only; rw [take_at hz, List.map_append]; rfl
        · subst e
          have el : (rangeD 0 (ys.length : Int).toNat).length = (xs.zip ys).length := by simp [rangeD, hc]
          rw [el, List.take_length]
          have sz : ((xs.zip ys).map fun p => nd p.2).sum = (ys.map nd).sum := by
            have : (xs.zip ys).map (fun p => nd p.2) = ((xs.zip ys).map Prod.snd).map nd := by rw [List.map_map]; rfl
            rw [this, List.map_snd_zip (by omega)]
          refine ⟨?_, ⟨W' ++ xs.zip ys, by rw [List.map_append], fun p hp => ?_, ?_, ?_⟩, ?_⟩
          · simp only [List.length_map, List.length_zip]; omega
          · rcases List.mem_append.mp hp with hp | hp
            · exact hg' p hp
            · obtain ⟨p1, p2⟩ := p
              have m1 := (List.of_mem_zip hp).1
              have m2 := (List.of_mem_zip hp).2
              obtain ⟨g1, g2, g3, g4⟩ := hxy
              simp only [PyData.canLay0, plainD, PyData.depth] at g1 g2 g3 g4
              exact ⟨layAll_mem g1 _ m1, plainAll_mem g2 _ m2, depthAll_mem (by omega) _ m1, depthAll_mem (by omega) _ m2⟩
          · rw [List.map_append, List.sum_append, sz]; omega
          · rw [he, List.all_append]
            congr 1
            simp only [same, hc, beq_self_eq_true, Bool.true_and, sameAll_zip]
          · rw [← List.map_append]
            exact mu _ _ _ _ _ _ _ (by rw [sz]; omega)
      · have hc' : (xs.length == ys.length) = false := by simpa using hc
        simp only [hc', Bool.not_false, if_true]
        exact fail (by simp [same, hc'])
    | _ => simpa [isT] using fail (by simp [same])
  | none =>
    simp only [isT, isN_none, Bool.false_eq_true, if_false, if_true]
    cases x <;> simp only [isN_none, isN_int, isN_bool, isN_str, isN_tup, R.isN, Bool.not_true, Bool.not_false, Bool.false_eq_true, if_false, if_true] <;> first | exact fail (by simp [same]) | exact ⟨(nxt (by simp [same])).1, (nxt (by simp [same])).2 _ _ _ _ _ _⟩
  | bool k =>
    simp only [isT, isN_bool, isB, Bool.false_eq_true, if_false, if_true]
    cases x <;> simp only [isB, Bool.not_true, Bool.not_false, Bool.false_eq_true, if_false, if_true] <;> try exact fail (by simp [same])
    refine ⟨sh_bool _, sh_bool _, ?_⟩
    rw [eqv_bool]
    exact scal (by simp [same]) fun h => ⟨(nxt (by simpa [same] using h)).1, (nxt (by simpa [same] using h)).2 _ _ _ _ _ _⟩
  | str k =>
    simp only [isT, isN_str, isB, DL.isS, Bool.false_eq_true, if_false, if_true]
    cases x <;> simp only [DL.isS, Bool.not_true, Bool.not_false, Bool.false_eq_true, if_false, if_true] <;> try exact fail (by simp [same])
    refine ⟨lay_sh hxy.1 (by simp [PyData.depth]), lay_sh (plain_lay _ hxy.2.1) (by simp [PyData.depth]), ?_⟩
    rw [eqv_str]
    exact scal (by simp [same]) fun h => ⟨(nxt (by simpa [same] using h)).1, (nxt (by simpa [same] using h)).2 _ _ _ _ _ _⟩
  | int k =>
    simp only [isT, isN_int, isB, DL.isS, Bool.false_eq_true, if_false, if_true]
    cases x <;> simp only [isI, isB, Bool.not_true, Bool.not_false, Bool.false_eq_true, if_false, if_true] <;> try exact fail (by simp [same])
    refine ⟨sh_int _, sh_int _, ?_⟩
    rw [eqv_int]
    exact scal (by simp [same]) fun h => ⟨(nxt (by simpa [same] using h)).1, (nxt (by simpa [same] using h)).2 _ _ _ _ _ _⟩
  | list ys => exact absurd hxy.2.1 (by simp [plainD])
  | dict ys => exact absurd hxy.2.1 (by simp [plainD])

/-! states, judged: any thing -/
def prD (p : Int × Int) : D := .tuple [.int p.1, .int p.2]
def stD (vs : List Int) (cs : List (Int × Int)) : D := .tuple [.tuple (vs.map .int), .tuple (cs.map prD)]
structure OkCs (cs : List (Int × Int)) : Prop where
  few : cs.length ≤ 150
  rng : ∀ p ∈ cs, 1 ≤ p.1 ∧ p.1 ≤ 1000000 ∧ 0 ≤ p.2 ∧ p.2 ≤ 1000000
  srt : cs.Pairwise fun p q => p.1 < q.1
structure OkVs (vs : List Int) : Prop where
  few : vs.length ≤ 4
  rng : ∀ v ∈ vs, 0 ≤ v ∧ v ≤ 1000000
theorem within_yes {i a b : Int} (h1 : a ≤ i) (h2 : i ≤ b) : within (.int i) a b = true := by simp [within, h1, h2]
theorem row_yes {l : List D} {a b : Int} (h1 : a ≤ l.length) (h2 : (l.length : Int) ≤ b) : isRow (.tuple l) a b = true := by simp [isRow, h1, h2]
theorem rowI_cases {d : D} {a b : Int} (h : isRow d a b = true) : ∃ l, d = .tuple l ∧ a ≤ l.length ∧ (l.length : Int) ≤ b := by
  cases d with
  | tuple l => simp only [isRow, Bool.and_eq_true, decide_eq_true_eq] at h; exact ⟨l, rfl, h⟩
  | _ => simp [isRow] at h
theorem within_is {d : D} {a b : Int} (h : within d a b = true) : ∃ i, d = .int i ∧ a ≤ i ∧ i ≤ b := by
  cases d with
  | int i => simp [within] at h; exact ⟨i, rfl, h.1, h.2⟩
  | _ => simp [within] at h
def isCell : D → Bool
  | .tuple [a, b] => within a 1 1000000 && within b 0 1000000
  | _ => false
theorem isCell_row {d : D} (h : isRow d 2 2 = false) : isCell d = false := by
  unfold isCell
  split
  · simp [isRow] at h
  · rfl
def c_is_cell : Ct := fun rs Q _ => ∃ d, rs = [.s d] ∧ Q (.s (.bool (isCell d)))
theorem d_is_cell {K : Frag} {cl : Ad} : ∀ rs Q E, c_is_cell rs Q E → w_is_cell K cl c_within c_is_row (rho N_is_cell.length rs) { nx := fun _ => Q (.s .none), rt := Q, er := fun cls _ => E cls } := by
  rintro rs Q E ⟨d, rfl, q⟩
  unfold w_is_cell
  walk_at "dy"
  refine ⟨d, 2, 2, rfl, ?_⟩
  walk_at "dy"
  cases hr : isRow d 2 2 with
  | false => rw [isCell_row hr] at q; simpa using q
  | true =>
    obtain ⟨l, rfl, h1, h2⟩ := rowI_cases hr
    match l, h1, h2 with
    | [a, b], _, _ =>
      simp only [if_true]
      walk_at "dy"
      refine ⟨a, 1, 1000000, rfl, ?_⟩
      walk_at "dy"
      simp only [isCell] at q
      cases ha : within a 1 1000000 with
      | false => rw [ha] at q; simpa using q
      | true =>
        rw [ha, Bool.true_and] at q
        simp only [if_true]
        exact ⟨b, 0, 1000000, rfl, q⟩
    | [], h1, _ => simp at h1
    | [_], h1, _ => simp at h1
    | _ :: _ :: _ :: _, _, h2 => simp at h2; omega
def fstI : D → Int
  | .tuple (.int a :: _) => a
  | _ => 0
def lessD : D → Bool
  | .tuple [a, b] => decide (fstI a < fstI b)
  | _ => false
def ascD : List D → Bool
  | a :: b :: r => decide (fstI a < fstI b) && ascD (b :: r)
  | _ => true
theorem asc_zip : ∀ l : List D, ((zipD l (l.drop 1)).map lessD).all id = ascD l
  | [] => rfl
  | [_] => rfl
  | a :: b :: r => by
    have ih := asc_zip (b :: r)
    simp only [List.drop_succ_cons, List.drop_zero] at ih
    show (decide (fstI a < fstI b) && ((zipD (b :: r) r).map lessD).all id) = _
    rw [ih]
    rfl
def isCells : D → Bool
  | .tuple l => decide (l.length ≤ 150) && l.all isCell && ascD l
  | _ => false
theorem cut_drop1 (l : List D) : DL.cutD l (some 1) none = l.drop 1 := by
  unfold DL.cutD
  rw [show (some (1 : Int)) = some ((1 : Nat) : Int) from rfl, HT.sIx_nat]
  show List.take (l.length - min 1 l.length) (List.drop (min 1 l.length) l) = _
  cases l with
  | nil => rfl
  | cons p r =>
    have e : min 1 (p :: r).length = 1 := by simp
    rw [e]
    exact List.take_of_length_le (by simp)
theorem take_len_lt {α : Type} {l : List α} {k : Nat} {x : α} (h : l[k]? = some x) : (l.take k).length = k := by
  have := get_lt h
  rw [List.length_take]
  omega
def c_are_cells : Ct := fun rs Q _ => ∃ d, rs = [.s d] ∧ Q (.s (.bool (isCells d)))
theorem d_are_cells {K : Frag} {cl : Ad} : ∀ rs Q E, c_are_cells rs Q E → w_are_cells K cl c_is_row c_is_cell (rho N_are_cells.length rs) { nx := fun _ => Q (.s .none), rt := Q, er := fun cls _ => E cls } := by
  rintro rs Q E ⟨d, rfl, q⟩
  unfold w_are_cells
  walk_at "dy"
  refine ⟨d, 0, 150, rfl, ?_⟩
  walk_at "dy"
  cases hr : isRow d 0 150 with
  | false =>
    have : isCells d = false := by
      cases d with
      | tuple l =>
        simp only [isRow, Bool.and_eq_false_iff, decide_eq_false_iff_not] at hr
        have : ¬ l.length ≤ 150 := by omega
        simp [isCells, this]
      | _ => rfl
    rw [this] at q
    simpa using q
  | true =>
    obtain ⟨l, rfl, h1, h2⟩ := rowI_cases hr
    simp only [Bool.not_true, Bool.false_eq_true, if_false]
    walk_at "dy"
    refine lc_go (fun k => ((l.take k).map isCell).map PyData.bool) rfl (fun k d hd => ?_) ?_
    · rw [gwN1]
      refine ⟨by simp, ?_⟩
      simp only [putA, wipeR, List.set_cons_succ, List.set_cons_zero]
      walk_at "dy"
      refine ⟨d, rfl, ?_⟩
      walk_at "dy"
      refine ⟨by rw [List.length_map, List.length_map, take_len_lt hd]; have := get_lt hd; omega, ?_⟩
      rw [take_succ_map isCell hd, List.map_append]
      rfl
    · rw [List.take_length]
      refine ⟨_, _, rfl, ?_⟩
      walk_at "dy"
      have ea : (l.map isCell).all id = l.all isCell := by rw [List.all_map]; rfl
      have e150 : l.length ≤ 150 := by omega
      rw [ea]
      simp only [isCells, e150, decide_true, Bool.true_and] at q
      cases ha : l.all isCell with
      | false => rw [ha] at q; simpa using q
      | true =>
        rw [ha, Bool.true_and] at q
        simp only [Bool.not_true, Bool.false_eq_true, if_false]
        rw [cut_drop1]
        refine lc_go (fun k => (((zipD l (l.drop 1)).take k).map lessD).map PyData.bool) rfl (fun k d hd => ?_) ?_
        · have hz : ∃ p q, l[k]? = some p ∧ l[k + 1]? = some q ∧ d = .tuple [p, q] := by
            have hd' := hd
            unfold zipD at hd'
            rw [List.getElem?_zipWith, List.getElem?_drop] at hd'
            cases h1 : l[k]? with
            | none => rw [h1] at hd'; cases hd'
            | some p =>
              cases h2 : l[1 + k]? with
              | none => rw [h1, h2] at hd'; cases hd'
              | some q =>
                rw [h1, h2] at hd'
                cases hd'
                exact ⟨p, q, rfl, by rw [Nat.add_comm]; exact h2, rfl⟩
          obtain ⟨p, q', h1, h2, rfl⟩ := hz
          have c1 : isCell p = true := List.all_eq_true.mp ha p (List.mem_of_getElem? h1)
          have c2 : isCell q' = true := List.all_eq_true.mp ha q' (List.mem_of_getElem? h2)
          have cell : ∀ z, isCell z = true → ∃ a b, z = .tuple [.int a, .int b] := fun z hz => by
            unfold isCell at hz
            split at hz
            · rw [Bool.and_eq_true] at hz
              obtain ⟨i, rfl, _⟩ := within_is hz.1
              obtain ⟨j, rfl, _⟩ := within_is hz.2
              exact ⟨i, j, rfl⟩
            · cases hz
          obtain ⟨a, b, rfl⟩ := cell p c1
          obtain ⟨a', b', rfl⟩ := cell q' c2
          rw [gwNt]
          refine ⟨rfl, by simp, ?_⟩
          simp only [putA, wipeR, List.set_cons_succ, List.set_cons_zero]
          walk_at "dy"
          have hk : k < 150 := by have := get_lt h1; omega
          refine ⟨by rw [List.length_map, List.length_map, take_len_lt hd]; omega, ?_⟩
          rw [take_succ_map lessD hd, List.map_append]
          rfl
        · rw [List.take_length]
          refine ⟨_, _, rfl, ?_⟩
          rw [asc_zip]
          exact q
def isVs : D → Bool
  | .tuple l => decide (l.length ≤ 4) && l.all fun v => within v 0 1000000
  | _ => false
def isSt : D → Bool
  | .tuple [vs, cs] => isVs vs && isCells cs
  | _ => false
theorem isSt_row {d : D} (h : isRow d 2 2 = false) : isSt d = false := by
  unfold isSt
  split
  · simp [isRow] at h
  · rfl
def c_is_state_of : Ct := fun rs Q _ => ∃ d, rs = [.s d] ∧ Q (.s (.bool (isSt d)))
theorem d_is_state_of {K : Frag} {cl : Ad} : ∀ rs Q E, c_is_state_of rs Q E → w_is_state_of K cl c_within c_is_row c_are_cells (rho N_is_state_of.length rs) { nx := fun _ => Q (.s .none), rt := Q, er := fun cls _ => E cls } := by
  rintro rs Q E ⟨d, rfl, q⟩
  unfold w_is_state_of
  walk_at "dy"
  refine ⟨d, 2, 2, rfl, ?_⟩
  walk_at "dy"
  cases hr : isRow d 2 2 with
  | false => rw [isSt_row hr] at q; simpa using q
  | true =>
    obtain ⟨l, rfl, h1, h2⟩ := rowI_cases hr
    match l, h1, h2 with
    | [a, b], _, _ =>
      simp only [Bool.not_true, Bool.false_eq_true, if_false]
      walk_at "dy"
      refine ⟨a, 0, 4, rfl, ?_⟩
      walk_at "dy"
      simp only [isSt] at q
      cases ha : isRow a 0 4 with
      | false =>
        have : isVs a = false := by
          cases a with
          | tuple l =>
            simp only [isRow, Bool.and_eq_false_iff, decide_eq_false_iff_not] at ha
            have : ¬ l.length ≤ 4 := by omega
            simp [isVs, this]
          | _ => rfl
        rw [this] at q
        simpa using q
      | true =>
        obtain ⟨l, rfl, h1, h2⟩ := rowI_cases ha
        simp only [Bool.not_true, Bool.false_eq_true, if_false]
        walk_at "dy"
        refine lc_go (fun k => ((l.take k).map fun v => within v 0 1000000).map PyData.bool) rfl (fun k d hd => ?_) ?_
        · rw [gwN1]
          refine ⟨by simp, ?_⟩
          simp only [putA, wipeR, List.set_cons_succ, List.set_cons_zero]
          walk_at "dy"
          refine ⟨d, 0, 1000000, rfl, ?_⟩
          walk_at "dy"
          refine ⟨by rw [List.length_map, List.length_map, take_len_lt hd]; have := get_lt hd; omega, ?_⟩
          rw [take_succ_map (fun v => within v 0 1000000) hd, List.map_append]
          rfl
        · rw [List.take_length]
          refine ⟨_, _, rfl, ?_⟩
          walk_at "dy"
          have ea : (l.map fun v => within v 0 1000000).all id = l.all fun v => within v 0 1000000 := by rw [List.all_map]; rfl
          have e4 : l.length ≤ 4 := by omega
          rw [ea]
          simp only [isVs, e4, decide_true, Bool.true_and] at q
          cases hv : l.all fun v => within v 0 1000000 with
          | false => rw [hv] at q; simpa using q
          | true =>
            rw [hv, Bool.true_and] at q
            simp only [if_true]
            exact ⟨b, rfl, q⟩
    | [], h1, _ => simp at h1
    | [_], h1, _ => simp at h1
    | _ :: _ :: _ :: _, _, h2 => simp at h2; omega
theorem asc_cs : ∀ {cs : List (Int × Int)}, (cs.Pairwise fun p q => p.1 < q.1) → ascD (cs.map prD) = true
  | [], _ => rfl
  | [_], _ => rfl
  | p :: q :: r, h => by
    obtain ⟨h1, h2⟩ := List.pairwise_cons.mp h
    have := h1 q List.mem_cons_self
    show (decide (p.1 < q.1) && ascD ((q :: r).map prD)) = true
    rw [asc_cs h2, decide_eq_true this]
    rfl
theorem isSt_ok {vs : List Int} {cs : List (Int × Int)} (ov : OkVs vs) (oc : OkCs cs) : isSt (stD vs cs) = true := by
  unfold stD isSt isVs isCells
  simp only [List.length_map, ov.few, oc.few, decide_true, Bool.true_and, asc_cs oc.srt, Bool.and_true, Bool.and_eq_true, List.all_map, List.all_eq_true]
  refine ⟨fun v hv => within_yes (ov.rng v hv).1 (ov.rng v hv).2, fun p hp => ?_⟩
  obtain ⟨h1, h2, h3, h4⟩ := oc.rng p hp
  show (within (.int p.1) 1 1000000 && within (.int p.2) 0 1000000) = true
  rw [within_yes h1 h2, within_yes h3 h4]
  rfl
def c_need_state (cl : Ad) : Ct := fun rs Q E => ∃ d, rs = [.s d] ∧ if isSt d = true then Q (.s .none) else E (.ref cl.c_BadState)
theorem d_need_state {K : Frag} {cl : Ad} : ∀ rs Q E, c_need_state cl rs Q E → w_need_state K cl c_is_state_of (rho N_need_state.length rs) { nx := fun _ => Q (.s .none), rt := Q, er := fun cls _ => E cls } := by
  rintro rs Q E ⟨d, rfl, q⟩
  unfold w_need_state
  walk_at "dy"
  refine ⟨d, rfl, ?_⟩
  walk_at "dy"
  cases h : isSt d <;> rw [h] at q <;> simpa using q

def flatCs (cs : List (Int × Int)) : List Int := cs.flatMap fun p => [p.1, p.2]
def flatSt (vs : List Int) (cs : List (Int × Int)) : List Int := vs ++ flatCs cs
theorem flatCs_take {cs : List (Int × Int)} {i : Nat} {p : Int × Int} (h : cs[i]? = some p) : flatCs (cs.take (i + 1)) = flatCs (cs.take i) ++ [p.1, p.2] := by
  rw [take_at h]
  simp [flatCs]
theorem flatCs_len (cs : List (Int × Int)) : (flatCs cs).length = 2 * cs.length := by
  induction cs with
  | nil => rfl
  | cons p r ih => simp only [flatCs, List.flatMap_cons, List.length_append, List.length_cons, List.length_nil] at ih ⊢; omega
theorem pr_at {cs : List (Int × Int)} {i : Nat} {d : D} (h : (cs.map prD)[i]? = some d) : ∃ p, cs[i]? = some p ∧ d = prD p := by
  rw [List.getElem?_map] at h
  cases e : cs[i]? with
  | none => rw [e] at h; cases h
  | some p => rw [e] at h; cases h; exact ⟨p, rfl, rfl⟩
theorem int_at {ns : List Int} {i : Nat} {d : D} (h : (ns.map PyData.int)[i]? = some d) : ∃ n, ns[i]? = some n ∧ d = .int n := by
  rw [List.getElem?_map] at h
  cases e : ns[i]? with
  | none => rw [e] at h; cases h
  | some p => rw [e] at h; cases h; exact ⟨p, rfl, rfl⟩
def pos (ns : List Int) : List Int := ns.filter fun x => decide (0 < x)
theorem pos_take {ns : List Int} {i : Nat} {n : Int} (h : ns[i]? = some n) : pos (ns.take (i + 1)) = if 0 < n then pos (ns.take i) ++ [n] else pos (ns.take i) := by
  rw [take_at h, pos, List.filter_append]
  by_cases e : 0 < n <;> simp [e, pos]
def c_places (w : Bool) : Ct := fun rs Q _ => ∃ vs cs, rs = [.s (stD vs cs)] ∧ vs.length ≤ 4 ∧ cs.length ≤ 200 ∧ ∀ ns', SortedOf (pos (flatSt vs cs)) ns' → Q (.l true (ns'.map PyData.int))
theorem d_places_of {K : Frag} {cl : Ad} : ∀ rs Q E, c_places true rs Q E → w_places_of K cl (rho N_places_of.length rs) { nx := fun _ => Q (.s .none), rt := Q, er := fun cls _ => E cls } := by
  rintro rs Q E ⟨vs, cs, rfl, ov, few, q⟩
  unfold w_places_of stD
  try walk_at "dm"
  refine ⟨fun i (ρ : Rho) => ∃ v2 v3, ρ = [some (.s (stD vs cs)), some (.l true ((vs ++ flatCs (cs.take i)).map PyData.int)), v2, v3], ⟨none, none, by simp [flatCs, stD]⟩, ?_, ?_⟩
  · rintro i d ρ hd ⟨v2, v3, rfl⟩
    obtain ⟨p, hp, rfl⟩ := pr_at hd
    unfold w_places_of_b1 prD
    walk_at "dm"
    refine ⟨?_, ?_⟩
    · have := (List.getElem?_eq_some_iff.mp hp).1
      rw [List.length_map, List.length_append, flatCs_len, List.length_take]
      have := ov
      have := few
      omega
    · rw [flatCs_take hp]
      simp
  · rintro ρ ⟨v2, v3, rfl⟩
    walk_at "dm"
    have e0 : cs.take (cs.map prD).length = cs := by rw [List.length_map, List.take_length]
    have l3 : (flatSt vs cs).length ≤ 404 := by unfold flatSt; rw [List.length_append, flatCs_len]; have := ov; have := few; omega
    rw [e0, show vs ++ flatCs cs = flatSt vs cs from rfl]
    generalize flatSt vs cs = fl at q l3 ⊢
    refine ⟨fun k (acc : List Int) => acc = pos (fl.take k), rfl, fun k acc d hd e => ?_, fun acc e => ?_⟩
    · subst e
      obtain ⟨n, hn, rfl⟩ := int_at hd
      refine ⟨n, rfl, ?_⟩
      have pt := pos_take hn
      by_cases h : 0 < n
      · rw [if_pos (decide_eq_true h)]
        rw [if_pos h] at pt
        refine ⟨n, rfl, ?_, pt.symm⟩
        have l1 := List.length_filter_le (fun x => decide (0 < x)) (fl.take k)
        have l2 : (fl.take k).length ≤ fl.length := by rw [List.length_take]; omega
        unfold pos
        omega
      · rw [if_neg (by simpa using h)]
        rw [if_neg h] at pt
        exact pt.symm
    · dsimp only at e
      rw [List.length_map, List.take_length] at e
      subst e
      refine ⟨?_, q⟩
      have l1 := List.length_filter_le (fun x => decide (0 < x)) fl
      unfold pos
      omega
def topOf (ns : List Int) : Int := ns.foldl max 0
theorem foldl_max : ∀ (ns : List Int) (a : Int), a ≤ ns.foldl max a ∧ (∀ x ∈ ns, x ≤ ns.foldl max a) ∧ (ns.foldl max a = a ∨ ns.foldl max a ∈ ns)
  | [], a => ⟨Int.le_refl _, fun x h => (nomatch h), .inl rfl⟩
  | n :: ns, a => by
    obtain ⟨h1, h2, h3⟩ := foldl_max ns (max a n)
    refine ⟨Int.le_trans (Int.le_max_left a n) h1, fun x hx => ?_, ?_⟩
    · rcases List.mem_cons.mp hx with rfl | hx
      · exact Int.le_trans (Int.le_max_right a x) h1
      · exact h2 x hx
    · rw [List.foldl_cons]
      rcases h3 with h3 | h3
      · rw [h3]
        by_cases q : a ≤ n
        · rw [Int.max_eq_right q]; exact .inr List.mem_cons_self
        · rw [Int.max_eq_left (by omega)]; exact .inl rfl
      · exact .inr (List.mem_cons_of_mem _ h3)
theorem top_eq {ns ns' : List Int} {m : Int} (h : SortedOf (pos ns) ns') (h1 : m ∈ 0 :: ns') (h2 : ∀ y ∈ 0 :: ns', y ≤ m) : m = topOf ns := by
  obtain ⟨a1, a2, a3⟩ := foldl_max ns 0
  have m0 : 0 ≤ m := h2 0 List.mem_cons_self
  have up : topOf ns ≤ m := by
    rcases a3 with a3 | a3
    · show ns.foldl max 0 ≤ m; rw [a3]; exact m0
    · by_cases z : 0 < ns.foldl max 0
      · exact h2 _ (List.mem_cons_of_mem _ ((h.2.1 _).mpr (List.mem_filter.mpr ⟨a3, decide_eq_true z⟩)))
      · show ns.foldl max 0 ≤ m; omega
  rcases List.mem_cons.mp h1 with rfl | h1
  · have : (0 : Int) ≤ topOf ns := a1
    omega
  · have := a2 m (List.mem_filter.mp ((h.2.1 _).mp h1)).1
    have : m ≤ topOf ns := this
    omega
theorem d_law_places {K : Frag} {cl : Ad} : ∀ rs Q E, c_places false rs Q E → w_law_places K cl (rho N_law_places.length rs) { nx := fun _ => Q (.s .none), rt := Q, er := fun cls _ => E cls } := by
  rintro rs Q E ⟨vs, cs, rfl, ov, few, q⟩
  unfold w_law_places stD
  try walk_at "dm"
  refine ⟨fun i (ρ : Rho) => ∃ v2 v3, ρ = [some (.s (stD vs cs)), some (.l true ((vs ++ flatCs (cs.take i)).map PyData.int)), v2, v3], ⟨none, none, by simp [flatCs, stD]⟩, ?_, ?_⟩
  · rintro i d ρ hd ⟨v2, v3, rfl⟩
    obtain ⟨p, hp, rfl⟩ := pr_at hd
    unfold w_law_places_b1 prD
    walk_at "dm"
    refine ⟨?_, ?_⟩
    · have := (List.getElem?_eq_some_iff.mp hp).1
      rw [List.length_map, List.length_append, flatCs_len, List.length_take]
      have := ov
      have := few
      omega
    · rw [flatCs_take hp]
      simp
  · rintro ρ ⟨v2, v3, rfl⟩
    walk_at "dm"
    have e0 : cs.take (cs.map prD).length = cs := by rw [List.length_map, List.take_length]
    have l3 : (flatSt vs cs).length ≤ 404 := by unfold flatSt; rw [List.length_append, flatCs_len]; have := ov; have := few; omega
    rw [e0, show vs ++ flatCs cs = flatSt vs cs from rfl]
    generalize flatSt vs cs = fl at q l3 ⊢
    refine ⟨fl, rfl, by omega, fun ns' hs => ⟨fun k (acc : List D) => acc = (pos (ns'.take k)).map PyData.int, rfl, fun k acc d hd e => ?_, fun acc e => ?_⟩⟩
    · subst e
      obtain ⟨n, hn, rfl⟩ := int_at hd
      refine ⟨n, rfl, ?_⟩
      have pt := pos_take hn
      have hk := (List.getElem?_eq_some_iff.mp hn).1
      by_cases h : 0 < n
      · rw [if_pos (decide_eq_true h)]
        rw [if_pos h] at pt
        refine ⟨?_, ?_⟩
        · have l1 := List.length_filter_le (fun x => decide (0 < x)) (ns'.take k)
          have := hs.2.2
          rw [List.length_map]
          unfold pos
          rw [List.length_take] at l1
          omega
        · show _ = List.map PyData.int (pos (List.take (k + 1) ns'))
          rw [pt, List.map_append]; rfl
      · rw [if_neg (by simpa using h)]
        rw [if_neg h] at pt
        show _ = List.map PyData.int (pos (List.take (k + 1) ns'))
        rw [pt]
    · dsimp only at e
      rw [List.length_map, List.take_length] at e
      subst e
      refine q _ ⟨hs.1.sublist List.filter_sublist, fun k => ?_, ?_⟩
      · unfold pos
        rw [List.mem_filter, List.mem_filter, hs.2.1 k]
      · have l1 := List.length_filter_le (fun x => decide (0 < x)) ns'
        have := hs.2.2
        unfold pos
        omega

def sortP (l : List (Int × Int)) : List (Int × Int) := l.mergeSort fun p q => decide (p.1 < q.1 ∨ (p.1 = q.1 ∧ p.2 ≤ q.2))
def keysI (l : List (Int × Int)) : List Int := l.map (·.1)
theorem pairsK_cs : ∀ cs : List (Int × Int), pairsK (cs.map prD) = some (iK cs)
  | [] => rfl
  | p :: r => by
    rw [List.map_cons]
    show (match ofK (.int p.1), pairsK (r.map prD) with | some k, some s => some ((k, PyData.int p.2) :: s) | _, _ => none) = _
    rw [pairsK_cs r]
    rfl
theorem kPut_new {kvs : List (Key × D)} {k : Key} {d : D} (h : k ∉ kvs.map (·.1)) : kPut kvs k d = kvs ++ [(k, d)] := by
  unfold kPut
  rw [if_neg]
  intro z
  obtain ⟨p, hp, e⟩ := List.any_eq_true.mp z
  exact h (List.mem_map.mpr ⟨p, hp, by simpa using e⟩)
theorem kMerge_nd : ∀ (more kvs : List (Key × D)), ((kvs ++ more).map (·.1)).Nodup → kMerge kvs more = kvs ++ more
  | [], kvs, _ => by simp [kMerge]
  | p :: r, kvs, h => by
    have hp : p.1 ∉ kvs.map (·.1) := by
      rw [List.map_append, List.map_cons, List.nodup_append] at h
      intro z
      exact h.2.2 _ z _ List.mem_cons_self rfl
    show kMerge (kPut kvs p.1 p.2) r = _
    rw [kPut_new hp, kMerge_nd r (kvs ++ [(p.1, p.2)]) (by simpa using h)]
    simp
theorem keys_nd {cs : List (Int × Int)} (h : cs.Pairwise fun p q => p.1 < q.1) : (keysI cs).Nodup := by
  unfold keysI
  rw [List.Nodup, List.pairwise_map]
  exact h.imp fun h => Int.ne_of_lt h
theorem iK_nd {l : List (Int × Int)} (h : (keysI l).Nodup) : ((iK l).map (·.1)).Nodup := by
  have e : (iK l).map (·.1) = (keysI l).map Sum.inl := by simp [iK, keysI]
  rw [e, List.Nodup, List.pairwise_map]
  exact List.Pairwise.imp (fun h z => h (Sum.inl.inj z)) h
theorem dict_cs {cs : List (Int × Int)} (h : (keysI cs).Nodup) : kMerge [] (iK cs) = iK cs := kMerge_nd (iK cs) [] (by rw [List.nil_append]; exact iK_nd h)
theorem iGet_mem {l : List (Int × Int)} (nd : (keysI l).Nodup) {k v : Int} : iGet l k = some v ↔ (k, v) ∈ l := by
  unfold iGet
  induction l with
  | nil => simp
  | cons p r ih =>
    unfold keysI at nd
    rw [List.map_cons, List.nodup_cons] at nd
    rw [List.find?_cons]
    by_cases e : p.1 = k
    · simp only [e, decide_true, Option.map_some, Option.some.injEq]
      constructor
      · intro h
        subst h
        rw [← e]
        exact List.mem_cons_self
      · intro h
        rcases List.mem_cons.mp h with h | h
        · rw [← h]
        · exact absurd (List.mem_map.mpr ⟨_, h, rfl⟩) (e ▸ nd.1)
    · simp only [e, decide_false]
      refine (ih nd.2).trans ⟨fun h => List.mem_cons_of_mem _ h, fun h => ?_⟩
      rcases List.mem_cons.mp h with h | h
      · exact absurd (by rw [← h]) e
      · exact h
theorem iGet_perm {l l' : List (Int × Int)} (h : l.Perm l') (nd : (keysI l).Nodup) : iGet l = iGet l' := by
  have nd' : (keysI l').Nodup := (h.map _).nodup nd
  funext k
  cases e : iGet l' k with
  | some v => exact (iGet_mem nd).mpr (h.mem_iff.mpr ((iGet_mem nd').mp e))
  | none =>
    cases e' : iGet l k with
    | none => rfl
    | some v =>
      have := (iGet_mem nd').mpr (h.mem_iff.mp ((iGet_mem nd).mp e'))
      rw [e] at this
      cases this
theorem sortP_perm (l : List (Int × Int)) : (sortP l).Perm l := List.mergeSort_perm l _
theorem pairs_iK (l : List (Int × Int)) : pairsD (iK l) = l.map prD := by simp [pairsD, iK, prD, kD]
theorem sortD_pr (l : List (Int × Int)) : sortD (l.map prD) = (sortP l).map prD := by
  unfold sortD sortP
  refine (List.map_mergeSort fun a _ b _ => ?_).symm
  have := congrFun (congrFun (PySem.W.dataLe_ii (fun p : Int × Int => p.1) (fun p => p.2)) a) b
  rw [← this]
  rfl
theorem srt_pr (l : List (Int × Int)) (h : l.length ≤ 1000) : SrtOk (l.map prD) where
  al := PySem.W.AllAlike.of fun a b => by simp [prD, PySem.W.alike, PySem.W.alikeAll]
  so := PySem.W.Sortable.tuples fun p => ⟨_, _, rfl⟩
  ly := fun d hd => by
    obtain ⟨p, _, rfl⟩ := List.mem_map.mp hd
    exact ⟨by simp [prD, PyData.canLay0, PyData.canLayAll0], by simp [prD, PyData.depth, PyData.depthAll]⟩
  ln := by rw [List.length_map]; omega
def iPut (l : List (Int × Int)) (k v : Int) : List (Int × Int) := if (l.any fun p => decide (p.1 = k)) = true then l.map (fun p => if p.1 = k then (p.1, v) else p) else l ++ [(k, v)]
theorem iPut_k (l : List (Int × Int)) (k v : Int) : kPut (iK l) (.inl k) (.int v) = iK (iPut l k v) := by
  have e : ((iK l).any fun p => decide (p.1 = Sum.inl k)) = l.any fun p => decide (p.1 = k) := by
    unfold iK
    rw [List.any_map]
    congr 1
    funext p
    simp [Sum.inl.injEq]
  unfold kPut iPut
  rw [e]
  by_cases h : (l.any fun p => decide (p.1 = k)) = true
  · rw [if_pos h, if_pos h]
    unfold iK
    rw [List.map_map, List.map_map]
    refine List.map_congr_left fun p _ => ?_
    by_cases z : p.1 = k <;> simp [z]
  · rw [if_neg h, if_neg h]
    simp [iK]
theorem iPut_keys {l : List (Int × Int)} (k v : Int) (nd : (keysI l).Nodup) : (keysI (iPut l k v)).Nodup := by
  unfold iPut
  by_cases h : (l.any fun p => decide (p.1 = k)) = true
  · rw [if_pos h]
    have e : keysI (l.map fun p => if p.1 = k then (p.1, v) else p) = keysI l := by
      unfold keysI
      rw [List.map_map]
      refine List.map_congr_left fun p _ => ?_
      by_cases z : p.1 = k <;> simp [z]
    rw [e]
    exact nd
  · rw [if_neg h]
    unfold keysI at nd ⊢
    rw [List.map_append]
    refine nd_snoc nd fun z => h ?_
    obtain ⟨p, hp, e⟩ := List.mem_map.mp z
    exact List.any_eq_true.mpr ⟨p, hp, by simpa using e⟩
theorem iPut_len (l : List (Int × Int)) (k v : Int) : (iPut l k v).length ≤ l.length + 1 := by
  unfold iPut
  split <;> simp
theorem sortP_srt {l : List (Int × Int)} (nd : (keysI l).Nodup) : (sortP l).Pairwise fun p q => p.1 < q.1 := by
  have h1 : (sortP l).Pairwise fun p q => (decide (p.1 < q.1 ∨ (p.1 = q.1 ∧ p.2 ≤ q.2))) = true := List.pairwise_mergeSort (fun a b c h h' => by simp only [decide_eq_true_eq] at *; omega) (fun a b => by simp only [Bool.or_eq_true, decide_eq_true_eq]; omega) l
  have h2 : (keysI (sortP l)).Nodup := ((sortP_perm l).map _).symm.nodup nd
  unfold keysI at h2
  rw [List.Nodup, List.pairwise_map] at h2
  exact (h1.and h2).imp fun ⟨a, b⟩ => by
    have := of_decide_eq_true a
    omega
theorem sortP_id {l : List (Int × Int)} (h : l.Pairwise fun p q => p.1 < q.1) : sortP l = l := by
  refine List.mergeSort_of_pairwise (h.imp fun a => ?_)
  rw [decide_eq_true_iff]
  exact .inl a
theorem st_of {d : D} (h : isSt d = true) : ∃ vs cs, d = stD vs cs ∧ OkVs vs ∧ OkCs cs := by
  unfold isSt at h
  split at h
  · rename_i a b
    rw [Bool.and_eq_true] at h
    obtain ⟨h1, h2⟩ := h
    cases a with
    | tuple l =>
      simp only [isVs, Bool.and_eq_true, decide_eq_true_eq, List.all_eq_true] at h1
      cases b with
      | tuple m =>
        simp only [isCells, Bool.and_eq_true, decide_eq_true_eq, List.all_eq_true] at h2
        have ev : ∀ l : List D, (∀ x ∈ l, within x 0 1000000 = true) → ∃ vs : List Int, l = vs.map PyData.int ∧ ∀ v ∈ vs, 0 ≤ v ∧ v ≤ 1000000 := fun l => by
          induction l with
          | nil => intro _; exact ⟨[], rfl, fun v h => nomatch h⟩
          | cons x l ih =>
            intro hx
            obtain ⟨i, rfl, h⟩ := within_is (hx x List.mem_cons_self)
            obtain ⟨vs, rfl, hv⟩ := ih fun y hy => hx y (List.mem_cons_of_mem _ hy)
            exact ⟨i :: vs, rfl, fun v hv' => (List.mem_cons.mp hv').elim (fun e => by rw [e]; exact h) (hv v)⟩
        have ec : ∀ l : List D, (∀ x ∈ l, isCell x = true) → ∃ cs : List (Int × Int), l = cs.map prD ∧ ∀ p ∈ cs, 1 ≤ p.1 ∧ p.1 ≤ 1000000 ∧ 0 ≤ p.2 ∧ p.2 ≤ 1000000 := fun l => by
          induction l with
          | nil => intro _; exact ⟨[], rfl, fun v h => nomatch h⟩
          | cons x l ih =>
            intro hx
            have hc := hx x List.mem_cons_self
            unfold isCell at hc
            split at hc
            · rw [Bool.and_eq_true] at hc
              obtain ⟨i, rfl, h⟩ := within_is hc.1
              obtain ⟨j, rfl, h'⟩ := within_is hc.2
              obtain ⟨cs, rfl, hv⟩ := ih fun y hy => hx y (List.mem_cons_of_mem _ hy)
              exact ⟨(i, j) :: cs, rfl, fun p hp => (List.mem_cons.mp hp).elim (fun e => by rw [e]; exact ⟨h.1, h.2, h'.1, h'.2⟩) (hv p)⟩
            · cases hc
        obtain ⟨vs, rfl, hv⟩ := ev l h1.2
        obtain ⟨cs, rfl, hc⟩ := ec m h2.1.2
        have asc : ∀ cs : List (Int × Int), ascD (cs.map prD) = true → cs.Pairwise fun p q => p.1 < q.1 := fun cs => by
          induction cs with
          | nil => intro _; exact .nil
          | cons p r ih =>
            intro h
            cases r with
            | nil => simp
            | cons q r =>
              have h' : (decide (p.1 < q.1) && ascD ((q :: r).map prD)) = true := h
              rw [Bool.and_eq_true, decide_eq_true_eq] at h'
              have t := ih h'.2
              refine List.pairwise_cons.mpr ⟨fun z hz => ?_, t⟩
              rcases List.mem_cons.mp hz with rfl | hz
              · exact h'.1
              · have := (List.pairwise_cons.mp t).1 z hz
                omega
        exact ⟨vs, cs, rfl, ⟨by simpa using h1.1, hv⟩, ⟨by simpa using h2.1.1, hc, asc cs h2.2⟩⟩
      | _ => simp [isCells] at h2
    | _ => simp [isVs] at h1
  · cases h
theorem sorted_uniq {ns a b : List Int} (ha : SortedOf ns a) (hb : SortedOf ns b) : a = b := by
  have nda : a.Nodup := ha.1.imp fun h => Int.ne_of_lt h
  have ndb : b.Nodup := hb.1.imp fun h => Int.ne_of_lt h
  have p : a.Perm b := (List.perm_ext_iff_of_nodup nda ndb).mpr fun k => by rw [ha.2.1, hb.2.1]
  exact p.eq_of_pairwise (le := fun x y => x < y) (fun _ _ _ _ h1 h2 => by omega) ha.1 hb.1
/-! small plain things -/
theorem ndAll_le : ∀ {xs : List D} {c : Nat}, (∀ x ∈ xs, nd x ≤ c) → ndAll xs ≤ c * xs.length
  | [], c, _ => by simp [ndAll]
  | x :: xs, c, h => by
    simp only [ndAll, List.length_cons]
    have h1 := h x List.mem_cons_self
    have h2 := ndAll_le (xs := xs) (c := c) fun y hy => h y (List.mem_cons_of_mem _ hy)
    rw [Nat.mul_succ]
    omega
theorem plainAll_of : ∀ {xs : List D}, (∀ x ∈ xs, plainD x = true) → plainAll xs = true
  | [], _ => by simp [plainAll]
  | x :: xs, h => by simp only [plainAll, h x List.mem_cons_self, plainAll_of fun y hy => h y (List.mem_cons_of_mem _ hy), Bool.and_self]
structure Small (d : D) (n c : Nat) : Prop where
  p : plainD d = true
  dep : PyData.depth d ≤ n
  c : nd d ≤ c
theorem small_int (i : Int) (n : Nat) : Small (.int i) n 1 := ⟨by simp [plainD], by simp [PyData.depth], by simp [nd]⟩
theorem small_bool (i : Bool) (n : Nat) : Small (.bool i) n 1 := ⟨by simp [plainD], by simp [PyData.depth], by simp [nd]⟩
theorem small_str {x : Str} (h : Sh (.str x)) (n : Nat) : Small (.str x) n 1 := ⟨by simp only [plainD]; exact h.n.1, by simp [PyData.depth], by simp [nd]⟩
theorem small_tup {l : List D} {n c : Nat} (h : ∀ x ∈ l, Small x n c) : Small (.tuple l) (n + 1) (c * l.length + 1) := by
  refine ⟨by simp only [plainD]; exact plainAll_of fun x hx => (h x hx).p, ?_, ?_⟩
  · have := depthAll_le (xs := l) (n := n) fun x hx => (h x hx).dep
    simp only [PyData.depth]
    omega
  · have := ndAll_le (xs := l) (c := c) fun x hx => (h x hx).c
    simp only [nd]
    omega
theorem Small.up {d : D} {n c n' c' : Nat} (h : Small d n c) (a : n ≤ n') (b : c ≤ c') : Small d n' c' := ⟨h.p, Nat.le_trans h.dep a, Nat.le_trans h.c b⟩
theorem same_go {a : D} {n c : Nat} (h : Small a n c) (hn : n ≤ 60) (hc : c ≤ 100000) {Q : R → Prop} {X : Value → Prop} (q : Q (.s (.bool true))) : c_same [.s a, .s a] Q X :=
  ⟨a, a, rfl, plain_lay _ h.p, h.p, Nat.le_trans h.dep hn, Nat.le_trans h.dep hn, Nat.le_trans h.c hc, by rw [same_refl _ h.p]; exact q⟩
theorem flat_mem {vs : List Int} {cs : List (Int × Int)} : (∀ v ∈ vs, v ∈ flatSt vs cs) ∧ ∀ p ∈ cs, p.1 ∈ flatSt vs cs ∧ p.2 ∈ flatSt vs cs := by
  refine ⟨fun v h => List.mem_append_left _ h, fun p h => ?_⟩
  unfold flatSt flatCs
  exact ⟨List.mem_append_right _ (List.mem_flatMap.mpr ⟨p, h, by simp⟩), List.mem_append_right _ (List.mem_flatMap.mpr ⟨p, h, by simp⟩)⟩
theorem mem_flat {vs : List Int} {cs : List (Int × Int)} {x : Int} (h : x ∈ flatSt vs cs) : x ∈ vs ∨ ∃ p ∈ cs, x = p.1 ∨ x = p.2 := by
  unfold flatSt flatCs at h
  rcases List.mem_append.mp h with h | h
  · exact .inl h
  · obtain ⟨p, hp, h⟩ := List.mem_flatMap.mp h
    simp only [List.mem_cons, List.not_mem_nil, or_false] at h
    exact .inr ⟨p, hp, h⟩
theorem mem_cutD {l : List D} {a b : Option Int} {d : D} (h : d ∈ DL.cutD l a b) : d ∈ l := List.mem_of_mem_drop (List.mem_of_mem_take h)
theorem cutD_len (l : List D) (a b : Option Int) : (DL.cutD l a b).length ≤ l.length := by
  unfold DL.cutD
  rw [List.length_take, List.length_drop]
  omega
theorem small_ints (ns : List Int) (h : ns.length ≤ 4000) : Small (.tuple (ns.map .int)) 1 4001 := by
  refine (small_tup (n := 0) (c := 1) fun x hx => ?_).up (by omega) (by rw [List.length_map]; omega)
  obtain ⟨i, _, rfl⟩ := List.mem_map.mp hx
  exact small_int _ _
theorem stD_inj {vs vs' : List Int} {cs cs' : List (Int × Int)} (h : stD vs cs = stD vs' cs') : vs = vs' ∧ cs = cs' := by
  unfold stD at h
  simp only [PyData.tuple.injEq, List.cons.injEq, and_true] at h
  refine ⟨(List.map_inj_right fun a b h => PyData.int.inj h).mp h.1, (List.map_inj_right fun a b h => ?_).mp h.2⟩
  unfold prD at h
  simp only [PyData.tuple.injEq, List.cons.injEq, PyData.int.injEq, and_true] at h
  exact Prod.ext h.1 h.2

/-! drawn states -/
structure MadeOk (m : Int) (mo : Nat) (vs : List Int) (cs : List (Int × Int)) : Prop where
  len : (vs.length : Int) = m
  v : ∀ x ∈ vs, 0 ≤ x ∧ x ≤ 200
  c : ∀ p ∈ cs, 1 ≤ p.1 ∧ p.1 ≤ 200 ∧ 0 ≤ p.2 ∧ p.2 ≤ 200
  srt : cs.Pairwise fun p q => p.1 < q.1
  few : cs.length ≤ mo
structure MadeIn (i : Nat) (mo : Nat) (u : Int) (nx : List (Int × Int)) (st : List Int) : Prop where
  u1 : 1 ≤ u
  u2 : u ≤ 1 + 15 * i
  k : ∀ p ∈ nx, 1 ≤ p.1 ∧ p.1 < u ∧ 0 ≤ p.2 ∧ p.2 ≤ 200
  nd : (keysI nx).Nodup
  few : nx.length ≤ mo
  sl : st.length = i
  s : ∀ x ∈ st, 0 ≤ x ∧ x ≤ 200
def chain (u : Int) (n : Nat) : List (Int × Int) := (List.range n).map fun (j : Nat) => (u + (j : Int), u + (j : Int) + 1)
theorem chain_succ (u : Int) (n : Nat) : chain u (n + 1) = chain u n ++ [(u + (n : Int), u + (n : Int) + 1)] := range_succ_map n _
theorem iPut_new {l : List (Int × Int)} {k v : Int} (h : ∀ p ∈ l, p.1 ≠ k) : iPut l k v = l ++ [(k, v)] := by
  unfold iPut
  rw [if_neg]
  intro z
  obtain ⟨p, hp, e⟩ := List.any_eq_true.mp z
  exact h p hp (by simpa using e)
theorem iPut_mem {l : List (Int × Int)} {k v : Int} {p : Int × Int} (h : p ∈ iPut l k v) : p = (k, v) ∨ p ∈ l := by
  unfold iPut at h
  split at h
  · obtain ⟨q, hq, e⟩ := List.mem_map.mp h
    by_cases z : q.1 = k
    · rw [if_pos z] at e; left; rw [← e, z]
    · rw [if_neg z] at e; right; rw [← e]; exact hq
  · rcases List.mem_append.mp h with h | h
    · exact .inr h
    · exact .inl (List.mem_singleton.mp h)
theorem iPut_old {l : List (Int × Int)} {k v : Int} (h : ∃ p ∈ l, p.1 = k) : (iPut l k v).length = l.length := by
  unfold iPut
  rw [if_pos (by obtain ⟨p, hp, e⟩ := h; exact List.any_eq_true.mpr ⟨p, hp, by simpa using e⟩), List.length_map]
theorem chain_mem {u : Int} {n : Nat} {p : Int × Int} (h : p ∈ chain u n) : u ≤ p.1 ∧ p.1 < u + n ∧ p.2 = p.1 + 1 := by
  obtain ⟨j, hj, rfl⟩ := List.mem_map.mp h
  rw [List.mem_range] at hj
  exact ⟨by show u ≤ u + (j : Int); omega, by show u + (j : Int) < u + n; omega, rfl⟩
theorem app_nd {nx : List (Int × Int)} {u : Int} (nd : (keysI nx).Nodup) (hk : ∀ p ∈ nx, p.1 < u) (n : Nat) : (keysI (nx ++ chain u n)).Nodup := by
  unfold keysI
  rw [List.map_append, List.nodup_append]
  refine ⟨nd, ?_, fun a ha b hb e => ?_⟩
  · unfold chain
    rw [List.map_map, List.Nodup, List.pairwise_map]
    exact List.Pairwise.imp (fun h z => h (by have : u + _ = u + _ := z; omega)) List.nodup_range
  · obtain ⟨p, hp, rfl⟩ := List.mem_map.mp ha
    obtain ⟨q, hq, rfl⟩ := List.mem_map.mp hb
    have := hk p hp
    have := chain_mem hq
    omega
theorem erase_map : ∀ (l : List Int) (j : Nat), (l.map PyData.int).eraseIdx j = (l.eraseIdx j).map PyData.int
  | [], _ => rfl
  | _ :: _, 0 => rfl
  | a :: l, j + 1 => congrArg (PyData.int a :: ·) (erase_map l j)
def c_law_made (mo : Nat) : Ct := fun rs Q _ => ∃ (m ex : Int), rs = [.g, .s (.int m), .s (.int ex), .s (.int (mo : Int))] ∧ mo ≤ 12 ∧ 0 ≤ m ∧ m ≤ 4 ∧ 0 ≤ ex ∧ ex ≤ 2 ∧ ∀ vs cs, MadeOk m mo vs cs → Q (.s (stD vs cs))
theorem d_law_made {K : Frag} {cl : Ad} (mo : Nat) : ∀ rs Q E, c_law_made mo rs Q E → w_law_made K cl c_pick (rho N_law_made.length rs) { nx := fun _ => Q (.s .none), rt := Q, er := fun cls _ => E cls } := by
  rintro rs Q E ⟨m, ex, rfl, mo1, m0, m4, ex0, ex2, q⟩
  unfold w_law_made
  walk_at "dy"
  unfold w_law_made_t13
  walk_at "dy"
  refine ⟨by omega, by omega, ?_⟩
  have hi6 : ∀ i : Nat, i < (m + ex).toNat → i ≤ 5 := fun i h => by omega
  refine for_go (fun i (ρ : Rho) => ∃ (u : Int) (nx : List (Int × Int)) (st : List Int) (v7 v8 v9 v10 v11 : Option R), MadeIn i mo u nx st ∧ ρ = [some .g, some (.s (.int m)), some (.s (.int ex)), some (.s (.int mo)), some (.k true (iK nx)), some (.s (.int u)), some (.l true (st.map PyData.int)), v7, v8, v9, v10, v11, none]) ?_ ?_ ?_
  · exact ⟨1, [], [], _, _, _, _, _, ⟨by decide, by decide, fun p h => (nomatch h), by simp [keysI], by simp, rfl, fun x h => (nomatch h)⟩, rfl⟩
  · rintro i d ρ hd ⟨u, nx, st, v7, v8, v9, v10, v11, M, rfl⟩
    obtain ⟨rfl, hi⟩ := range0_at hd
    have hi5 := hi6 i hi
    have u1 := M.u1
    have u2 := M.u2
    have fw := M.few
    have sl := M.sl
    walk_at "dy"
    unfold w_law_made_b10
    walk_at "dy"
    refine ⟨by decide, by decide, fun kd kd0 kd1 => ?_⟩
    unfold w_law_made_t9
    walk_at "dy"
    refine ⟨by decide, by decide, fun r8 r0 r1 => ?_⟩
    -- the size
    have size : ∀ z : Int, 1 ≤ z → z ≤ 14 → w_law_made_t8 K cl c_pick [some .g, some (.s (.int m)), some (.s (.int ex)), some (.s (.int mo)), some (.k true (iK nx)), some (.s (.int u)), some (.l true (st.map PyData.int)), some (.s (.int (i : Int))), some (.s (.int kd)), some (.s (.int z)), v10, v11, none]
        { nx := fun ρ => ∃ (u : Int) (nx : List (Int × Int)) (st : List Int) (v7 v8 v9 v10 v11 : Option R), MadeIn (i + 1) mo u nx st ∧ ρ = [some .g, some (.s (.int m)), some (.s (.int ex)), some (.s (.int mo)), some (.k true (iK nx)), some (.s (.int u)), some (.l true (st.map PyData.int)), v7, v8, v9, v10, v11, none], rt := Q, bk := fun ρ' => w_law_made_t12 K cl c_pick ρ' { nx := fun _ => Q (.s .none), rt := Q, er := fun cls _ => E cls }, ct := fun ρ => ∃ (u : Int) (nx : List (Int × Int)) (st : List Int) (v7 v8 v9 v10 v11 : Option R), MadeIn (i + 1) mo u nx st ∧ ρ = [some .g, some (.s (.int m)), some (.s (.int ex)), some (.s (.int mo)), some (.k true (iK nx)), some (.s (.int u)), some (.l true (st.map PyData.int)), v7, v8, v9, v10, v11, none], er := fun cls _ => E cls } := fun z z0 z1 => by
      unfold w_law_made_t8
      walk_at "dy"
      obtain ⟨zz, ez⟩ : ∃ zz : Int, zz = if (mo : Int) - ((iK nx).length : Int) < z then (mo : Int) - ((iK nx).length : Int) else z := ⟨_, rfl⟩
      rw [← ez]
      rw [iK_len] at ez
      have zle : zz ≤ 14 ∧ (1 ≤ zz → nx.length + zz.toNat ≤ mo) := by
        split at ez <;> omega
      unfold w_law_made_t7
      walk_at "dy"
      have sm : (st.map PyData.int).length < 16777216 := by rw [List.length_map]; omega
      have grow : ∀ s : Int, 0 ≤ s → s ≤ 200 → ∀ (u' : Int), u ≤ u' → u' ≤ u + 15 → MadeIn (i + 1) mo u' nx (st ++ [s]) := fun s s0 s1 u' a b => ⟨by omega, by omega, fun p hp => by have := M.k p hp; omega, M.nd, fw, by simp [sl], fun x hx => by
        rcases List.mem_append.mp hx with hx | hx
        · exact M.s x hx
        · rw [List.mem_singleton.mp hx]; exact ⟨s0, s1⟩⟩
      refine ite_both (fun _ => ⟨by omega, by omega, fun r r0 r1 => ⟨sm, u, nx, st ++ [r], _, _, _, _, _, grow r r0 (by omega) u (by omega) (by omega), rfl, rfl, by simp, rfl, rfl, rfl, rfl, rfl⟩⟩) fun _ => ?_
      have one : (st.map PyData.int).length < 16777216 ∧ w_law_made_t1 K cl c_pick [some .g, some (.s (.int m)), some (.s (.int ex)), some (.s (.int mo)), some (.k true (iK nx)), some (.s (.int u)), some (.l true (st.map PyData.int ++ [.int u])), some (.s (.int (i : Int))), some (.s (.int kd)), some (.s (.int zz)), v10, v11, none]
          { nx := fun ρ => ∃ (u : Int) (nx : List (Int × Int)) (st : List Int) (v7 v8 v9 v10 v11 : Option R), MadeIn (i + 1) mo u nx st ∧ ρ = [some .g, some (.s (.int m)), some (.s (.int ex)), some (.s (.int mo)), some (.k true (iK nx)), some (.s (.int u)), some (.l true (st.map PyData.int)), v7, v8, v9, v10, v11, none], rt := Q, bk := fun ρ' => w_law_made_t12 K cl c_pick ρ' { nx := fun _ => Q (.s .none), rt := Q, er := fun cls _ => E cls }, ct := fun ρ => ∃ (u : Int) (nx : List (Int × Int)) (st : List Int) (v7 v8 v9 v10 v11 : Option R), MadeIn (i + 1) mo u nx st ∧ ρ = [some .g, some (.s (.int m)), some (.s (.int ex)), some (.s (.int mo)), some (.k true (iK nx)), some (.s (.int u)), some (.l true (st.map PyData.int)), v7, v8, v9, v10, v11, none], er := fun cls _ => E cls } := by
        refine ⟨sm, ?_⟩
        unfold w_law_made_t1
        walk_at "dy"
        exact ⟨u + 1, nx, st ++ [u], _, _, _, _, _, grow u (by omega) (by omega) (u + 1) (by omega) (by omega), rfl, rfl, by simp, rfl, rfl, rfl, rfl, rfl⟩
      refine ite_both (fun _ => one) fun _ => ite_both (fun _ => one) fun hz => ?_
      have z1' : 1 ≤ zz := by
        have := of_decide_eq_false hz
        omega
      refine ⟨by omega, by omega, fun en en0 en1 => ?_⟩
      unfold w_law_made_t6
      walk_at "dy"
      refine ⟨by omega, by omega, ?_⟩
      refine for_go (fun j (ρ : Rho) => ∃ (v11 : Option R), ρ = [some .g, some (.s (.int m)), some (.s (.int ex)), some (.s (.int mo)), some (.k true (iK (nx ++ chain u j))), some (.s (.int u)), some (.l true (st.map PyData.int)), some (.s (.int (i : Int))), some (.s (.int kd)), some (.s (.int zz)), some (.s (.int en)), v11, none]) ⟨v11, by simp [chain]⟩ ?_ ?_
      · rintro j d ρ hd ⟨v11, rfl⟩
        obtain ⟨rfl, hj⟩ := range0_at hd
        walk_at "dy"
        unfold w_law_made_b2
        walk_at "dy"
        refine ⟨rfl, ?_⟩
        have cl' : (nx ++ chain u j).length ≤ 100 := by rw [List.length_append]; simp [chain]; omega
        refine ⟨by rw [iK_len]; omega, ?_⟩
        rw [iPut_k, iPut_new (fun p hp => ?_)]
        · exact ⟨_, by rw [chain_succ, List.append_assoc], rfl⟩
        · rcases List.mem_append.mp hp with hp | hp
          · have := M.k p hp; omega
          · have := chain_mem hp; omega
      · rintro ρ ⟨v11, rfl⟩
        rw [range_len]
        unfold w_law_made_t5
        walk_at "dy"
        refine ⟨rfl, ?_⟩
        have cl' : (nx ++ chain u zz.toNat).length = nx.length + zz.toNat := by rw [List.length_append]; simp [chain]
        have fin : ∀ x : Int, 0 ≤ x → x ≤ 200 → (iK (nx ++ chain u zz.toNat)).length < 16777216 ∧ w_law_made_t4 K cl c_pick [some .g, some (.s (.int m)), some (.s (.int ex)), some (.s (.int mo)), some (.k true (kPut (iK (nx ++ chain u zz.toNat)) (.inl (u + zz - 1)) (.int x))), some (.s (.int u)), some (.l true (st.map PyData.int)), some (.s (.int (i : Int))), some (.s (.int kd)), some (.s (.int zz)), some (.s (.int en)), v11, none]
            { nx := fun ρ => ∃ (u : Int) (nx : List (Int × Int)) (st : List Int) (v7 v8 v9 v10 v11 : Option R), MadeIn (i + 1) mo u nx st ∧ ρ = [some .g, some (.s (.int m)), some (.s (.int ex)), some (.s (.int mo)), some (.k true (iK nx)), some (.s (.int u)), some (.l true (st.map PyData.int)), v7, v8, v9, v10, v11, none], rt := Q, bk := fun ρ' => w_law_made_t12 K cl c_pick ρ' { nx := fun _ => Q (.s .none), rt := Q, er := fun cls _ => E cls }, ct := fun ρ => ∃ (u : Int) (nx : List (Int × Int)) (st : List Int) (v7 v8 v9 v10 v11 : Option R), MadeIn (i + 1) mo u nx st ∧ ρ = [some .g, some (.s (.int m)), some (.s (.int ex)), some (.s (.int mo)), some (.k true (iK nx)), some (.s (.int u)), some (.l true (st.map PyData.int)), v7, v8, v9, v10, v11, none], er := fun cls _ => E cls } := fun x x0 x1 => by
          refine ⟨by rw [iK_len]; omega, ?_⟩
          rw [iPut_k]
          obtain ⟨nx2, en2⟩ : ∃ nx2, nx2 = iPut (nx ++ chain u zz.toNat) (u + zz - 1) x := ⟨_, rfl⟩
          rw [← en2]
          unfold w_law_made_t4
          walk_at "dy"
          refine ⟨sm, ?_⟩
          unfold w_law_made_t3
          walk_at "dy"
          have key : ∃ p ∈ nx ++ chain u zz.toNat, p.1 = u + zz - 1 := ⟨(u + ((zz.toNat - 1 : Nat) : Int), u + ((zz.toNat - 1 : Nat) : Int) + 1), List.mem_append_right _ (List.mem_map.mpr ⟨zz.toNat - 1, List.mem_range.mpr (by omega), rfl⟩), by show u + ((zz.toNat - 1 : Nat) : Int) = _; omega⟩
          have nd0 := app_nd M.nd (fun p hp => (M.k p hp).2.1) zz.toNat
          have step : ∀ u' : Int, u + zz ≤ u' → u' ≤ u + 15 → MadeIn (i + 1) mo u' nx2 (st ++ [u]) := fun u' a b => ⟨by omega, by omega, fun p hp => by
            rw [en2] at hp
            rcases iPut_mem hp with rfl | hp
            · exact ⟨by show 1 ≤ u + zz - 1; omega, by show u + zz - 1 < u'; omega, x0, x1⟩
            · rcases List.mem_append.mp hp with hp | hp
              · have := M.k p hp; omega
              · have := chain_mem hp; omega, by rw [en2]; exact iPut_keys _ _ nd0, by rw [en2, iPut_old key, cl']; omega, by simp [sl], fun y hy => by
            rcases List.mem_append.mp hy with hy | hy
            · exact M.s y hy
            · rw [List.mem_singleton.mp hy]; omega⟩
          refine ite_both (fun _ => ?_) fun _ => ?_
          · exact ⟨u + zz + 1, nx2, st ++ [u], _, _, _, _, _, step _ (by omega) (by omega), rfl, rfl, by simp, rfl, rfl, rfl, rfl, rfl⟩
          · exact ⟨u + zz + 0, nx2, st ++ [u], _, _, _, _, _, step _ (by omega) (by omega), rfl, rfl, by simp, rfl, rfl, rfl, rfl, rfl⟩
        exact ite_both (fun _ => fin 0 (by omega) (by omega)) fun _ => fin en en0 (by omega)
    refine ite_both (fun _ => ⟨by decide, by decide, fun r r0 r1 => size _ (by omega) (by omega)⟩) fun _ => ⟨by decide, by decide, fun r r0 r1 => size _ (by omega) (by omega)⟩
  · rintro ρ ⟨u, nx, st, v7, v8, v9, v10, v11, M, rfl⟩
    rw [range_len] at M
    unfold w_law_made_t12
    walk_at "dy"
    refine ⟨by omega, by omega, ?_⟩
    have sl := M.sl
    refine ⟨fun j (rest acc : List D) => ∃ rs as : List Int, rest = rs.map PyData.int ∧ acc = as.map PyData.int ∧ (rs.length : Int) = m + ex - j ∧ (as.length : Int) = j ∧ (∀ x ∈ rs, 0 ≤ x ∧ x ≤ 200) ∧ ∀ x ∈ as, 0 ≤ x ∧ x ≤ 200, ⟨st, [], rfl, rfl, by omega, rfl, M.s, fun x h => (nomatch h)⟩, ?_, ?_⟩
    · rintro j rest acc d hd ⟨rs, as, rfl, rfl, l1, l2, h1, h2⟩
      obtain ⟨rfl, hj⟩ := range0_at hd
      refine ⟨by simp, ?_⟩
      simp only [putA, wipeR, List.set_cons_succ, List.set_cons_zero]
      walk_at "dy"
      rw [List.length_map]
      refine ⟨by omega, by omega, fun r r0 r1 => ⟨r, .int (rs[r.toNat]'(by omega)), rfl, r0, by omega, ?_, by rw [List.length_map]; omega, rs.eraseIdx r.toNat, as ++ [rs[r.toNat]'(by omega)], ?_, ?_, ?_, ?_, ?_, ?_⟩⟩
      · rw [List.getElem?_map, List.getElem?_eq_getElem (by omega)]; rfl
      · exact erase_map _ _
      · simp
      · rw [List.length_eraseIdx_of_lt (by omega)]; omega
      · simp; omega
      · exact fun x hx => h1 x (List.mem_of_mem_eraseIdx hx)
      · intro x hx
        rcases List.mem_append.mp hx with hx | hx
        · exact h2 x hx
        · rw [List.mem_singleton.mp hx]; exact h1 _ (List.getElem_mem _)
    · rintro rest acc ⟨rs, as, rfl, rfl, l1, l2, h1, h2⟩
      rw [range_len] at l2
      refine ⟨by simp, ?_⟩
      simp only [List.set_cons_succ, List.set_cons_zero]
      unfold w_law_made_t11
      walk_at "dy"
      rw [pairs_iK, sortD_pr]
      refine ⟨by simp [iK, flatD], srt_pr _ (by have := M.few; omega), ?_⟩
      refine q as (sortP nx) ⟨by omega, h2, fun p hp => ?_, sortP_srt M.nd, by rw [(sortP_perm nx).length_eq]; exact M.few⟩
      have := M.k p ((sortP_perm nx).mem_iff.mp hp)
      have := M.u2
      omega

def gAt (nm : List (Int × Int)) (x : Int) : Int := (iGet nm x).getD 0
def c_law_by : Ct := fun rs Q _ => ∃ (vs : List Int) (cs nm : List (Int × Int)) (a : R), rs = [.s (stD vs cs), a] ∧ peek a = a ∧ a.kv = some (iK nm) ∧ (∀ x ∈ flatSt vs cs, (iGet nm x).isSome = true) ∧ vs.length ≤ 1000 ∧ cs.length ≤ 1000 ∧
  Q (.s (stD (vs.map (gAt nm)) (sortP (cs.map fun p => (gAt nm p.1, gAt nm p.2)))))
theorem gAt_some {nm : List (Int × Int)} {x : Int} (h : (iGet nm x).isSome = true) : iGet nm x = some (gAt nm x) := by
  unfold gAt
  cases e : iGet nm x with
  | none => rw [e] at h; cases h
  | some v => rfl
theorem fIx_kv {a : R} {nm : List (Int × Int)} {x : Int} {Q : R → Prop} (ha : a.kv = some (iK nm)) (h : (iGet nm x).isSome = true) (q : Q (.s (.int (gAt nm x)))) : fIx a (.s (.int x)) Q := by
  refine .inr ⟨iK nm, .int x, .inl x, .int (gAt nm x), ha, rfl, rfl, ?_, q⟩
  rw [iGet_k, gAt_some h]
  rfl
theorem d_law_by {K : Frag} {cl : Ad} : ∀ rs Q E, c_law_by rs Q E → w_law_by K cl (rho N_law_by.length rs) { nx := fun _ => Q (.s .none), rt := Q, er := fun cls _ => E cls } := by
  rintro rs Q E ⟨vs, cs, nm, a, rfl, pa, ha, hx, l1, l2, q⟩
  have es : stD vs cs = .tuple [.tuple (vs.map .int), .tuple (cs.map prD)] := rfl
  unfold w_law_by
  rw [es]
  walk_at "dy"
  rw [← es]
  refine lc_go (fun k => ((cs.take k).map fun p => (gAt nm p.1, gAt nm p.2)).map prD) rfl (fun k d hd => ?_) ?_
  · obtain ⟨p, hp, rfl⟩ := pr_at hd
    have hm : p ∈ cs := List.mem_of_getElem? hp
    have ep : prD p = .tuple [.int p.1, .int p.2] := rfl
    rw [ep, gwNt]
    refine ⟨rfl, by simp, ?_⟩
    simp only [putA, wipeR, List.set_cons_succ, List.set_cons_zero]
    walk_at "dy"
    unfold peekQ
    rw [pa]
    refine fIx_kv ha (hx _ ((flat_mem (vs := vs)).2 p hm).1) ?_
    walk_at "dy"
    try unfold peekQ
    try rw [pa]
    refine fIx_kv ha (hx _ ((flat_mem (vs := vs)).2 p hm).2) ?_
    walk_at "dy"
    refine ⟨by rw [List.length_map, List.length_map, take_len_lt hp]; have := get_lt hp; omega, ?_⟩
    rw [take_succ_map (fun p : Int × Int => (gAt nm p.1, gAt nm p.2)) hp, List.map_append]
    rfl
  rw [List.length_map, List.take_length]
  walk_at "dy"
  rw [sortD_pr]
  refine ⟨srt_pr _ (by rw [List.length_map]; omega), ?_⟩
  rw [es]
  walk_at "dy"
  refine lc_go (fun k => ((vs.take k).map (gAt nm)).map PyData.int) rfl (fun k d hd => ?_) ?_
  · obtain ⟨n, hn, rfl⟩ := int_at hd
    rw [gwN1]
    refine ⟨by simp, ?_⟩
    simp only [putA, wipeR, List.set_cons_succ, List.set_cons_zero]
    walk_at "dy"
    unfold peekQ
    rw [pa]
    refine fIx_kv ha (hx _ (flat_mem.1 n (List.mem_of_getElem? hn))) ?_
    walk_at "dy"
    refine ⟨by rw [List.length_map, List.length_map, take_len_lt hn]; have := get_lt hn; omega, ?_⟩
    rw [take_succ_map (gAt nm) hn, List.map_append]
    rfl
  rw [List.length_map, List.take_length]
  walk_at "dy"
  exact q
/-- what stands behind the scattering -/
structure ScOk (m : Int) (mo : Nat) (vs : List Int) (cs : List (Int × Int)) : Prop where
  len : (vs.length : Int) = m
  ov : OkVs vs
  oc : OkCs cs
  few : cs.length ≤ mo
structure NmOk (own rows : List Int) : Prop where
  l : own.length = rows.length
  nd : own.Nodup
  pos : ∀ x ∈ own, 1 ≤ x
  rn : rows.Nodup
  rp : ∀ x ∈ rows, 1 ≤ x ∧ x ≤ 1000000
def nmL (own rows : List Int) : List (Int × Int) := (0, 0) :: own.zip rows
theorem nm_keys {own rows : List Int} (h : own.length ≤ rows.length) : keysI (own.zip rows) = own := by
  unfold keysI
  rw [List.map_fst_zip h]
theorem NmOk.keys {own rows : List Int} (h : NmOk own rows) : (keysI (nmL own rows)).Nodup := by
  show (0 :: keysI (own.zip rows)).Nodup
  rw [nm_keys (Nat.le_of_eq h.l), List.nodup_cons]
  exact ⟨fun z => by have := h.pos 0 z; omega, h.nd⟩
theorem NmOk.zero {own rows : List Int} (h : NmOk own rows) : iGet (nmL own rows) 0 = some 0 := (iGet_mem h.keys).mpr List.mem_cons_self
theorem NmOk.get {own rows : List Int} (h : NmOk own rows) {x : Int} (hx : x ∈ own) : ∃ (i : Nat) (y : Int), own[i]? = some x ∧ rows[i]? = some y ∧ iGet (nmL own rows) x = some y := by
  obtain ⟨i, hi, e⟩ := List.getElem_of_mem hx
  have hr : i < rows.length := by rw [← h.l]; exact hi
  refine ⟨i, rows[i], by rw [List.getElem?_eq_getElem hi, e], List.getElem?_eq_getElem hr, (iGet_mem h.keys).mpr (List.mem_cons_of_mem _ ?_)⟩
  rw [← e]
  have : (own.zip rows)[i]'(by rw [List.length_zip, ← h.l]; omega) = (own[i], rows[i]) := List.getElem_zip
  rw [← this]
  exact List.getElem_mem _
theorem NmOk.inj {own rows : List Int} (h : NmOk own rows) {x y : Int} (hx : x ∈ own) (hy : y ∈ own) (e : gAt (nmL own rows) x = gAt (nmL own rows) y) : x = y := by
  obtain ⟨i, u, a1, a2, a3⟩ := h.get hx
  obtain ⟨j, v, b1, b2, b3⟩ := h.get hy
  unfold gAt at e
  rw [a3, b3] at e
  have e : u = v := e
  subst e
  have hi := get_lt a2
  have hj := get_lt b2
  rw [List.getElem?_eq_getElem hi] at a2
  rw [List.getElem?_eq_getElem hj] at b2
  have : rows[i] = rows[j] := (Option.some.inj a2).trans (Option.some.inj b2).symm
  have : i = j := (List.getElem_inj h.rn).mp this
  subst this
  rw [a1] at b1
  exact Option.some.inj b1
theorem NmOk.rng {own rows : List Int} (h : NmOk own rows) {x : Int} (hx : x ∈ own) : 1 ≤ gAt (nmL own rows) x ∧ gAt (nmL own rows) x ≤ 1000000 := by
  obtain ⟨i, u, a1, a2, a3⟩ := h.get hx
  unfold gAt
  rw [a3]
  exact h.rp u (List.mem_of_getElem? a2)
theorem sc_ok {m : Int} {mo : Nat} {vs : List Int} {cs : List (Int × Int)} {own rows : List Int} (M : MadeOk m mo vs cs) (m4 : m ≤ 4) (mo1 : mo ≤ 12) (hs : SortedOf (pos (flatSt vs cs)) own) (N : NmOk own rows) :
    (∀ x ∈ flatSt vs cs, (iGet (nmL own rows) x).isSome = true) ∧ ScOk m mo (vs.map (gAt (nmL own rows))) (sortP (cs.map fun p => (gAt (nmL own rows) p.1, gAt (nmL own rows) p.2))) := by
  have nn : ∀ x ∈ flatSt vs cs, 0 ≤ x := fun x hx => by
    rcases mem_flat hx with h | ⟨p, hp, h⟩
    · exact (M.v x h).1
    · have := M.c p hp; omega
  have own_of : ∀ x ∈ flatSt vs cs, 0 < x → x ∈ own := fun x hx h => (hs.2.1 x).mpr (List.mem_filter.mpr ⟨hx, decide_eq_true h⟩)
  have z0 : gAt (nmL own rows) 0 = 0 := by unfold gAt; rw [N.zero]; rfl
  have rg : ∀ x ∈ flatSt vs cs, 0 ≤ gAt (nmL own rows) x ∧ gAt (nmL own rows) x ≤ 1000000 := fun x hx => by
    rcases Int.lt_or_eq_of_le (nn x hx) with h | h
    · have := N.rng (own_of x hx h); omega
    · rw [← h, z0]; omega
  refine ⟨fun x hx => ?_, by rw [List.length_map]; exact M.len, ⟨by rw [List.length_map]; have := M.len; omega, fun v hv => ?_⟩, ⟨?_, fun p hp => ?_, sortP_srt ?_⟩, ?_⟩
  · rcases Int.lt_or_eq_of_le (nn x hx) with h | h
    · obtain ⟨_, _, _, _, e⟩ := N.get (own_of x hx h)
      rw [e]; rfl
    · rw [← h, N.zero]; rfl
  · obtain ⟨x, hx, rfl⟩ := List.mem_map.mp hv
    exact rg x (flat_mem.1 x hx)
  · rw [(sortP_perm _).length_eq, List.length_map]; have := M.few; omega
  · obtain ⟨q, hq, rfl⟩ := List.mem_map.mp ((sortP_perm _).mem_iff.mp hp)
    have h1 := M.c q hq
    have f := (flat_mem (vs := vs)).2 q hq
    have r1 := N.rng (own_of q.1 f.1 (by omega))
    have r2 := rg q.2 f.2
    exact ⟨r1.1, r1.2, r2.1, r2.2⟩
  · unfold keysI
    rw [List.map_map, List.Nodup, List.pairwise_map]
    refine (M.srt.and (List.Pairwise.and_mem.mp M.srt)).imp fun {p q} ⟨lt, hp, hq, _⟩ e => ?_
    have f1 := ((flat_mem (vs := vs)).2 p hp).1
    have f2 := ((flat_mem (vs := vs)).2 q hq).1
    have := N.inj (own_of p.1 f1 (by have := M.c p hp; omega)) (own_of q.1 f2 (by have := M.c q hq; omega)) e
    omega
  · rw [(sortP_perm _).length_eq, List.length_map]; exact M.few

theorem nodup_len : ∀ (l D : List Int), l.Nodup → (∀ x ∈ l, x ∈ D) → l.length ≤ D.length
  | [], _, _, _ => Nat.zero_le _
  | a :: l, D, h, hs => by
    obtain ⟨h1, h2⟩ := List.nodup_cons.mp h
    have ih := nodup_len l (D.erase a) h2 fun y hy => (List.mem_erase_of_ne fun (e : y = a) => h1 (e ▸ hy)).mpr (hs y (List.mem_cons_of_mem _ hy))
    have := List.length_erase_of_mem (hs a List.mem_cons_self)
    have : 0 < D.length := List.length_pos_of_mem (hs a List.mem_cons_self)
    rw [List.length_cons]
    omega
theorem ins_perm {l : List Int} (n : Nat) (x : Int) : (l.take n ++ [x] ++ l.drop n).Perm (x :: l) := by
  have h1 : (l.take n ++ [x] ++ l.drop n).Perm ([x] ++ l.take n ++ l.drop n) := List.Perm.append_right _ List.perm_append_comm
  have e : [x] ++ l.take n ++ l.drop n = x :: l := by simp
  rw [e] at h1
  exact h1
theorem ins_map (l : List Int) (n : Nat) (x : Int) : (l.map PyData.int).take n ++ [PyData.int x] ++ (l.map PyData.int).drop n = (l.take n ++ [x] ++ l.drop n).map PyData.int := by simp
structure RowsIn (k : Nat) (last : Int) (rows : List Int) : Prop where
  l : rows.length = k
  nd : rows.Nodup
  r : ∀ x ∈ rows, 1 ≤ x ∧ x ≤ last
  a : 0 ≤ last
  b : last ≤ 18001 * k
def c_law_scattered : Ct := fun rs Q _ => ∃ (m : Int) (mo : Nat) (vs : List Int) (cs : List (Int × Int)), rs = [.g, .s (stD vs cs)] ∧ MadeOk m mo vs cs ∧ m ≤ 4 ∧ mo ≤ 12 ∧ ∀ vs' cs', ScOk m mo vs' cs' → Q (.s (stD vs' cs'))
theorem d_law_scattered {K : Frag} {cl : Ad} : ∀ rs Q E, c_law_scattered rs Q E → w_law_scattered K cl c_pick (c_places false) c_law_by (rho N_law_scattered.length rs) { nx := fun _ => Q (.s .none), rt := Q, er := fun cls _ => E cls } := by
  rintro rs Q E ⟨m, mo, vs, cs, rfl, M, m4, mo1, q⟩
  unfold w_law_scattered
  walk_at "dy"
  refine ⟨by decide, by decide, fun r r0 r1 => ?_⟩
  obtain ⟨wide, ew, w0, w1⟩ : ∃ w : Int, atI [PyData.int 1, .int 1, .int 40, .int 9000] r = some (.int w) ∧ 0 ≤ w ∧ w ≤ 9000 := by
    have : r = 0 ∨ r = 1 ∨ r = 2 ∨ r = 3 := by omega
    rcases this with rfl | rfl | rfl | rfl
    · exact ⟨1, rfl, by decide, by decide⟩
    · exact ⟨1, rfl, by decide, by decide⟩
    · exact ⟨40, rfl, by decide, by decide⟩
    · exact ⟨9000, rfl, by decide, by decide⟩
  refine ⟨_, ew, ?_⟩
  have ml := M.len
  have mf := M.few
  refine ⟨vs, cs, rfl, by omega, by omega, fun own hs => ?_⟩
  have nd : own.Nodup := hs.1.imp fun h => Int.ne_of_lt h
  have o28 : own.length ≤ 28 := by
    have := nodup_len own (flatSt vs cs) nd fun x hx => (List.mem_filter.mp ((hs.2.1 x).mp hx)).1
    unfold flatSt at this
    rw [List.length_append, flatCs_len] at this
    omega
  have opos : ∀ x ∈ own, 1 ≤ x := fun x hx => by
    have := (List.mem_filter.mp ((hs.2.1 x).mp hx)).2
    have := of_decide_eq_true this
    omega
  walk_at "dy"
  rw [List.length_map]
  refine ⟨by omega, by omega, ?_⟩
  refine for_go (fun k (ρ : Rho) => ∃ (last : Int) (rows : List Int) (x7 : Option R), RowsIn k last rows ∧ ρ = [some .g, some (.s (stD vs cs)), some (.k true (iK [(0, 0)])), some (.s (.int last)), some (.s (.int wide)), some (.l true (own.map PyData.int)), some (.l true (rows.map PyData.int)), x7]) ?_ ?_ ?_
  · exact ⟨0, [], _, ⟨rfl, List.nodup_nil, fun x h => (nomatch h), by decide, by decide⟩, rfl⟩
  · rintro k d ρ hd ⟨last, rows, x7, I, rfl⟩
    obtain ⟨rfl, hk⟩ := range0_at hd
    have il := I.l
    have ia := I.a
    have ib := I.b
    walk_at "dy"
    unfold w_law_scattered_b1
    walk_at "dy"
    refine ⟨by decide, by decide, fun s s0 s1 => ⟨.inr ⟨by omega, by omega⟩, by omega, by omega, fun n n0 n1 => ⟨n0, by omega, by rw [List.length_map]; omega, ?_⟩⟩⟩
    have ws0 : 0 ≤ wide * s := Int.mul_nonneg w0 s0
    have ws1 : wide * s ≤ 9000 * 2 := Int.mul_le_mul w1 (by omega) s0 (by decide)
    rw [ins_map]
    refine ⟨last + 1 + wide * s, rows.take n.toNat ++ [last + 1 + wide * s] ++ rows.drop n.toNat, _, ⟨?_, ?_, fun x hx => ?_, by omega, by push_cast; omega⟩, rfl, rfl, rfl⟩
    · rw [(ins_perm n.toNat _).length_eq, List.length_cons]; omega
    · refine (ins_perm n.toNat _).symm.nodup (List.nodup_cons.mpr ⟨fun z => ?_, I.nd⟩)
      have := I.r _ z
      omega
    · rcases List.mem_cons.mp ((ins_perm n.toNat _).mem_iff.mp hx) with rfl | hx
      · omega
      · have := I.r x hx; omega
  · rintro ρ ⟨last, rows, x7, I, rfl⟩
    rw [range_len] at I
    have il := I.l
    have N : NmOk own rows := ⟨by omega, nd, opos, I.nd, fun x hx => by have := I.r x hx; have := I.b; omega⟩
    obtain ⟨ok1, ok2⟩ := sc_ok M m4 mo1 hs N
    walk_at "dy"
    rw [List.length_map]
    refine ⟨by omega, by omega, ?_⟩
    refine for_go (fun k (ρ : Rho) => ∃ (x7 : Option R), ρ = [some .g, some (.s (stD vs cs)), some (.k true (iK ((0, 0) :: (own.zip rows).take k))), some (.s (.int last)), some (.s (.int wide)), some (.l true (own.map PyData.int)), some (.l true (rows.map PyData.int)), x7]) ⟨_, rfl⟩ ?_ ?_
    · rintro k d ρ hd ⟨x7, rfl⟩
      obtain ⟨rfl, hk⟩ := range0_at hd
      have ho : k < own.length := by omega
      have hr : k < rows.length := by omega
      walk_at "dy"
      unfold w_law_scattered_b2
      walk_at "dy"
      refine ⟨rfl, .int rows[k], atI_of (j := k) rfl (by rw [List.getElem?_map, List.getElem?_eq_getElem hr]; rfl), .int own[k], atI_of (j := k) rfl (by rw [List.getElem?_map, List.getElem?_eq_getElem ho]; rfl), ?_⟩
      walk_at "dy"
      have zl : ((own.zip rows).take k).length ≤ 28 := by rw [List.length_take, List.length_zip]; omega
      refine ⟨by rw [iK_len, List.length_cons]; omega, ?_⟩
      have tz : (own.zip rows).take (k + 1) = (own.zip rows).take k ++ [(own[k], rows[k])] := by
        rw [List.take_succ, List.getElem?_eq_getElem (by rw [List.length_zip]; omega), List.getElem_zip]
        rfl
      rw [iPut_k, iPut_new (fun p hp e => ?_), tz]
      · exact ⟨_, rfl, rfl⟩
      · have kn := N.keys
        have : (keysI ((0, 0) :: ((own.zip rows).take (k + 1)))).Nodup := List.Sublist.nodup (List.Sublist.map _ ((List.take_sublist _ _).cons₂ _)) kn
        rw [tz] at this
        unfold keysI at this
        rw [← List.cons_append, List.map_append, List.nodup_append] at this
        exact this.2.2 p.1 (List.mem_map.mpr ⟨p, hp, rfl⟩) own[k] (by simp) e
    · rintro ρ ⟨x7, rfl⟩
      have ez : (own.zip rows).take (rangeD 0 ((own.length : Int)).toNat).length = own.zip rows := by
        rw [range_len, List.take_of_length_le]
        rw [List.length_zip]; omega
      rw [ez]
      walk_at "dy"
      exact ⟨vs, cs, nmL own rows, _, rfl, rfl, rfl, ok1, by omega, by omega, q _ _ ok2⟩

/-! going on: iterates -/
def it (f : Int → Option Int) (p : Int) : Nat → Option Int
  | 0 => some p
  | k + 1 => (it f p k).bind f
def chase (f : Int → Option Int) : Nat → List Int → Int → List Int
  | 0, acc, _ => acc
  | n + 1, acc, p => match f p with
    | some q => if p ∈ acc then acc else chase f n (acc ++ [p]) q
    | none => acc
/-- the cells that are come to -/
structure Tr (f : Int → Option Int) (p : Int) (R : List Int) : Prop where
  nd : R.Nodup
  sm : ∀ x ∈ R, (f x).isSome = true
  i : ∀ (k : Nat), k < R.length → R[k]? = it f p k
  e : ∃ e, it f p R.length = some e ∧ (f e = none ∨ e ∈ R)
theorem nd_snoc' {l : List Int} {x : Int} (h : l.Nodup) (hx : x ∉ l) : (l ++ [x]).Nodup := by
  rw [List.nodup_append]
  exact ⟨h, by simp, fun a ha b hb e => hx (by rw [List.mem_singleton] at hb; rw [← hb, ← e]; exact ha)⟩
theorem nodup_len' : ∀ (l D : List Int), l.Nodup → (∀ x ∈ l, x ∈ D) → l.length ≤ D.length := nodup_len
theorem chase_tr {f : Int → Option Int} {p : Int} {ks : List Int} (hk : ∀ x, (f x).isSome = true → x ∈ ks) : ∀ (n : Nat) (acc : List Int) (q : Int), acc.Nodup → (∀ x ∈ acc, (f x).isSome = true) → (∀ k, k < acc.length → acc[k]? = it f p k) → it f p acc.length = some q → ks.length + 1 ≤ n + acc.length → Tr f p (chase f n acc q)
  | 0, acc, q, nd, sm, hi, hq, hn => by
    have := nodup_len acc ks nd fun x hx => hk x (sm x hx)
    omega
  | n + 1, acc, q, nd, sm, hi, hq, hn => by
    rw [chase]
    cases e : f q with
    | none => exact ⟨nd, sm, hi, q, hq, .inl e⟩
    | some z =>
      dsimp only
      by_cases hm : q ∈ acc
      · rw [if_pos hm]; exact ⟨nd, sm, hi, q, hq, .inr hm⟩
      · rw [if_neg hm]
        refine chase_tr hk n _ z (nd_snoc' nd hm) (fun x hx => ?_) (fun k hl => ?_) ?_ (by rw [List.length_append, List.length_singleton]; omega)
        · rcases List.mem_append.mp hx with hx | hx
          · exact sm x hx
          · rw [List.mem_singleton.mp hx, e]; rfl
        · rw [List.length_append, List.length_singleton] at hl
          by_cases h : k < acc.length
          · rw [List.getElem?_append_left h]; exact hi k h
          · have : k = acc.length := by omega
            subst this
            rw [hq]
            simp
        · rw [List.length_append, List.length_singleton]
          show (it f p acc.length).bind f = some z
          rw [hq]
          exact e
theorem trail_tr {f : Int → Option Int} {ks : List Int} (hk : ∀ x, (f x).isSome = true → x ∈ ks) (p : Int) : Tr f p (chase f (ks.length + 1) [] p) :=
  chase_tr hk _ [] p List.nodup_nil (fun x h => (nomatch h)) (fun k h => absurd h (Nat.not_lt_zero k)) rfl (by simp)
theorem it_none {f : Int → Option Int} {p : Int} {a : Nat} (h : it f p a = none) : ∀ k, a ≤ k → it f p k = none := by
  intro k hk
  induction k with
  | zero => have : a = 0 := by omega
            subst this; exact h
  | succ k ih =>
    by_cases e : a = k + 1
    · rw [← e]; exact h
    · show (it f p k).bind f = none
      rw [ih (by omega)]; rfl
theorem it_per {f : Int → Option Int} {p : Int} {a P : Nat} (h : it f p (a + P) = it f p a) : ∀ k, a ≤ k → it f p (k + P) = it f p k := by
  intro k hk
  induction k with
  | zero => have : a = 0 := by omega
            subst this; exact h
  | succ k ih =>
    by_cases e : a = k + 1
    · rw [← e]; exact h
    · show it f p (k + 1 + P) = (it f p k).bind f
      rw [← ih (by omega), show k + 1 + P = (k + P) + 1 by omega]
      rfl
theorem it_mod {f : Int → Option Int} {p : Int} {a P : Nat} (hP : 0 < P) (h : it f p (a + P) = it f p a) (k : Nat) (hk : a ≤ k) : it f p (a + (k - a) % P) = it f p k := by
  have step : ∀ (m r : Nat), it f p (a + r + m * P) = it f p (a + r) := fun m r => by
    induction m with
    | zero => simp
    | succ m ih =>
      rw [show a + r + (m + 1) * P = (a + r + m * P) + P by rw [Nat.succ_mul]; omega, it_per h _ (by omega)]
      exact ih
  have := step ((k - a) / P) ((k - a) % P)
  rw [← this]
  congr 1
  have := Nat.div_add_mod (k - a) P
  rw [Nat.mul_comm] at this
  omega
/-- with a way back, every iterate is one of the cells -/
theorem Tr.cyc {f : Int → Option Int} {p : Int} {R : List Int} (T : Tr f p R) {e : Int} (he : it f p R.length = some e) (hm : e ∈ R) : ∀ k, ∃ x ∈ R, it f p k = some x := by
  intro k
  by_cases h : k < R.length
  · exact ⟨R[k], List.getElem_mem _, by rw [← T.i k h, List.getElem?_eq_getElem h]⟩
  · obtain ⟨s, hs, es⟩ := List.getElem_of_mem hm
    have e1 : it f p s = some e := by rw [← T.i s hs, List.getElem?_eq_getElem hs, es]
    have per : it f p (s + (R.length - s)) = it f p s := by rw [show s + (R.length - s) = R.length by omega, he, e1]
    have := it_mod (a := s) (P := R.length - s) (by omega) per k (by omega)
    have hl : s + (k - s) % (R.length - s) < R.length := by have := Nat.mod_lt (k - s) (show 0 < R.length - s by omega); omega
    exact ⟨_, List.getElem_mem hl, by rw [← this, ← T.i _ hl, List.getElem?_eq_getElem hl]⟩
theorem Tr.stop {f : Int → Option Int} {p : Int} {R : List Int} (T : Tr f p R) {e : Int} (he : it f p R.length = some e) (hm : e ∉ R) : f e = none ∧ ∀ k, R.length < k → it f p k = none := by
  obtain ⟨e', h1, h2⟩ := T.e
  rw [he] at h1
  cases h1
  have fe : f e = none := h2.resolve_right hm
  refine ⟨fe, fun k hk => it_none (a := R.length + 1) ?_ k (by omega)⟩
  show (it f p R.length).bind f = none
  rw [he]
  exact fe
def optD : Option Int → D
  | some x => .int x
  | none => .none
/-- the walk of the law -/
def walkL (f : Int → Option Int) (p : Int) : Nat → List Int
  | 0 => [p]
  | k + 1 => match f ((walkL f p k).getLast?.getD 0) with
    | some x => walkL f p k ++ [x]
    | none => walkL f p k
structure Wk (f : Int → Option Int) (p : Int) (N : Nat) (w : List Int) : Prop where
  l0 : 1 ≤ w.length
  l1 : w.length ≤ N + 1
  i : ∀ (k : Nat), k < w.length → w[k]? = it f p k
  e : w.length = N + 1 ∨ it f p w.length = none
theorem Wk.last {f : Int → Option Int} {p : Int} {N : Nat} {w : List Int} (W : Wk f p N w) : ∃ x, it f p (w.length - 1) = some x ∧ w.getLast?.getD 0 = x ∧ w[w.length - 1]? = some x := by
  have h0 := W.l0
  have h := W.i (w.length - 1) (by omega)
  have h2 : w[w.length - 1]? = some w[w.length - 1] := List.getElem?_eq_getElem (by omega)
  refine ⟨w[w.length - 1], by rw [← h, h2], ?_, h2⟩
  rw [List.getLast?_eq_getElem?, h2]
  rfl
theorem walk_wk (f : Int → Option Int) (p : Int) : ∀ N, Wk f p N (walkL f p N)
  | 0 => ⟨Nat.le_refl _, Nat.le_refl _, fun k hk => by have : k = 0 := by simp [walkL] at hk; omega
                                                       subst this; rfl, .inl rfl⟩
  | N + 1 => by
    have ih := walk_wk f p N
    obtain ⟨x, e1, e2, e3⟩ := ih.last
    have l0 := ih.l0
    have l1 := ih.l1
    have nx : it f p (walkL f p N).length = f x := by
      rw [show (walkL f p N).length = (walkL f p N).length - 1 + 1 by omega]
      show (it f p _).bind f = f x
      rw [e1]
      rfl
    rw [walkL, e2]
    cases hf : f x with
    | none => exact ⟨l0, by dsimp only; omega, ih.i, .inr (by rw [nx, hf])⟩
    | some z =>
      have full : (walkL f p N).length = N + 1 := ih.e.resolve_right (by rw [nx, hf]; simp)
      refine ⟨by simp, by simp; omega, fun k hk => ?_, .inl (by simp; omega)⟩
      simp only [List.length_append, List.length_singleton] at hk
      by_cases h : k < (walkL f p N).length
      · rw [List.getElem?_append_left h]; exact ih.i k h
      · have : k = (walkL f p N).length := by omega
        subst this
        rw [nx, hf]
        simp
/-- the walk goes beyond the cells that are come to -/
theorem Wk.more {f : Int → Option Int} {p : Int} {N : Nat} {w R : List Int} (W : Wk f p N w) (T : Tr f p R) (hN : R.length ≤ N) : R.length < w.length := by
  rcases W.e with h | h
  · omega
  · by_cases hl : w.length ≤ R.length
    · exfalso
      have h0 := W.l0
      by_cases e : w.length = R.length
      · obtain ⟨e', h1, _⟩ := T.e
        rw [← e, h] at h1; cases h1
      · have := T.i w.length (by omega)
        rw [h, List.getElem?_eq_getElem (by omega)] at this
        cases this
    · omega
/-- a walk that does not stop comes back to its last place before -/
theorem Wk.back {f : Int → Option Int} {p : Int} {N : Nat} {w ks : List Int} (W : Wk f p N w) (hk : ∀ x, (f x).isSome = true → x ∈ ks) (hN : ks.length + 2 ≤ N) {x : Int} (hx : it f p (w.length - 1) = some x) (hs : (f x).isSome = true) :
    w.length = N + 1 ∧ ∃ b, b < w.length - 1 ∧ it f p b = some x := by
  have full : w.length = N + 1 := W.e.resolve_right (by
    rw [show w.length = w.length - 1 + 1 by have := W.l0; omega]
    show (it f p _).bind f ≠ none
    rw [hx]
    intro z
    have z : f x = none := z
    rw [z] at hs; cases hs)
  refine ⟨full, ?_⟩
  have T := trail_tr (f := f) hk p
  obtain ⟨e, h1, h2⟩ := T.e
  have rl := nodup_len _ ks T.nd fun y hy => hk y (T.sm y hy)
  by_cases hm : e ∈ chase f (ks.length + 1) [] p
  · obtain ⟨y, hy, ey⟩ := T.cyc h1 hm (w.length - 1)
    rw [hx] at ey
    cases ey
    obtain ⟨b, hb, eb⟩ := List.getElem_of_mem hy
    exact ⟨b, by omega, by rw [← T.i b hb, List.getElem?_eq_getElem hb, eb]⟩
  · have := (T.stop h1 hm).2 (w.length - 1) (by omega)
    rw [hx] at this
    cases this

/-! going on from places -/
structure Tells (kvs : List (Key × D)) (f : Int → Option Int) (ks : List Int) : Prop where
  get : ∀ k, kGet kvs (.inl k) = (f k).map PyData.int
  inn : ∀ k, (f k).isSome = true → k ∈ ks
theorem chase_stop {f : Int → Option Int} {n : Nat} {acc : List Int} {p : Int} (h : f p = none ∨ p ∈ acc) : chase f n acc p = acc := by
  cases n with
  | zero => rfl
  | succ n =>
    rw [chase]
    cases e : f p with
    | none => rfl
    | some q =>
      rcases h with h | h
      · rw [e] at h; cases h
      · simp only [h, if_true]
theorem chase_go {f : Int → Option Int} {n : Nat} {acc : List Int} {p q : Int} (h : f p = some q) (hn : p ∉ acc) : chase f (n + 1) acc p = chase f n (acc ++ [p]) q := by
  rw [chase, h]
  simp only [hn, if_false]
def tk (acc : List Int) : List (Key × D) := acc.map fun p => (Sum.inl p, PyData.bool true)
theorem tk_get (acc : List Int) (p : Int) : (kGet (tk acc) (.inl p)).isSome = decide (p ∈ acc) := by
  unfold kGet tk
  induction acc with
  | nil => rfl
  | cons a r ih =>
    rw [List.map_cons, List.find?_cons]
    by_cases e : a = p
    · simp [e]
    · have e' : ¬ (Sum.inl a : Key) = Sum.inl p := fun z => e (Sum.inl.inj z)
      simp only [e', decide_false]
      rw [ih]
      simp [List.mem_cons, Ne.symm e, eq_comm, e]
theorem tk_put {acc : List Int} {p : Int} (h : p ∉ acc) : kPut (tk acc) (.inl p) (.bool true) = tk (acc ++ [p]) := by
  unfold kPut
  have : (tk acc).any (fun q => decide (q.1 = Sum.inl p)) = false := by
    rw [List.any_eq_false]
    intro q hq
    obtain ⟨a, ha, rfl⟩ := List.mem_map.mp hq
    simp only [decide_eq_true_eq]
    intro z
    exact h (Sum.inl.inj z ▸ ha)
  rw [this, if_neg Bool.false_ne_true]
  simp [tk]
theorem tk_keys (acc : List Int) : ((tk acc).map fun p => kD p.1) = acc.map PyData.int := by simp [tk, kD]
theorem tk_len (acc : List Int) : (tk acc).length = acc.length := by simp [tk]
def left2 (n : Nat) (ρ : Rho) : Nat := match ρ[2]? with
  | some (some (R.k _ l)) => n - l.length
  | some (some (R.l _ l)) => n - l.length
  | _ => 0
theorem left2_k (n : Nat) (a b c : Option R) (o : Bool) (l : List (Key × D)) : left2 n [a, b, some (.k o l), c] = n - l.length := rfl
def c_reached_by : Ct := fun rs Q _ => ∃ (a : R) (kvs : List (Key × D)) (f : Int → Option Int) (ks : List Int) (p : Int), rs = [a, .s (.list [.int p])] ∧ peek a = a ∧ a.kv = some kvs ∧ Tells kvs f ks ∧ ks.length ≤ 1000 ∧ Q (.k true (tk (chase f (ks.length + 1) [] p)))
theorem d_reached_by {K : Frag} {cl : Ad} : ∀ rs Q E, c_reached_by rs Q E → w_reached_by K cl (rho N_reached_by.length rs) { nx := fun _ => Q (.s .none), rt := Q, er := fun cls _ => E cls } := by
  rintro rs Q E ⟨a, kvs, f, ks, p0, rfl, pa, ha, T, hk, q⟩
  unfold w_reached_by
  walk_at "dy"
  obtain ⟨acc9, e9⟩ : ∃ acc9, acc9 = chase f (ks.length + 1) [] p0 := ⟨_, rfl⟩
  rw [← e9] at q
  refine for_go (fun i (ρ : Rho) => ∃ v3, ρ = [some a, some (.s (.list [.int p0])), some (.k true (tk (if i = 0 then [] else acc9))), v3]) ⟨none, rfl⟩ ?_ ?_
  · rintro i d ρ hd ⟨v3, rfl⟩
    obtain ⟨rfl, rfl⟩ : i = 0 ∧ d = .int p0 := by
      cases i with
      | zero => exact ⟨rfl, (Option.some.inj hd).symm⟩
      | succ i => cases hd
    walk_at "dy"
    unfold w_reached_by_b2
    refine ⟨fun ρ' => ∃ acc p m, ρ' = [some a, some (.s (.list [.int p0])), some (.k true (tk acc)), some (.s (.int p))] ∧ chase f m acc p = acc9 ∧ ks.length + 1 ≤ m + acc.length ∧ acc.Nodup ∧ ∀ x ∈ acc, x ∈ ks,
      left2 ks.length, ⟨[], p0, _, rfl, e9.symm, by simp, List.nodup_nil, fun x h => (nomatch h)⟩, ?_⟩
    rintro ρ' ⟨acc, p, m, rfl, hc, hm, nd', inn'⟩
    walk_at "dm"
    have stop : (f p = none ∨ p ∈ acc) → acc9 = acc := fun h => by rw [← hc]; exact chase_stop h
    refine .inr ⟨kvs, by rw [pa]; exact ha, ?_⟩
    rw [T.get p]
    cases e : f p with
    | none =>
      rw [if_neg (by simp), stop (.inl e)]
    | some q' =>
      rw [if_pos (show (Option.map PyData.int (some q')).isSome = true from rfl), tk_get]
      have pk : p ∈ ks := T.inn p (by rw [e]; rfl)
      by_cases hp : p ∈ acc
      · rw [decide_eq_true hp, if_neg (by simp), stop (.inr hp)]
      · rw [decide_eq_false hp, if_pos (show (!false) = true from rfl)]
        have nd2 : (acc ++ [p]).Nodup := nd_snoc nd' hp
        have in2 : ∀ x ∈ acc ++ [p], x ∈ ks := fun x hx => by
          rcases List.mem_append.mp hx with hx | hx
          · exact inn' x hx
          · rw [List.mem_singleton.mp hx]; exact pk
        have ln := nodup_len _ _ nd2 in2
        rw [List.length_append, List.length_singleton] at ln
        unfold w_reached_by_b1
        walk_at "dm"
        refine ⟨by rw [tk_len]; omega, ?_⟩
        rw [tk_put hp]
        refine .inr ⟨kvs, by rw [pa]; exact ha, .int q', by rw [T.get p, e]; rfl, ?_, ?_⟩
        · refine ⟨acc ++ [p], rfl, q', rfl, m - 1, ?_, ?_, nd2, in2⟩
          · rw [← chase_go e hp, show m - 1 + 1 = m by omega]
            exact hc
          · rw [List.length_append, List.length_singleton]
            omega
        · rw [left2_k, left2_k, tk_len, tk_len, List.length_append, List.length_singleton]
          omega
  · rintro ρ ⟨v3, rfl⟩
    walk_at "dy"
    exact q
theorem inD_ints (acc : List Int) (p : Int) : inD (.int p) (acc.map PyData.int) = decide (p ∈ acc) := by
  unfold inD
  induction acc with
  | nil => rfl
  | cons a r ih =>
    rw [List.map_cons, List.any_cons, ih, eqv_int, Bool.eq_iff_iff, Bool.or_eq_true, beq_iff_eq, decide_eq_true_iff, decide_eq_true_iff, List.mem_cons]
    exact ⟨fun h => h.elim (fun e => .inl e.symm) .inr, fun h => h.elim (fun e => .inl e.symm) .inr⟩
theorem flat_ints (acc : List Int) : (acc.map PyData.int).all flatD = true := by
  rw [List.all_eq_true]
  intro d hd
  obtain ⟨n, _, rfl⟩ := List.mem_map.mp hd
  rfl
def plIn (vs : List Int) (cs : List (Int × Int)) : D → Bool
  | .int i => decide (i = 0 ∨ i ∈ pos (flatSt vs cs))
  | _ => false
def isPl (vs : List Int) (cs : List (Int × Int)) (d : D) : Bool := within d 0 1000000 && plIn vs cs d
def c_is_place : Ct := fun rs Q _ => ∃ vs cs d, rs = [.s (stD vs cs), .s d] ∧ OkVs vs ∧ OkCs cs ∧ Q (.s (.bool (isPl vs cs d)))
theorem d_is_place {K : Frag} {cl : Ad} : ∀ rs Q E, c_is_place rs Q E → w_is_place K cl c_within (c_places true) (rho N_is_place.length rs) { nx := fun _ => Q (.s .none), rt := Q, er := fun cls _ => E cls } := by
  rintro rs Q E ⟨vs, cs, d, rfl, ov, oc, q⟩
  have cp : CPow 10 6 := by unfold CPow; decide
  have lt6 : ((10 : Int) ^ (6 : Int).toNat) = 1000000 := by decide
  unfold w_is_place
  walk_at "dy"
  rw [lt6]
  refine ⟨cp, d, 0, 1000000, rfl, ?_⟩
  walk_at "dy"
  have ef : isPl vs cs d = (within d 0 1000000 && plIn vs cs d) := rfl
  cases hw : within d 0 1000000 with
  | false =>
    rw [hw, Bool.false_and] at ef
    rw [ef] at q
    exact q
  | true =>
    obtain ⟨i, rfl, i0, i1⟩ := within_is hw
    rw [hw, Bool.true_and] at ef
    have ef : isPl vs cs (.int i) = decide (i = 0 ∨ i ∈ pos (flatSt vs cs)) := ef
    refine (if_pos rfl).mpr ?_
    rw [eqv_int]
    refine ⟨sh_int i, ?_⟩
    by_cases z : i = 0
    · rw [ef, decide_eq_true (.inl z)] at q
      rw [if_pos (by simpa using z)]
      exact q
    · rw [if_neg (by simpa using z)]
      have ol := ov.few
      have cl' := oc.few
      refine ⟨vs, cs, rfl, ol, by omega, fun ns hs => ?_⟩
      walk_at "dy"
      refine ⟨flat_ints ns, ?_⟩
      rw [inD_ints]
      have : decide (i ∈ ns) = isPl vs cs (.int i) := by
        rw [ef, decide_eq_decide, hs.2.1 i]
        exact ⟨.inr, fun h => h.resolve_left z⟩
      rw [this]
      exact q
def c_need_place (cl : Ad) : Ct := fun rs Q E => ∃ d p, rs = [.s d, .s p] ∧ if isSt d = true then (∀ vs cs, d = stD vs cs → OkVs vs → OkCs cs → if isPl vs cs p = true then Q (.s .none) else E (.ref cl.c_BadPlace)) else E (.ref cl.c_BadState)
theorem d_need_place {K : Frag} {cl : Ad} : ∀ rs Q E, c_need_place cl rs Q E → w_need_place K cl (c_need_state cl) c_is_place (rho N_need_place.length rs) { nx := fun _ => Q (.s .none), rt := Q, er := fun cls _ => E cls } := by
  rintro rs Q E ⟨d, p, rfl, q⟩
  unfold w_need_place
  walk_at "dy"
  refine ⟨d, rfl, ?_⟩
  by_cases h : isSt d = true
  · rw [if_pos h] at q ⊢
    obtain ⟨vs, cs, rfl, ov, oc⟩ := st_of h
    have q := q vs cs rfl ov oc
    walk_at "dy"
    refine ⟨vs, cs, p, rfl, ov, oc, ?_⟩
    walk_at "dy"
    cases h : isPl vs cs p <;> rw [h] at q <;> simpa using q
  · rw [if_neg h] at q ⊢
    exact q
theorem atI_last {l : List D} {n : Nat} {x : D} (h : l.length = n + 1) (e : l[n]? = some x) : L2.atI l (-1) = some x := by
  unfold L2.atI L2.ixN
  rw [if_neg (by decide), if_pos (by omega), h]
  show l[((-1 : Int) + ((n + 1 : Nat) : Int)).toNat]? = some x
  rw [show ((-1 : Int) + ((n + 1 : Nat) : Int)).toNat = n by omega]
  exact e
def c_trail_in : Ct := fun rs Q _ => ∃ (a : R) (kvs : List (Key × D)) (f : Int → Option Int) (ks : List Int) (p : Int), rs = [a, .s (.int p)] ∧ peek a = a ∧ a.kv = some kvs ∧ Tells kvs f ks ∧ ks.length ≤ 1000 ∧ ∀ r e, r = chase f (ks.length + 1) [] p → it f p r.length = some e → Q (.s (.tuple [.list (r.map PyData.int), .int e]))
theorem d_trail_in {K : Frag} {cl : Ad} : ∀ rs Q E, c_trail_in rs Q E → w_trail_in K cl c_reached_by (rho N_trail_in.length rs) { nx := fun _ => Q (.s .none), rt := Q, er := fun cls _ => E cls } := by
  rintro rs Q E ⟨a, kvs, f, ks, p, rfl, pa, ha, T, hk, q⟩
  unfold w_trail_in
  walk_at "dy"
  refine ⟨a, kvs, f, ks, p, by rw [pa, pa], pa, ha, T, hk, ?_⟩
  obtain ⟨r, er⟩ : ∃ r, r = chase f (ks.length + 1) [] p := ⟨_, rfl⟩
  have Tt : Tr f p r := er ▸ trail_tr T.inn p
  obtain ⟨e, he, _⟩ := Tt.e
  have q := q r e er he
  rw [← er]
  walk_at "dy"
  rw [tk_keys]
  walk_at "dy"
  refine ⟨sh_ints r, ?_⟩
  cases hr : r with
  | nil =>
    rw [hr] at he q
    cases he
    exact q
  | cons x l =>
    rw [if_pos (by simp)]
    have hl : r.length = l.length + 1 := by rw [hr]; rfl
    rw [← hr]
    have hz := Tt.i (r.length - 1) (by omega)
    rw [List.getElem?_eq_getElem (by omega)] at hz
    have hl1 : (r.map PyData.int).length = (r.length - 1) + 1 := by rw [List.length_map]; omega
    unfold peekQ
    rw [pa]
    refine ⟨.int r[r.length - 1], ?_, ?_⟩
    · exact atI_last hl1 (by rw [List.getElem?_map, List.getElem?_eq_getElem (by omega)]; rfl)
    have fe : f r[r.length - 1] = some e := by
      have : it f p r.length = (it f p (r.length - 1)).bind f := by
        rw [show r.length = r.length - 1 + 1 by omega]
        rfl
      rw [he, ← hz] at this
      exact this.symm
    refine .inr ⟨kvs, .int r[r.length - 1], .inl r[r.length - 1], .int e, ha, rfl, rfl, by rw [T.get, fe]; rfl, ?_⟩
    walk_at "dy"
    exact q

/-! going on: what the program tells -/
theorem tells_cs {cs : List (Int × Int)} : Tells (iK cs) (iGet cs) (keysI cs) where
  get := fun k => iGet_k k cs
  inn := fun k h => by
    unfold iGet at h
    cases e : cs.find? (fun p => decide (p.1 = k)) with
    | none => rw [e] at h; cases h
    | some p =>
      have h1 := List.find?_some e
      have h2 := List.mem_of_find?_eq_some e
      exact List.mem_map.mpr ⟨p, h2, of_decide_eq_true h1⟩
def trL (cs : List (Int × Int)) (p : Int) : List Int := chase (iGet cs) ((keysI cs).length + 1) [] p
theorem trL_tr (cs : List (Int × Int)) (p : Int) : Tr (iGet cs) p (trL cs p) := trail_tr tells_cs.inn p
theorem keysI_len (cs : List (Int × Int)) : (keysI cs).length = cs.length := by simp [keysI]
theorem trL_len (cs : List (Int × Int)) (p : Int) : (trL cs p).length ≤ cs.length := by
  rw [← keysI_len]
  exact nodup_len _ _ (trL_tr cs p).nd fun y hy => tells_cs.inn y ((trL_tr cs p).sm y hy)
def guardP (cl : Ad) (d p : D) (E : Value → Prop) (Q : List Int → List (Int × Int) → Int → Prop) : Prop :=
  if isSt d = true then (∀ vs cs, d = stD vs cs → OkVs vs → OkCs cs → if isPl vs cs p = true then ∀ i, p = .int i → Q vs cs i else E (.ref cl.c_BadPlace)) else E (.ref cl.c_BadState)
theorem isPl_int {vs : List Int} {cs : List (Int × Int)} {p : D} (h : isPl vs cs p = true) : ∃ i, p = .int i := by
  unfold isPl at h
  rw [Bool.and_eq_true] at h
  cases p <;> simp [plIn] at h
  exact ⟨_, rfl⟩
theorem need_go {cl : Ad} {d p : D} {Q : R → Prop} {E : Value → Prop} {G : List Int → List (Int × Int) → Int → Prop} (h : guardP cl d p E G) (q : ∀ vs cs i, d = stD vs cs → OkVs vs → OkCs cs → p = .int i → isPl vs cs p = true → G vs cs i → Q (.s .none)) : c_need_place cl [.s d, .s p] Q E := by
  refine ⟨d, p, rfl, ?_⟩
  unfold guardP at h
  by_cases z : isSt d = true
  · rw [if_pos z] at h ⊢
    intro vs cs e ov oc
    have h := h vs cs e ov oc
    by_cases y : isPl vs cs p = true
    · rw [if_pos y] at h ⊢
      obtain ⟨i, ei⟩ := isPl_int y
      exact q vs cs i e ov oc ei y (h i ei)
    · rw [if_neg y] at h ⊢; exact h
  · rw [if_neg z] at h ⊢; exact h
theorem trail_go {cs : List (Int × Int)} {i : Int} {Q : R → Prop} {E : Value → Prop} (oc : OkCs cs) (q : ∀ e, it (iGet cs) i (trL cs i).length = some e → Q (.s (.tuple [.list ((trL cs i).map PyData.int), .int e]))) : c_trail_in [.s (.dict (kvD (iK cs))), .s (.int i)] Q E := by
  refine ⟨_, iK cs, iGet cs, keysI cs, i, rfl, rfl, kv_d _, tells_cs, by have := oc.few; rw [keysI_len]; omega, fun r e er he => ?_⟩
  subst er
  exact q e he
def c_trail (cl : Ad) : Ct := fun rs Q E => ∃ d p, rs = [.s d, .s p] ∧ guardP cl d p E fun vs cs i => ∀ e, it (iGet cs) i (trL cs i).length = some e → Q (.s (.tuple [.tuple ((trL cs i).map PyData.int), .int e]))
theorem d_trail {K : Frag} {cl : Ad} : ∀ rs Q E, c_trail cl rs Q E → w_trail K cl (c_need_place cl) c_trail_in (rho N_trail.length rs) { nx := fun _ => Q (.s .none), rt := Q, er := fun cls _ => E cls } := by
  rintro rs Q E ⟨d, p, rfl, q0⟩
  unfold w_trail
  walk_at "dy"
  refine need_go q0 fun vs cs i ed ov oc ep _ q => ?_
  subst ed
  subst ep
  rw [show stD vs cs = .tuple [.tuple (vs.map PyData.int), .tuple (cs.map prD)] from rfl]
  walk_at "dy"
  refine ⟨_, pairsK_cs cs, ?_⟩
  rw [dict_cs (keys_nd oc.srt)]
  refine trail_go oc fun e he => ?_
  have q := q e he
  walk_at "dy"
  exact q
/-- the first one of a list's equal things -/
theorem ind_ints {l : List Int} {x : Int} {k : Nat} {Q : R → Prop} (h : l[k]? = some x) (first : ∀ m, m < k → l[m]? ≠ some x) (q : Q (.s (.int (k : Int)))) : IndAt (l.map PyData.int) [.s (.int x)] Q := by
  refine ⟨.int x, .int x, 0, k, .inl ⟨rfl, rfl⟩, rfl, flat_ints l, Nat.zero_le _, by rw [List.getElem?_map, h]; rfl, by rw [eqv_int]; simp, fun m z _ hm hz => ?_, q⟩
  obtain ⟨y, hy, rfl⟩ := int_at hz
  rw [eqv_int]
  have := first m hm
  rw [hy] at this
  simpa using this
theorem nd_first {l : List Int} (nd : l.Nodup) {x : Int} {k : Nat} (h : l[k]? = some x) : ∀ m, m < k → l[m]? ≠ some x := fun m hm z => by
  obtain ⟨h1, e1⟩ := List.getElem?_eq_some_iff.mp h
  obtain ⟨h2, e2⟩ := List.getElem?_eq_some_iff.mp z
  have := (List.getElem_inj nd).mp (e2.trans e1.symm)
  omega
def c_place_behind (cl : Ad) : Ct := fun rs Q E => ∃ d p c, rs = [.s d, .s p, .s c] ∧ guardP cl d p E fun vs cs i => if within c 0 1000000000 = true then ∀ k : Nat, c = .int (k : Int) → Q (.s (optD (it (iGet cs) i k))) else E (.ref cl.c_BadCount)
theorem d_place_behind {K : Frag} {cl : Ad} : ∀ rs Q E, c_place_behind cl rs Q E → w_place_behind K cl c_within (c_need_place cl) c_trail_in (rho N_place_behind.length rs) { nx := fun _ => Q (.s .none), rt := Q, er := fun cls _ => E cls } := by
  rintro rs Q E ⟨d, p, c, rfl, q0⟩
  unfold w_place_behind
  walk_at "dy"
  refine need_go q0 fun vs cs i ed ov oc ep _ q => ?_
  subst ed
  subst ep
  rw [show stD vs cs = .tuple [.tuple (vs.map PyData.int), .tuple (cs.map prD)] from rfl]
  walk_at "dy"
  refine ⟨c, 0, 1000000000, rfl, ?_⟩
  walk_at "dy"
  cases hw : within c 0 1000000000 with
  | false =>
    rw [hw] at q
    simpa using q
  | true =>
    rw [hw] at q
    obtain ⟨n, rfl, n0, n1⟩ := within_is hw
    obtain ⟨k, rfl⟩ : ∃ k : Nat, n = (k : Int) := ⟨n.toNat, by omega⟩
    have q := (if_pos rfl).mp q k rfl
    rw [if_neg (by simp)]
    refine ⟨_, pairsK_cs cs, ?_⟩
    rw [dict_cs (keys_nd oc.srt)]
    refine trail_go oc fun e he => ?_
    have T := trL_tr cs i
    have tl := trL_len cs i
    have oc' := oc.few
    generalize trL cs i = r at T tl he
    walk_at "dy"
    simp only [List.length_map]
    by_cases hk : k < r.length
    · rw [if_pos (by simpa using hk)]
      have hi := T.i k hk
      rw [List.getElem?_eq_getElem hk] at hi
      rw [← hi] at q
      exact ⟨.int r[k], atI_of (j := k) rfl (by rw [List.getElem?_map, List.getElem?_eq_getElem hk]; rfl), q⟩
    · rw [if_neg (by simpa using hk)]
      refine ⟨flat_ints r, ?_⟩
      rw [inD_ints]
      by_cases hm : e ∈ r
      · rw [if_pos (decide_eq_true hm)]
        obtain ⟨s, hs, es⟩ := List.getElem_of_mem hm
        have hs' : r[s]? = some e := by rw [List.getElem?_eq_getElem hs, es]
        refine ind_ints hs' (nd_first T.nd hs') ?_
        walk_at "dy"
        have e1 : it (iGet cs) i s = some e := by rw [← T.i s hs, hs']
        have per : it (iGet cs) i (s + (r.length - s)) = it (iGet cs) i s := by rw [show s + (r.length - s) = r.length by omega, he, e1]
        have im := it_mod (a := s) (P := r.length - s) (by omega) per k (by omega)
        have lt : (k - s) % (r.length - s) < r.length - s := Nat.mod_lt _ (by omega)
        have ix : (s : Int) + ((k : Int) - s) % ((r.length : Int) - s) = ((s + (k - s) % (r.length - s) : Nat) : Int) := by
          rw [show (k : Int) - s = ((k - s : Nat) : Int) by omega, show (r.length : Int) - s = ((r.length - s : Nat) : Int) by omega]
          push_cast
          rfl
        have hi := T.i (s + (k - s) % (r.length - s)) (by omega)
        rw [List.getElem?_eq_getElem (by omega), im] at hi
        rw [← hi] at q
        refine ⟨by omega, .int (r[s + (k - s) % (r.length - s)]'(by omega)), ?_, q⟩
        rw [ix]
        exact atI_of rfl (by rw [List.getElem?_map, List.getElem?_eq_getElem (by omega)]; rfl)
      · rw [if_neg (by simpa using hm)]
        obtain ⟨_, st⟩ := T.stop he hm
        by_cases hk2 : k = r.length
        · subst hk2
          rw [he] at q
          rw [if_pos (by simp)]
          exact q
        · rw [st k (by omega)] at q
          rw [if_neg (by simp; omega)]
          exact q
def c_steps_to (cl : Ad) : Ct := fun rs Q E => ∃ d p o, rs = [.s d, .s p, .s o] ∧ guardP cl d p E fun vs cs i => if isPl vs cs o = true then ∀ j : Int, o = .int j → (∀ k : Nat, it (iGet cs) i k = some j → (∀ m, m < k → it (iGet cs) i m ≠ some j) → Q (.s (.int (k : Int)))) ∧ ((∀ k : Nat, it (iGet cs) i k ≠ some j) → Q (.s .none)) else E (.ref cl.c_BadOther)
theorem d_steps_to {K : Frag} {cl : Ad} : ∀ rs Q E, c_steps_to cl rs Q E → w_steps_to K cl c_is_place (c_need_place cl) c_trail_in (rho N_steps_to.length rs) { nx := fun _ => Q (.s .none), rt := Q, er := fun cls _ => E cls } := by
  rintro rs Q E ⟨d, p, o, rfl, q0⟩
  unfold w_steps_to
  walk_at "dy"
  refine need_go q0 fun vs cs i ed ov oc ep _ q => ?_
  subst ed
  subst ep
  walk_at "dy"
  refine ⟨vs, cs, o, rfl, ov, oc, ?_⟩
  rw [show stD vs cs = .tuple [.tuple (vs.map PyData.int), .tuple (cs.map prD)] from rfl]
  walk_at "dy"
  cases hw : isPl vs cs o with
  | false =>
    rw [hw] at q
    simpa using q
  | true =>
    rw [hw] at q
    obtain ⟨j, rfl⟩ := isPl_int hw
    obtain ⟨q1, q2⟩ := (if_pos rfl).mp q j rfl
    rw [if_neg (by simp)]
    refine ⟨_, pairsK_cs cs, ?_⟩
    rw [dict_cs (keys_nd oc.srt)]
    refine trail_go oc fun e he => ?_
    have T := trL_tr cs i
    have tl := trL_len cs i
    have oc' := oc.few
    generalize trL cs i = r at T tl he
    walk_at "dy"
    refine ⟨flat_ints r, ?_⟩
    rw [inD_ints, List.length_map]
    by_cases hm : j ∈ r
    · rw [if_pos (decide_eq_true hm)]
      obtain ⟨s, hs, es⟩ := List.getElem_of_mem hm
      have hs' : r[s]? = some j := by rw [List.getElem?_eq_getElem hs, es]
      have fs := nd_first T.nd hs'
      exact ind_ints hs' fs (q1 s (by rw [← T.i s hs, hs']) fun m hm => by rw [← T.i m (by omega)]; exact fs m hm)
    · rw [if_neg (by simpa using hm)]
      have less : ∀ m, m < r.length → it (iGet cs) i m ≠ some j := fun m h z => by
        rw [← T.i m h] at z
        exact hm (List.mem_of_getElem? z)
      by_cases he' : j = e
      · subst he'
        rw [if_pos (by simp)]
        exact q1 _ he less
      · rw [if_neg (by simpa using he')]
        refine q2 fun k z => ?_
        by_cases hk : k < r.length
        · exact less k hk z
        · by_cases hm2 : e ∈ r
          · obtain ⟨x, hx, ex⟩ := T.cyc he hm2 k
            rw [z] at ex
            cases ex
            exact hm hx
          · by_cases hk2 : k = r.length
            · rw [hk2, he] at z
              exact he' (Option.some.inj z).symm
            · rw [(T.stop he hm2).2 k (by omega)] at z
              cases z

/-! going on: what the law walks -/
theorem first_from {P : Nat → Prop} (hd : ∀ k, P k ∨ ¬ P k) : ∀ (n i : Nat), P (i + n) → ∃ k, i ≤ k ∧ k ≤ i + n ∧ P k ∧ ∀ m, i ≤ m → m < k → ¬ P m
  | 0, i, h => ⟨i, Nat.le_refl _, Nat.le_refl _, h, fun m a b => by omega⟩
  | n + 1, i, h => by
    rcases hd i with h0 | h0
    · exact ⟨i, Nat.le_refl _, by omega, h0, fun m a b => by omega⟩
    · obtain ⟨k, a, b, c, d⟩ := first_from hd n (i + 1) (by rw [show i + 1 + n = i + (n + 1) by omega]; exact h)
      refine ⟨k, by omega, by omega, c, fun m e f => ?_⟩
      by_cases z : m = i
      · rw [z]; exact h0
      · exact d m (by omega) f
theorem ind_from {l : List Int} {x : Int} {i k : Nat} {Q : R → Prop} (h : l[k]? = some x) (ik : i ≤ k) (first : ∀ m, i ≤ m → m < k → l[m]? ≠ some x) (q : Q (.s (.int (k : Int)))) : IndAt (l.map PyData.int) [.s (.int x), .s (.int (i : Int))] Q := by
  refine ⟨.int x, .int x, i, k, .inr rfl, rfl, flat_ints l, ik, by rw [List.getElem?_map, h]; rfl, by rw [eqv_int]; simp, fun m z hi hm hz => ?_, q⟩
  obtain ⟨y, hy, rfl⟩ := int_at hz
  rw [eqv_int]
  have := first m hi hm
  rw [hy] at this
  simpa using this
def wkL (cs : List (Int × Int)) (p : Int) : List Int := walkL (iGet cs) p (cs.length + 2)
theorem wkL_wk (cs : List (Int × Int)) (p : Int) : Wk (iGet cs) p (cs.length + 2) (wkL cs p) := walk_wk _ _ _
theorem walkL_len (f : Int → Option Int) (p : Int) (N : Nat) : (walkL f p N).length ≤ N + 1 := (walk_wk f p N).l1
theorem ints_last {w : List Int} (h : 1 ≤ w.length) {x : Int} (e : w[w.length - 1]? = some x) : L2.atI (w.map PyData.int) (-1) = some (.int x) :=
  atI_last (n := w.length - 1) (by rw [List.length_map]; omega) (by rw [List.getElem?_map, e]; rfl)
def c_law_walk : Ct := fun rs Q _ => ∃ (cs : List (Int × Int)) (p : Int), rs = [.k false (iK cs), .s (.int p)] ∧ cs.length ≤ 200 ∧ Q (.l true ((wkL cs p).map PyData.int))
theorem d_law_walk {K : Frag} {cl : Ad} : ∀ rs Q E, c_law_walk rs Q E → w_law_walk K cl (rho N_law_walk.length rs) { nx := fun _ => Q (.s .none), rt := Q, er := fun cls _ => E cls } := by
  rintro rs Q E ⟨cs, p, rfl, few, q⟩
  unfold w_law_walk
  walk_at "dy"
  rw [iK_len]
  refine ⟨by omega, by omega, ?_⟩
  refine for_go (fun i (ρ : Rho) => ∃ v3, ρ = [some (.k false (iK cs)), some (.s (.int p)), some (.l true ((walkL (iGet cs) p i).map PyData.int)), v3]) ⟨none, rfl⟩ ?_ ?_
  · rintro i d ρ hd ⟨v3, rfl⟩
    obtain ⟨rfl, hi⟩ := range0_at hd
    have W := walk_wk (iGet cs) p i
    obtain ⟨x, e1, e2, e3⟩ := W.last
    have l0 := W.l0
    have l1 := W.l1
    have st : walkL (iGet cs) p (i + 1) = match iGet cs x with | some y => walkL (iGet cs) p i ++ [y] | none => walkL (iGet cs) p i := by rw [walkL, e2] <;> rfl
    rw [st]
    walk_at "dy"
    unfold w_law_walk_b1
    walk_at "dy"
    refine ⟨_, ints_last l0 e3, _, rfl, ?_⟩
    rw [iGet_k]
    have ll : ((walkL (iGet cs) p i).map PyData.int).length < 16777216 := by rw [List.length_map]; omega
    cases hx : iGet cs x with
    | none =>
      rw [if_neg (by simp)]
      exact ⟨_, rfl, rfl⟩
    | some y =>
      rw [if_pos (by rfl)]
      exact ⟨_, ints_last l0 e3, _, rfl, .int y, by rw [iGet_k, hx]; rfl, ll, _, by simp, rfl⟩
  · rintro ρ ⟨v3, rfl⟩
    walk_at "dy"
    rw [range_len, show ((cs.length : Int) + 2).toNat = cs.length + 2 by omega]
    exact q
theorem Wk.stp {f : Int → Option Int} {p : Int} {N : Nat} {w : List Int} (W : Wk f p N w) {x : Int} (hx : it f p (w.length - 1) = some x) (h : f x = none) : it f p w.length = none := by
  have h0 := W.l0
  rw [show w.length = w.length - 1 + 1 by omega]
  show (it f p _).bind f = none
  rw [hx]
  exact h
def c_law_behind : Ct := fun rs Q _ => ∃ (cs : List (Int × Int)) (p : Int) (k : Nat), rs = [.k false (iK cs), .s (.int p), .s (.int (k : Int))] ∧ cs.length ≤ 200 ∧ (k : Int) ≤ 1000000000 ∧ Q (.s (optD (it (iGet cs) p k)))
theorem d_law_behind {K : Frag} {cl : Ad} : ∀ rs Q E, c_law_behind rs Q E → w_law_behind K cl c_law_walk (rho N_law_behind.length rs) { nx := fun _ => Q (.s .none), rt := Q, er := fun cls _ => E cls } := by
  rintro rs Q E ⟨cs, p, k, rfl, few, big, q⟩
  unfold w_law_behind
  walk_at "dy"
  refine ⟨cs, p, rfl, few, ?_⟩
  have W := wkL_wk cs p
  obtain ⟨x, e1, e2, e3⟩ := W.last
  have l0 := W.l0
  have l1 := W.l1
  have hk := (tells_cs (cs := cs)).inn
  generalize wkL cs p = w at W e1 e2 e3 l0 l1
  walk_at "dy"
  simp only [List.length_map]
  by_cases h : k < w.length
  · rw [if_pos (by simpa using h)]
    have hi := W.i k h
    rw [List.getElem?_eq_getElem h] at hi
    rw [← hi] at q
    exact ⟨.int w[k], atI_of (j := k) rfl (by rw [List.getElem?_map, List.getElem?_eq_getElem h]; rfl), q⟩
  · rw [if_neg (by simpa using h)]
    refine ⟨_, ints_last l0 e3, _, rfl, ?_⟩
    rw [iGet_k]
    cases hx : iGet cs x with
    | none =>
      rw [if_pos (by rfl)]
      rw [it_none (W.stp e1 hx) k (by omega)] at q
      exact q
    | some y =>
      rw [if_neg (by simp)]
      refine ⟨_, ints_last l0 e3, ?_⟩
      obtain ⟨full, b, hb, eb⟩ := W.back hk (by rw [keysI_len]; omega) e1 (by rw [hx]; rfl)
      have dec : ∀ k : Nat, (w[k]? = some x) ∨ ¬ (w[k]? = some x) := fun k => Classical.em _
      have eb' : w[b]? = some x := by rw [W.i b (by omega), eb]
      obtain ⟨a, _, ab, ea, fa⟩ := first_from dec b 0 (by rw [Nat.zero_add]; exact eb')
      obtain ⟨c, ac, cb, ec, fc⟩ := first_from dec (w.length - 1 - (a + 1)) (a + 1) (by rw [show a + 1 + (w.length - 1 - (a + 1)) = w.length - 1 by omega]; exact e3)
      refine ind_ints ea (fun m hm => fa m (Nat.zero_le _) hm) ?_
      walk_at "dy"
      refine ⟨_, ints_last l0 e3, ?_⟩
      refine ind_from (i := a + 1) ec ac fc ?_
      walk_at "dy"
      have ia : it (iGet cs) p a = some x := by rw [← W.i a (by omega), ea]
      have ic : it (iGet cs) p c = some x := by rw [← W.i c (by omega), ec]
      have im := it_mod (f := iGet cs) (p := p) (a := a) (P := c - a) (by omega) (by rw [show a + (c - a) = c by omega, ia, ic]) k (by omega)
      have lt : (k - a) % (c - a) < c - a := Nat.mod_lt _ (by omega)
      have ix : (a : Int) + ((k : Int) - a) % ((c : Int) - a) = ((a + (k - a) % (c - a) : Nat) : Int) := by
        rw [show (k : Int) - a = ((k - a : Nat) : Int) by omega, show (c : Int) - a = ((c - a : Nat) : Int) by omega]
        push_cast
        rfl
      have hi := W.i (a + (k - a) % (c - a)) (by omega)
      rw [List.getElem?_eq_getElem (by omega), im] at hi
      rw [← hi] at q
      refine ⟨by omega, .int (w[a + (k - a) % (c - a)]'(by omega)), ?_, q⟩
      rw [ix]
      exact atI_of rfl (by rw [List.getElem?_map, List.getElem?_eq_getElem (by omega)]; rfl)
def c_law_trail_due : Ct := fun rs Q _ => ∃ (cs : List (Int × Int)) (p : Int), rs = [.k false (iK cs), .s (.int p)] ∧ cs.length ≤ 200 ∧ ∀ e, it (iGet cs) p (trL cs p).length = some e → Q (.s (.tuple [.tuple ((trL cs p).map PyData.int), .int e]))
theorem d_law_trail_due {K : Frag} {cl : Ad} : ∀ rs Q E, c_law_trail_due rs Q E → w_law_trail_due K cl c_law_walk (rho N_law_trail_due.length rs) { nx := fun _ => Q (.s .none), rt := Q, er := fun cls _ => E cls } := by
  rintro rs Q E ⟨cs, p, rfl, few, q⟩
  unfold w_law_trail_due
  walk_at "dy"
  refine ⟨cs, p, rfl, few, ?_⟩
  have W := wkL_wk cs p
  have l1 := W.l1
  have T := trL_tr cs p
  have tl := trL_len cs p
  have more := W.more T (by omega)
  generalize wkL cs p = w at W l1 more
  generalize trL cs p = r at T tl more q
  obtain ⟨e, he, hs⟩ := T.e
  walk_at "dy"
  refine for_go (fun i (ρ : Rho) => ∃ v4 z, it (iGet cs) p (min i r.length) = some z ∧ ρ = [some (.k false (iK cs)), some (.s (.int p)), some (.l true ((r.take i).map PyData.int)), some (.s (.int z)), v4]) ⟨none, p, rfl, rfl⟩ ?_ ?_
  · rintro i d ρ hd ⟨v4, z, hz, rfl⟩
    obtain ⟨y, hy, rfl⟩ := int_at hd
    have hi := (List.getElem?_eq_some_iff.mp hy).1
    rw [W.i i hi] at hy
    walk_at "dy"
    unfold w_law_trail_due_b1
    walk_at "dy"
    rw [iGet_k]
    by_cases h : i < r.length
    · have hr := T.i i h
      rw [List.getElem?_eq_getElem h, hy] at hr
      have er : r[i] = y := Option.some.inj hr
      have ym : y ∈ r := er ▸ List.getElem_mem h
      obtain ⟨u, hu⟩ := Option.isSome_iff_exists.mp (T.sm y ym)
      rw [hu, if_pos (by rfl)]
      refine ⟨flat_ints _, ?_⟩
      have no : ¬ y ∈ r.take i := fun z => by
        obtain ⟨m, hm, em⟩ := List.getElem_of_mem z
        rw [List.length_take] at hm
        rw [List.getElem_take] at em
        have := (List.getElem_inj T.nd).mp (em.trans er.symm)
        omega
      rw [inD_ints, decide_eq_false no, if_pos (by rfl)]
      refine ⟨by rw [List.length_map, List.length_take]; omega, .int u, rfl, _, u, ?_, ?_, rfl, rfl⟩
      · rw [show min (i + 1) r.length = i + 1 by omega]
        show (it (iGet cs) p i).bind (iGet cs) = some u
        rw [hy]
        exact hu
      · rw [List.take_succ_eq_append_getElem h, er, List.map_append]
        rfl
    · have t1 : r.take i = r := List.take_of_length_le (by omega)
      have t2 : r.take (i + 1) = r := List.take_of_length_le (by omega)
      have m1 : min i r.length = r.length := by omega
      have m2 : min (i + 1) r.length = r.length := by omega
      rw [m1] at hz
      rw [t1, t2, m2]
      by_cases hm : e ∈ r
      · obtain ⟨x, hx, ex⟩ := T.cyc he hm i
        rw [hy] at ex
        cases ex
        obtain ⟨u, hu⟩ := Option.isSome_iff_exists.mp (T.sm y hx)
        rw [hu, if_pos (by rfl)]
        refine ⟨flat_ints _, ?_⟩
        rw [inD_ints, decide_eq_true hx, if_neg (by simp)]
        exact ⟨_, z, hz, rfl, rfl, rfl⟩
      · obtain ⟨fe, st⟩ := T.stop he hm
        have : i = r.length := by
          by_cases k : i = r.length
          · exact k
          · rw [st i (by omega)] at hy; cases hy
        subst this
        rw [he] at hy
        cases hy
        rw [fe, if_neg (by simp)]
        exact ⟨_, z, hz, rfl, rfl, rfl⟩
  · rintro ρ ⟨v4, z, hz, rfl⟩
    walk_at "dy"
    rw [List.length_map] at hz ⊢
    rw [show min w.length r.length = r.length by omega] at hz
    rw [List.take_of_length_le (by omega)]
    exact q z hz

/-! going on: told right -/
theorem wk_all {cs : List (Int × Int)} {p j : Int} {k : Nat} (h : it (iGet cs) p k = some j) : ∃ m, m < (wkL cs p).length ∧ m ≤ k ∧ it (iGet cs) p m = some j := by
  have W := wkL_wk cs p
  have T := trL_tr cs p
  have tl := trL_len cs p
  have more := W.more T (by omega)
  generalize wkL cs p = w at W more
  generalize trL cs p = r at T tl more
  by_cases hk : k < w.length
  · exact ⟨k, hk, Nat.le_refl _, h⟩
  · obtain ⟨e, he, hs⟩ := T.e
    by_cases hm : e ∈ r
    · obtain ⟨x, hx, ex⟩ := T.cyc he hm k
      rw [h] at ex
      cases ex
      obtain ⟨m, hm, em⟩ := List.getElem_of_mem hx
      exact ⟨m, by omega, by omega, by rw [← T.i m hm, List.getElem?_eq_getElem hm, em]⟩
    · rw [(T.stop he hm).2 k (by omega)] at h
      cases h
theorem flat_place {vs : List Int} {cs : List (Int × Int)} (ov : OkVs vs) (oc : OkCs cs) {x : Int} (h : x ∈ flatSt vs cs) : isPl vs cs (.int x) = true := by
  have r : 0 ≤ x ∧ x ≤ 1000000 := by
    rcases mem_flat h with h | ⟨p, hp, h | h⟩
    · exact ov.rng x h
    · have := oc.rng p hp; omega
    · have := oc.rng p hp; omega
  unfold isPl
  rw [within_yes r.1 r.2, Bool.true_and]
  show decide (x = 0 ∨ x ∈ pos (flatSt vs cs)) = true
  refine decide_eq_true ?_
  by_cases z : x = 0
  · exact .inl z
  · exact .inr (List.mem_filter.mpr ⟨h, decide_eq_true (by omega)⟩)
theorem zero_place (vs : List Int) (cs : List (Int × Int)) : isPl vs cs (.int 0) = true := by
  unfold isPl
  rw [within_yes (by decide) (by decide), Bool.true_and]
  exact decide_eq_true (show (0 : Int) = 0 ∨ (0 : Int) ∈ pos (flatSt vs cs) from .inl rfl)
theorem it_place {vs : List Int} {cs : List (Int × Int)} (ov : OkVs vs) (oc : OkCs cs) {p j : Int} (hp : isPl vs cs (.int p) = true) : ∀ {k : Nat}, it (iGet cs) p k = some j → isPl vs cs (.int j) = true
  | 0, h => by cases h; exact hp
  | k + 1, h => by
    have h : (it (iGet cs) p k).bind (iGet cs) = some j := h
    cases e : it (iGet cs) p k with
    | none => rw [e] at h; cases h
    | some z =>
      rw [e] at h
      have h : iGet cs z = some j := h
      exact flat_place ov oc (flat_mem.2 _ ((iGet_mem (keys_nd oc.srt)).mp h)).2
theorem known_place {vs : List Int} {cs : List (Int × Int)} {ns : List Int} (hs : SortedOf (pos (flatSt vs cs)) ns) {r : Int} (r0 : 0 ≤ r) (r1 : r < ((0 :: ns).length : Int)) : ∃ x, L2.atI ((0 :: ns).map PyData.int) r = some (.int x) ∧ (x = 0 ∨ x ∈ flatSt vs cs) := by
  obtain ⟨j, rfl⟩ : ∃ j : Nat, r = (j : Int) := ⟨r.toNat, by omega⟩
  have hj : j < (0 :: ns).length := by omega
  refine ⟨(0 :: ns)[j], atI_of rfl (by rw [List.getElem?_map, List.getElem?_eq_getElem hj]; rfl), ?_⟩
  rcases List.mem_cons.mp (List.getElem_mem hj) with h | h
  · exact .inl h
  · exact .inr (List.mem_filter.mp ((hs.2.1 _).mp h)).1
theorem small_opt (o : Option Int) (n : Nat) : Small (optD o) n 1 := by
  cases o with
  | none => exact ⟨by simp [optD, plainD], by simp [optD, PyData.depth], by simp [optD, nd]⟩
  | some x => exact small_int x n
theorem own_len {vs : List Int} {cs : List (Int × Int)} {ns : List Int} (hs : SortedOf (pos (flatSt vs cs)) ns) : ns.length ≤ vs.length + 2 * cs.length := by
  have nd : ns.Nodup := hs.1.imp fun h => Int.ne_of_lt h
  have := nodup_len ns (flatSt vs cs) nd fun x hx => (List.mem_filter.mp ((hs.2.1 x).mp hx)).1
  unfold flatSt at this
  rw [List.length_append, flatCs_len] at this
  omega
def c_law_right : Ct := fun rs Q _ => ∃ vs cs p, rs = [.g, .s (stD vs cs), .s (.int p)] ∧ OkVs vs ∧ OkCs cs ∧ isPl vs cs (.int p) = true ∧ Q (.s (.bool true))
theorem guard_go {cl : Ad} {vs : List Int} {cs : List (Int × Int)} {p : Int} {E : Value → Prop} {G : List Int → List (Int × Int) → Int → Prop} (ov : OkVs vs) (oc : OkCs cs) (hp : isPl vs cs (.int p) = true) (g : G vs cs p) : guardP cl (stD vs cs) (.int p) E G := by
  unfold guardP
  rw [if_pos (isSt_ok ov oc)]
  intro vs' cs' e _ _
  obtain ⟨rfl, rfl⟩ := stD_inj e
  rw [if_pos hp]
  rintro i e
  cases e
  exact g
theorem d_law_right {K : Frag} {cl : Ad} : ∀ rs Q E, c_law_right rs Q E → w_law_right K cl (c_trail cl) (c_place_behind cl) (c_steps_to cl) c_pick c_same (c_places false) c_law_walk c_law_behind c_law_trail_due (rho N_law_right.length rs) { nx := fun _ => Q (.s .none), rt := Q, er := fun cls _ => E cls } := by
  rintro rs Q E ⟨vs, cs, p, rfl, ov, oc, hp, q⟩
  have cp : CPow 10 9 := by unfold CPow; decide
  have lt9 : ((10 : Int) ^ (9 : Int).toNat) = 1000000000 := by decide
  have ol := ov.few
  have cl' := oc.few
  have W := wkL_wk cs p
  obtain ⟨x, e1, e2, e3⟩ := W.last
  have l0 := W.l0
  have l1 := W.l1
  have all := fun (j : Int) (k : Nat) => wk_all (cs := cs) (p := p) (j := j) (k := k)
  obtain ⟨w, ew⟩ : ∃ w, w = wkL cs p := ⟨_, rfl⟩
  rw [← ew] at W e1 e2 e3 l0 l1 all
  unfold w_law_right
  rw [show stD vs cs = .tuple [.tuple (vs.map PyData.int), .tuple (cs.map prD)] from rfl]
  walk_at "dy"
  rw [show PyData.tuple [.tuple (vs.map PyData.int), .tuple (cs.map prD)] = stD vs cs from rfl]
  refine ⟨_, pairsK_cs cs, ?_⟩
  rw [dict_cs (keys_nd oc.srt)]
  refine ⟨vs, cs, rfl, ol, by omega, fun ns hs => ?_⟩
  walk_at "dy"
  have nl := own_len hs
  refine ⟨by rw [List.length_map]; omega, ?_⟩
  unfold w_law_right_t9
  walk_at "dy"
  refine ⟨cs, p, rfl, by omega, ?_⟩
  rw [← ew]
  walk_at "dy"
  unfold w_law_right_t8
  walk_at "dy"
  refine ⟨_, _, rfl, guard_go ov oc hp fun e he => ?_⟩
  walk_at "dy"
  refine ⟨cs, p, rfl, by omega, fun e' he' => ?_⟩
  rw [he] at he'
  cases he'
  walk_at "dy"
  have tl := trL_len cs p
  refine same_go (((small_tup (n := 1) (c := 4001) fun x hx => ?_).up (n' := 3) (c' := 10000) (by decide) (by simp))) (by decide) (by decide) ?_
  · rw [List.mem_cons, List.mem_singleton] at hx
    rcases hx with rfl | rfl
    · exact small_ints _ (by omega)
    · exact (small_int _ 1).up (Nat.le_refl _) (by decide)
  walk_at "dy"
  unfold w_law_right_t7
  walk_at "dy"
  rw [lt9]
  refine ⟨by decide, by decide, fun c1 c10 c11 => ⟨cp, by decide, by decide, fun c2 c20 c21 => ⟨cp, ?_⟩⟩⟩
  unfold w_law_right_t6
  walk_at "dy"
  simp only [List.length_map]
  obtain ⟨L, eL⟩ : ∃ L : List Int, L = [0, 1, (w.length : Int) - 1, (w.length : Int), c1, c2, 1000000000] := ⟨_, rfl⟩
  have hL : ∀ c ∈ L, 0 ≤ c ∧ c ≤ 1000000000 := by
    intro c hc
    rw [eL] at hc
    simp only [List.mem_cons, List.not_mem_nil, or_false] at hc
    omega
  rw [show [PyData.int 0, .int 1, .int ((w.length : Int) - 1), .int (w.length : Int), .int c1, .int c2, .int 1000000000] = L.map PyData.int by rw [eL]; rfl]
  refine for_go (fun i (ρ : Rho) => ∃ v7, ρ = [some .g, some (.s (stD vs cs)), some (.s (.int p)), some (.k true (iK cs)), some (.l true (PyData.int 0 :: List.map PyData.int ns)), some (.l true (w.map PyData.int)), some (.s (.list (L.map PyData.int))), v7, none, none]) ⟨_, rfl⟩ ?_ ?_
  · rintro i d ρ hd ⟨v7, rfl⟩
    obtain ⟨c, hc, rfl⟩ := int_at hd
    obtain ⟨c0, c9⟩ := hL c (List.mem_of_getElem? hc)
    obtain ⟨k, rfl⟩ : ∃ k : Nat, c = (k : Int) := ⟨c.toNat, by omega⟩
    walk_at "dy"
    unfold w_law_right_b1
    walk_at "dy"
    refine ⟨_, _, _, rfl, guard_go ov oc hp ?_⟩
    rw [if_pos (within_yes c0 c9)]
    intro k' ek
    have ek : k = k' := by injection ek with ek; omega
    subst ek
    walk_at "dy"
    refine ⟨cs, p, k, rfl, by omega, c9, ?_⟩
    walk_at "dy"
    refine same_go (small_opt _ 0) (by decide) (by decide) ?_
    walk_at "dy"
  · rintro ρ ⟨v7, rfl⟩
    walk_at "dy"
    unfold w_law_right_t5
    walk_at "dy"
    simp only [List.length_map]
    refine ⟨by omega, by omega, fun r1 r10 r11 => ?_⟩
    obtain ⟨y1, ey1, h1⟩ := known_place hs r10 (by rw [List.length_cons]; exact r11)
    refine ⟨_, ey1, by omega, by omega, fun r2 r20 r21 => ?_⟩
    obtain ⟨y2, ey2, h2⟩ := known_place hs r20 (by rw [List.length_cons]; exact r21)
    refine ⟨_, ey2, _, ints_last l0 e3, ?_⟩
    have pl : ∀ y, (y = 0 ∨ y ∈ flatSt vs cs) → isPl vs cs (.int y) = true := fun y h => h.elim (fun e => e ▸ zero_place vs cs) (flat_place ov oc)
    obtain ⟨O, eO⟩ : ∃ O : List Int, O = [p, y1, y2, x] := ⟨_, rfl⟩
    have hO : ∀ o ∈ O, isPl vs cs (.int o) = true := by
      intro o ho
      rw [eO] at ho
      simp only [List.mem_cons, List.not_mem_nil, or_false] at ho
      rcases ho with rfl | rfl | rfl | rfl
      · exact hp
      · exact pl _ h1
      · exact pl _ h2
      · exact it_place ov oc hp e1
    rw [show [PyData.int p, .int y1, .int y2, .int x] = O.map PyData.int by rw [eO]; rfl]
    refine for_go (fun i (ρ : Rho) => ∃ v8 v9, ρ = [some .g, some (.s (stD vs cs)), some (.s (.int p)), some (.k true (iK cs)), some (.l true (PyData.int 0 :: List.map PyData.int ns)), some (.l true (w.map PyData.int)), some (.s (.list (L.map PyData.int))), v7, v8, v9]) ⟨_, _, rfl⟩ ?_ ?_
    · rintro i d ρ hd ⟨v8, v9, rfl⟩
      obtain ⟨o, ho, rfl⟩ := int_at hd
      have po := hO o (List.mem_of_getElem? ho)
      walk_at "dy"
      unfold w_law_right_b3
      walk_at "dy"
      refine ⟨flat_ints w, ?_⟩
      rw [inD_ints]
      by_cases hm : o ∈ w
      · rw [if_pos (decide_eq_true hm)]
        obtain ⟨b, hb, eb⟩ := List.getElem_of_mem hm
        have eb' : w[b]? = some o := by rw [List.getElem?_eq_getElem hb, eb]
        have dec : ∀ k : Nat, (w[k]? = some o) ∨ ¬ (w[k]? = some o) := fun k => Classical.em _
        obtain ⟨a, _, ab, ea, fa⟩ := first_from dec b 0 (by rw [Nat.zero_add]; exact eb')
        refine ind_ints ea (fun m hm => fa m (Nat.zero_le _) hm) ?_
        walk_at "dy"
        unfold w_law_right_t2
        walk_at "dy"
        refine ⟨_, _, _, rfl, guard_go ov oc hp ?_⟩
        rw [if_pos po]
        intro j ej
        have ej : o = j := by injection ej
        subst ej
        have ia : it (iGet cs) p a = some o := by rw [← W.i a (by omega), ea]
        refine ⟨fun k hk first => ?_, fun no => absurd ia (no a)⟩
        have ka : k = a := by
          rcases Nat.lt_trichotomy k a with h | h | h
          · exact absurd (by rw [W.i k (by omega), hk]) (fa k (Nat.zero_le _) h)
          · exact h
          · exact absurd ia (first a h)
        subst ka
        walk_at "dy"
        refine same_go (small_int _ 0) (by decide) (by decide) ?_
        walk_at "dy"
        exact ⟨_, _, rfl, rfl⟩
      · rw [if_neg (by simpa using hm)]
        walk_at "dy"
        unfold w_law_right_t2
        walk_at "dy"
        refine ⟨_, _, _, rfl, guard_go ov oc hp ?_⟩
        rw [if_pos po]
        intro j ej
        have ej : o = j := by injection ej
        subst ej
        refine ⟨fun k hk _ => ?_, fun _ => ?_⟩
        · obtain ⟨m, h1, h2, h3⟩ := all o k hk
          rw [← W.i m h1] at h3
          exact absurd (List.mem_of_getElem? h3) hm
        · walk_at "dy"
          refine same_go (small_opt none 0) (by decide) (by decide) ?_
          walk_at "dy"
          exact ⟨_, _, rfl, rfl⟩
    · rintro ρ ⟨v8, v9, rfl⟩
      walk_at "dy"
      unfold w_law_right_t4
      walk_at "dy"
      exact q

/-! a long state -/
theorem odd_prime : ∀ s, s < 490 → Nat.gcd 1009 (1 + 2 * s) = 1 := by decide +kernel
def rowAt (s k : Nat) : Nat := 1 + ((1 + 2 * s) * (k * 151 + 7)) % 1009
theorem row_ne {s : Nat} (hs : s < 490) {j k : Nat} (jk : j < k) (hk : k < 151) : rowAt s j ≠ rowAt s k := by
  intro e
  unfold rowAt at e
  have e : ((1 + 2 * s) * (j * 151 + 7)) % 1009 = ((1 + 2 * s) * (k * 151 + 7)) % 1009 := by omega
  have d : 1009 ∣ (1 + 2 * s) * (151 * (k - j)) := by
    have h : (1 + 2 * s) * (k * 151 + 7) = (1 + 2 * s) * (j * 151 + 7) + (1 + 2 * s) * (151 * (k - j)) := by
      rw [← Nat.mul_add]
      congr 1
      omega
    omega
  have d2 : 1009 ∣ 151 * (k - j) := Nat.Coprime.dvd_of_dvd_mul_left (odd_prime s hs) d
  have d3 : 1009 ∣ k - j := Nat.Coprime.dvd_of_dvd_mul_left (show Nat.gcd 1009 151 = 1 by decide) d2
  have := Nat.le_of_dvd (by omega) d3
  omega
theorem row_cast (s k : Nat) : (1 : Int) + (1 + 2 * (s : Int)) * ((k : Int) * 151 + 7) % 1009 = ((rowAt s k : Nat) : Int) := by
  unfold rowAt
  push_cast
  rfl
def rowL (s n : Nat) : List Int := (List.range n).map fun (j : Nat) => ((rowAt s j : Nat) : Int)
theorem rowL_len (s n : Nat) : (rowL s n).length = n := by simp [rowL]
theorem rowL_get {s n k : Nat} (h : k < n) : (rowL s n)[k]? = some ((rowAt s k : Nat) : Int) := by
  unfold rowL
  rw [List.getElem?_map, List.getElem?_range h]
  rfl
theorem rowL_at {s n k : Nat} {i : Int} (hi : i = (k : Int)) (h : k < n) : L2.atI ((rowL s n).map PyData.int) i = some (.int ((rowAt s k : Nat) : Int)) := atI_of hi (by rw [List.getElem?_map, rowL_get h]; rfl)
theorem rowAt_rng (s k : Nat) : 1 ≤ rowAt s k ∧ rowAt s k ≤ 1009 := by
  unfold rowAt
  have := Nat.mod_lt ((1 + 2 * s) * (k * 151 + 7)) (show 0 < 1009 by decide)
  omega
def lnk (s : Nat) (k : Nat) : Int × Int := (((rowAt s k : Nat) : Int), ((rowAt s (k + 1) : Nat) : Int))
def lnks (s n : Nat) : List (Int × Int) := (List.range n).map (lnk s)
def longCs (s n r : Nat) : List (Int × Int) := sortP (lnks s n ++ [(((rowAt s n : Nat) : Int), ((rowAt s r : Nat) : Int))])
theorem rows_nd {s n : Nat} (hs : s < 490) (hn : n ≤ 151) : (rowL s n).Nodup := by
  unfold rowL
  rw [List.Nodup, List.pairwise_map]
  have h : (List.range n).Pairwise fun a b => a < b ∧ b < 151 := by
    have h1 : (List.range n).Pairwise (· < ·) := List.pairwise_lt_range
    have h2 : (List.range n).Pairwise fun _ b => b < 151 := List.pairwise_of_forall_mem_list fun a _ b hb => by have := List.mem_range.mp hb; omega
    exact (h1.and h2)
  exact h.imp fun ⟨a, b⟩ e => row_ne hs a b (Int.ofNat.inj e)
theorem long_keys (s n r : Nat) : keysI (lnks s n ++ [(((rowAt s n : Nat) : Int), ((rowAt s r : Nat) : Int))]) = rowL s (n + 1) := by
  unfold keysI lnks rowL
  rw [List.map_append, List.map_map, List.range_succ, List.map_append]
  rfl
theorem long_ok {s n r : Nat} (hs : s < 490) (hn : n < 150) : OkCs (longCs s n r) ∧ (longCs s n r).length = n + 1 := by
  have pm := sortP_perm (lnks s n ++ [(((rowAt s n : Nat) : Int), ((rowAt s r : Nat) : Int))])
  have ln : (longCs s n r).length = n + 1 := by
    unfold longCs
    rw [pm.length_eq]
    simp [lnks]
  refine ⟨⟨by omega, fun p hp => ?_, sortP_srt (by rw [long_keys]; exact rows_nd hs (by omega))⟩, ln⟩
  have := pm.mem_iff.mp hp
  rcases List.mem_append.mp this with h | h
  · obtain ⟨k, _, rfl⟩ := List.mem_map.mp h
    have := rowAt_rng s k
    have := rowAt_rng s (k + 1)
    unfold lnk
    omega
  · rw [List.mem_singleton.mp h]
    have := rowAt_rng s n
    have := rowAt_rng s r
    dsimp only
    omega
def c_law_long : Ct := fun rs Q _ => rs = [.g] ∧ ∀ x cs, OkVs [x] → OkCs cs → 100 ≤ cs.length → Q (.s (stD [x] cs))
theorem d_law_long {K : Frag} {cl : Ad} : ∀ rs Q E, c_law_long rs Q E → w_law_long K cl c_pick (rho N_law_long.length rs) { nx := fun _ => Q (.s .none), rt := Q, er := fun cls _ => E cls } := by
  rintro rs Q E ⟨rfl, q⟩
  unfold w_law_long
  walk_at "dy"
  refine ⟨by decide, by decide, fun c c0 c1 => ⟨by decide, by decide, fun s s0 s1 => ⟨.inr ⟨by omega, by omega⟩, by omega, by omega, ?_⟩⟩⟩
  obtain ⟨n, rfl⟩ : ∃ n : Nat, c = (n : Int) := ⟨c.toNat, by omega⟩
  obtain ⟨s', rfl⟩ : ∃ n : Nat, s = (n : Int) := ⟨s.toNat, by omega⟩
  rw [show (100 : Int) + n = ((100 + n : Nat) : Int) by omega]
  have hs : s' < 490 := by omega
  obtain ⟨m, em⟩ : ∃ m, m = 99 + n := ⟨_, rfl⟩
  rw [show 100 + n = m + 1 by omega]
  refine lc_go (fun k => (rowL s' k).map PyData.int) rfl (fun k d hd => ?_) ?_
  · obtain ⟨rfl, hk⟩ := range0_at hd
    rw [gwN1]
    refine ⟨by simp, ?_⟩
    simp only [putA, wipeR, List.set_cons_succ, List.set_cons_zero]
    walk_at "dy"
    refine ⟨.inl ⟨by omega, by omega⟩, .inr ⟨by omega, by omega⟩, by decide, by rw [List.length_map, rowL_len]; omega, ?_⟩
    rw [row_cast]
    unfold rowL
    rw [range_succ_map, List.map_append]
    rfl
  rw [range_len, show (((m + 1 : Nat) : Int)).toNat = m + 1 by omega]
  walk_at "dy"
  rw [show ((m + 1 : Nat) : Int) - 1 = (m : Int) by omega]
  refine ⟨by omega, by omega, ?_⟩
  refine lc_go (fun k => (lnks s' k).map prD) rfl (fun k d hd => ?_) ?_
  · obtain ⟨rfl, hk⟩ := range0_at hd
    rw [gwN1]
    refine ⟨by simp, ?_⟩
    simp only [putA, wipeR, List.set_cons_succ, List.set_cons_zero]
    walk_at "dy"
    refine ⟨_, rowL_at rfl (by omega), _, rowL_at (k := k + 1) (by omega) (by omega), ?_⟩
    refine ⟨by simp [lnks]; omega, ?_⟩
    unfold lnks
    rw [range_succ_map, List.map_append]
    rfl
  rw [range_len, show ((m : Int)).toNat = m by omega]
  walk_at "dy"
  refine ⟨_, rowL_at (k := 0) rfl (by omega), _, rowL_at (k := m) rfl (by omega), by omega, by omega, fun r r0 r1 => ?_⟩
  obtain ⟨r', rfl⟩ : ∃ n : Nat, r = (n : Int) := ⟨r.toNat, by omega⟩
  have ea : (lnks s' m).map prD ++ [PyData.tuple [.int ((rowAt s' m : Nat) : Int), .int ((rowAt s' r' : Nat) : Int)]] = (lnks s' m ++ [(((rowAt s' m : Nat) : Int), ((rowAt s' r' : Nat) : Int))]).map prD := by
    rw [List.map_append]
    rfl
  refine ⟨_, rowL_at (k := r') rfl (by omega), by simp [lnks]; omega, ?_⟩
  rw [ea]
  refine ⟨srt_pr _ (by simp [lnks]; omega), ?_⟩
  rw [sortD_pr]
  obtain ⟨ok, ln⟩ := long_ok (s := s') (n := m) (r := r') hs (by omega)
  have rr := rowAt_rng s' 0
  unfold longCs at ok ln
  exact q _ _ ⟨by simp, fun v hv => by rw [List.mem_singleton.mp hv]; omega⟩ ok (by rw [ln]; omega)

/-! going on: wrong arguments -/
def RefOk (i : Int) (d p o : D) (w : Str) : Prop :=
  (0 ≤ i ∧ i ≤ 2) ∧
  ((isSt d = false ∧ w = "state") ∨
   (∃ vs cs, d = stD vs cs ∧ OkVs vs ∧ OkCs cs ∧ isPl vs cs p = false ∧ w = "place") ∨
   (i = 1 ∧ w = "count" ∧ ∃ vs cs j, d = stD vs cs ∧ OkVs vs ∧ OkCs cs ∧ p = .int j ∧ isPl vs cs p = true ∧ within o 0 1000000000 = false) ∨
   (i = 2 ∧ w = "other" ∧ ∃ vs cs j, d = stD vs cs ∧ OkVs vs ∧ OkCs cs ∧ p = .int j ∧ isPl vs cs p = true ∧ isPl vs cs o = false))
def c_law_refused : Ct := fun rs Q _ => ∃ i d p o w, rs = [.s (.int i), .s d, .s p, .s o] ∧ RefOk i d p o w ∧ Q (.s (.str w))
theorem guard_st {cl : Ad} {d p : D} {E : Value → Prop} {G : List Int → List (Int × Int) → Int → Prop} (h : isSt d = false) (e : E (.ref cl.c_BadState)) : guardP cl d p E G := by
  unfold guardP
  rw [if_neg (by rw [h]; decide)]
  exact e
theorem guard_pl {cl : Ad} {vs : List Int} {cs : List (Int × Int)} {p : D} {E : Value → Prop} {G : List Int → List (Int × Int) → Int → Prop} (ov : OkVs vs) (oc : OkCs cs) (h : isPl vs cs p = false) (e : E (.ref cl.c_BadPlace)) : guardP cl (stD vs cs) p E G := by
  unfold guardP
  rw [if_pos (isSt_ok ov oc)]
  intro vs' cs' e' _ _
  obtain ⟨rfl, rfl⟩ := stD_inj e'
  rw [if_neg (by rw [h]; decide)]
  exact e
theorem d_law_refused {K : Frag} {mg : Str → Option Value} {cl : Ad} (T : Txt K mg cl) : ∀ rs Q E, c_law_refused rs Q E → w_law_refused K cl (c_trail cl) (c_place_behind cl) (c_steps_to cl) (rho N_law_refused.length rs) { nx := fun _ => Q (.s .none), rt := Q, er := fun cls _ => E cls } := by
  rintro rs Q E ⟨i, d, p, o, w, rfl, ⟨⟨i0, i2⟩, h⟩, q⟩
  unfold w_law_refused
  walk_at "dy"
  rcases h with ⟨h, rfl⟩ | ⟨vs, cs, rfl, ov, oc, hp, rfl⟩ | ⟨rfl, rfl, vs, cs, j, rfl, ov, oc, rfl, hp, ho⟩ | ⟨rfl, rfl, vs, cs, j, rfl, ov, oc, rfl, hp, ho⟩
  · refine ite_both (fun _ => ⟨_, _, rfl, guard_st h ?_⟩) fun _ => ite_both (fun _ => ⟨_, _, _, rfl, guard_st h ?_⟩) fun _ => ⟨_, _, _, rfl, guard_st h ?_⟩
    all_goals
      simp only [wHand, T.e_BadState_BadState, Option.some.injEq, exists_eq_left', true_implies, Bool.true_eq_false, false_implies, and_true, Bool.false_eq_true, true_and]
      walk_at "dy"
      exact q
  · refine ite_both (fun _ => ⟨_, _, rfl, guard_pl ov oc hp ?_⟩) fun _ => ite_both (fun _ => ⟨_, _, _, rfl, guard_pl ov oc hp ?_⟩) fun _ => ⟨_, _, _, rfl, guard_pl ov oc hp ?_⟩
    all_goals
      simp only [wHand, T.e_BadPlace_BadState, T.e_BadPlace_BadPlace, Option.some.injEq, exists_eq_left', true_implies, Bool.true_eq_false, false_implies, and_true, Bool.false_eq_true, true_and]
      walk_at "dy"
      exact q
  · rw [if_neg (by decide), if_pos (by decide)]
    refine ⟨_, _, _, rfl, guard_go ov oc hp ?_⟩
    rw [if_neg (by rw [ho]; decide)]
    simp only [wHand, T.e_BadCount_BadState, T.e_BadCount_BadPlace, T.e_BadCount_BadOther, T.e_BadCount_BadCount, Option.some.injEq, exists_eq_left', true_implies, Bool.true_eq_false, false_implies, and_true, Bool.false_eq_true, true_and]
    walk_at "dy"
    exact q
  · rw [if_neg (by decide), if_neg (by decide)]
    refine ⟨_, _, _, rfl, guard_go ov oc hp ?_⟩
    rw [if_neg (by rw [ho]; decide)]
    simp only [wHand, T.e_BadOther_BadState, T.e_BadOther_BadPlace, T.e_BadOther_BadOther, Option.some.injEq, exists_eq_left', true_implies, Bool.true_eq_false, false_implies, and_true, Bool.false_eq_true, true_and]
    walk_at "dy"
    exact q
theorem sh_3s : Sh (.list [.str "state", .str "state", .str "state"]) := by unfold Sh; decide +kernel
theorem sh_3p : Sh (.list [.str "place", .str "place", .str "place"]) := by unfold Sh; decide +kernel
theorem sh_cnt : Sh (.str "count") := sh_of (by decide +kernel)
theorem sh_oth : Sh (.str "other") := sh_of (by decide +kernel)
theorem cp9 : CPow 10 9 := by unfold CPow; decide
def c_law_errors : Ct := fun rs Q _ => ∃ vs cs, rs = [.g, .s (stD vs cs)] ∧ OkVs vs ∧ OkCs cs ∧ Q (.s (.bool true))
theorem d_law_errors {K : Frag} {cl : Ad} : ∀ rs Q E, c_law_errors rs Q E → w_law_errors K cl c_pick (c_places false) c_law_refused (rho N_law_errors.length rs) { nx := fun _ => Q (.s .none), rt := Q, er := fun cls _ => E cls } := by
  rintro rs Q E ⟨vs, cs, rfl, ov, oc, q⟩
  have ol := ov.few
  have cl' := oc.few
  have cp20 : CPow 10 20 := by unfold CPow; decide
  have cp30 : CPow 10 30 := by unfold CPow; decide
  unfold w_law_errors
  walk_at "dy"
  refine ⟨vs, cs, rfl, ol, by omega, fun ns hs => ?_⟩
  have nl := own_len hs
  walk_at "dy"
  refine ⟨by rw [List.length_map]; omega, ?_⟩
  unfold w_law_errors_t6
  walk_at "dy"
  refine ⟨false, 0 :: ns, rfl, by simp, fun m hm top => ?_⟩
  walk_at "dy"
  refine ⟨cp20, by decide, by decide, fun r r0 r1 => ?_⟩
  have m0 : 0 ≤ m := top 0 List.mem_cons_self
  obtain ⟨wr, ewr, hwr⟩ : ∃ wr, L2.atI [PyData.int (-1), .int (m + 1), .int (10 ^ Int.toNat 20)] r = some wr ∧ isPl vs cs wr = false := by
    have : r = 0 ∨ r = 1 ∨ r = 2 := by omega
    rcases this with rfl | rfl | rfl
    · exact ⟨_, rfl, rfl⟩
    · refine ⟨_, rfl, ?_⟩
      rw [Bool.eq_false_iff]
      intro z
      unfold isPl at z
      rw [Bool.and_eq_true] at z
      have z := of_decide_eq_true (show decide (m + 1 = 0 ∨ m + 1 ∈ pos (flatSt vs cs)) = true from z.2)
      rcases z with z | z
      · omega
      · have := top _ (List.mem_cons_of_mem _ ((hs.2.1 _).mpr z))
        omega
    · exact ⟨_, rfl, rfl⟩
  refine ⟨wr, ewr, ?_⟩
  unfold w_law_errors_t5
  walk_at "dy"
  simp only [List.length_map]
  refine ⟨by omega, by omega, fun r2 a2 b2 => ?_⟩
  obtain ⟨pl, epl, hpl⟩ := known_place hs a2 (by rw [List.length_cons]; exact b2)
  refine ⟨_, epl, cp9, cp30, by decide, by decide, fun r3 a3 b3 => ?_⟩
  have hpl : isPl vs cs (.int pl) = true := hpl.elim (fun e => e ▸ zero_place vs cs) (flat_place ov oc)
  obtain ⟨ct, ect, hct⟩ : ∃ ct, L2.atI [PyData.int (-1), .int (10 ^ Int.toNat 9 + 1), .bool true, .int (-10 ^ Int.toNat 30)] r3 = some ct ∧ within ct 0 1000000000 = false := by
    have : r3 = 0 ∨ r3 = 1 ∨ r3 = 2 ∨ r3 = 3 := by omega
    rcases this with rfl | rfl | rfl | rfl <;> exact ⟨_, rfl, by decide +kernel⟩
  refine ⟨ct, ect, ?_⟩
  unfold w_law_errors_t4
  rw [show stD vs cs = .tuple [.tuple (vs.map PyData.int), .tuple (cs.map prD)] from rfl]
  walk_at "dy"
  rw [show PyData.tuple [.tuple (vs.map PyData.int), .tuple (cs.map prD)] = stD vs cs from rfl]
  refine ⟨by rw [List.length_map]; omega, by decide, by decide, fun r4 a4 b4 => ?_⟩
  obtain ⟨bad, ebad, hbad⟩ : ∃ bad, L2.atI [PyData.tuple [.tuple (vs.map PyData.int), .list (cs.map prD)], .tuple [.tuple (vs.map PyData.int ++ [.int (-1)]), .tuple (cs.map prD)], .none] r4 = some bad ∧ isSt bad = false := by
    have : r4 = 0 ∨ r4 = 1 ∨ r4 = 2 := by omega
    rcases this with rfl | rfl | rfl
    · refine ⟨_, rfl, ?_⟩
      rw [Bool.eq_false_iff]
      intro z
      obtain ⟨_, _, e, _⟩ := st_of z
      unfold stD at e
      simp at e
    · refine ⟨_, rfl, ?_⟩
      rw [Bool.eq_false_iff]
      intro z
      obtain ⟨vs', cs', e, ov', _⟩ := st_of z
      unfold stD at e
      simp only [PyData.tuple.injEq, List.cons.injEq, and_true] at e
      have mm : PyData.int (-1) ∈ vs'.map PyData.int := by rw [← e.1]; simp
      obtain ⟨v, hv, ev⟩ := List.mem_map.mp mm
      injection ev with ev
      have := (ov'.rng v hv).1
      omega
    · exact ⟨_, rfl, rfl⟩
  refine ⟨bad, ebad, ?_⟩
  unfold w_law_errors_t3
  walk_at "dy"
  refine ⟨by decide, by decide, lc_go (fun k => List.replicate k (PyData.str "state")) rfl (fun k x hd => ?_) ?_⟩
  · obtain ⟨rfl, hk⟩ := range0_at hd
    have hk3 : k < 3 := hk
    rw [gwN1]
    refine ⟨by simp, ?_⟩
    simp only [putA, wipeR, List.set_cons_succ, List.set_cons_zero]
    walk_at "dy"
    refine ⟨_, _, _, _, "state", rfl, ⟨⟨by omega, by omega⟩, .inl ⟨hbad, rfl⟩⟩, ?_⟩
    walk_at "dy"
    exact ⟨by simp; omega, List.replicate_succ'⟩
  have e3 : (rangeD 0 (Int.toNat 3)).length = 3 := rfl
  rw [e3, show List.replicate 3 (PyData.str "state") = [.str "state", .str "state", .str "state"] from rfl]
  walk_at "dy"
  rw [show (PyData.list [.str "state", .str "state", .str "state"]).eqv (PyData.list [.str "state", .str "state", .str "state"]) = true by decide +kernel]
  refine ⟨sh_3s, sh_3s, ?_⟩
  unfold w_law_errors_t2
  walk_at "dy"
  refine ⟨by decide, by decide, lc_go (fun k => List.replicate k (PyData.str "place")) rfl (fun k x hd => ?_) ?_⟩
  · obtain ⟨rfl, hk⟩ := range0_at hd
    have hk3 : k < 3 := hk
    rw [gwN1]
    refine ⟨by simp, ?_⟩
    simp only [putA, wipeR, List.set_cons_succ, List.set_cons_zero]
    walk_at "dy"
    refine ⟨_, _, _, _, "place", rfl, ⟨⟨by omega, by omega⟩, .inr (.inl ⟨vs, cs, rfl, ov, oc, hwr, rfl⟩)⟩, ?_⟩
    walk_at "dy"
    exact ⟨by simp; omega, List.replicate_succ'⟩
  rw [e3, show List.replicate 3 (PyData.str "place") = [.str "place", .str "place", .str "place"] from rfl]
  walk_at "dy"
  rw [show (PyData.list [.str "place", .str "place", .str "place"]).eqv (PyData.list [.str "place", .str "place", .str "place"]) = true by decide +kernel]
  refine ⟨sh_3p, sh_3p, ?_⟩
  unfold w_law_errors_t1
  walk_at "dy"
  refine ⟨_, _, _, _, "count", rfl, ⟨⟨by decide, by decide⟩, .inr (.inr (.inl ⟨rfl, rfl, vs, cs, pl, rfl, ov, oc, rfl, hpl, hct⟩))⟩, ?_⟩
  walk_at "dy"
  trace_state
  refine ⟨sh_cnt, sh_cnt, ?_⟩
  refine ⟨_, _, _, _, "other", rfl, ⟨⟨by decide, by decide⟩, .inr (.inr (.inr ⟨rfl, rfl, vs, cs, pl, rfl, ov, oc, rfl, hpl, hwr⟩))⟩, ?_⟩
  walk_at "dy"
  exact ⟨sh_oth, sh_oth, q⟩

theorem keys_own {vs : List Int} {cs : List (Int × Int)} (oc : OkCs cs) {ns : List Int} (hs : SortedOf (pos (flatSt vs cs)) ns) : cs.length ≤ ns.length := by
  rw [← keysI_len]
  refine nodup_len _ _ (keys_nd oc.srt) fun x hx => (hs.2.1 x).mpr ?_
  obtain ⟨p, hp, rfl⟩ := List.mem_map.mp hx
  have := oc.rng p hp
  exact List.mem_filter.mpr ⟨(flat_mem.2 p hp).1, decide_eq_true (by omega)⟩
theorem d_law {K : Frag} {mg : Str → Option Value} {cl : Ad} (T : Txt K mg cl) (ns : List Int) (hns : ns.length ≤ 63) :
    w_law K cl c_pick (c_places false) (c_law_made 12) c_law_scattered c_law_long c_law_right c_law_errors
      (some (.s (.list (ns.map PyData.int))) :: some .g :: List.replicate (N_law.length - 2) none) { nx := fun _ => False, rt := fun r => r = .s (.bool true) } := by
  unfold w_law
  walk_at "dy"
  refine ⟨by split <;> omega, by split <;> omega, ?_⟩
  refine for_go (fun i (ρ : Rho) => ∃ v2 v3 v4 v5, ρ = [some (.s (.list (ns.map PyData.int))), some .g, v2, v3, v4, v5]) ⟨_, _, _, _, rfl⟩ ?_ ?_
  · rintro i d ρ hd ⟨v2, v3, v4, v5, rfl⟩
    obtain ⟨rfl, _⟩ := range0_at hd
    walk_at "dy"
    unfold w_law_b2
    walk_at "dy"
    refine ⟨by decide, by decide, fun m m0 m1 => ⟨by decide, by decide, fun ex ex0 ex1 => ?_⟩⟩
    refine ⟨m, ex, rfl, by decide, m0, by omega, ex0, by omega, fun vs0 cs0 M => ?_⟩
    walk_at "dy"
    refine ⟨m, 12, vs0, cs0, rfl, M, by omega, by decide, fun vs cs S => ?_⟩
    walk_at "dy"
    have ov := S.ov
    have oc := S.oc
    have ol := ov.few
    have cl' := oc.few
    refine ⟨vs, cs, rfl, ol, by omega, fun own hs => ?_⟩
    have nl := own_len hs
    walk_at "dy"
    simp only [List.length_map]
    refine ⟨by omega, by omega, by omega, fun r r0 r1 => ?_⟩
    obtain ⟨y, ey, hy⟩ := known_place hs r0 (by rw [List.length_cons]; exact r1)
    have cn := cutD_len ((0 :: own).map PyData.int) none (some 9)
    rw [List.length_map, List.length_cons] at cn
    refine ⟨_, ey, by show (DL.cutD ((0 :: own).map PyData.int) none (some 9)).length ≤ 16777215; omega, ?_⟩
    have pl : ∀ d ∈ DL.cutD ((0 :: own).map PyData.int) none (some 9) ++ [PyData.int y], ∃ z, d = .int z ∧ isPl vs cs (.int z) = true := by
      intro d hd
      rcases List.mem_append.mp hd with hd | hd
      · obtain ⟨z, hz, rfl⟩ := List.mem_map.mp (mem_cutD hd)
        refine ⟨z, rfl, ?_⟩
        rcases List.mem_cons.mp hz with rfl | hz
        · exact zero_place vs cs
        · exact flat_place ov oc (List.mem_filter.mp ((hs.2.1 _).mp hz)).1
      · refine ⟨y, List.mem_singleton.mp hd, ?_⟩
        rcases hy with rfl | hy
        · exact zero_place vs cs
        · exact flat_place ov oc hy
    show forQ _ _ _ _ (DL.cutD ((0 :: own).map PyData.int) none (some 9) ++ [PyData.int y])
    generalize DL.cutD ((0 :: own).map PyData.int) none (some 9) ++ [PyData.int y] = ds at pl ⊢
    refine for_go (fun _ (ρ : Rho) => ∃ v2 v4 v5, ρ = [some (.s (.list (ns.map PyData.int))), some .g, v2, some (.s (stD vs cs)), v4, v5]) ⟨_, _, _, rfl⟩ ?_ ?_
    · rintro i d ρ hd ⟨v2, v4, v5, rfl⟩
      obtain ⟨z, rfl, hz⟩ := pl d (List.mem_of_getElem? hd)
      walk_at "dy"
      unfold w_law_b1
      walk_at "dy"
      refine ⟨vs, cs, z, rfl, ov, oc, hz, ?_⟩
      walk_at "dy"
      exact ⟨_, _, _, rfl, rfl, rfl⟩
    · rintro ρ ⟨v2, v4, v5, rfl⟩
      walk_at "dy"
      refine ⟨vs, cs, rfl, ov, oc, ?_⟩
      walk_at "dy"
      exact ⟨_, _, _, _, rfl, rfl, rfl, rfl⟩
  · rintro ρ ⟨v2, v3, v4, v5, rfl⟩
    walk_at "dy"
    refine ⟨rfl, fun x cs ov oc l100 => ?_⟩
    rw [show stD [x] cs = .tuple [.tuple [.int x], .tuple (cs.map prD)] from rfl]
    walk_at "dy"
    rw [show PyData.tuple [.tuple [.int x], .tuple (cs.map prD)] = stD [x] cs from rfl]
    have cl' := oc.few
    refine ⟨[x], cs, x, rfl, ov, oc, flat_place ov oc (flat_mem.1 x List.mem_cons_self), ?_⟩
    walk_at "dy"
    refine ⟨[x], cs, rfl, by simp, by omega, fun own hs => ?_⟩
    have ko := keys_own oc hs
    walk_at "dy"
    refine ⟨by decide, by decide, fun r r0 r1 => ?_⟩
    obtain ⟨j, rfl⟩ : ∃ j : Nat, r = (j : Int) := ⟨r.toNat, by omega⟩
    have hj : j < own.length := by omega
    refine ⟨.int own[j], atI_of rfl (by rw [List.getElem?_map, List.getElem?_eq_getElem hj]; rfl), [x], cs, _, rfl, ov, oc, flat_place ov oc (List.mem_filter.mp ((hs.2.1 _).mp (List.getElem_mem hj))).1, ?_⟩
    rfl

local macro_rules | `(tactic| walk_at "hx") => `(tactic| (intro h; first | (obtain ⟨e, _⟩ := h; cases e; rfl) | (refine Or.elim h ?_ ?_ <;> walk_at "hx") | (obtain ⟨_, h1⟩ := h; revert h1; walk_at "hx")))
local macro_rules | `(tactic| walk_at "hl") => `(tactic| (intro rs Q E; walk_at "hx"))
theorem all_ok {P : Program} {wd : World} {K : Frag} {mg : Str → Option Value} {base : Heap} {cl : Ad} (T : Txt K mg cl) : FnOk P wd K mg base CX0 11 cl.f_law cl.d_law P_law (spLaw K) := by
  have G_law_pick := ok_law_pick (P := P) (wd := wd) (base := base) T
  have G_is_int := ok_is_int (P := P) (wd := wd) (base := base) T (k := 0) (by walk_at "hl") (d_is_int)
  have G_within := ok_within (P := P) (wd := wd) (base := base) T (k := 1) G_is_int (by decide) (by walk_at "hl") (d_within)
  have G_is_row := ok_is_row (P := P) (wd := wd) (base := base) T (k := 0) (by walk_at "hl") (d_is_row)
  have G_is_cell := ok_is_cell (P := P) (wd := wd) (base := base) T (k := 2) G_within (by decide) G_is_row (by decide) (by walk_at "hl") (d_is_cell)
  have G_are_cells := ok_are_cells (P := P) (wd := wd) (base := base) T (k := 3) G_is_row (by decide) G_is_cell (by decide) (by walk_at "hl") (d_are_cells)
  have G_is_state_of := ok_is_state_of (P := P) (wd := wd) (base := base) T (k := 4) G_within (by decide) G_is_row (by decide) G_are_cells (by decide) (by walk_at "hl") (d_is_state_of)
  have G_need_state := ok_need_state (P := P) (wd := wd) (base := base) T (k := 5) G_is_state_of (by decide) (by walk_at "hl") (d_need_state)
  have G_places_of := ok_places_of (P := P) (wd := wd) (base := base) T (k := 0) (by walk_at "hl") (d_places_of)
  have G_reached_by := ok_reached_by (P := P) (wd := wd) (base := base) T (k := 0) (by walk_at "hl") (d_reached_by)
  have G_is_place := ok_is_place (P := P) (wd := wd) (base := base) T (k := 2) G_within (by decide) G_places_of (by decide) (by walk_at "hl") (d_is_place)
  have G_need_place := ok_need_place (P := P) (wd := wd) (base := base) T (k := 6) G_need_state (by decide) G_is_place (by decide) (by walk_at "hl") (d_need_place)
  have G_trail_in := ok_trail_in (P := P) (wd := wd) (base := base) T (k := 1) G_reached_by (by decide) (by walk_at "hl") (d_trail_in)
  have G_trail := ok_trail (P := P) (wd := wd) (base := base) T (k := 7) G_need_place (by decide) G_trail_in (by decide) (by walk_at "hl") (d_trail)
  have G_place_behind := ok_place_behind (P := P) (wd := wd) (base := base) T (k := 7) G_within (by decide) G_need_place (by decide) G_trail_in (by decide) (by walk_at "hl") (d_place_behind)
  have G_steps_to := ok_steps_to (P := P) (wd := wd) (base := base) T (k := 7) G_is_place (by decide) G_need_place (by decide) G_trail_in (by decide) (by walk_at "hl") (d_steps_to)
  have G_law_same := ok_law_same (P := P) (wd := wd) (base := base) T (k := 0) (by walk_at "hl") (d_law_same)
  have G_law_places := ok_law_places (P := P) (wd := wd) (base := base) T (k := 0) (by walk_at "hl") (d_law_places)
  have G_law_made := ok_law_made (P := P) (wd := wd) (base := base) T (k := 1) G_law_pick (by decide) (by walk_at "hl") (d_law_made 12)
  have G_law_by := ok_law_by (P := P) (wd := wd) (base := base) T (k := 0) (by walk_at "hl") (d_law_by)
  have G_law_scattered := ok_law_scattered (P := P) (wd := wd) (base := base) T (k := 1) G_law_pick (by decide) G_law_places (by decide) G_law_by (by decide) (by walk_at "hl") (d_law_scattered)
  have G_law_long := ok_law_long (P := P) (wd := wd) (base := base) T (k := 1) G_law_pick (by decide) (by walk_at "hl") (d_law_long)
  have G_law_walk := ok_law_walk (P := P) (wd := wd) (base := base) T (k := 0) (by walk_at "hl") (d_law_walk)
  have G_law_behind := ok_law_behind (P := P) (wd := wd) (base := base) T (k := 1) G_law_walk (by decide) (by walk_at "hl") (d_law_behind)
  have G_law_trail_due := ok_law_trail_due (P := P) (wd := wd) (base := base) T (k := 1) G_law_walk (by decide) (by walk_at "hl") (d_law_trail_due)
  have G_law_refused := ok_law_refused (P := P) (wd := wd) (base := base) T (k := 8) G_trail (by decide) G_place_behind (by decide) G_steps_to (by decide) (by walk_at "hl") (d_law_refused T)
  have G_law_right := ok_law_right (P := P) (wd := wd) (base := base) T (k := 8) G_trail (by decide) G_place_behind (by decide) G_steps_to (by decide) G_law_pick (by decide) G_law_same (by decide) G_law_places (by decide) G_law_walk (by decide) G_law_behind (by decide) G_law_trail_due (by decide) (by walk_at "hl") (d_law_right)
  have G_law_errors := ok_law_errors (P := P) (wd := wd) (base := base) T (k := 9) G_law_pick (by decide) G_law_places (by decide) G_law_refused (by decide) (by walk_at "hl") (d_law_errors)
  exact ok_law (P := P) (wd := wd) (base := base) T (k := 10) (by decide) G_law_pick (by decide) G_law_places (by decide) G_law_made (by decide) G_law_scattered (by decide) G_law_long (by decide) G_law_right (by decide) G_law_errors (by decide) (d_law T)
theorem all_mk {P : Program} {wd : World} {K : Frag} {mg : Str → Option Value} {cl : Ad} (e : cl.f_law = cl.f_law) (T : Txt K mg cl) {fa : Addr} (hfa : mg "law" = some (.ref fa)) :
    ∃ fd : FuncData, (∀ (s : Shared) (v : Value), BindsTo s fd ⟨[v], []⟩ [("script", v)]) ∧ ∀ base : Heap, K.In base → base.Ns mainGlobals mg → FnOk P wd K mg base CX0 11 fa fd ["script"] (spLaw K) := by
  have z := hfa.symm.trans T.m_law
  cases z
  refine ⟨cl.d_law, ?_, fun base _ _ => all_ok T⟩
  obtain ⟨⟨_, _, _, _, _, _, _, _, _, e, _⟩, _⟩ := T.F_law
  rw [e]
  exact fun s v => .of_eq rfl
theorem walk {l : PySem.W.OpenLaw} {q : Program} {loose : List Str} {XP : (Str → Option Value) → Heap → Prop} {YP : World → Heap → Prop} {d : DefRec} {K : Params → PySem.W.Frag} (hn : l.most = some 63) (hdf : d.params.defaults = [])
    (hY : ∀ (w : World) (h : Heap), YP w h → (K w.params).In h)
    (F : ∀ (w : World) (mg : Str → Option Value) (fa : Addr) (h : Heap), (K w.params).In h → h.Ns mainGlobals mg → mg d.name = some (.ref fa) →
      ∃ fd : FuncData, (∀ (s : Shared) (u : Value), BindsTo s fd ⟨[u], []⟩ [("script", u)]) ∧ ∀ base : Heap, (K w.params).In base → base.Ns mainGlobals mg → FnOk l.prog w (K w.params) mg base CX0 11 fa fd ["script"] (spLaw (K w.params))) :
    PySem.W.WalkO q loose XP YP l.row.toRowW d [] (fun f vs => PySem.call f vs) :=
  L2.walk_of (n := 63) (k := 11) (x := "script") (CX := fun _ => CX0) (sp := fun w => spLaw (K w.params)) hn (by decide) hdf ⟨rfl, by decide, by decide⟩ hY F (fun _ _ a ns hl _ hS => ⟨a, ns, rfl, hS, hl, fun _ => rfl⟩) fun _ _ _ _ _ z => z

end LK
open PySem PySem.W PyProof.Rows in
set_option maxRecDepth 100000 in
set_option maxHeartbeats 0 in
theorem PySem.Challenge.cw_heapsworn_k02_going_on_holds : PySem.Challenge.rw_heapsworn_k02_going_on.Holds := by
  w_on; o_law; k_head; (case hw => w_witness2)
  k_fill
  refine LK.walk (l := PySem.Challenge.rw_heapsworn_k02_going_on) rfl rfl (fun w h Y => PySem.W.kIn_of Y) ?F
  case F =>
    intro w mg fa h KX G hmg
    refine' LK.all_mk rfl (LK.txt_mk KX G ?g_HeapError ?x_HeapError ?k_HeapError ?s_HeapError ?t_HeapError ?g_BadState ?x_BadState ?k_BadState ?s_BadState ?t_BadState ?g_BadOther ?x_BadOther ?k_BadOther ?s_BadOther ?t_BadOther ?g_BadPlace ?x_BadPlace ?k_BadPlace ?s_BadPlace ?t_BadPlace ?g_BadCount ?x_BadCount ?k_BadCount ?s_BadCount ?t_BadCount ?e_HeapError_BadState ?e_HeapError_BadOther ?e_HeapError_BadPlace ?e_HeapError_BadCount ?e_BadState_BadState ?e_BadState_BadOther ?e_BadState_BadPlace ?e_BadState_BadCount ?e_BadOther_BadState ?e_BadOther_BadOther ?e_BadOther_BadPlace ?e_BadOther_BadCount ?e_BadPlace_BadState ?e_BadPlace_BadOther ?e_BadPlace_BadPlace ?e_BadPlace_BadCount ?e_BadCount_BadState ?e_BadCount_BadOther ?e_BadCount_BadPlace ?e_BadCount_BadCount ?m_is_int ?F_is_int ?m_within ?F_within ?m_is_row ?F_is_row ?m_is_cell ?F_is_cell ?m_are_cells ?F_are_cells ?m_is_state_of ?F_is_state_of ?m_need_state ?F_need_state ?m_places_of ?F_places_of ?m_reached_by ?F_reached_by ?m_is_place ?F_is_place ?m_need_place ?F_need_place ?m_trail_in ?F_trail_in ?m_trail ?F_trail ?m_place_behind ?F_place_behind ?m_steps_to ?F_steps_to ?m_law_deck ?F_law_deck ?m_law_pick ?F_law_pick ?m_law_same ?F_law_same ?m_law_places ?F_law_places ?m_law_made ?F_law_made ?m_law_by ?F_law_by ?m_law_scattered ?F_law_scattered ?m_law_long ?F_law_long ?m_law_walk ?F_law_walk ?m_law_behind ?F_law_behind ?m_law_trail_due ?F_law_trail_due ?m_law_refused ?F_law_refused ?m_law_right ?F_law_right ?m_law_errors ?F_law_errors ?m_law ?F_law ?n_all ?n_bool ?n_dict ?n_int ?n_isinstance ?n_len ?n_list ?n_max ?n_min ?n_range ?n_set ?n_sorted ?n_str ?n_tuple ?n_zip ?v_LAST_PLACE ?v_MOST_CELLS ?v_MOST_COUNT ?v_MOST_VARIABLES) hmg
    (case g_HeapError => k_is)
    (case x_HeapError => k_exc)
    (case k_HeapError => k_is)
    (case s_HeapError => k_is)
    (case t_HeapError => k_is)
    (case g_BadState => k_is)
    (case x_BadState => k_exc)
    (case k_BadState => k_is)
    (case s_BadState => k_is)
    (case t_BadState => k_is)
    (case g_BadOther => k_is)
    (case x_BadOther => k_exc)
    (case k_BadOther => k_is)
    (case s_BadOther => k_is)
    (case t_BadOther => k_is)
    (case g_BadPlace => k_is)
    (case x_BadPlace => k_exc)
    (case k_BadPlace => k_is)
    (case s_BadPlace => k_is)
    (case t_BadPlace => k_is)
    (case g_BadCount => k_is)
    (case x_BadCount => k_exc)
    (case k_BadCount => k_is)
    (case s_BadCount => k_is)
    (case t_BadCount => k_is)
    (case e_HeapError_BadState => first | rfl | k_is)
    (case e_HeapError_BadOther => first | rfl | k_is)
    (case e_HeapError_BadPlace => first | rfl | k_is)
    (case e_HeapError_BadCount => first | rfl | k_is)
    (case e_BadState_BadState => first | rfl | k_is)
    (case e_BadState_BadOther => first | rfl | k_is)
    (case e_BadState_BadPlace => first | rfl | k_is)
    (case e_BadState_BadCount => first | rfl | k_is)
    (case e_BadOther_BadState => first | rfl | k_is)
    (case e_BadOther_BadOther => first | rfl | k_is)
    (case e_BadOther_BadPlace => first | rfl | k_is)
    (case e_BadOther_BadCount => first | rfl | k_is)
    (case e_BadPlace_BadState => first | rfl | k_is)
    (case e_BadPlace_BadOther => first | rfl | k_is)
    (case e_BadPlace_BadPlace => first | rfl | k_is)
    (case e_BadPlace_BadCount => first | rfl | k_is)
    (case e_BadCount_BadState => first | rfl | k_is)
    (case e_BadCount_BadOther => first | rfl | k_is)
    (case e_BadCount_BadPlace => first | rfl | k_is)
    (case e_BadCount_BadCount => first | rfl | k_is)
    (case m_is_int => k_is)
    (case F_is_int => (refine' L2.fun_mk ?l ?c ?k; (case l => k_is); (case c => k_is); (case k => k_is)))
    (case m_within => k_is)
    (case F_within => (refine' L2.fun_mk ?l ?c ?k; (case l => k_is); (case c => k_is); (case k => k_is)))
    (case m_is_row => k_is)
    (case F_is_row => (refine' L2.fun_mk ?l ?c ?k; (case l => k_is); (case c => k_is); (case k => k_is)))
    (case m_is_cell => k_is)
    (case F_is_cell => (refine' L2.fun_mk ?l ?c ?k; (case l => k_is); (case c => k_is); (case k => k_is)))
    (case m_are_cells => k_is)
    (case F_are_cells => (refine' L2.fun_mk ?l ?c ?k; (case l => k_is); (case c => k_is); (case k => k_is)))
    (case m_is_state_of => k_is)
    (case F_is_state_of => (refine' L2.fun_mk ?l ?c ?k; (case l => k_is); (case c => k_is); (case k => k_is)))
    (case m_need_state => k_is)
    (case F_need_state => (refine' L2.fun_mk ?l ?c ?k; (case l => k_is); (case c => k_is); (case k => k_is)))
    (case m_places_of => k_is)
    (case F_places_of => (refine' L2.fun_mk ?l ?c ?k; (case l => k_is); (case c => k_is); (case k => k_is)))
    (case m_reached_by => k_is)
    (case F_reached_by => (refine' L2.fun_mk ?l ?c ?k; (case l => k_is); (case c => k_is); (case k => k_is)))
    (case m_is_place => k_is)
    (case F_is_place => (refine' L2.fun_mk ?l ?c ?k; (case l => k_is); (case c => k_is); (case k => k_is)))
    (case m_need_place => k_is)
    (case F_need_place => (refine' L2.fun_mk ?l ?c ?k; (case l => k_is); (case c => k_is); (case k => k_is)))
    (case m_trail_in => k_is)
    (case F_trail_in => (refine' L2.fun_mk ?l ?c ?k; (case l => k_is); (case c => k_is); (case k => k_is)))
    (case m_trail => k_is)
    (case F_trail => (refine' L2.fun_mk ?l ?c ?k; (case l => k_is); (case c => k_is); (case k => k_is)))
    (case m_place_behind => k_is)
    (case F_place_behind => (refine' L2.fun_mk ?l ?c ?k; (case l => k_is); (case c => k_is); (case k => k_is)))
    (case m_steps_to => k_is)
    (case F_steps_to => (refine' L2.fun_mk ?l ?c ?k; (case l => k_is); (case c => k_is); (case k => k_is)))
    (case m_law_deck => k_is)
    (case F_law_deck => (refine' L2.fun_mk ?l ?c ?k; (case l => k_is); (case c => k_is); (case k => k_is)))
    (case m_law_pick => k_is)
    (case F_law_pick => (refine' L2.fun_mk ?l ?c ?k; (case l => k_is); (case c => k_is); (case k => k_is)))
    (case m_law_same => k_is)
    (case F_law_same => (refine' L2.fun_mk ?l ?c ?k; (case l => k_is); (case c => k_is); (case k => k_is)))
    (case m_law_places => k_is)
    (case F_law_places => (refine' L2.fun_mk ?l ?c ?k; (case l => k_is); (case c => k_is); (case k => k_is)))
    (case m_law_made => k_is)
    (case F_law_made => (refine' L2.fun_mk ?l ?c ?k; (case l => k_is); (case c => k_is); (case k => k_is)))
    (case m_law_by => k_is)
    (case F_law_by => (refine' L2.fun_mk ?l ?c ?k; (case l => k_is); (case c => k_is); (case k => k_is)))
    (case m_law_scattered => k_is)
    (case F_law_scattered => (refine' L2.fun_mk ?l ?c ?k; (case l => k_is); (case c => k_is); (case k => k_is)))
    (case m_law_long => k_is)
    (case F_law_long => (refine' L2.fun_mk ?l ?c ?k; (case l => k_is); (case c => k_is); (case k => k_is)))
    (case m_law_walk => k_is)
    (case F_law_walk => (refine' L2.fun_mk ?l ?c ?k; (case l => k_is); (case c => k_is); (case k => k_is)))
    (case m_law_behind => k_is)
    (case F_law_behind => (refine' L2.fun_mk ?l ?c ?k; (case l => k_is); (case c => k_is); (case k => k_is)))
    (case m_law_trail_due => k_is)
    (case F_law_trail_due => (refine' L2.fun_mk ?l ?c ?k; (case l => k_is); (case c => k_is); (case k => k_is)))
    (case m_law_refused => k_is)
    (case F_law_refused => (refine' L2.fun_mk ?l ?c ?k; (case l => k_is); (case c => k_is); (case k => k_is)))
    (case m_law_right => k_is)
    (case F_law_right => (refine' L2.fun_mk ?l ?c ?k; (case l => k_is); (case c => k_is); (case k => k_is)))
    (case m_law_errors => k_is)
    (case F_law_errors => (refine' L2.fun_mk ?l ?c ?k; (case l => k_is); (case c => k_is); (case k => k_is)))
    (case m_law => k_is)
    (case F_law => (refine' L2.fun_mk ?l ?c ?k; (case l => k_is); (case c => k_is); (case k => k_is)))
    (case n_all => k_is)
    (case n_bool => k_is)
    (case n_dict => k_is)
    (case n_int => k_is)
    (case n_isinstance => k_is)
    (case n_len => k_is)
    (case n_list => k_is)
    (case n_max => k_is)
    (case n_min => k_is)
    (case n_range => k_is)
    (case n_set => k_is)
    (case n_sorted => k_is)
    (case n_str => k_is)
    (case n_tuple => k_is)
    (case n_zip => k_is)
    (case v_LAST_PLACE => k_is)
    (case v_MOST_CELLS => k_is)
    (case v_MOST_COUNT => k_is)
    (case v_MOST_VARIABLES => k_is)
