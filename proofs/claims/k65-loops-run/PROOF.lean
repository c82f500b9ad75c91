import PyProof.Rows.All
import Wide.All
import OpenK.AllK
import Wide.FinOn
import HandS.ForMost
import HandS.ForExc
import HandS.IsInst
import HandS.TryMany
import HandS.Deep
import HandS.TupAny
import HandS.TupMul
import HandS.Conv
import HandS.More
import HandS.Style
import HandS.Small
import HandS.WordsDict
import HandS.Zip
import KE.KDictPairs
import HandS.TupLe
import KE.SortData
import HandS.DictTup
import HandS.SetBool
import HandS.SetFor
import HandS.Strs
import PyProof.Rows.SortShellAny
import PyProof.AutoSeq1
import PyProof.EqAt
import PySem.Challenge.RW_heapsworn_k65_loops_judged_and_run
set_option Elab.async false
set_option linter.all false
set_option maxRecDepth 100000
set_option maxHeartbeats 4000000
/-! The data layer: tuples that are known to have no dict of their own (dict(t) asks for its keys by name). -/
namespace DL
open PySem PySem.Spec PyProof.Rows L2
abbrev Frag := PySem.W.Frag
def Neat (o : Obj) : Prop := o.cls = .type "tuple" ∧ o.dict = none
/-- the tuple at a, a neat one -/
def SqN (K : Frag) (H : Hp) (a : Addr) (xs : List V) : Prop := (∃ o, H a = some (.frz o (.tup xs)) ∧ Neat o) ∨
  ∃ (o : Obj) (its : Array Value) (n : Nat), K.lookup a = some o ∧ Neat o ∧ o.data = .seq its n ∧ its.size ≤ sizeLine ∧ Vals xs its.toList
theorem SqN.t {K : Frag} {H : Hp} {a : Addr} {xs : List V} (h : SqN K H a xs) : SqT K H a xs := by
  rcases h with ⟨o, h, _⟩ | ⟨o, its, n, h1, h2, h3, h4, h5⟩
  · exact .inl (.inr ⟨o, h⟩)
  · exact .inr ⟨o, its, n, h1, h2.1, h3, h4, h5⟩
theorem SqN.up {K : Frag} {H H' : Hp} (e : Same H H') {a : Addr} {xs : List V} (h : SqN K H a xs) : SqN K H' a xs := by
  rcases h with ⟨o, h, n⟩ | h
  · exact .inl ⟨o, e _ _ h, n⟩
  · exact .inr h
/-- every new tuple that a rule below makes -/
def NewT (xs : List V) (H : Hp) (Q : VK) : Prop := ∀ p o, H p = none → Neat o → Q (.ref p) (upd H p (.frz o (.tup xs)))
section
variable {X : Cx}
theorem new_t {pins : List (Addr × Obj)} {σ : L2.St} {H : Hp} {s : Shared} {h' : Heap} {its : List Value} {xs : List V} {Q : VK} (I : Inv X pins σ H { s with heap := h' }) (r : Vals xs its) (hz : xs.length ≤ sizeLine) (q : NewT xs H Q) :
    EP X pins σ Q (.ref h'.objs.size) { s with heap := h'.push { cls := .type "tuple", data := .seq its.toArray } } := by
  have hf : H h'.objs.size = none := I.hok.fresh (Nat.le_refl _)
  have there : (h'.push { cls := .type "tuple", data := .seq its.toArray }).get? h'.objs.size = some { cls := .type "tuple", data := .seq its.toArray } := Heap.get?_push_size _ rfl
  have obj : ObjOk X.prog X.w (upd H h'.objs.size (.frz { cls := .type "tuple", data := .seq its.toArray } (.tup xs))) (h'.push { cls := .type "tuple", data := .seq its.toArray }) h'.objs.size (.frz { cls := .type "tuple", data := .seq its.toArray } (.tup xs)) :=
    ⟨there, hz, its, r, _, there, rfl, _, rfl⟩
  exact ⟨.ref h'.objs.size, _, I.laid (t' := s.toks) (fun _ _ z => Heap.get?_push_of_some _ z) (Nat.le_refl _) obj, rfl, q _ _ hf ⟨rfl, rfl⟩⟩
def tTupN (t : TA) : TE := fun σ H Q => t σ H fun xs H1 => xs.length ≤ sizeLine ∧ NewT xs H1 Q
theorem peN_tup {es : List Expr} {t : TA} {x1} {pos : Pos} (h : PA X es t) : PE X (.Tuple es x1 pos) (tTupN t) :=
  ⟨fun pins s σ H Q I hq => wpAny_Tuple_spliced (thn (h.run pos pins s σ H _ I hq) fun us s1 ⟨xs, H1, I1, r, z, q⟩ => ⟨r.length ▸ z, new_t I1 r z q⟩)⟩
theorem callN_tuple : CallR X (.type "tuple") (fun vs H Q => ∃ p ys, vs = [.ref p] ∧ ((SqL X.K H p ys ∧ NewT ys H Q) ∨ (SqT X.K H p ys ∧ Q (.ref p) H))) := by
  intro pins s σ H vs us Q I r ⟨p, ys, ev, h⟩
  subst ev
  obtain ⟨u, eu, rx⟩ := vals1 r
  subst eu
  cases rx
  rcases h with ⟨hq, q⟩ | ⟨hq, q⟩
  · obtain ⟨its, r', pl, hz⟩ := I.list hq
    have hl := r'.length
    exact call_tuple_list pl.isList (fun h' kp => new_t (I.kept (t' := s.toks) kp) r' hz q) (by rw [List.size_toArray]; omega)
  · obtain ⟨its, _, pl, _⟩ := I.tuple hq
    exact call_tuple_same pl ⟨.ref p, H, I, rfl, q⟩
def rCatN (K : Frag) : R2 := fun x y H Q => ∃ a b xs ys, x = .ref a ∧ y = .ref b ∧ SqT K H a xs ∧ SqT K H b ys ∧ xs.length + ys.length ≤ sizeLine ∧ (xs = [] → Q (.ref b) H) ∧ (xs ≠ [] → ys = [] → Q (.ref a) H) ∧ (xs ≠ [] → ys ≠ [] → NewT (xs ++ ys) H Q)
theorem opN_cat : OpR X (binaryOp .Add) (rCatN X.K) := by
  intro pins s σ H x y v u Q I rx ry ⟨a, b, xs, ys, ex, ey, ha, hb, hz, q0, q1, q2⟩
  subst ex ey
  by_cases hx : xs = []
  · exact op_catA pins s σ H _ _ v u Q I rx ry ⟨a, b, xs, ys, rfl, rfl, ha, hb, hz, q0, fun z => absurd hx z, fun z => absurd hx z⟩
  · cases rx
    cases ry
    obtain ⟨its, r1, p1, _⟩ := I.tuple ha
    obtain ⟨jts, r2, p2, _⟩ := I.tuple hb
    exact HT.cat_tup p1 p2 (fun z => hx (r1.nil_iff.mp z)) (fun z => ⟨.ref a, H, I, rfl, q1 hx (r2.nil_iff.mp z)⟩) (fun z => new_t I (r1.append r2) (by rw [List.length_append]; exact hz) (q2 hx fun w => z (r2.nil_iff.mpr w))) (by rw [← r1.length, ← r2.length]; exact hz)
def rSlN (K : Frag) : V → Option Int → Option Int → Hp → VK → Prop := fun x lo hi H Q => ∃ a xs, x = .ref a ∧ SqT K H a xs ∧
  (HT.sIx xs.length 0 lo = 0 ∧ HT.sIx xs.length xs.length hi = xs.length → Q (.ref a) H) ∧ (¬ (HT.sIx xs.length 0 lo = 0 ∧ HT.sIx xs.length xs.length hi = xs.length) → NewT (cutV xs lo hi) H Q)
theorem slN_tup : L2.SlR X (rSlN X.K) := by
  intro pins s σ H x v vl vu lo hi sl Q I rx hs pl pu ⟨a, xs, ex, hx, q1, q2⟩
  subst ex
  by_cases hw : HT.sIx xs.length 0 lo = 0 ∧ HT.sIx xs.length xs.length hi = xs.length
  · exact sl_tupA pins s σ H _ v vl vu lo hi sl Q I rx hs pl pu ⟨a, xs, rfl, hx, q1, fun z => absurd hw z⟩
  · cases rx
    obtain ⟨its, r, ht, hz⟩ := I.tuple hx
    have e1 : its.toArray.size = xs.length := by rw [List.size_toArray]; exact r.length.symm
    refine ⟨"tuple", _, PyProof.Rows.slot_tuple_getitem.lookup, ht.typeIs, HT.getItem_tuple_cut ht hs pl pu (by rw [e1]; exact hw) ?_ (by rw [e1]; exact hz)⟩
    rw [e1]
    exact new_t I ((r.drop _).take _) (Nat.le_trans (cutV_length xs lo hi) hz) (q2 hw)
theorem tuple_mul1 (l : Addr) (items : Array Value) (n : Nat) (dd : Option Addr) (sl : Array (Option Value)) (x : Int) (u : Tok) (c0 : (decide (x < -(2 ^ 63)) || decide (x ≥ 2 ^ 63)) = false) (c1 : (items.isEmpty || x == 1) = true) :
    Meets (Builtin.«tuple.__mul__» ⟨[.ref l, .int x u], []⟩) (fun _ R s => s.heap.get? l = some { cls := .type "tuple", dict := dd, data := .seq items n, slots := sl } ∧ R (.ok (.ret (Value.ref l))) s) :=
  .of_wp fun prog w A R s h => by
    obtain ⟨hp, g, d, tk, os⟩ := s
    obtain ⟨hl, h⟩ := h
    have f1 := AutoSeq1.idx_int
    wp_walk using wpAny_loadPart' hl
    repeat (first
      | (refine wpAny_ite_false (decide_eq_false (by rw [c0]; exact Bool.false_ne_true)) ?_; wp_walk using wpAny_loadPart' hl)
      | (refine wpAny_ite_true (decide_eq_true (by rw [c1])) ?_; wp_walk using wpAny_loadPart' hl))
    exact ⟨_, rfl, h⟩
theorem tuple_mul0 (l : Addr) (items : Array Value) (n : Nat) (dd : Option Addr) (sl : Array (Option Value)) (x : Int) (u : Tok) (c0 : (decide (x < -(2 ^ 63)) || decide (x ≥ 2 ^ 63)) = false) (c1 : (items.isEmpty || x == 1) = false) (c2 : (decide (x ≤ 0) || items.isEmpty) = true) :
    Meets (Builtin.«tuple.__mul__» ⟨[.ref l, .int x u], []⟩) (fun _ R s => s.heap.get? l = some { cls := .type "tuple", dict := dd, data := .seq items n, slots := sl } ∧
      R (.ok (.ret (Value.ref s.heap.objs.size))) { s with heap := s.heap.push { cls := Value.type "tuple", data := Data.seq #[] }, toks := s.toks }) :=
  .of_wp fun prog w A R s h => by
    obtain ⟨hp, g, d, tk, os⟩ := s
    obtain ⟨hl, h⟩ := h
    have f1 := AutoSeq1.idx_int
    wp_walk using wpAny_loadPart' hl
    repeat (first
      | (refine wpAny_ite_false (decide_eq_false (by rw [c0]; exact Bool.false_ne_true)) ?_; wp_walk using wpAny_loadPart' hl)
      | (refine wpAny_ite_false (decide_eq_false (by rw [c1]; exact Bool.false_ne_true)) ?_; wp_walk using wpAny_loadPart' hl)
      | (refine wpAny_ite_true (decide_eq_true (by rw [c2])) ?_; wp_walk using wpAny_loadPart' hl))
    exact ⟨_, rfl, h⟩
def rRepN (K : Frag) : R2 := fun x y H Q => ∃ l k xs, x = .ref l ∧ y = .int k ∧ SqT K H l xs ∧ xs ≠ [] ∧ 2 ≤ k ∧ k ≤ 1000 ∧ xs.length ≤ 1000 ∧ NewT (List.replicate k.toNat xs).flatten H Q
theorem opN_rep : OpR X (binaryOp .Mult) (rRepN X.K) := by
  intro pins s σ H x y v u Q I rx ry ⟨l, k, xs, ex, ey, hT, hne, g1, g2, gz, q⟩
  subst ex ey
  cases rx
  obtain ⟨t, rfl⟩ := ry
  obtain ⟨its, r, ⟨⟨cls, dd, data, sl⟩, ho, hc, n, hd⟩, _⟩ := I.tuple hT
  obtain rfl : cls = .type "tuple" := hc
  obtain rfl : data = .seq its.toArray n := hd
  have e0 : its.length = xs.length := r.length.symm
  have full : its.toArray.isEmpty = false := by
    cases its with
    | nil => exact absurd (List.eq_nil_of_length_eq_zero (by rw [← e0]; rfl)) hne
    | cons _ _ => rfl
  have n0 : its.toArray.size = xs.length := by rw [List.size_toArray, e0]
  have prod : k.toNat * xs.length ≤ 1000 * 1000 := Nat.mul_le_mul (by omega) gz
  have many : ((its.toArray.size : Nat) : Int) * k ≤ 1000000 := by
    rw [n0]
    exact Int.le_trans (Int.mul_le_mul_of_nonneg_right (show ((xs.length : Nat) : Int) ≤ 1000 by omega) (by omega)) (by omega)
  have fl : (List.replicate k.toNat xs).flatten.length ≤ sizeLine := by rw [PyProof.Rows.lm_len_rep_flat, sizeLine_eq]; omega
  have fl' : (List.replicate k.toNat its).flatten.toArray.size ≤ sizeLine := by rw [List.size_toArray, PyProof.Rows.lm_len_rep_flat, e0, sizeLine_eq]; omega
  have w0 : (decide (k < -(2 ^ 63)) || decide (k ≥ 2 ^ 63)) = false := by simp only [decide_eq_false (show ¬ k < -(2 ^ 63) by omega), decide_eq_false (show ¬ k ≥ 2 ^ 63 by omega), Bool.or_self]
  have w1 : (its.toArray.isEmpty || k == 1) = false := by simp only [full, Bool.false_or]; exact beq_eq_false_iff_ne.mpr (by omega)
  have w2 : (decide (k ≤ 0) || its.toArray.isEmpty) = false := by simp only [full, Bool.or_false]; exact decide_eq_false (by omega)
  have w4 : Builtin.Tuple.tupleTooMany (((its.toArray.size : Nat) : Int) * k) = false := by unfold Builtin.Tuple.tupleTooMany; rw [sizeLine_eq]; exact decide_eq_false (by omega)
  have TT : s.TypeIs (.ref l) "tuple" := ⟨_, ho, rfl⟩
  have fin : EP X pins σ Q (.ref s.heap.objs.size) { s with heap := s.heap.push { cls := .type "tuple", data := .seq (List.replicate k.toNat its).flatten.toArray } } := new_t I (r.rep k.toNat) fl q
  have back := int_rmul_tuple k t l its.toArray n dd sl
  have forth := tuple_mulW l its.toArray n dd sl k t w0 w1 w2 (by omega) w4 (by rw [size_rep]; exact fl')
  exact wpAny_binaryOp_repeat_ref (by decide) TT (fun s' => typeIs_int s' k t) noFill_tuple_mul F.fills_int_mul F.slot_int_rmul repeat_tuple F.slot_int_index.lookup
    (call_meets F.slot_int_rmul (typeIs_int s k t) F.entry_int_rmul (F.args_int_rmul_2 _ _) back
      ⟨ho, rfl, TT, call_meets F.slot_tuple_mul TT F.entry_tuple_mul (F.args_tuple_mul_2 _ _) forth ⟨ho, by rw [size_rep]; exact fin⟩⟩)
/-- once, or never -/
def rRepN1 (K : Frag) : R2 := fun x y H Q => ∃ l k xs, x = .ref l ∧ y = .int k ∧ SqT K H l xs ∧ xs ≠ [] ∧ ((k = 1 ∧ Q (.ref l) H) ∨ (k = 0 ∧ NewT [] H Q))
theorem opN_rep1 : OpR X (binaryOp .Mult) (rRepN1 X.K) := by
  intro pins s σ H x y v u Q I rx ry ⟨l, k, xs, ex, ey, hT, hne, h⟩
  subst ex ey
  cases rx
  obtain ⟨t, rfl⟩ := ry
  obtain ⟨its, r, ⟨⟨cls, dd, data, sl⟩, ho, hc, n, hd⟩, _⟩ := I.tuple hT
  obtain rfl : cls = .type "tuple" := hc
  obtain rfl : data = .seq its.toArray n := hd
  have e0 : its.length = xs.length := r.length.symm
  have full : its.toArray.isEmpty = false := by
    cases its with
    | nil => exact absurd (List.eq_nil_of_length_eq_zero (by rw [← e0]; rfl)) hne
    | cons _ _ => rfl
  have TT : s.TypeIs (.ref l) "tuple" := ⟨_, ho, rfl⟩
  have back := int_rmul_tuple k t l its.toArray n dd sl
  rcases h with ⟨rfl, q⟩ | ⟨rfl, q⟩
  · have fin : EP X pins σ Q (.ref l) s := ⟨.ref l, H, I, rfl, q⟩
    have forth := tuple_mul1 l its.toArray n dd sl 1 t (by decide) (by rw [full]; decide)
    exact wpAny_binaryOp_repeat_ref (by decide) TT (fun s' => typeIs_int s' 1 t) noFill_tuple_mul F.fills_int_mul F.slot_int_rmul repeat_tuple F.slot_int_index.lookup
      (call_meets F.slot_int_rmul (typeIs_int s 1 t) F.entry_int_rmul (F.args_int_rmul_2 _ _) back
        ⟨ho, rfl, TT, call_meets F.slot_tuple_mul TT F.entry_tuple_mul (F.args_tuple_mul_2 _ _) forth ⟨ho, fin⟩⟩)
  · have fin : EP X pins σ Q (.ref s.heap.objs.size) { s with heap := s.heap.push { cls := .type "tuple", data := .seq ([] : List Value).toArray } } := new_t I .nil (Nat.zero_le _) q
    have forth := tuple_mul0 l its.toArray n dd sl 0 t (by decide) (by rw [full]; decide) (by simp)
    exact wpAny_binaryOp_repeat_ref (by decide) TT (fun s' => typeIs_int s' 0 t) noFill_tuple_mul F.fills_int_mul F.slot_int_rmul repeat_tuple F.slot_int_index.lookup
      (call_meets F.slot_int_rmul (typeIs_int s 0 t) F.entry_int_rmul (F.args_int_rmul_2 _ _) back
        ⟨ho, rfl, TT, call_meets F.slot_tuple_mul TT F.entry_tuple_mul (F.args_tuple_mul_2 _ _) forth ⟨ho, fin⟩⟩)
end
/-! zip of two tuples, with neat pairs -/
def ItzN (K : Frag) (a b : Addr) : It := { RZ.ItzT K a b with yld := fun i H v H' => ∃ T o x y, v = .ref T ∧ H T = none ∧ Neat o ∧ H' = upd H T (.frz o (.tup [x, y])) ∧ (∀ xs, SqT K H a xs → xs[i]? = some x) ∧ ∀ ys, SqT K H b ys → ys[i]? = some y }
theorem turn_zipN {P : Program} {w : World} {K : Frag} {elts : List Expr} {kk : Nat} {tpos : Pos} {a b z t1 t2 i1 i2 : Addr} (D : ZipApart z t1 t2 i1 i2 a b) :
    Turn P w K (.Tuple elts kk tpos) (ItzN K a b) [z, t1, t2, i1, i2] z (fun i h => IsZip h z t1 t2 .none ∧ IsPair h t1 (.ref i1) (.ref i2) ∧ (∃ x y, IsPair h t2 x y) ∧ h.IsTupleIter i1 a i ∧ h.IsTupleIter i2 b i) :=
  let old := RZ.turn_zipT (P := P) (w := w) (K := K) (elts := elts) (kk := kk) (tpos := tpos) D
  { mem := old.mem, obj := old.obj, keep := old.keep, done := old.done, self := old.self
    item := by
      intro X hP hw hK hc i pins s σ H E I hf st hg
      subst hP hw hK
      obtain ⟨hz, hp, ⟨x0, y0, hq⟩, g1, g2⟩ := st
      obtain ⟨xs, ys, x, y, qx, qy, ex, ey⟩ := hg
      obtain ⟨its, rv, p, _⟩ := I.tuple qx
      obtain ⟨jts, rw', q, _⟩ := I.tuple qy
      obtain ⟨u, eu, ru⟩ := rv.get ex
      obtain ⟨v, ev, rv'⟩ := rw'.get ey
      have below : ∀ c ∈ [z, t1, t2, i1, i2], c < s.heap.objs.size := fun c hcm => let ⟨_, e, _⟩ := old.obj i s.heap ⟨hz, hp, ⟨x0, y0, hq⟩, g1, g2⟩ c hcm; Heap.lt_size e
      refine RZ.pyNext_zipT_item D hz hp hq g1 g2 p q (x := u) (y := v) (by simpa using eu) (by simpa using ev) fun h' z' q' g1' g2' made hsz hk => ⟨_, rfl, wpAny_letOwnedTupleGo_zip (s := { s with heap := h' }) z' fun h'' z'' sb => ?_⟩
      have made2 : h''.get? s.heap.objs.size = some { cls := .type "tuple", data := .seq #[u, v] } := (sb.2 _ (Nat.ne_of_gt (below z (by simp)))).trans made
      have obj : ObjOk X.prog X.w (upd H s.heap.objs.size (.frz { cls := .type "tuple", data := .seq #[u, v] } (.tup [x, y]))) h'' s.heap.objs.size (.frz { cls := .type "tuple", data := .seq #[u, v] } (.tup [x, y])) :=
        ⟨made2, by show 2 ≤ sizeLine; decide, [u, v], .cons ru (.cons rv' .nil), _, made2, rfl, _, rfl⟩
      have stays : ∀ c o, c ∉ [z, t1, t2, i1, i2] → s.heap.get? c = some o → h''.get? c = some o := fun c o hn e =>
        (sb.2 c fun e' => hn (by simp [e'])).trans (hk c o (fun e' => hn (by simp [e'])) (fun e' => hn (by simp [e'])) (fun e' => hn (by simp [e'])) (fun e' => hn (by simp [e'])) e)
      have I1 := I.turnedNew (t' := s.toks) (ch := [z, t1, t2, i1, i2]) stays hf (Nat.le_refl _) obj
      refine ⟨.ref s.heap.objs.size, _, I1, rfl, ⟨_, _, x, y, rfl, I.hok.fresh (Nat.le_refl _), ⟨rfl, rfl⟩, rfl, fun l hl => by rw [I.tuple_inj hl qx]; exact ex, fun l hl => by rw [I.tuple_inj hl qy]; exact ey⟩, ⟨z'', ?_, ⟨u, v, ?_⟩, ?_, ?_⟩, fun c hcm => ?_⟩
      · exact (sb.2 _ D.TIz).trans (hk _ _ D.TIz D.TITO D.TIi1 D.TIi2 hp)
      · exact (sb.2 _ D.TOz).trans q'
      · exact g1'.at fun o e => (sb.2 _ D.i1z).trans e
      · exact g2'.at fun o e => (sb.2 _ D.i2z).trans e
      · rw [upd_ne (Nat.ne_of_lt (below c hcm))]
        exact (hf c hcm).1 }
def iZipN (K : Frag) (ta : TA) : TI := fun σ H R => ta σ H fun vs H1 => ∃ a b xs ys, vs = [.ref a, .ref b] ∧ SqT K H1 a xs ∧ SqT K H1 b ys ∧ R (ItzN K a b) H1
theorem pi_zipN {X : Cx} {e e2 : Expr} {ta : TA} {p pos tpos : Pos} {elts : List Expr} {kk : Nat} (hg : Gl X "zip") (hm : X.mg "zip" = none) (ha : PA X [e, e2] ta)
    (hs : starEach [e, e2] X.env = (false, eval e X.env) :: starEach [e2] X.env := by rfl) (hpl : (backTo pos (starEach [e2] X.env)).any (·.1) = false := by rfl) : PI X (.Tuple elts kk tpos) (.Call (.Name "zip" p) [e, e2] [] pos) (iZipN X.K ta) := by
  refine ⟨fun pins s σ H R I h => Call_ (ld_blt I hg hm PyProof.Rows.boot_zip (PyProof.Rows.callWith_type1 (thn (ha.run pos pins s σ H _ I h) fun us s1 ⟨vs, H1, I1, r1, q1⟩ => ?_) hs hpl))⟩
  obtain ⟨a, b, xs, ys, ev, hx, hy, q⟩ := q1
  subst ev
  obtain ⟨u, v, eu, ru, rv⟩ : ∃ u v, us = [u, v] ∧ RelV (.ref a) u ∧ RelV (.ref b) v := by
    cases r1 with
    | cons r t =>
      cases t with
      | cons r' t => cases t; exact ⟨_, _, rfl, r, r'⟩
  subst eu
  cases ru
  cases rv
  obtain ⟨its, _, p1, _⟩ := I1.tuple hx
  obtain ⟨jts, _, p2, _⟩ := I1.tuple hy
  obtain ⟨_, o1, _⟩ := id p1
  obtain ⟨_, o2, _⟩ := id p2
  refine RZ.call_zipT (show s1.heap.IsTuple a its.toArray from p1) (show s1.heap.IsTuple b jts.toArray from p2) fun h' hz hp hq g1 g2 _ hk => wpAny_pyIter_zip hz ?_
  refine ⟨s1.heap.objs.size + 4, [s1.heap.objs.size + 4, s1.heap.objs.size + 2, s1.heap.objs.size + 3, s1.heap.objs.size, s1.heap.objs.size + 1], _, _, H1, rfl, I1.kept (t' := s1.toks) hk,
    turn_zipN (PySem.W.ktu_apart s1.heap.objs.size a b (Heap.lt_size o1) (Heap.lt_size o2)), ⟨hz, hp, ⟨_, _, hq⟩, g1, g2⟩, fun c hcm => ?_, q⟩
  have le : s1.heap.objs.size ≤ c := by
    simp only [List.mem_cons, List.not_mem_nil, or_false] at hcm
    rcases hcm with rfl | rfl | rfl | rfl | rfl <;> first | exact Nat.le_refl _ | exact Nat.le_add_right _ _
  exact I1.fpOk le (I1.hok.fresh le)
end DL

set_option Elab.async false
set_option linter.all false
set_option maxRecDepth 100000
/-! The data layer: readings of the hand layer over plain data (PyData), with tuples as values, lists and dicts of one's own by slot, and a hidden ghost (the deck). -/
namespace DL
open PySem PySem.Spec PyProof.Rows L2

abbrev D := PyData
/-- what a value is known as: a datum; a list with stable items; a dict; the ghost. own: a fresh one, of one's own -/
inductive R where
  | s (d : D)
  | l (own : Bool) (xs : List D)
  | k (own : Bool) (kvs : List (Key × D))
  | t (own : Bool) (kvs : List (List Key × D))
  | g
abbrev Rho := List (Option R)

/-- the ghost: where it stands, what holds of it, the value that is handed about -/
structure Gh where
  at_ : List Addr
  ok : Hp → Prop
  val : V
  stay : ∀ H H' : Hp, (∀ a ∈ at_, H' a = H a) → ok H → ok H'
  here : ∀ H : Hp, ok H → ∀ a ∈ at_, H a ≠ none
def G0 : Gh := ⟨[], fun _ => True, .non, fun _ _ _ _ => trivial, fun _ _ _ h => nomatch h⟩
/-- the deck: [cells, what is left of a great cell, a mixed number] -/
def deckOk (a c : Addr) (H : Hp) : Prop := ∃ (cells : List Int) (s m : Int), H a = some (.lst [.ref c, .int s, .int m]) ∧ H c = some (.lst (cells.map V.int)) ∧ (∀ x ∈ cells, 0 ≤ x ∧ x < 10 ^ 60) ∧ 0 ≤ s ∧ s < 10 ^ 60 ∧ 0 ≤ m ∧ m < 2147483647 ∧ cells.length ≤ 1000
def deckG (a c : Addr) : Gh := ⟨[a, c], deckOk a c, .ref a, fun H H' h ⟨cells, s, m, h1, h2, h3⟩ => ⟨cells, s, m, by rw [h a (by simp)]; exact h1, by rw [h c (by simp)]; exact h2, h3⟩,
  fun H ⟨cells, s, m, h1, h2, h3⟩ b hb => by
    rcases List.mem_cons.mp hb with rfl | hb
    · rw [h1]; exact fun z => nomatch z
    · rcases List.mem_cons.mp hb with rfl | hb
      · rw [h2]; exact fun z => nomatch z
      · cases hb⟩
def hide (G : Gh) (H : Hp) : Hp := fun a => if a ∈ G.at_ then none else H a
section
variable {G : Gh} {H H' B : Hp} {a p : Addr} {o : HO}
theorem hide_in (h : a ∈ G.at_) : hide G H a = none := if_pos h
theorem hide_out (h : a ∉ G.at_) : hide G H a = H a := if_neg h
theorem hide_some (h : hide G H a = some o) : a ∉ G.at_ ∧ H a = some o := by
  by_cases q : a ∈ G.at_
  · rw [hide_in q] at h; cases h
  · rw [hide_out q] at h; exact ⟨q, h⟩
theorem hide_free (h : H a = none) : hide G H a = none := by
  by_cases q : a ∈ G.at_
  · exact hide_in q
  · rw [hide_out q]; exact h
theorem hide_upd (h : p ∉ G.at_) : hide G (upd H p o) = upd (hide G H) p o := by
  funext b
  by_cases q : b = p
  · subst q; rw [hide_out h, upd_same, upd_same]
  · by_cases z : b ∈ G.at_
    · rw [hide_in z, upd_ne q, hide_in z]
    · rw [hide_out z, upd_ne q, upd_ne q, hide_out z]
theorem ghost_upd (h : p ∉ G.at_) (q : G.ok H) : G.ok (upd H p o) := G.stay _ _ (fun b hb => upd_ne (fun e => h (e ▸ hb))) q
end

def kD : Key → D
  | .inl i => .int i
  | .inr x => .str x
/-! data in the heap, dicts that nobody changes among them -/
mutual
inductive Dp (K : Frag) (H : Hp) : V → D → Prop
  | non : Dp K H .non .none
  | bl (b : Bool) : Dp K H (.bl b) (.bool b)
  | int (i : Int) : Dp K H (.int i) (.int i)
  | str (x : Str) : Dp K H (.str x) (.str x)
  | lst {a : Addr} {xs : List V} {ds : List D} : SqL K H a xs → DpAll K H xs ds → Dp K H (.ref a) (.list ds)
  | tup {a : Addr} {xs : List V} {ds : List D} : SqN K H a xs → DpAll K H xs ds → Dp K H (.ref a) (.tuple ds)
  | dic {a : Addr} {xs : List (Key × V)} {ds : List (D × D)} : H a = some (.dK xs) → DpKv K H xs ds → Dp K H (.ref a) (.dict ds)
inductive DpAll (K : Frag) (H : Hp) : List V → List D → Prop
  | nil : DpAll K H [] []
  | cons {v : V} {vs : List V} {d : D} {ds : List D} : Dp K H v d → DpAll K H vs ds → DpAll K H (v :: vs) (d :: ds)
inductive DpKv (K : Frag) (H : Hp) : List (Key × V) → List (D × D) → Prop
  | nil : DpKv K H [] []
  | cons {k : Key} {v : V} {vs : List (Key × V)} {d : D} {ds : List (D × D)} : Dp K H v d → DpKv K H vs ds → DpKv K H ((k, v) :: vs) ((kD k, d) :: ds)
end
/-- lists of one key kind and their values -/
inductive KvP (K : Frag) (B : Hp) {κ : Type} : List (κ × V) → List (κ × D) → Prop
  | nil : KvP K B [] []
  | cons {k : κ} {x : V} {d : D} {xs : List (κ × V)} {ds : List (κ × D)} : Dp K B x d → KvP K B xs ds → KvP K B ((k, x) :: xs) ((k, d) :: ds)

end DL
namespace L2
open PySem PySem.Spec PyProof.Rows
section
variable {K : PySem.W.Frag} {H H' : Hp}
theorem Same.sqL (e : Same H H') {a : Addr} {xs : List V} (h : SqL K H a xs) : SqL K H' a xs := Same.seq e h
theorem Same.sqT (e : Same H H') {a : Addr} {xs : List V} (h : SqT K H a xs) : SqT K H' a xs := by
  rcases h with (h | ⟨o, h⟩) | h
  · exact .inl (.inl (e _ _ h))
  · exact .inl (.inr ⟨o, e _ _ h⟩)
  · exact .inr h
end
end L2
namespace DL
open PySem PySem.Spec PyProof.Rows L2
section
variable {K : PySem.W.Frag} {H H' : Hp}
mutual
theorem Dp.mono (e : Same H H') : ∀ {x : V} {d : PyData}, Dp K H x d → Dp K H' x d
  | _, _, .non => .non
  | _, _, .bl b => .bl b
  | _, _, .int i => .int i
  | _, _, .str x => .str x
  | _, _, .lst h t => .lst (Same.sqL e h) (DpAll.mono e t)
  | _, _, .tup h t => .tup (h.up e) (DpAll.mono e t)
  | _, _, .dic h t => .dic (e _ _ h) (DpKv.mono e t)
theorem DpAll.mono (e : Same H H') : ∀ {xs : List V} {ds : List PyData}, DpAll K H xs ds → DpAll K H' xs ds
  | _, _, .nil => .nil
  | _, _, .cons h t => .cons (Dp.mono e h) (DpAll.mono e t)
theorem DpKv.mono (e : Same H H') : ∀ {xs : List (Key × V)} {ds : List (D × D)}, DpKv K H xs ds → DpKv K H' xs ds
  | _, _, .nil => .nil
  | _, _, .cons h t => .cons (Dp.mono e h) (DpKv.mono e t)
end
mutual
theorem Dp.old : ∀ {d : D} {x : V}, Dp K H x d → d.canLay0 = true → L2.Dp K H x d
  | _, _, .non, _ => .non
  | _, _, .bl b, _ => .bl b
  | _, _, .int i, _ => .int i
  | _, _, .str x, _ => .str x
  | _, _, .lst h t, c => .lst h (DpAll.old t (by simpa only [PyData.canLay0] using c))
  | _, _, .tup h t, c => .tup h.t (DpAll.old t (by simpa only [PyData.canLay0] using c))
theorem DpAll.old : ∀ {ds : List D} {xs : List V}, DpAll K H xs ds → PyData.canLayAll0 ds = true → L2.DpAll K H xs ds
  | _, _, .nil, _ => .nil
  | _, _, .cons h t, c => have c' := Bool.and_eq_true_iff.mp (by simpa only [PyData.canLayAll0] using c); .cons (Dp.old h c'.1) (DpAll.old t c'.2)
end
theorem DpAll.length : ∀ {xs : List V} {ds : List PyData}, DpAll K H xs ds → xs.length = ds.length
  | _, _, .nil => rfl
  | _, _, .cons _ t => congrArg (· + 1) (DpAll.length t)
theorem DpAll.append : ∀ {xs ys : List V} {ds es : List PyData}, DpAll K H xs ds → DpAll K H ys es → DpAll K H (xs ++ ys) (ds ++ es)
  | _, _, _, _, .nil, h => h
  | _, _, _, _, .cons h t, h' => .cons h (DpAll.append t h')
theorem DpAll.get : ∀ {xs : List V} {ds : List PyData} {i : Nat} {d : PyData}, DpAll K H xs ds → ds[i]? = some d → ∃ x, xs[i]? = some x ∧ Dp K H x d
  | _, _, _, _, .nil, e => by simp at e
  | _, _, 0, _, .cons h _, e => by simp at e; subst e; exact ⟨_, by simp, h⟩
  | _, _, i + 1, _, .cons _ t, e => by
    obtain ⟨x, h1, h2⟩ := DpAll.get (i := i) t (by simpa using e)
    exact ⟨x, by simpa using h1, h2⟩
theorem DpAll.get' : ∀ {xs : List V} {ds : List PyData} {i : Nat} {x : V}, DpAll K H xs ds → xs[i]? = some x → ∃ d, ds[i]? = some d ∧ Dp K H x d
  | _, _, _, _, .nil, e => by simp at e
  | _, _, 0, _, .cons h _, e => by simp at e; subst e; exact ⟨_, by simp, h⟩
  | _, _, i + 1, _, .cons _ t, e => by
    obtain ⟨x, h1, h2⟩ := DpAll.get' (i := i) t (by simpa using e)
    exact ⟨x, by simpa using h1, h2⟩
theorem DpAll.take : ∀ {xs : List V} {ds : List PyData} (n : Nat), DpAll K H xs ds → DpAll K H (xs.take n) (ds.take n)
  | _, _, 0, _ => .nil
  | _, _, _ + 1, .nil => .nil
  | _, _, n + 1, .cons h t => .cons h (DpAll.take n t)
theorem DpAll.drop : ∀ {xs : List V} {ds : List PyData} (n : Nat), DpAll K H xs ds → DpAll K H (xs.drop n) (ds.drop n)
  | _, _, 0, h => h
  | _, _, _ + 1, .nil => .nil
  | _, _, n + 1, .cons _ t => DpAll.drop n t
theorem DpAll.set : ∀ {xs : List V} {ds : List PyData} {x : V} {d : PyData} (n : Nat), DpAll K H xs ds → Dp K H x d → DpAll K H (xs.set n x) (ds.set n d)
  | _, _, _, _, _, .nil, _ => .nil
  | _, _, _, _, 0, .cons _ t, r => .cons r t
  | _, _, _, _, n + 1, .cons h t, r => .cons h (DpAll.set n t r)
theorem DpAll.reverse : ∀ {xs : List V} {ds : List PyData}, DpAll K H xs ds → DpAll K H xs.reverse ds.reverse
  | _, _, .nil => .nil
  | _, _, .cons h t => by rw [List.reverse_cons, List.reverse_cons]; exact DpAll.append (DpAll.reverse t) (.cons h .nil)
theorem DpAll.ints : ∀ (ns : List Int), DpAll K H (ns.map V.int) (ns.map PyData.int)
  | [] => .nil
  | n :: ns => .cons (.int n) (DpAll.ints ns)
theorem old_ints : ∀ (ns : List Int), L2.DpAll K H (ns.map V.int) (ns.map PyData.int)
  | [] => .nil
  | n :: ns => .cons (.int n) (old_ints ns)
theorem DpAll.ints' : ∀ {xs : List V} {ns : List Int}, DpAll K H xs (ns.map PyData.int) → xs = ns.map V.int
  | _, [], .nil => rfl
  | _, n :: ns, .cons h t => by cases h; rw [DpAll.ints' t]; rfl
theorem DpAll.bls' : ∀ {xs : List V} {bs : List Bool}, DpAll K H xs (bs.map PyData.bool) → xs = bs.map V.bl
  | _, [], .nil => rfl
  | _, n :: ns, .cons h t => by cases h; rw [DpAll.bls' t]; rfl
end
section
variable {K : Frag} {H H' : Hp}
theorem KvP.mono {κ : Type} (e : Same H H') : ∀ {xs : List (κ × V)} {ds : List (κ × D)}, KvP K H xs ds → KvP K H' xs ds
  | _, _, .nil => .nil
  | _, _, .cons h t => .cons (Dp.mono e h) (KvP.mono e t)
end
section
variable {K : Frag} {H : Hp}
def kvD (kvs : List (Key × D)) : List (D × D) := kvs.map fun p => (kD p.1, p.2)
theorem KvP.kv : ∀ {xs : List (Key × V)} {ds : List (Key × D)}, KvP K H xs ds → DpKv K H xs (kvD ds)
  | _, _, .nil => .nil
  | _, _, .cons h t => .cons h (KvP.kv t)
theorem kD_inj : ∀ {a b : Key}, kD a = kD b → a = b
  | .inl _, .inl _, e => by cases e; rfl
  | .inr _, .inr _, e => by cases e; rfl
  | .inl _, .inr _, e => by cases e
  | .inr _, .inl _, e => by cases e
theorem DpKv.pk : ∀ {ds : List (Key × D)} {xs : List (Key × V)}, DpKv K H xs (kvD ds) → KvP K H xs ds
  | [], _, .nil => .nil
  | (k, d) :: ds, _, h => by
    generalize e : kvD ((k, d) :: ds) = l at h
    cases h with
    | nil => cases e
    | @cons k' v vs d' ds' h t =>
      have e1 : kD k = kD k' := congrArg Prod.fst (List.cons.inj e).1
      have e2 : d = d' := congrArg Prod.snd (List.cons.inj e).1
      have e3 : kvD ds = ds' := (List.cons.inj e).2
      subst e2 e3
      rw [kD_inj e1]
      exact .cons h (DpKv.pk t)
end
/-! ### steps and states -/
/-- from (B, H) to (B', H'): what was stable stays, what was tracked stays (but for the ghost), and what was not stable does not become so if it stood there -/
structure Stp (G : Gh) (B H B' H' : Hp) : Prop where
  bb : Same B B'
  hh : Same (hide G H) (hide G H')
  nw : ∀ a o, B a = none → hide G H a = some o → B' a = none
section
variable {G : Gh} {B H B1 H1 B2 H2 : Hp}
theorem Stp.refl (G : Gh) (B H : Hp) : Stp G B H B H := ⟨Same.refl _, Same.refl _, fun _ _ h _ => h⟩
theorem Stp.trans (s : Stp G B H B1 H1) (t : Stp G B1 H1 B2 H2) : Stp G B H B2 H2 :=
  ⟨s.bb.trans t.bb, s.hh.trans t.hh, fun a o h1 h2 => t.nw a o (s.nw a o h1 h2) (s.hh a o h2)⟩
/-- a new object, not stable -/
theorem Stp.new {p : Addr} {o : HO} (h : H p = none) : Stp G B H B (upd H p o) := ⟨Same.refl _, fun a u e => by
    obtain ⟨z, e⟩ := hide_some e
    rw [hide_out z, upd_ne (ne_of_none e h)]; exact e, fun _ _ h _ => h⟩
/-- a new object, stable at once -/
theorem Stp.newS {p : Addr} {o : HO} (h : H p = none) (hb : B p = none) : Stp G B H (upd B p o) (upd H p o) := ⟨fun a u e => by
    rw [upd_ne (ne_of_none e hb)]; exact e, (Stp.new (G := G) (B := B) h).hh, fun a u h1 h2 => by
    rw [upd_ne (ne_of_none (hide_some h2).2 h)]; exact h1⟩
end

/-- what a slot's value is -/
def SlotR (K : Frag) (G : Gh) (B0 H0 B H : Hp) (x : V) : R → Prop
  | .s d => Dp K B x d
  | .l false ds => ∃ p xs, x = .ref p ∧ hide G H0 p = some (.lst xs) ∧ DpAll K B xs ds
  | .l true ds => ∃ p xs, x = .ref p ∧ H p = some (.lst xs) ∧ DpAll K B xs ds ∧ B p = none ∧ p ∉ G.at_ ∧ hide G H0 p = none
  | .k false ds => ∃ p xs, x = .ref p ∧ hide G H0 p = some (.dK xs) ∧ KvP K B xs ds
  | .k true ds => ∃ p xs, x = .ref p ∧ H p = some (.dK xs) ∧ KvP K B xs ds ∧ B p = none ∧ p ∉ G.at_ ∧ hide G H0 p = none
  | .t false ds => ∃ p xs, x = .ref p ∧ hide G H0 p = some (.dT xs) ∧ KvP K B xs ds
  | .t true ds => ∃ p xs, x = .ref p ∧ H p = some (.dT xs) ∧ KvP K B xs ds ∧ B p = none ∧ p ∉ G.at_ ∧ hide G H0 p = none
  | .g => ∃ a c, x = .ref a ∧ G = deckG a c
def owns : R → Bool
  | .l true _ | .k true _ | .t true _ => true
  | _ => false
structure Stt (K : Frag) (G : Gh) (B0 H0 B H : Hp) (σ : L2.St) (ρ : Rho) : Prop where
  len : ρ.length = σ.length
  bh : Same B (hide G H)
  gok : G.ok H
  st : Stp G B0 H0 B H
  sl : ∀ (i : Nat) (r : R), ρ[i]? = some (some r) → ∃ x, σ[i]? = some (some x) ∧ SlotR K G B0 H0 B H x r
  dis : ∀ (i j : Nat) (r u : R) (x : V), i ≠ j → ρ[i]? = some (some r) → ρ[j]? = some (some u) → owns r = true → owns u = true → σ[i]? = some (some x) → σ[j]? = some (some x) → False

/-- what an expression's value is, from H on -/
def Rs (K : Frag) (G : Gh) (H B' H' : Hp) (x : V) : R → Prop
  | .s d => Dp K B' x d
  | .l own ds => ∃ p xs, x = .ref p ∧ hide G H' p = some (.lst xs) ∧ DpAll K B' xs ds ∧ (own = true → B' p = none ∧ hide G H p = none)
  | .k own ds => ∃ p xs, x = .ref p ∧ hide G H' p = some (.dK xs) ∧ KvP K B' xs ds ∧ (own = true → B' p = none ∧ hide G H p = none)
  | .t own ds => ∃ p xs, x = .ref p ∧ hide G H' p = some (.dT xs) ∧ KvP K B' xs ds ∧ (own = true → B' p = none ∧ hide G H p = none)
  | .g => ∃ a c, x = .ref a ∧ G = deckG a c

section
variable {K : Frag} {G : Gh} {B0 H0 B H B' H' B1 H1 : Hp} {σ : L2.St} {ρ : Rho} {x : V} {r : R}
theorem SlotR.step (h : SlotR K G B0 H0 B H x r) (s : Stp G B H B' H') : SlotR K G B0 H0 B' H' x r := by
  have up : ∀ {p : Addr} {o : HO}, H p = some o → p ∉ G.at_ → H' p = some o := fun {p o} e z => by
    have := s.hh p o (by rw [hide_out z]; exact e)
    exact (hide_some this).2
  match r, h with
  | .s d, h => exact Dp.mono s.bb h
  | .l false ds, ⟨p, xs, e, h1, h2⟩ => exact ⟨p, xs, e, h1, DpAll.mono s.bb h2⟩
  | .l true ds, ⟨p, xs, e, h1, h2, h3, h4, h5⟩ => exact ⟨p, xs, e, up h1 h4, DpAll.mono s.bb h2, s.nw p _ h3 (by rw [hide_out h4]; exact h1), h4, h5⟩
  | .k false ds, ⟨p, xs, e, h1, h2⟩ => exact ⟨p, xs, e, h1, KvP.mono s.bb h2⟩
  | .k true ds, ⟨p, xs, e, h1, h2, h3, h4, h5⟩ => exact ⟨p, xs, e, up h1 h4, KvP.mono s.bb h2, s.nw p _ h3 (by rw [hide_out h4]; exact h1), h4, h5⟩
  | .t false ds, ⟨p, xs, e, h1, h2⟩ => exact ⟨p, xs, e, h1, KvP.mono s.bb h2⟩
  | .t true ds, ⟨p, xs, e, h1, h2, h3, h4, h5⟩ => exact ⟨p, xs, e, up h1 h4, KvP.mono s.bb h2, s.nw p _ h3 (by rw [hide_out h4]; exact h1), h4, h5⟩
  | .g, h => exact h
theorem Stt.step (h : Stt K G B0 H0 B H σ ρ) (s : Stp G B H B' H') (bh : Same B' (hide G H')) (gok : G.ok H') : Stt K G B0 H0 B' H' σ ρ :=
  ⟨h.len, bh, gok, h.st.trans s, fun i r e => let ⟨x, e1, e2⟩ := h.sl i r e; ⟨x, e1, e2.step s⟩, h.dis⟩
theorem Rs.step (h : Rs K G H B1 H1 x r) (s : Stp G B1 H1 B' H') : Rs K G H B' H' x r := by
  match r, h with
  | .s d, h => exact Dp.mono s.bb h
  | .l own ds, ⟨p, xs, e, h1, h2, h3⟩ =>
    exact ⟨p, xs, e, s.hh _ _ h1, DpAll.mono s.bb h2, fun o => let ⟨a, b⟩ := h3 o; ⟨s.nw p _ a h1, b⟩⟩
  | .k own ds, ⟨p, xs, e, h1, h2, h3⟩ => exact ⟨p, xs, e, s.hh _ _ h1, KvP.mono s.bb h2, fun o => let ⟨a, b⟩ := h3 o; ⟨s.nw p _ a h1, b⟩⟩
  | .t own ds, ⟨p, xs, e, h1, h2, h3⟩ => exact ⟨p, xs, e, s.hh _ _ h1, KvP.mono s.bb h2, fun o => let ⟨a, b⟩ := h3 o; ⟨s.nw p _ a h1, b⟩⟩
  | .g, h => exact h
/-- from an earlier start -/
theorem Rs.from (h : Rs K G H1 B' H' x r) (s : Stp G B H B1 H1) : Rs K G H B' H' x r := by
  have fr : ∀ {p : Addr}, hide G H1 p = none → hide G H p = none := fun e => s.hh.free e
  match r, h with
  | .s d, h => exact h
  | .l own ds, ⟨p, xs, e, h1, h2, h3⟩ => exact ⟨p, xs, e, h1, h2, fun o => let ⟨a, b⟩ := h3 o; ⟨a, fr b⟩⟩
  | .k own ds, ⟨p, xs, e, h1, h2, h3⟩ => exact ⟨p, xs, e, h1, h2, fun o => let ⟨a, b⟩ := h3 o; ⟨a, fr b⟩⟩
  | .t own ds, ⟨p, xs, e, h1, h2, h3⟩ => exact ⟨p, xs, e, h1, h2, fun o => let ⟨a, b⟩ := h3 o; ⟨a, fr b⟩⟩
  | .g, h => exact h
theorem Stt.notG (h : Stt K G B0 H0 B H σ ρ) {p : Addr} (e : H p = none) : p ∉ G.at_ := fun z => G.here _ h.gok _ z e
theorem Stt.freeB (h : Stt K G B0 H0 B H σ ρ) {p : Addr} (e : H p = none) : B p = none := h.bh.free (hide_free e)
/-- a slot read: never as one's own -/
def peek : R → R
  | .l _ xs => .l false xs
  | .k _ xs => .k false xs
  | .t _ xs => .t false xs
  | r => r
theorem SlotR.rs (h : SlotR K G B0 H0 B H x r) (s : Stp G B0 H0 B H) : Rs K G H B H x (peek r) := by
  match r, h with
  | .s d, h => exact h
  | .l false ds, ⟨p, xs, e, h1, h2⟩ => exact ⟨p, xs, e, s.hh _ _ h1, h2, fun o => by cases o⟩
  | .l true ds, ⟨p, xs, e, h1, h2, h3, h4, h5⟩ => exact ⟨p, xs, e, by rw [hide_out h4]; exact h1, h2, fun o => by cases o⟩
  | .k false ds, ⟨p, xs, e, h1, h2⟩ => exact ⟨p, xs, e, s.hh _ _ h1, h2, fun o => by cases o⟩
  | .k true ds, ⟨p, xs, e, h1, h2, h3, h4, h5⟩ => exact ⟨p, xs, e, by rw [hide_out h4]; exact h1, h2, fun o => by cases o⟩
  | .t false ds, ⟨p, xs, e, h1, h2⟩ => exact ⟨p, xs, e, s.hh _ _ h1, h2, fun o => by cases o⟩
  | .t true ds, ⟨p, xs, e, h1, h2, h3, h4, h5⟩ => exact ⟨p, xs, e, by rw [hide_out h4]; exact h1, h2, fun o => by cases o⟩
  | .g, h => exact h
/-- the owner of an object is away from all that is stable or older -/
theorem SlotR.own (h : SlotR K G B0 H0 B H x r) (o : owns r = true) : ∃ p u, x = .ref p ∧ H p = some u ∧ B p = none ∧ p ∉ G.at_ ∧ hide G H0 p = none := by
  match r, h with
  | .l true ds, ⟨p, xs, e, h1, h2, h3, h4, h5⟩ => exact ⟨p, _, e, h1, h3, h4, h5⟩
  | .k true ds, ⟨p, xs, e, h1, h2, h3, h4, h5⟩ => exact ⟨p, _, e, h1, h3, h4, h5⟩
  | .t true ds, ⟨p, xs, e, h1, h2, h3, h4, h5⟩ => exact ⟨p, _, e, h1, h3, h4, h5⟩
  | .s d, _ => cases o
  | .l false ds, _ => cases o
  | .k false ds, _ => cases o
  | .t false ds, _ => cases o
  | .g, _ => cases o
/-- what may be kept in a slot: data, and what is fresh -/
def keeps : R → Bool
  | .s _ => true
  | .g => true
  | .l o _ | .k o _ | .t o _ => o
theorem Rs.own_new (h : Rs K G H B' H' x r) (o : owns r = true) : ∃ p, x = .ref p ∧ hide G H p = none := by
  match r, o, h with
  | .l true ds, _, ⟨p, xs, e, h1, h2, h3⟩ => exact ⟨p, e, (h3 rfl).2⟩
  | .k true ds, _, ⟨p, xs, e, h1, h2, h3⟩ => exact ⟨p, e, (h3 rfl).2⟩
  | .t true ds, _, ⟨p, xs, e, h1, h2, h3⟩ => exact ⟨p, e, (h3 rfl).2⟩
theorem Rs.own_at (h : Rs K G H B' H' x r) (o : owns r = true) : ∃ p u, x = .ref p ∧ hide G H' p = some u := by
  match r, o, h with
  | .l true ds, _, ⟨p, xs, e, h1, h2, h3⟩ => exact ⟨p, _, e, h1⟩
  | .k true ds, _, ⟨p, xs, e, h1, h2, h3⟩ => exact ⟨p, _, e, h1⟩
  | .t true ds, _, ⟨p, xs, e, h1, h2, h3⟩ => exact ⟨p, _, e, h1⟩
/-- a kept result as a slot's value -/
theorem Rs.slot (hr : Rs K G H B' H' x r) (k : keeps r = true) (s : Same (hide G H0) (hide G H)) : SlotR K G B0 H0 B' H' x r := by
  match r, k, hr with
  | .s d, _, hr => exact hr
  | .l true ds, _, ⟨p, xs, e, h1, h2, h3⟩ => obtain ⟨a, b⟩ := h3 rfl; obtain ⟨z, y⟩ := hide_some h1; exact ⟨p, xs, e, y, h2, a, z, s.free b⟩
  | .k true ds, _, ⟨p, xs, e, h1, h2, h3⟩ => obtain ⟨a, b⟩ := h3 rfl; obtain ⟨z, y⟩ := hide_some h1; exact ⟨p, xs, e, y, h2, a, z, s.free b⟩
  | .t true ds, _, ⟨p, xs, e, h1, h2, h3⟩ => obtain ⟨a, b⟩ := h3 rfl; obtain ⟨z, y⟩ := hide_some h1; exact ⟨p, xs, e, y, h2, a, z, s.free b⟩
  | .g, _, hr => exact hr
/-- a new object is away from the slots' own ones -/
theorem Stt.away (h : Stt K G B0 H0 B H σ ρ) (hr : Rs K G H B' H' x r) (o1 : owns r = true) (j : Nat) (u : R) (y : V) (e1 : ρ[j]? = some (some u)) (o2 : owns u = true) (e2 : σ[j]? = some (some y)) : y ≠ x := by
  intro e3
  obtain ⟨z, f1, f2⟩ := h.sl j u e1
  rw [f1] at e2; cases e2
  obtain ⟨p, ob, ep, f3, f4, f5, f6⟩ := f2.own o2
  obtain ⟨q, eq, hq⟩ := hr.own_new o1
  rw [ep, eq] at e3
  cases e3
  rw [hide_out f5, f3] at hq; cases hq
/-- a slot is filled, in general -/
theorem Stt.fillG (hn : Stt K G B0 H0 B' H' σ ρ) (base : SlotR K G B0 H0 B' H' x r) (i : Nat) (hi : i < σ.length)
    (apart : ∀ (j : Nat) (u : R) (y : V), j ≠ i → ρ[j]? = some (some u) → owns r = true → owns u = true → σ[j]? = some (some y) → y = x → False) :
    Stt K G B0 H0 B' H' (σ.set i (some x)) (ρ.set i (some r)) := by
  have hi' : i < ρ.length := by rw [hn.len]; exact hi
  refine ⟨by simp [hn.len], hn.bh, hn.gok, hn.st, fun j u e => ?_, fun j m u v y hjm e1 e2 o1 o2 e3 e4 => ?_⟩
  · by_cases q : j = i
    · subst q
      rw [List.getElem?_set_self hi'] at e; cases e
      exact ⟨x, List.getElem?_set_self hi, base⟩
    · rw [List.getElem?_set_ne (Ne.symm q)] at e ⊢
      exact hn.sl j u e
  · by_cases qj : j = i
    · subst qj
      rw [List.getElem?_set_self hi'] at e1; cases e1
      rw [List.getElem?_set_self hi] at e3; cases e3
      rw [List.getElem?_set_ne hjm] at e2 e4
      exact apart m v _ (Ne.symm hjm) e2 o1 o2 e4 rfl
    · rw [List.getElem?_set_ne (Ne.symm qj)] at e1 e3
      by_cases qm : m = i
      · subst qm
        rw [List.getElem?_set_self hi'] at e2; cases e2
        rw [List.getElem?_set_self hi] at e4; cases e4
        exact apart j u _ qj e1 o2 o1 e3 rfl
      · rw [List.getElem?_set_ne (Ne.symm qm)] at e2 e4
        exact hn.dis j m u v y hjm e1 e2 o1 o2 e3 e4
theorem Stt.fill (h : Stt K G B0 H0 B H σ ρ) (s : Stp G B H B' H') (hn : Stt K G B0 H0 B' H' σ ρ) (k : keeps r = true) (hr : Rs K G H B' H' x r) (i : Nat) (hi : i < σ.length) :
    Stt K G B0 H0 B' H' (σ.set i (some x)) (ρ.set i (some r)) :=
  hn.fillG (hr.slot k h.st.hh) i hi fun j u y _ e1 o1 o2 e2 e3 => h.away hr o1 j u y e1 o2 e2 e3
/-- what stands in a slot of one's own is written -/
theorem Stt.mut {i : Nat} {p : Addr} {o : HO} {r' : R} (h : Stt K G B0 H0 B H σ ρ) (e1 : ρ[i]? = some (some r)) (ho : owns r = true) (e2 : σ[i]? = some (some (.ref p))) (hr : SlotR K G B0 H0 B (upd H p o) (.ref p) r') :
    Stt K G B0 H0 B (upd H p o) σ (ρ.set i (some r')) := by
  obtain ⟨x, f1, f2⟩ := h.sl i r e1
  rw [e2] at f1; cases f1
  obtain ⟨q, u, eq, h1, h2, h3, h4⟩ := f2.own ho
  cases eq
  have hi : i < ρ.length := (List.getElem?_eq_some_iff.mp e1).1
  have hu : hide G (upd H p o) = upd (hide G H) p o := hide_upd h3
  refine ⟨by rw [List.length_set]; exact h.len, fun b v e => ?_, ghost_upd h3 h.gok, ⟨h.st.bb, fun b v e => ?_, h.st.nw⟩, fun j v e => ?_, fun j m v w y hjm z1 z2 o1 o2 z3 z4 => ?_⟩
  · rw [hu, upd_ne (ne_of_none e h2)]; exact h.bh _ _ e
  · rw [hu, upd_ne (ne_of_none e h4)]; exact h.st.hh _ _ e
  · by_cases qj : j = i
    · subst qj
      rw [List.getElem?_set_self hi] at e; cases e
      exact ⟨_, e2, hr⟩
    · rw [List.getElem?_set_ne (Ne.symm qj)] at e
      obtain ⟨y, g1, g2⟩ := h.sl j v e
      refine ⟨y, g1, ?_⟩
      have ne : ∀ q, y = .ref q → owns v = true → q ≠ p := fun q ey ov eqp => by
        subst ey; subst eqp
        exact h.dis j i v r _ qj e e1 ov ho g1 e2
      match v, g2, ne with
      | .s d, g2, _ => exact g2
      | .l false ds, g2, _ => exact g2
      | .l true ds, ⟨q, xs, e, k1, k2, k3, k4, k5⟩, ne => exact ⟨q, xs, e, by rw [upd_ne (ne q e rfl)]; exact k1, k2, k3, k4, k5⟩
      | .k false ds, g2, _ => exact g2
      | .k true ds, ⟨q, xs, e, k1, k2, k3, k4, k5⟩, ne => exact ⟨q, xs, e, by rw [upd_ne (ne q e rfl)]; exact k1, k2, k3, k4, k5⟩
      | .t false ds, g2, _ => exact g2
      | .t true ds, ⟨q, xs, e, k1, k2, k3, k4, k5⟩, ne => exact ⟨q, xs, e, by rw [upd_ne (ne q e rfl)]; exact k1, k2, k3, k4, k5⟩
      | .g, g2, _ => exact g2
  · by_cases qj : j = i
    · subst qj
      rw [List.getElem?_set_ne hjm] at z2
      exact h.dis j m r w y hjm e1 z2 ho o2 z3 z4
    · rw [List.getElem?_set_ne (Ne.symm qj)] at z1
      by_cases qm : m = i
      · subst qm
        exact h.dis j m v r y hjm z1 e1 o1 ho z3 z4
      · rw [List.getElem?_set_ne (Ne.symm qm)] at z2
        exact h.dis j m v w y hjm z1 z2 o1 o2 z3 z4
/-- an object of one's own becomes stable -/
theorem Stt.freezeG {i : Nat} {d : D} {p : Addr} {o : HO} (h : Stt K G B0 H0 B H σ ρ) (e1 : ρ[i]? = some (some r)) (ho : owns r = true) (f1 : σ[i]? = some (some (.ref p))) (h1 : H p = some o) (h3 : B p = none) (h4 : p ∉ G.at_) (h5 : hide G H0 p = none)
    (hd : Same B (upd B p o) → Dp K (upd B p o) (.ref p) d) : ∃ B', Stt K G B0 H0 B' H σ (ρ.set i (some (.s d))) ∧ Same B B' := by
  have hi : i < ρ.length := (List.getElem?_eq_some_iff.mp e1).1
  have bb : Same B (upd B p o) := fun b u e => by rw [upd_ne (ne_of_none e h3)]; exact e
  have bh : Same (upd B p o) (hide G H) := fun b u e => by
    by_cases z : b = p
    · subst z; rw [upd_same] at e; cases e; rw [hide_out h4]; exact h1
    · rw [upd_ne z] at e; exact h.bh _ _ e
  refine ⟨upd B p o, ⟨by rw [List.length_set]; exact h.len, bh, h.gok, ⟨h.st.bb.trans bb, h.st.hh, fun b u z1 z2 => ?_⟩, fun j v e => ?_, fun j m v w y hjm z1 z2 o1 o2 z3 z4 => ?_⟩, bb⟩
  · rw [upd_ne (ne_of_none z2 h5)]; exact h.st.nw b u z1 z2
  · by_cases qj : j = i
    · subst qj
      rw [List.getElem?_set_self hi] at e; cases e
      exact ⟨_, f1, hd bb⟩
    · rw [List.getElem?_set_ne (Ne.symm qj)] at e
      obtain ⟨y, g1, g2⟩ := h.sl j v e
      refine ⟨y, g1, ?_⟩
      have ne : ∀ q, y = .ref q → owns v = true → q ≠ p := fun q ey ov eqp => by
        subst ey; subst eqp
        exact h.dis j i v _ _ qj e e1 ov ho g1 f1
      match v, g2, ne with
      | .s d, g2, _ => exact Dp.mono bb g2
      | .l false ds, ⟨q, xs, e, k1, k2⟩, _ => exact ⟨q, xs, e, k1, DpAll.mono bb k2⟩
      | .l true ds, ⟨q, xs, e, k1, k2, k3, k4, k5⟩, ne => exact ⟨q, xs, e, k1, DpAll.mono bb k2, by rw [upd_ne (ne q e rfl)]; exact k3, k4, k5⟩
      | .k false ds, ⟨q, xs, e, k1, k2⟩, _ => exact ⟨q, xs, e, k1, KvP.mono bb k2⟩
      | .k true ds, ⟨q, xs, e, k1, k2, k3, k4, k5⟩, ne => exact ⟨q, xs, e, k1, KvP.mono bb k2, by rw [upd_ne (ne q e rfl)]; exact k3, k4, k5⟩
      | .t false ds, ⟨q, xs, e, k1, k2⟩, _ => exact ⟨q, xs, e, k1, KvP.mono bb k2⟩
      | .t true ds, ⟨q, xs, e, k1, k2, k3, k4, k5⟩, ne => exact ⟨q, xs, e, k1, KvP.mono bb k2, by rw [upd_ne (ne q e rfl)]; exact k3, k4, k5⟩
      | .g, g2, _ => exact g2
  · by_cases qj : j = i
    · subst qj
      rw [List.getElem?_set_self hi] at z1; cases z1; cases o1
    · rw [List.getElem?_set_ne (Ne.symm qj)] at z1
      by_cases qm : m = i
      · subst qm
        rw [List.getElem?_set_self hi] at z2; cases z2; cases o2
      · rw [List.getElem?_set_ne (Ne.symm qm)] at z2
        exact h.dis j m v w y hjm z1 z2 o1 o2 z3 z4
theorem Stt.freeze {i : Nat} {ds : List D} (h : Stt K G B0 H0 B H σ ρ) (e1 : ρ[i]? = some (some (.l true ds))) : ∃ B', Stt K G B0 H0 B' H σ (ρ.set i (some (.s (.list ds)))) ∧ Same B B' := by
  obtain ⟨x, f1, ⟨p, xs, rfl, h1, h2, h3, h4, h5⟩⟩ := h.sl i _ e1
  exact h.freezeG e1 rfl f1 h1 h3 h4 h5 fun bb => .lst (.inl (.inl upd_same)) (DpAll.mono bb h2)
theorem Stt.freezeK {i : Nat} {ds : List (Key × D)} (h : Stt K G B0 H0 B H σ ρ) (e1 : ρ[i]? = some (some (.k true ds))) : ∃ B', Stt K G B0 H0 B' H σ (ρ.set i (some (.s (.dict (kvD ds))))) ∧ Same B B' := by
  obtain ⟨x, f1, ⟨p, xs, rfl, h1, h2, h3, h4, h5⟩⟩ := h.sl i _ e1
  exact h.freezeG e1 rfl f1 h1 h3 h4 h5 fun bb => .dic upd_same (KvP.kv (KvP.mono bb h2))
end
end DL

set_option Elab.async false
set_option linter.all false
set_option maxRecDepth 100000
/-! The data layer: expressions. -/
namespace DL
open PySem PySem.Spec PyProof.Rows L2

/-- a weakest precondition over data: of an expression, a test, an argument list -/
abbrev EW := Rho → (R → Prop) → (Value → Prop) → Prop
abbrev TW := Rho → (Bool → Prop) → (Value → Prop) → Prop
abbrev AW := Rho → (List R → Prop) → (Value → Prop) → Prop

inductive RsAll (K : Frag) (G : Gh) (H B' H' : Hp) : List V → List R → Prop
  | nil : RsAll K G H B' H' [] []
  | cons {x : V} {r : R} {xs : List V} {rs : List R} : Rs K G H B' H' x r → RsAll K G H B' H' xs rs → RsAll K G H B' H' (x :: xs) (r :: rs)

/-- results of one's own stand apart -/
def Apart : List V → List R → Prop
  | x :: xs, r :: rs => (owns r = true → ∀ (j : Nat) (u : R), rs[j]? = some u → owns u = true → xs[j]? ≠ some x) ∧ Apart xs rs
  | _, _ => True
theorem RsAll.get {K : Frag} {G : Gh} {H B' H' : Hp} : ∀ {xs : List V} {rs : List R} {j : Nat} {u : R}, RsAll K G H B' H' xs rs → rs[j]? = some u → ∃ y, xs[j]? = some y ∧ Rs K G H B' H' y u
  | _, _, _, _, .nil, e => by simp at e
  | _, _, 0, _, .cons h _, e => by simp at e; subst e; exact ⟨_, by simp, h⟩
  | _, _, j + 1, _, .cons _ t, e => by
    obtain ⟨y, h1, h2⟩ := RsAll.get (j := j) t (by simpa using e)
    exact ⟨y, by simpa using h1, h2⟩
/-- the readings that such words make -/
def TDe (K : Frag) (W : WX) (w : EW) : TE := fun σ H Q => ∃ (G : Gh) (B0 H0 B : Hp) (ρ : Rho) (Qd : R → Prop) (Qe : Value → Prop), Stt K G B0 H0 B H σ ρ ∧ w ρ Qd Qe ∧
  (∀ r x B' H', Stt K G B0 H0 B' H' σ ρ → Stp G B H B' H' → Rs K G H B' H' x r → Qd r → Q x H') ∧ (∀ cls d B' H', Qe cls → Stt K G B0 H0 B' H' σ ρ → Stp G B H B' H' → W cls d σ H')
def TDt (K : Frag) (W : WX) (w : TW) : TT := fun σ H Q => ∃ (G : Gh) (B0 H0 B : Hp) (ρ : Rho) (Qd : Bool → Prop) (Qe : Value → Prop), Stt K G B0 H0 B H σ ρ ∧ w ρ Qd Qe ∧
  (∀ b B' H', Stt K G B0 H0 B' H' σ ρ → Stp G B H B' H' → Qd b → Q b H') ∧ (∀ cls d B' H', Qe cls → Stt K G B0 H0 B' H' σ ρ → Stp G B H B' H' → W cls d σ H')
def TDa (K : Frag) (W : WX) (w : AW) : TA := fun σ H Q => ∃ (G : Gh) (B0 H0 B : Hp) (ρ : Rho) (Qd : List R → Prop) (Qe : Value → Prop), Stt K G B0 H0 B H σ ρ ∧ w ρ Qd Qe ∧
  (∀ rs xs B' H', Stt K G B0 H0 B' H' σ ρ → Stp G B H B' H' → RsAll K G H B' H' xs rs → Apart xs rs → Qd rs → Q xs H') ∧ (∀ cls d B' H', Qe cls → Stt K G B0 H0 B' H' σ ρ → Stp G B H B' H' → W cls d σ H')
abbrev PD (X : Cx) (W : WX) (e : Expr) (w : EW) : Prop := PE X e (TDe X.K W w)
abbrev PDt (X : Cx) (W : WX) (e : Expr) (w : TW) : Prop := PT X e (TDt X.K W w)
abbrev PDa (X : Cx) (W : WX) (es : List Expr) (w : AW) : Prop := PA X es (TDa X.K W w)

theorem pe_imp {X : Cx} {e : Expr} {t t' : TE} (h : PE X e t) (i : ∀ σ H Q, t' σ H Q → t σ H Q) : PE X e t' := ⟨fun pins s σ H Q I q => h.run pins s σ H Q I (i _ _ _ q)⟩
theorem pt_imp {X : Cx} {e : Expr} {t t' : TT} (h : PT X e t) (i : ∀ σ H Q, t' σ H Q → t σ H Q) : PT X e t' := ⟨fun pins s σ H Q I q => h.run pins s σ H Q I (i _ _ _ q)⟩
theorem pa_imp {X : Cx} {es : List Expr} {t t' : TA} (h : PA X es t) (i : ∀ σ H Q, t' σ H Q → t σ H Q) : PA X es t' := ⟨fun c pins s σ H Q I q => h.run c pins s σ H Q I (i _ _ _ q)⟩

section
variable {K : Frag} {G : Gh} {H B' H' B1 H1 B : Hp} {xs : List V} {rs : List R}
theorem RsAll.step (s : Stp G B1 H1 B' H') : ∀ {xs : List V} {rs : List R}, RsAll K G H B1 H1 xs rs → RsAll K G H B' H' xs rs
  | _, _, .nil => .nil
  | _, _, .cons h t => .cons (h.step s) (RsAll.step s t)
theorem RsAll.from (s : Stp G B H B1 H1) : ∀ {xs : List V} {rs : List R}, RsAll K G H1 B' H' xs rs → RsAll K G H B' H' xs rs
  | _, _, .nil => .nil
  | _, _, .cons h t => .cons (h.from s) (RsAll.from s t)
end

def erT {K : Frag} {W : WX} {G : Gh} {B0 H0 B H B1 H1 : Hp} {σ : L2.St} {ρ : Rho} {Qe : Value → Prop} (er : ∀ cls d B' H', Qe cls → Stt K G B0 H0 B' H' σ ρ → Stp G B H B' H' → W cls d σ H') (s1 : Stp G B H B1 H1) :
    ∀ cls d B' H', Qe cls → Stt K G B0 H0 B' H' σ ρ → Stp G B1 H1 B' H' → W cls d σ H' := fun cls d B' H' q S s => er cls d B' H' q S (s1.trans s)
/-! ### what a value is taken for -/
/-- a datum that may be stored -/
def R.dat : R → Option D
  | .s d => some d
  | _ => none
/-- a datum to be looked at -/
def R.look : R → Option D
  | .s d => some d
  | .l _ xs => some (.list xs)
  | _ => none
/-- the items of a list -/
def R.lst : R → Option (List D)
  | .l _ xs => some xs
  | _ => none
/-- the items of a list or a tuple -/
def R.seq : R → Option (List D)
  | .l _ xs => some xs
  | .s (.list xs) => some xs
  | .s (.tuple xs) => some xs
  | _ => none
def dats : List R → Option (List D)
  | [] => some []
  | r :: rs => match r.dat, dats rs with
    | some d, some ds => some (d :: ds)
    | _, _ => none
section
variable {K : Frag} {G : Gh} {H B' H' : Hp} {x : V} {r : R} {d : D}
theorem Rs.dat (h : Rs K G H B' H' x r) (e : r.dat = some d) : Dp K B' x d := by
  cases r with
  | s d' => cases e; exact h
  | _ => cases e
theorem hide_le (H : Hp) : Same (hide G H) H := fun a o e => (hide_some e).2
theorem Rs.look (h : Rs K G H B' H' x r) (e : r.look = some d) (bh : Same B' (hide G H')) : Dp K H' x d := by
  cases r with
  | s d' => cases e; exact Dp.mono (bh.trans (hide_le H')) h
  | l own xs =>
    cases e
    obtain ⟨p, vs, rfl, h1, h2, _⟩ := h
    exact .lst (.inl (.inl (hide_some h1).2)) (DpAll.mono (bh.trans (hide_le H')) h2)
  | _ => cases e
theorem dats_all : ∀ {xs : List V} {rs : List R} {ds : List D}, RsAll K G H B' H' xs rs → dats rs = some ds → DpAll K B' xs ds
  | _, _, _, .nil, e => by cases e; exact .nil
  | _, _, _, .cons (r := r) (rs := rs) h t, e => by
    unfold dats at e
    cases q : r.dat with
    | none => rw [q] at e; cases e
    | some d =>
      cases z : dats rs with
      | none => rw [q, z] at e; cases e
      | some ds =>
        rw [q, z] at e
        cases e
        exact .cons (h.dat q) (dats_all t z)
/-- the items of a list or tuple: where they stand, stable -/
theorem Rs.seq {ds : List D} (h : Rs K G H B' H' x r) (e : r.seq = some ds) (bh : Same B' (hide G H')) : ∃ p xs, x = .ref p ∧ DpAll K B' xs ds ∧ (SqL K H' p xs ∨ SqT K H' p xs) := by
  have up := bh.trans (hide_le H')
  cases r with
  | s d' =>
    cases d' with
    | list es =>
      cases e
      cases h with
      | lst h1 h2 => exact ⟨_, _, rfl, h2, .inl (Same.sqL up h1)⟩
    | tuple es =>
      cases e
      cases h with
      | tup h1 h2 => exact ⟨_, _, rfl, h2, .inr (Same.sqT up h1.t)⟩
    | _ => cases e
  | l own xs =>
    cases e
    obtain ⟨p, vs, rfl, h1, h2, _⟩ := h
    exact ⟨p, vs, rfl, h2, .inl (.inl (.inl (hide_some h1).2))⟩
  | _ => cases e
end

/-! ### dicts with int and text keys -/
def ofK : D → Option Key
  | .int i => some (.inl i)
  | .str x => some (.inr x)
  | _ => none
theorem ofK_kD : ∀ k : Key, ofK (kD k) = some k
  | .inl _ => rfl
  | .inr _ => rfl
theorem ofK_eq : ∀ {d : D} {k : Key}, ofK d = some k → d = kD k
  | .int _, _, e => by cases e; rfl
  | .str _, _, e => by cases e; rfl
  | .none, _, e => by cases e
  | .bool _, _, e => by cases e
  | .list _, _, e => by cases e
  | .tuple _, _, e => by cases e
  | .dict _, _, e => by cases e
def unK : List (D × D) → Option (List (Key × D))
  | [] => some []
  | (a, d) :: r => match ofK a, unK r with
    | some k, some s => some ((k, d) :: s)
    | _, _ => none
theorem unK_kvD : ∀ kvs : List (Key × D), unK (kvD kvs) = some kvs
  | [] => rfl
  | (k, d) :: r => by
    show (match ofK (kD k), unK (kvD r) with | some k, some s => some ((k, d) :: s) | _, _ => none) = _
    rw [ofK_kD, unK_kvD r]
theorem unK_eq : ∀ {l : List (D × D)} {kvs : List (Key × D)}, unK l = some kvs → l = kvD kvs
  | [], _, e => by cases e; rfl
  | (a, d) :: r, kvs, e => by
    unfold unK at e
    cases h1 : ofK a with
    | none => rw [h1] at e; cases e
    | some k =>
      cases h2 : unK r with
      | none => rw [h1, h2] at e; cases e
      | some s =>
        rw [h1, h2] at e
        cases e
        rw [unK_eq h2, ofK_eq h1]
        rfl
def kGet (kvs : List (Key × D)) (k : Key) : Option D := (kvs.find? fun p => decide (p.1 = k)).map (·.2)
def kPut (kvs : List (Key × D)) (k : Key) (d : D) : List (Key × D) := if (kvs.any fun p => decide (p.1 = k)) = true then kvs.map (fun p => if p.1 = k then (p.1, d) else p) else kvs ++ [(k, d)]
def kDrop (kvs : List (Key × D)) (k : Key) : List (Key × D) := kvs.filter fun p => decide (p.1 ≠ k)
def kMerge (kvs more : List (Key × D)) : List (Key × D) := more.foldl (fun acc p => kPut acc p.1 p.2) kvs
section
variable {K : Frag} {H : Hp}
theorem KvP.length : ∀ {xs : List (Key × V)} {ds : List (Key × D)}, KvP K H xs ds → xs.length = ds.length
  | _, _, .nil => rfl
  | _, _, .cons _ t => congrArg (· + 1) (KvP.length t)
theorem KvP.append : ∀ {xs ys : List (Key × V)} {ds es : List (Key × D)}, KvP K H xs ds → KvP K H ys es → KvP K H (xs ++ ys) (ds ++ es)
  | _, _, _, _, .nil, h => h
  | _, _, _, _, .cons h t, h' => .cons h (KvP.append t h')
theorem KvP.find (k : Key) : ∀ {xs : List (Key × V)} {ds : List (Key × D)}, KvP K H xs ds → (valV xs k = none ∧ kGet ds k = none) ∨ ∃ v d, valV xs k = some v ∧ kGet ds k = some d ∧ Dp K H v d
  | _, _, .nil => .inl ⟨rfl, rfl⟩
  | _, _, .cons (k := k') (x := x) (d := d) (xs := xs) (ds := ds) h t => by
    by_cases e : k' = k
    · refine .inr ⟨x, d, valV_pos (p := (k', x)) e, ?_, h⟩
      simp [kGet, e]
    · rw [valV_neg (p := (k', x)) e]
      have z : kGet ((k', d) :: ds) k = kGet ds k := by simp [kGet, List.find?_cons, e]
      rw [z]
      exact KvP.find k t
theorem KvP.any (k : Key) : ∀ {xs : List (Key × V)} {ds : List (Key × D)}, KvP K H xs ds → (xs.any fun p => decide (p.1 = k)) = ds.any fun p => decide (p.1 = k)
  | _, _, .nil => rfl
  | _, _, .cons h t => by rw [List.any_cons, List.any_cons, KvP.any k t]
theorem KvP.subst {v : V} {d : D} (k : Key) (hv : Dp K H v d) : ∀ {xs : List (Key × V)} {ds : List (Key × D)}, KvP K H xs ds → KvP K H (xs.map fun p => if p.1 = k then (p.1, v) else p) (ds.map fun p => if p.1 = k then (p.1, d) else p)
  | _, _, .nil => .nil
  | _, _, .cons (k := k') (x := x) (d := d') h t => by
    rw [List.map_cons, List.map_cons]
    by_cases e : k' = k
    · simp only [e, if_true]; exact .cons hv (KvP.subst k hv t)
    · simp only [e, if_false]; exact .cons h (KvP.subst k hv t)
theorem KvP.put {v : V} {d : D} {xs : List (Key × V)} {ds : List (Key × D)} (h : KvP K H xs ds) (k : Key) (hv : Dp K H v d) : KvP K H (putK xs k v) (kPut ds k d) := by
  unfold putK kPut
  rw [h.any k]
  by_cases e : (ds.any fun p => decide (p.1 = k)) = true
  · rw [if_pos e, if_pos e]; exact h.subst k hv
  · rw [if_neg e, if_neg e]; exact h.append (.cons hv .nil)
theorem KvP.drop (k : Key) : ∀ {xs : List (Key × V)} {ds : List (Key × D)}, KvP K H xs ds → KvP K H (dropK xs k) (kDrop ds k)
  | _, _, .nil => .nil
  | _, _, .cons (k := k') (x := x) (d := d') (xs := xs) (ds := ds) h t => by
    by_cases e : k' = k
    · have z1 : dropK ((k', x) :: xs) k = dropK xs k := by simp [dropK, e]
      have z2 : kDrop ((k', d') :: ds) k = kDrop ds k := by simp [kDrop, e]
      rw [z1, z2]; exact KvP.drop k t
    · have z1 : dropK ((k', x) :: xs) k = (k', x) :: dropK xs k := by simp [dropK, e]
      have z2 : kDrop ((k', d') :: ds) k = (k', d') :: kDrop ds k := by simp [kDrop, e]
      rw [z1, z2]; exact .cons h (KvP.drop k t)
theorem KvP.merge : ∀ {more : List (Key × V)} {md : List (Key × D)} {xs : List (Key × V)} {ds : List (Key × D)}, KvP K H more md → KvP K H xs ds → KvP K H (mergeK xs more) (kMerge ds md)
  | _, _, _, _, .nil, h => h
  | _, _, xs, ds, .cons (k := k) (x := x) (d := d) (xs := ms) (ds := md) hd t, h => have z : KvP K H (mergeK (putK xs k x) ms) (kMerge (kPut ds k d) md) := KvP.merge t (h.put k hd); z
end
/-- what is known of a dict -/
def R.kv : R → Option (List (Key × D))
  | .k _ kvs => some kvs
  | .s (.dict es) => unK es
  | _ => none
theorem Rs.kv {K : Frag} {G : Gh} {H B' H' : Hp} {x : V} {r : R} {kvs : List (Key × D)} (h : Rs K G H B' H' x r) (e : r.kv = some kvs) (bh : Same B' (hide G H')) : ∃ p xs, x = .ref p ∧ H' p = some (.dK xs) ∧ KvP K B' xs kvs := by
  cases r with
  | s d =>
    cases d with
    | dict l =>
      cases h with
      | dic h1 h2 =>
        have e2 := unK_eq (show unK l = some kvs from e)
        subst e2
        exact ⟨_, _, rfl, (hide_some (bh _ _ h1)).2, h2.pk⟩
    | _ => cases e
  | k own l =>
    cases e
    obtain ⟨p, xs, rfl, h1, h2, _⟩ := h
    exact ⟨p, xs, rfl, (hide_some h1).2, h2⟩
  | _ => cases e

/-! ### names, constants -/
def wVar (i : Nat) : EW := fun ρ Q _ => ∃ r, ρ[i]? = some (some r) ∧ Q (peek r)
def wC (r : R) : EW := fun _ Q _ => Q r
section
variable {X : Cx} {W : WX} {e a b c : Expr} {es : List Expr} {wa wb wc w : EW} {ws : AW} {wt wt' : TW} {pos : Pos}
theorem pd_var {i : Nat} (h : PE X e (tVar i)) : PD X W e (wVar i) := pe_imp h fun σ H Q ⟨G, B0, H0, B, ρ, Qd, Qe, S, ⟨r, e1, q⟩, ok, _⟩ => by
  obtain ⟨x, e2, hr⟩ := S.sl i r e1
  exact ⟨x, e2, ok _ _ _ _ S (Stp.refl ..) (hr.rs S.st) q⟩
theorem pd_const {v : V} {d : D} (h : PE X e (tC v)) (hd : ∀ B, Dp X.K B v d) : PD X W e (wC (.s d)) := pe_imp h fun σ H Q ⟨G, B0, H0, B, ρ, Qd, Qe, S, q, ok, _⟩ =>
  ok (.s d) _ _ _ S (Stp.refl ..) (hd B) q
theorem pd_int {i : Int} {j pos} : PD X W (.Constant (.int i) j pos) (wC (.s (.int i))) := pd_const pe_int fun _ => .int i
theorem pd_bl {b : Bool} {j pos} : PD X W (.Constant (.bool b) j pos) (wC (.s (.bool b))) := pd_const pe_bl fun _ => .bl b
theorem pd_non {j pos} : PD X W (.Constant .none j pos) (wC (.s .none)) := pd_const pe_non fun _ => .non
theorem pd_str {z : Str} {j pos} : PD X W (.Constant (.str z) j pos) (wC (.s (.str z))) := pd_const pe_str fun _ => .str z
/-- an exception class of the module, or a type, is no datum: they stand only where they are named -/
theorem pd_weak {w w' : EW} (h : PD X W e w) (i : ∀ ρ Q E, w' ρ Q E → w ρ Q E) : PD X W e w' := pe_imp h fun σ H Q ⟨G, B0, H0, B, ρ, Qd, Qe, S, q, r⟩ => ⟨G, B0, H0, B, ρ, Qd, Qe, S, i _ _ _ q, r⟩

/-! ### arguments, displays -/
def wNil : AW := fun _ Q _ => Q []
def wCons (w : EW) (ws : AW) : AW := fun ρ Q E => w ρ (fun r => ws ρ (fun rs => Q (r :: rs)) E) E
theorem pda_nil : PDa X W [] wNil := pa_imp pa_nil fun σ H Q ⟨G, B0, H0, B, ρ, Qd, Qe, S, q, ok, _⟩ => ok _ _ _ _ S (Stp.refl ..) .nil trivial q
theorem pda_cons (ha : PD X W e w) (hr : PDa X W es ws) (hs : starEach (e :: es) X.env = (false, eval e X.env) :: starEach es X.env := by rfl) : PDa X W (e :: es) (wCons w ws) :=
  pa_imp (pa_cons ha hr hs) fun σ H Q ⟨G, B0, H0, B, ρ, Qd, Qe, S, q, ok, er⟩ => by
    refine ⟨G, B0, H0, B, ρ, _, Qe, S, q, fun r x B1 H1 S1 s1 r1 q1 => ?_, er⟩
    refine ⟨G, B0, H0, B1, ρ, _, Qe, S1, q1, fun rs xs B2 H2 S2 s2 r2 a2 q2 => ok _ _ _ _ S2 (s1.trans s2) (.cons (r1.step s2) (r2.from s1)) ⟨fun o1 j u e1 o2 e2 => ?_, a2⟩ q2, erT er s1⟩
    obtain ⟨y, f1, f2⟩ := r2.get e1
    rw [e2] at f1; cases f1
    obtain ⟨p, ep, hp⟩ := f2.own_new o2
    obtain ⟨q', v, eq, hq⟩ := r1.own_at o1
    rw [ep] at eq; cases eq
    rw [hp] at hq; cases hq
/-- a fresh list that is stored: from now on a datum -/
def frz : R → R
  | .l true xs => .s (.list xs)
  | .k true kvs => .s (.dict (kvD kvs))
  | r => r
def wFrz (w : EW) : EW := fun ρ Q E => w ρ (fun r => Q (frz r)) E
theorem pd_frz (h : PD X W e w) : PD X W e (wFrz w) := pe_imp h fun σ H Q ⟨G, B0, H0, B, ρ, Qd, Qe, S, q, ok, er⟩ => by
  refine ⟨G, B0, H0, B, ρ, _, Qe, S, q, fun r x B1 H1 S1 s1 r1 q1 => ?_, er⟩
  cases r with
  | l own ds =>
    cases own with
    | false => exact ok _ _ _ _ S1 s1 r1 q1
    | true =>
      obtain ⟨p, xs, rfl, h1, h2, h3⟩ := r1
      obtain ⟨hb, hn⟩ := h3 rfl
      have bb : Same B1 (upd B1 p (.lst xs)) := fun b o e => by rw [upd_ne (ne_of_none e hb)]; exact e
      have bh : Same (upd B1 p (.lst xs)) (hide G H1) := fun b o e => by
        by_cases z : b = p
        · subst z; rw [upd_same] at e; cases e; exact h1
        · rw [upd_ne z] at e; exact S1.bh _ _ e
      have s2 : Stp G B H (upd B1 p (.lst xs)) H1 := ⟨s1.bb.trans bb, s1.hh, fun b o e1 e2 => by
        rw [upd_ne (ne_of_none e2 hn)]; exact s1.nw b o e1 e2⟩
      exact ok (.s (.list ds)) _ _ _ (S.step s2 bh S1.gok) s2 (.lst (.inl (.inl upd_same)) (DpAll.mono bb h2)) q1
  | k own ds =>
    cases own with
    | false => exact ok _ _ _ _ S1 s1 r1 q1
    | true =>
      obtain ⟨p, xs, rfl, h1, h2, h3⟩ := r1
      obtain ⟨hb, hn⟩ := h3 rfl
      have bb : Same B1 (upd B1 p (.dK xs)) := fun b o e => by rw [upd_ne (ne_of_none e hb)]; exact e
      have bh : Same (upd B1 p (.dK xs)) (hide G H1) := fun b o e => by
        by_cases z : b = p
        · subst z; rw [upd_same] at e; cases e; exact h1
        · rw [upd_ne z] at e; exact S1.bh _ _ e
      have s2 : Stp G B H (upd B1 p (.dK xs)) H1 := ⟨s1.bb.trans bb, s1.hh, fun b o e1 e2 => by
        rw [upd_ne (ne_of_none e2 hn)]; exact s1.nw b o e1 e2⟩
      exact ok (.s (.dict (kvD ds))) _ _ _ (S.step s2 bh S1.gok) s2 (.dic upd_same (KvP.kv (KvP.mono bb h2))) q1
  | _ => exact ok _ _ _ _ S1 s1 r1 q1
def wTup (ws : AW) : EW := fun ρ Q E => ws ρ (fun rs => ∃ ds, dats rs = some ds ∧ ds.length ≤ 16777216 ∧ Q (.s (.tuple ds))) E
def wLst (ws : AW) : EW := fun ρ Q E => ws ρ (fun rs => ∃ ds, dats rs = some ds ∧ ds.length ≤ 16777216 ∧ Q (.l true ds)) E
theorem line_eq : sizeLine = 16777216 := sizeLine_eq
/-- a new object that nobody else has: the state behind it, stable or not -/
theorem Stt.new {K : Frag} {G : Gh} {B0 H0 B H : Hp} {σ : L2.St} {ρ : Rho} {p : Addr} {o : HO} (S : Stt K G B0 H0 B H σ ρ) (h : H p = none) : Stt K G B0 H0 B (upd H p o) σ ρ := have hg := S.notG h
  S.step (Stp.new h) (fun b u e => by rw [hide_upd hg, upd_ne (ne_of_none e (S.freeB h))]; exact S.bh _ _ e) (ghost_upd hg S.gok)
theorem Stt.newS {K : Frag} {G : Gh} {B0 H0 B H : Hp} {σ : L2.St} {ρ : Rho} {p : Addr} {o : HO} (S : Stt K G B0 H0 B H σ ρ) (h : H p = none) : Stt K G B0 H0 (upd B p o) (upd H p o) σ ρ := have hg := S.notG h
  S.step (Stp.newS h (S.freeB h)) (fun b u e => by
    rw [hide_upd hg]
    by_cases z : b = p
    · subst z; rw [upd_same] at e ⊢; exact e
    · rw [upd_ne z] at e ⊢; exact S.bh _ _ e) (ghost_upd hg S.gok)
end
end DL

set_option Elab.async false
set_option linter.all false
set_option maxRecDepth 100000
/-! The data layer: operators, comparisons, subscripts, built-ins. -/
namespace DL
open PySem PySem.Spec PyProof.Rows L2

abbrev F1 := R → (R → Prop) → Prop
abbrev F2 := R → R → (R → Prop) → Prop
abbrev FL := List R → (R → Prop) → Prop
/-- what an operation finds, and what it hands on -/
structure Ctx (K : Frag) (G : Gh) (B H : Hp) : Prop where
  bh : Same B (hide G H)
  ok : G.ok H
def Cont (K : Frag) (G : Gh) (B H : Hp) (Qd : R → Prop) (Q : VK) : Prop := ∀ r z B' H', Stp G B H B' H' → Same B' (hide G H') → G.ok H' → Rs K G H B' H' z r → Qd r → Q z H'
def lift1 (K : Frag) (f : F1) : V → Hp → VK → Prop := fun x H Q => ∃ G Hs B a Qd, Ctx K G B H ∧ Rs K G Hs B H x a ∧ f a Qd ∧ Cont K G B H Qd Q
def lift2 (K : Frag) (f : F2) : R2 := fun x y H Q => ∃ G Hs B a b Qd, Ctx K G B H ∧ Rs K G Hs B H x a ∧ Rs K G Hs B H y b ∧ f a b Qd ∧ Cont K G B H Qd Q
def liftL (K : Frag) (f : FL) : List V → Hp → VK → Prop := fun xs H Q => ∃ G Hs B rs Qd, Ctx K G B H ∧ RsAll K G Hs B H xs rs ∧ f rs Qd ∧ Cont K G B H Qd Q
section
variable {K : Frag} {G : Gh} {B H : Hp} {Qd : R → Prop} {Q : VK}
theorem Cont.here (c : Ctx K G B H) (k : Cont K G B H Qd Q) {z : V} {r : R} (h : Rs K G H B H z r) (q : Qd r) : Q z H := k r z B H (Stp.refl ..) c.bh c.ok h q
theorem Cont.dat (c : Ctx K G B H) (k : Cont K G B H Qd Q) {z : V} {d : D} (h : Dp K B z d) (q : Qd (.s d)) : Q z H := k (.s d) z B H (Stp.refl ..) c.bh c.ok h q
theorem Ctx.notG (c : Ctx K G B H) {p : Addr} (e : H p = none) : p ∉ G.at_ := fun z => G.here _ c.ok _ z e
theorem Ctx.free (c : Ctx K G B H) {p : Addr} (e : H p = none) : B p = none := c.bh.free (hide_free e)
/-- a new tuple -/
theorem Cont.tup (c : Ctx K G B H) (k : Cont K G B H Qd Q) {xs : List V} {ds : List D} (h : DpAll K B xs ds) (q : Qd (.s (.tuple ds))) : NewT xs H Q := fun p o hp hn => by
  have s : Stp G B H (upd B p (.frz o (.tup xs))) (upd H p (.frz o (.tup xs))) := Stp.newS hp (c.free hp)
  refine k (.s (.tuple ds)) _ _ _ s (fun b u e => ?_) (ghost_upd (c.notG hp) c.ok) (.tup (.inl ⟨o, upd_same, hn⟩) (DpAll.mono s.bb h)) q
  rw [hide_upd (c.notG hp)]
  by_cases z : b = p
  · subst z; rw [upd_same] at e ⊢; exact e
  · rw [upd_ne z] at e ⊢; exact c.bh _ _ e
/-- a new list -/
theorem Cont.lst (c : Ctx K G B H) (k : Cont K G B H Qd Q) {p : Addr} (hp : H p = none) {xs : List V} {ds : List D} (h : DpAll K B xs ds) (q : Qd (.l true ds)) : Q (.ref p) (upd H p (.lst xs)) := by
  have g := c.notG hp
  refine k (.l true ds) _ B _ (Stp.new hp) (fun b u e => ?_) (ghost_upd g c.ok) ⟨p, xs, rfl, by rw [hide_out g, upd_same], h, fun _ => ⟨c.free hp, hide_free hp⟩⟩ q
  rw [hide_upd g, upd_ne (ne_of_none e (c.free hp))]; exact c.bh _ _ e
/-- a new dict -/
theorem Cont.dk (c : Ctx K G B H) (k : Cont K G B H Qd Q) {p : Addr} (hp : H p = none) {xs : List (Key × V)} {ds : List (Key × D)} (h : KvP K B xs ds) (q : Qd (.k true ds)) : Q (.ref p) (upd H p (.dK xs)) := by
  have g := c.notG hp
  refine k (.k true ds) _ B _ (Stp.new hp) (fun b u e => ?_) (ghost_upd g c.ok) ⟨p, xs, rfl, by rw [hide_out g, upd_same], h, fun _ => ⟨c.free hp, hide_free hp⟩⟩ q
  rw [hide_upd g, upd_ne (ne_of_none e (c.free hp))]; exact c.bh _ _ e
theorem Ctx.le (c : Ctx K G B H) : Same B H := c.bh.trans (hide_le H)
end

def wOp (f : F2) (wa wb : EW) : EW := fun ρ Q E => wa ρ (fun x => wb ρ (fun y => f x y Q) E) E
def wUn (f : F1) (wa : EW) : EW := fun ρ Q E => wa ρ (fun x => f x Q) E
def wCall1 (f : FL) (ws : AW) : EW := fun ρ Q E => ws ρ (fun rs => f rs Q) E
def wMeth (f : R → FL) (w : EW) (ws : AW) : EW := fun ρ Q E => w ρ (fun r => ws ρ (fun rs => f r rs Q) E) E

section
variable {X : Cx} {W : WX} {e a b c : Expr} {es : List Expr} {wa wb wc w : EW} {ws : AW} {wt wt' : TW} {pos : Pos}
/-- the end of two parts -/
theorem op_core {f : F2} {t : TE} (h : PE X e (tOp (lift2 X.K f) (TDe X.K W wa) (TDe X.K W wb))) : PD X W e (wOp f wa wb) :=
  pe_imp h fun σ H Q ⟨G, B0, H0, B, ρ, Qd, Qe, S, q, ok, er⟩ => by
    refine ⟨G, B0, H0, B, ρ, _, Qe, S, q, fun r x B1 H1 S1 s1 r1 q1 => ?_, er⟩
    refine ⟨G, B0, H0, B1, ρ, _, Qe, S1, q1, fun r' y B2 H2 S2 s2 r2 q2 => ?_, erT er s1⟩
    exact ⟨G, H, B2, r, r', _, ⟨S2.bh, S2.gok⟩, r1.step s2, r2.from s1, q2, fun r3 z B3 H3 s3 bh gk rz qz => ok _ _ _ _ (S2.step s3 bh gk) ((s1.trans s2).trans s3) (rz.from (s1.trans s2)) qz⟩
theorem pd_op {op : Operator} {f : F2} (ho : OpR X (binaryOp op) (lift2 X.K f)) (ha : PD X W a wa) (hb : PD X W b wb) : PD X W (.BinOp a op b pos) (wOp f wa wb) := op_core (t := fun _ _ _ => True) (pe_op ho ha hb)
theorem pd_cmp {op : CmpOp} {f : F2} (ho : OpR X (compareOp op) (lift2 X.K f)) (ha : PD X W a wa) (hb : PD X W b wb) (hm : behindInMarks op b = false) : PD X W (.Compare a [op] [b] pos) (wOp f wa wb) :=
  op_core (t := fun _ _ _ => True) (pe_cmpR ho ha hb hm)
theorem pd_ix {f : F2} (hr : IxR X (lift2 X.K f)) (ha : PD X W a wa) (hb : PD X W b wb) (hs : PlainIx b) : PD X W (.Subscript a b pos) (wOp f wa wb) := op_core (t := fun _ _ _ => True) (pe_ix hr ha hb hs)
theorem pd_un {op : UnaryOp} {f : F1} (ho : UnR X (unaryOp op) (lift1 X.K f)) (ha : PD X W a wa) : PD X W (.UnaryOp op a pos) (wUn f wa) :=
  pe_imp (pe_un ho ha) fun σ H Q ⟨G, B0, H0, B, ρ, Qd, Qe, S, q, ok, er⟩ => by
    refine ⟨G, B0, H0, B, ρ, _, Qe, S, q, fun r x B1 H1 S1 s1 r1 q1 => ?_, er⟩
    exact ⟨G, H, B1, r, _, ⟨S1.bh, S1.gok⟩, r1, q1, fun r3 z B3 H3 s3 bh gk rz qz => ok _ _ _ _ (S1.step s3 bh gk) (s1.trans s3) (rz.from s1) qz⟩
/-- a built-in called by its name -/
theorem call_core {f : FL} {t : TA} (h : PE X e (tCB (liftL X.K f) (TDa X.K W ws))) : PD X W e (wCall1 f ws) :=
  pe_imp h fun σ H Q ⟨G, B0, H0, B, ρ, Qd, Qe, S, q, ok, er⟩ => by
    refine ⟨G, B0, H0, B, ρ, _, Qe, S, q, fun rs xs B1 H1 S1 s1 r1 _ q1 => ?_, er⟩
    exact ⟨G, H, B1, rs, _, ⟨S1.bh, S1.gok⟩, r1, q1, fun r3 z B3 H3 s3 bh gk rz qz => ok _ _ _ _ (S1.step s3 bh gk) (s1.trans s3) (rz.from s1) qz⟩

/-! ### a test -/
def wTst (w : EW) : TW := fun ρ Q E => w ρ (fun r => ∃ b, r = .s (.bool b) ∧ Q b) E
theorem pdt_val (h : PD X W e w) (he : ∀ whole, isTrue e X.env whole = (do let v ← whole; standAt e.pos; holding [v] (truthy v)) := by intro _; rfl) : PDt X W e (wTst w) :=
  pt_imp (pt_val h he) fun σ H Q ⟨G, B0, H0, B, ρ, Qd, Qe, S, q, ok, er⟩ => by
    refine ⟨G, B0, H0, B, ρ, _, Qe, S, q, fun r x B1 H1 S1 s1 r1 q1 => ?_, er⟩
    obtain ⟨b, rfl, q1⟩ := q1
    cases (show Dp X.K B1 x (.bool b) from r1)
    exact ⟨b, rfl, ok _ _ _ S1 s1 q1⟩
theorem pdt_cmp {op : CmpOp} {f : F2} (ho : OpR X (compareOp op) (lift2 X.K f)) (ha : PD X W a wa) (hb : PD X W b wb) (hm : behindInMarks op b = false) : PDt X W (.Compare a [op] [b] pos) (wTst (wOp f wa wb)) :=
  pt_imp (pt_cmpR ho ha hb hm) fun σ H Q ⟨G, B0, H0, B, ρ, Qd, Qe, S, q, ok, er⟩ => by
    refine ⟨G, B0, H0, B, ρ, _, Qe, S, q, fun r x B1 H1 S1 s1 r1 q1 => ?_, er⟩
    refine ⟨G, B0, H0, B1, ρ, _, Qe, S1, q1, fun r' y B2 H2 S2 s2 r2 q2 => ?_, erT er s1⟩
    refine ⟨G, H, B2, r, r', _, ⟨S2.bh, S2.gok⟩, r1.step s2, r2.from s1, q2, fun r3 z B3 H3 s3 bh gk rz qz => ?_⟩
    obtain ⟨k, rfl, qz⟩ := qz
    cases (show Dp X.K B3 z (.bool k) from rz)
    exact ⟨k, rfl, ok _ _ _ (S2.step s3 bh gk) ((s1.trans s2).trans s3) qz⟩
def wAndT (t u : TW) : TW := fun ρ Q E => t ρ (fun b => if b = true then u ρ Q E else Q false) E
def wOrT (t u : TW) : TW := fun ρ Q E => t ρ (fun b => if b = true then Q true else u ρ Q E) E
def wNotT (t : TW) : TW := fun ρ Q E => t ρ (fun b => Q (!b)) E
/-- a chain of and, or: whatever its 'whole' is -/
abbrev PDw (X : Cx) (W : WX) (e : Expr) (w : TW) : Prop := PW X e (TDt X.K W w)
theorem pw_imp {X : Cx} {e : Expr} {t t' : TT} (h : PW X e t) (i : ∀ σ H Q, t' σ H Q → t σ H Q) : PW X e t' := ⟨fun c pins s σ H Q I q => h.run c pins s σ H Q I (i _ _ _ q)⟩
theorem pdw_and {rest : List Expr} (ha : PDt X W a wt) (hb : PDw X W (.BoolOp .And (b :: rest) pos) wt') : PDw X W (.BoolOp .And (a :: b :: rest) pos) (wAndT wt wt') :=
  pw_imp (pw_and ha hb) fun σ H Q ⟨G, B0, H0, B, ρ, Qd, Qe, S, q, ok, er⟩ => by
    refine ⟨G, B0, H0, B, ρ, _, Qe, S, q, fun k B1 H1 S1 s1 q1 => ?_, er⟩
    cases k with
    | true => exact iteT ⟨G, B0, H0, B1, ρ, _, Qe, S1, (if_pos rfl).mp q1, fun k B2 H2 S2 s2 q2 => ok _ _ _ S2 (s1.trans s2) q2, erT er s1⟩
    | false => exact iteF (ok _ _ _ S1 s1 ((if_neg Bool.false_ne_true).mp q1))
theorem pdw_or {rest : List Expr} (ha : PDt X W a wt) (hb : PDw X W (.BoolOp .Or (b :: rest) pos) wt') : PDw X W (.BoolOp .Or (a :: b :: rest) pos) (wOrT wt wt') :=
  pw_imp (pw_or ha hb) fun σ H Q ⟨G, B0, H0, B, ρ, Qd, Qe, S, q, ok, er⟩ => by
    refine ⟨G, B0, H0, B, ρ, _, Qe, S, q, fun k B1 H1 S1 s1 q1 => ?_, er⟩
    cases k with
    | true => exact iteT (ok _ _ _ S1 s1 ((if_pos rfl).mp q1))
    | false => exact iteF ⟨G, B0, H0, B1, ρ, _, Qe, S1, (if_neg Bool.false_ne_true).mp q1, fun k B2 H2 S2 s2 q2 => ok _ _ _ S2 (s1.trans s2) q2, erT er s1⟩
theorem pdw_and1 (ha : PDt X W a wt) : PDw X W (.BoolOp .And [a] pos) wt := pw_and1 ha
theorem pdw_or1 (ha : PDt X W a wt) : PDw X W (.BoolOp .Or [a] pos) wt := pw_or1 ha
theorem pdt_w (h : PDw X W e wt) : PDt X W e wt := h.pt
theorem pdt_not (ha : PDt X W a wt) : PDt X W (.UnaryOp .Not a pos) (wNotT wt) :=
  pt_imp (pt_not ha) fun σ H Q ⟨G, B0, H0, B, ρ, Qd, Qe, S, q, ok, er⟩ => ⟨G, B0, H0, B, ρ, _, Qe, S, q, fun k B1 H1 S1 s1 q1 => ok _ _ _ S1 s1 q1, er⟩

/-! ### and, or, not, if as values -/
def wAndV (wa wb : EW) : EW := fun ρ Q E => wa ρ (fun r => ∃ b, r = .s (.bool b) ∧ if b = true then wb ρ Q E else Q (.s (.bool false))) E
def wOrV (wa wb : EW) : EW := fun ρ Q E => wa ρ (fun r => ∃ b, r = .s (.bool b) ∧ if b = true then Q (.s (.bool true)) else wb ρ Q E) E
def wNotV (wa : EW) : EW := fun ρ Q E => wa ρ (fun r => ∃ b, r = .s (.bool b) ∧ Q (.s (.bool (!b)))) E
def wIf (t : TW) (wa wb : EW) : EW := fun ρ Q E => t ρ (fun b => if b = true then wa ρ Q E else wb ρ Q E) E
theorem pd_one {op} (h : PD X W a w) : PD X W (.BoolOp op [a] pos) w := pe_one h
theorem pd_and {rest : List Expr} (ha : PD X W a wa) (hb : PD X W (.BoolOp .And (b :: rest) pos) wb) : PD X W (.BoolOp .And (a :: b :: rest) pos) (wAndV wa wb) :=
  pe_imp (pe_and ha hb) fun σ H Q ⟨G, B0, H0, B, ρ, Qd, Qe, S, q, ok, er⟩ => by
    refine ⟨G, B0, H0, B, ρ, _, Qe, S, q, fun r x B1 H1 S1 s1 r1 q1 => ?_, er⟩
    obtain ⟨k, rfl, q1⟩ := q1
    cases (show Dp X.K B1 x (.bool k) from r1)
    refine ⟨k, rfl, ?_⟩
    cases k with
    | true => exact iteT ⟨G, B0, H0, B1, ρ, _, Qe, S1, (if_pos rfl).mp q1, fun r y B2 H2 S2 s2 r2 q2 => ok _ _ _ _ S2 (s1.trans s2) (r2.from s1) q2, erT er s1⟩
    | false => exact iteF (ok (.s (.bool false)) _ _ _ S1 s1 (.bl false) ((if_neg Bool.false_ne_true).mp q1))
theorem pd_or {rest : List Expr} (ha : PD X W a wa) (hb : PD X W (.BoolOp .Or (b :: rest) pos) wb) : PD X W (.BoolOp .Or (a :: b :: rest) pos) (wOrV wa wb) :=
  pe_imp (pe_or ha hb) fun σ H Q ⟨G, B0, H0, B, ρ, Qd, Qe, S, q, ok, er⟩ => by
    refine ⟨G, B0, H0, B, ρ, _, Qe, S, q, fun r x B1 H1 S1 s1 r1 q1 => ?_, er⟩
    obtain ⟨k, rfl, q1⟩ := q1
    cases (show Dp X.K B1 x (.bool k) from r1)
    refine ⟨k, rfl, ?_⟩
    cases k with
    | true => exact iteT (ok (.s (.bool true)) _ _ _ S1 s1 (.bl true) ((if_pos rfl).mp q1))
    | false => exact iteF ⟨G, B0, H0, B1, ρ, _, Qe, S1, (if_neg Bool.false_ne_true).mp q1, fun r y B2 H2 S2 s2 r2 q2 => ok _ _ _ _ S2 (s1.trans s2) (r2.from s1) q2, erT er s1⟩
theorem pd_not (ha : PD X W a wa) : PD X W (.UnaryOp .Not a pos) (wNotV wa) :=
  pe_imp (pe_not ha) fun σ H Q ⟨G, B0, H0, B, ρ, Qd, Qe, S, q, ok, er⟩ => by
    refine ⟨G, B0, H0, B, ρ, _, Qe, S, q, fun r x B1 H1 S1 s1 r1 q1 => ?_, er⟩
    obtain ⟨k, rfl, q1⟩ := q1
    cases (show Dp X.K B1 x (.bool k) from r1)
    exact ⟨k, rfl, ok (.s (.bool (!k))) _ _ _ S1 s1 (.bl _) q1⟩
theorem pd_if {t : Expr} (hc : PDt X W t wt) (ha : PD X W a wa) (hb : PD X W b wb) : PD X W (.IfExp t a b pos) (wIf wt wa wb) :=
  pe_imp (pe_ifExp hc ha hb) fun σ H Q ⟨G, B0, H0, B, ρ, Qd, Qe, S, q, ok, er⟩ => by
    refine ⟨G, B0, H0, B, ρ, _, Qe, S, q, fun k B1 H1 S1 s1 q1 => ?_, er⟩
    cases k with
    | true => exact iteT ⟨G, B0, H0, B1, ρ, _, Qe, S1, (if_pos rfl).mp q1, fun r y B2 H2 S2 s2 r2 q2 => ok _ _ _ _ S2 (s1.trans s2) (r2.from s1) q2, erT er s1⟩
    | false => exact iteF ⟨G, B0, H0, B1, ρ, _, Qe, S1, (if_neg Bool.false_ne_true).mp q1, fun r y B2 H2 S2 s2 r2 q2 => ok _ _ _ _ S2 (s1.trans s2) (r2.from s1) q2, erT er s1⟩
/-- a chain of two comparisons -/
def wChain (f f' : F2) (wa wb wc : EW) : EW := fun ρ Q E => wa ρ (fun x => wb ρ (fun y => f x y fun r => ∃ k, r = .s (.bool k) ∧ if k = true then wc ρ (fun z => f' y z Q) E else Q (.s (.bool false))) E) E
theorem pd_chain {f f' : F2} (h : PE X e (tChain (lift2 X.K f) (lift2 X.K f') (TDe X.K W wa) (TDe X.K W wb) (TDe X.K W wc))) : PD X W e (wChain f f' wa wb wc) :=
  pe_imp h fun σ H Q ⟨G, B0, H0, B, ρ, Qd, Qe, S, q, ok, er⟩ => by
    refine ⟨G, B0, H0, B, ρ, _, Qe, S, q, fun r x B1 H1 S1 s1 r1 q1 => ?_, er⟩
    refine ⟨G, B0, H0, B1, ρ, _, Qe, S1, q1, fun r' y B2 H2 S2 s2 r2 q2 => ?_, erT er s1⟩
    have s12 := s1.trans s2
    refine ⟨G, H, B2, r, r', _, ⟨S2.bh, S2.gok⟩, r1.step s2, r2.from s1, q2, fun r3 z B3 H3 s3 bh gk rz qz => ?_⟩
    obtain ⟨k, rfl, qz⟩ := qz
    cases (show Dp X.K B3 z (.bool k) from rz)
    have S3 := S2.step s3 bh gk
    have s13 := s12.trans s3
    refine ⟨k, rfl, ?_⟩
    cases k with
    | false => exact iteF (ok (.s (.bool false)) _ _ _ S3 s13 (.bl false) ((if_neg Bool.false_ne_true).mp qz))
    | true =>
      refine iteT ⟨G, B0, H0, B3, ρ, _, Qe, S3, (if_pos rfl).mp qz, fun r4 w4 B4 H4 S4 s4 r4' q4 => ?_, erT er s13⟩
      exact ⟨G, H, B4, r', r4, _, ⟨S4.bh, S4.gok⟩, (r2.from s1).step (s3.trans s4), r4'.from s13, q4, fun r5 z5 B5 H5 s5 bh5 gk5 rz5 qz5 =>
        ok _ _ _ _ (S4.step s5 bh5 gk5) ((s13.trans s4).trans s5) (rz5.from (s13.trans s4)) qz5⟩
theorem pdt_chain {f f' : F2} (h : PT X e (tTest (tChain (lift2 X.K f) (lift2 X.K f') (TDe X.K W wa) (TDe X.K W wb) (TDe X.K W wc)))) : PDt X W e (wTst (wChain f f' wa wb wc)) :=
  pt_imp h fun σ H Q ⟨G, B0, H0, B, ρ, Qd, Qe, S, q, ok, er⟩ => by
    refine ⟨G, B0, H0, B, ρ, _, Qe, S, q, fun r x B1 H1 S1 s1 r1 q1 => ?_, er⟩
    refine ⟨G, B0, H0, B1, ρ, _, Qe, S1, q1, fun r' y B2 H2 S2 s2 r2 q2 => ?_, erT er s1⟩
    have s12 := s1.trans s2
    refine ⟨G, H, B2, r, r', _, ⟨S2.bh, S2.gok⟩, r1.step s2, r2.from s1, q2, fun r3 z B3 H3 s3 bh gk rz qz => ?_⟩
    obtain ⟨k, rfl, qz⟩ := qz
    cases (show Dp X.K B3 z (.bool k) from rz)
    have S3 := S2.step s3 bh gk
    have s13 := s12.trans s3
    refine ⟨k, rfl, ?_⟩
    cases k with
    | false =>
      obtain ⟨b, e, q⟩ := (if_neg Bool.false_ne_true).mp qz
      cases e
      exact iteF ⟨false, rfl, ok _ _ _ S3 s13 q⟩
    | true =>
      refine iteT ⟨G, B0, H0, B3, ρ, _, Qe, S3, (if_pos rfl).mp qz, fun r4 w4 B4 H4 S4 s4 r4' q4 => ?_, erT er s13⟩
      refine ⟨G, H, B4, r', r4, _, ⟨S4.bh, S4.gok⟩, (r2.from s1).step (s3.trans s4), r4'.from s13, q4, fun r5 z5 B5 H5 s5 bh5 gk5 rz5 qz5 => ?_⟩
      obtain ⟨b, rfl, q⟩ := qz5
      cases (show Dp X.K B5 z5 (.bool b) from rz5)
      exact ⟨b, rfl, ok _ _ _ (S4.step s5 bh5 gk5) ((s13.trans s4).trans s5) q⟩
end
end DL

set_option Elab.async false
set_option linter.all false
set_option maxRecDepth 100000
/-! The data layer: what operators, comparisons and built-ins do with data. -/
namespace DL
open PySem PySem.Spec PyProof.Rows L2

def R.isS : R → Bool
  | .s _ => true
  | _ => false
section
variable {K : Frag} {G : Gh} {Hs B H : Hp} {x : V}
theorem Rs.int {i : Int} (h : Rs K G Hs B H x (.s (.int i))) : x = .int i := by cases (show Dp K B x (.int i) from h); rfl
theorem Rs.bool {i : Bool} (h : Rs K G Hs B H x (.s (.bool i))) : x = .bl i := by cases (show Dp K B x (.bool i) from h); rfl
theorem Rs.str {i : Str} (h : Rs K G Hs B H x (.s (.str i))) : x = .str i := by cases (show Dp K B x (.str i) from h); rfl
theorem Rs.none (h : Rs K G Hs B H x (.s .none)) : x = .non := by cases (show Dp K B x .none from h); rfl
theorem Rs.tup {ds : List D} (h : Rs K G Hs B H x (.s (.tuple ds))) : ∃ p xs, x = .ref p ∧ SqN K B p xs ∧ DpAll K B xs ds := by
  cases (show Dp K B x (.tuple ds) from h) with
  | tup h1 h2 => exact ⟨_, _, rfl, h1, h2⟩
theorem RsAll.one {xs : List V} {r : R} (h : RsAll K G Hs B H xs [r]) : ∃ x, xs = [x] ∧ Rs K G Hs B H x r := by
  cases h with
  | cons h1 h2 => cases h2; exact ⟨_, rfl, h1⟩
theorem RsAll.two {xs : List V} {r u : R} (h : RsAll K G Hs B H xs [r, u]) : ∃ x y, xs = [x, y] ∧ Rs K G Hs B H x r ∧ Rs K G Hs B H y u := by
  cases h with
  | cons h1 h2 => cases h2 with
    | cons h2 h3 => cases h3; exact ⟨_, _, rfl, h1, h2⟩
end

/-! ### + - * // % ** -/
def fAdd : F2 := fun a b Q => match a with
  | .s (.int i) => ∃ j, b = .s (.int j) ∧ Q (.s (.int (i + j)))
  | .s (.str x) => ∃ y, b = .s (.str y) ∧ x.length + y.length ≤ 16777216 ∧ Q (.s (.str (x ++ y)))
  | .s (.tuple xs) => ∃ ys, b = .s (.tuple ys) ∧ xs.length + ys.length ≤ 16777216 ∧ Q (.s (.tuple (xs ++ ys)))
  | .l _ xs => ∃ o ys, b = .l o ys ∧ xs.length + ys.length ≤ 16777216 ∧ Q (.l true (xs ++ ys))
  | _ => False
def fInt (C : Int → Int → Prop) (g : Int → Int → Int) : F2 := fun a b Q => ∃ i j, a = .s (.int i) ∧ b = .s (.int j) ∧ C i j ∧ Q (.s (.int (g i j)))
abbrev fSub : F2 := fInt (fun _ _ => True) (· - ·)
def fMul : F2 := fun a b Q => match a with
  | .s (.int i) => ∃ j, b = .s (.int j) ∧ CMul i j ∧ Q (.s (.int (i * j)))
  | .s (.tuple xs) => ∃ j, b = .s (.int j) ∧ xs ≠ [] ∧ 0 ≤ j ∧ j ≤ 1000 ∧ xs.length ≤ 1000 ∧ Q (.s (.tuple (List.replicate j.toNat xs).flatten))
  | _ => False
abbrev fDiv : F2 := fInt CDiv (· / ·)
abbrev fMod : F2 := fInt (fun _ j => 0 < j) (· % ·)
abbrev fPow : F2 := fInt CPow (fun i j => i ^ j.toNat)
def fNeg : F1 := fun a Q => ∃ i, a = .s (.int i) ∧ Q (.s (.int (-i)))
section
variable {X : Cx}
theorem DpAll.flat {K : Frag} {H : Hp} {xs : List V} {ds : List D} (h : DpAll K H xs ds) (n : Nat) : DpAll K H (List.replicate n xs).flatten (List.replicate n ds).flatten := by
  induction n with
  | zero => exact .nil
  | succ n ih =>
    rw [List.replicate_succ, List.replicate_succ, List.flatten_cons, List.flatten_cons]
    exact h.append ih
theorem DpAll.nil_of {K : Frag} {H : Hp} {xs : List V} (h : DpAll K H xs []) : xs = [] := by cases h; rfl
theorem o_add : OpR X (binaryOp .Add) (lift2 X.K fAdd) := by
  intro pins s σ H x y v u Q I rx ry hh
  obtain ⟨G, Hs, B, a, b, Qd, c, ra, rb, q, k⟩ := hh
  unfold fAdd at q
  split at q
  · obtain ⟨j, rfl, q⟩ := q
    cases ra.int; cases rb.int
    exact op_add pins s σ H _ _ v u Q I rx ry ⟨_, _, rfl, rfl, k.dat c (.int _) q⟩
  · obtain ⟨j, rfl, hz, q⟩ := q
    cases ra.str; cases rb.str
    exact op_add_str pins s σ H _ _ v u Q I rx ry ⟨_, _, rfl, rfl, by rw [line_eq]; exact hz, k.dat c (.str _) q⟩
  · obtain ⟨ys, rfl, hz, q⟩ := q
    obtain ⟨p1, xs1, rfl, h1, h2⟩ := ra.tup
    obtain ⟨p2, xs2, rfl, h3, h4⟩ := rb.tup
    refine opN_cat pins s σ H _ _ v u Q I rx ry ⟨p1, p2, xs1, xs2, rfl, rfl, (h1.up c.le).t, (h3.up c.le).t, by rw [line_eq, h2.length, h4.length]; exact hz, fun e => ?_, fun _ e => ?_, fun _ _ => ?_⟩
    · subst e
      have := h2.length
      rename_i xs0
      obtain rfl : xs0 = [] := List.eq_nil_of_length_eq_zero this.symm
      exact k.dat c (.tup h3 h4) q
    · subst e
      obtain rfl : ys = [] := List.eq_nil_of_length_eq_zero h4.length.symm
      rw [List.append_nil] at q
      exact k.dat c (.tup h1 h2) q
    · exact k.tup c (h2.append h4) q
  · obtain ⟨o, ys, rfl, hz, q⟩ := q
    obtain ⟨p1, xs1, rfl, h1, h2, _⟩ := ra
    obtain ⟨p2, xs2, rfl, h3, h4, _⟩ := rb
    exact op_cat pins s σ H _ _ v u Q I rx ry ⟨p1, p2, xs1, xs2, rfl, rfl, (hide_some h1).2, (hide_some h3).2, by rw [line_eq, h2.length, h4.length]; exact hz, fun p hp => k.lst c hp (h2.append h4) q⟩
  · exact q.elim
theorem o_int {f : Value → Value → Sem Value} {C : Int → Int → Prop} {g : Int → Int → Int} (h : OpR X f (rI C fun i j => .int (g i j))) : OpR X f (lift2 X.K (fInt C g)) := by
  intro pins s σ H x y v u Q I rx ry hh
  obtain ⟨G, Hs, B, a, b, Qd, c, ra, rb, ⟨i, j, rfl, rfl, hc, q⟩, k⟩ := hh
  cases ra.int; cases rb.int
  exact h pins s σ H _ _ v u Q I rx ry ⟨i, j, rfl, rfl, hc, k.dat c (.int _) q⟩
theorem o_sub : OpR X (binaryOp .Sub) (lift2 X.K fSub) := o_int fun pins s σ H x y v u Q I rx ry ⟨i, j, e1, e2, _, q⟩ => op_sub pins s σ H x y v u Q I rx ry ⟨i, j, e1, e2, q⟩
theorem o_div : OpR X (binaryOp .FloorDiv) (lift2 X.K fDiv) := o_int op_fdiv
theorem o_mod : OpR X (binaryOp .Mod) (lift2 X.K fMod) := o_int op_mod
theorem o_pow : OpR X (binaryOp .Pow) (lift2 X.K fPow) := o_int op_pow
theorem o_mul : OpR X (binaryOp .Mult) (lift2 X.K fMul) := by
  intro pins s σ H x y v u Q I rx ry hh
  obtain ⟨G, Hs, B, a, b, Qd, c, ra, rb, q, k⟩ := hh
  unfold fMul at q
  split at q
  · obtain ⟨j, rfl, hc, q⟩ := q
    cases ra.int; cases rb.int
    exact op_mul pins s σ H _ _ v u Q I rx ry ⟨_, _, rfl, rfl, hc, k.dat c (.int _) q⟩
  · obtain ⟨j, rfl, hn, h2, h3, h4, q⟩ := q
    obtain ⟨p1, xs1, rfl, h5, h6⟩ := ra.tup
    cases rb.int
    have ne : xs1 ≠ [] := fun e => hn (by subst e; exact List.eq_nil_of_length_eq_zero h6.length.symm)
    by_cases j2 : 2 ≤ j
    · exact opN_rep pins s σ H _ _ v u Q I rx ry ⟨p1, j, xs1, rfl, rfl, (h5.up c.le).t, ne, j2, h3, by rw [h6.length]; exact h4, k.tup c (h6.flat _) q⟩
    · refine opN_rep1 pins s σ H _ _ v u Q I rx ry ⟨p1, j, xs1, rfl, rfl, (h5.up c.le).t, ne, ?_⟩
      by_cases j1 : j = 1
      · subst j1
        rw [show (List.replicate (1 : Int).toNat _).flatten = _ from List.append_nil _] at q
        exact .inl ⟨rfl, k.dat c (.tup h5 h6) q⟩
      · obtain rfl : j = 0 := by omega
        exact .inr ⟨rfl, k.tup c .nil q⟩
  · exact q.elim
theorem o_neg : UnR X (unaryOp .USub) (lift1 X.K fNeg) := by
  intro pins s σ H x v Q I rx hh
  obtain ⟨G, Hs, B, a, Qd, c, ra, ⟨i, rfl, q⟩, k⟩ := hh
  cases ra.int
  exact un_neg pins s σ H _ v Q I rx ⟨i, rfl, k.dat c (.int _) q⟩
end

/-! ### comparisons -/
def Sh (d : D) : Prop := SeqAt.shaped d = true
theorem sh_of {d : D} (h : SeqAt.shaped d = true) : Sh d := h
def fEq : F2 := fun a b Q => ∃ d e, a.look = some d ∧ b.look = some e ∧ Sh d ∧ Sh e ∧ Q (.s (.bool (PyData.eqv d e)))
def fNe : F2 := fun a b Q => ∃ d e, a.look = some d ∧ b.look = some e ∧ Sh d ∧ Sh e ∧ Q (.s (.bool (!PyData.eqv d e)))
def fCmp (g : Int → Int → Bool) : F2 := fun a b Q => ∃ i j, a = .s (.int i) ∧ b = .s (.int j) ∧ Q (.s (.bool (g i j)))
abbrev fLe : F2 := fCmp fun i j => decide (i ≤ j)
abbrev fGt : F2 := fCmp fun i j => decide (j < i)
abbrev fGe : F2 := fCmp fun i j => decide (j ≤ i)
def fLt : F2 := fun a b Q => match a with
  | .s (.int i) => ∃ j, b = .s (.int j) ∧ Q (.s (.bool (decide (i < j))))
  | .s (.tuple xs) => ∃ ns ms, xs = List.map PyData.int ns ∧ b = .s (.tuple (List.map PyData.int ms)) ∧ Q (.s (.bool (HT.lexLt ns ms)))
  | _ => False
def R.isN : R → Bool
  | .s .none => true
  | _ => false
/-- is None, is True, is False -/
def fIs (neg : Bool) : F2 := fun a b Q => match b with
  | .s .none => a.isS = true ∧ Q (.s (.bool (neg != a.isN)))
  | .s (.bool k) => ∃ j, a = .s (.bool j) ∧ Q (.s (.bool (neg != (j == k))))
  | _ => False
def flatD : D → Bool
  | .none | .bool _ | .int _ | .str _ => true
  | _ => false
def inD (d : D) (ds : List D) : Bool := ds.any fun z => PyData.eqv z d
/-- x in a list or tuple of flat items -/
def fIn (neg : Bool) : F2 := fun a b Q => (∃ d ds, a = .s d ∧ b.seq = some ds ∧ flatD d = true ∧ ds.all flatD = true ∧ Q (.s (.bool (neg != inD d ds)))) ∨
  ∃ d kvs k, a = .s d ∧ b.kv = some kvs ∧ ofK d = some k ∧ Q (.s (.bool (neg != (kGet kvs k).isSome)))
section
variable {X : Cx} {K : Frag} {H : Hp}
theorem flatV_of {x : V} {d : D} (h : Dp K H x d) (f : flatD d = true) : flatV x = true := by cases h <;> first | rfl | cases f
theorem eqV_of {x y : V} {d e : D} (h : Dp K H x d) (h' : Dp K H y e) (f : flatD d = true) (f' : flatD e = true) : eqV x y = PyData.eqv d e := by
  cases h <;> cases h' <;> first | rfl | cases f | cases f'
theorem flatAll_of : ∀ {xs : List V} {ds : List D}, DpAll K H xs ds → ds.all flatD = true → xs.all flatV = true
  | _, _, .nil, _ => rfl
  | _, _, .cons h t, f => by
    rw [List.all_cons, Bool.and_eq_true] at f ⊢
    exact ⟨flatV_of h f.1, flatAll_of t f.2⟩
theorem inV_of {x : V} {d : D} (h : Dp K H x d) (f : flatD d = true) : ∀ {xs : List V} {ds : List D}, DpAll K H xs ds → ds.all flatD = true → inV x xs = inD d ds
  | _, _, .nil, _ => rfl
  | _, _, .cons h1 t, g => by
    rw [List.all_cons, Bool.and_eq_true] at g
    unfold inV inD
    rw [List.any_cons, List.any_cons, eqV_of h1 h g.1 f]
    congr 1
    exact inV_of h f t g.2
theorem o_eq (hu : X.A.units + 64 < cLine) : OpR X (compareOp .Eq) (lift2 X.K fEq) := by
  intro pins s σ H x y v u Q I rx ry hh
  obtain ⟨G, Hs, B, a, b, Qd, c, ra, rb, ⟨d, e, h1, h2, h3, h4, q⟩, k⟩ := hh
  exact op_eqD hu pins s σ H _ _ v u Q I rx ry ⟨d, e, (ra.look h1 c.bh).old (SeqAt.canLay_of_shaped h3), (rb.look h2 c.bh).old (SeqAt.canLay_of_shaped h4), h3, h4, k.dat c (.bl _) q⟩
theorem o_ne (hu : X.A.units + 64 < cLine) : OpR X (compareOp .NotEq) (lift2 X.K fNe) := by
  intro pins s σ H x y v u Q I rx ry hh
  obtain ⟨G, Hs, B, a, b, Qd, c, ra, rb, ⟨d, e, h1, h2, h3, h4, q⟩, k⟩ := hh
  exact op_neD hu pins s σ H _ _ v u Q I rx ry ⟨d, e, (ra.look h1 c.bh).old (SeqAt.canLay_of_shaped h3), (rb.look h2 c.bh).old (SeqAt.canLay_of_shaped h4), h3, h4, k.dat c (.bl _) q⟩
theorem o_cmp {f : Value → Value → Sem Value} {g : Int → Int → Bool} (h : OpR X f (rI0 fun i j => .bl (g i j))) : OpR X f (lift2 X.K (fCmp g)) := by
  intro pins s σ H x y v u Q I rx ry hh
  obtain ⟨G, Hs, B, a, b, Qd, c, ra, rb, ⟨i, j, rfl, rfl, q⟩, k⟩ := hh
  cases ra.int; cases rb.int
  exact h pins s σ H _ _ v u Q I rx ry ⟨i, j, rfl, rfl, k.dat c (.bl _) q⟩
theorem o_le : OpR X (compareOp .LtE) (lift2 X.K fLe) := o_cmp op_le
theorem o_gt : OpR X (compareOp .Gt) (lift2 X.K fGt) := o_cmp op_gt
theorem o_ge : OpR X (compareOp .GtE) (lift2 X.K fGe) := o_cmp op_ge
theorem o_lt (hu : X.A.units < cLine) : OpR X (compareOp .Lt) (lift2 X.K fLt) := by
  intro pins s σ H x y v u Q I rx ry hh
  obtain ⟨G, Hs, B, a, b, Qd, c, ra, rb, q, k⟩ := hh
  unfold fLt at q
  split at q
  · obtain ⟨j, rfl, q⟩ := q
    cases ra.int; cases rb.int
    exact op_lt pins s σ H _ _ v u Q I rx ry ⟨_, _, rfl, rfl, k.dat c (.bl _) q⟩
  · obtain ⟨ns, ms, rfl, rfl, q⟩ := q
    obtain ⟨p1, xs1, rfl, h1, h2⟩ := ra.tup
    obtain ⟨p2, xs2, rfl, h3, h4⟩ := rb.tup
    cases h2.ints'; cases h4.ints'
    exact op_ltT hu pins s σ H _ _ v u Q I rx ry ⟨p1, p2, ns, ms, rfl, rfl, (h1.up c.le).t, (h3.up c.le).t, k.dat c (.bl _) q⟩
  · exact q.elim
theorem Dp.none_iff {B : Hp} {x : V} {d : D} (h : Dp K B x d) : decide (x = V.non) = (R.s d).isN := by
  cases h <;> rfl
theorem o_is : OpR X (compareOp .Is) (lift2 X.K (fIs false)) := by
  intro pins s σ H x y v u Q I rx ry hh
  obtain ⟨G, Hs, B, a, b, Qd, c, ra, rb, q, k⟩ := hh
  unfold fIs at q
  split at q
  · obtain ⟨h, q⟩ := q
    cases rb.none
    cases a with
    | s d =>
      have e := Dp.none_iff (K := X.K) (B := B) (x := x) (d := d) ra
      refine op_isN pins s σ H _ _ v u Q I rx ry ⟨rfl, ?_⟩
      rw [e]
      exact k.dat c (.bl _) (by simpa using q)
    | _ => cases h
  · obtain ⟨j, rfl, q⟩ := q
    cases ra.bool; cases rb.bool
    refine op_is_bl pins s σ H _ _ v u Q I rx ry ⟨_, _, rfl, rfl, ?_⟩
    exact k.dat c (.bl _) (by simpa [Bool.beq_eq_decide_eq] using q)
  · exact q.elim
theorem o_isNot : OpR X (compareOp .IsNot) (lift2 X.K (fIs true)) := by
  intro pins s σ H x y v u Q I rx ry hh
  obtain ⟨G, Hs, B, a, b, Qd, c, ra, rb, q, k⟩ := hh
  unfold fIs at q
  split at q
  · obtain ⟨h, q⟩ := q
    cases rb.none
    cases a with
    | s d =>
      have e := Dp.none_iff (K := X.K) (B := B) (x := x) (d := d) ra
      refine op_notN pins s σ H _ _ v u Q I rx ry ⟨rfl, ?_⟩
      rw [e]
      exact k.dat c (.bl _) (by simpa using q)
    | _ => cases h
  · obtain ⟨j, rfl, q⟩ := q
    cases ra.bool; cases rb.bool
    refine op_isnot_bl pins s σ H _ _ v u Q I rx ry ⟨_, _, rfl, rfl, ?_⟩
    exact k.dat c (.bl _) (by simpa [Bool.beq_eq_decide_eq] using q)
  · exact q.elim
theorem kV_of {K : Frag} {B : Hp} {x : V} {d : D} {k : Key} (h : Dp K B x d) (e : ofK d = some k) : x = kV k := by
  cases ofK_eq e
  cases k with
  | inl i => cases h; rfl
  | inr z => cases h; rfl
/-- what stands at a key -/
theorem dget_of {K : Frag} {H B : Hp} {p : Addr} {xs : List (Key × V)} {kvs : List (Key × D)} (k : Key) (h1 : H p = some (.dK xs)) (h2 : KvP K B xs kvs) : ∃ o, DGet H p (kV k) o ∧ o.isSome = (kGet kvs k).isSome ∧ ∀ d, kGet kvs k = some d → ∃ v, o = some v ∧ Dp K B v d := by
  refine ⟨valV xs k, DGet.k h1, ?_, fun d e => ?_⟩
  · rcases h2.find k with ⟨a, b⟩ | ⟨v, d, a, b, _⟩
    · rw [a, b]; rfl
    · rw [a, b]; rfl
  · rcases h2.find k with ⟨a, b⟩ | ⟨v, d', a, b, c⟩
    · rw [b] at e; cases e
    · rw [b] at e; cases e; exact ⟨v, a, c⟩
theorem o_in (hu : X.A.units + 64 < cLine) : OpR X (compareOp .In) (lift2 X.K (fIn false)) := by
  intro pins s σ H x y v u Q I rx ry hh
  obtain ⟨G, Hs, B, a, b, Qd, c, ra, rb, ⟨d, ds, rfl, h2, h3, h4, q⟩ | ⟨d, kvs, k', rfl, h2, h3, q⟩, k⟩ := hh
  · obtain ⟨p, xs, rfl, h5, h6⟩ := rb.seq h2 c.bh
    refine op_in_seq pins s σ H _ _ v u Q I rx ry ⟨p, xs, rfl, h6, flatV_of (show Dp X.K B x d from ra) h3, flatAll_of h5 h4, ?_⟩
    rw [if_neg Bool.false_ne_true, inV_of (show Dp X.K B x d from ra) h3 h5 h4]
    exact k.dat c (.bl _) (by simpa using q)
  · obtain ⟨p, xs, rfl, h5, h6⟩ := rb.kv h2 c.bh
    cases kV_of (show Dp X.K B x d from ra) h3
    obtain ⟨o, h7, h8, _⟩ := dget_of k' h5 h6
    cases ry
    refine d_in (by omega) I h7 rx fun s' I' => ⟨.bl o.isSome, H, I', rfl, ?_⟩
    rw [h8]
    exact k.dat c (.bl _) (by simpa using q)
theorem o_notIn (hu : X.A.units + 64 < cLine) : OpR X (compareOp .NotIn) (lift2 X.K (fIn true)) := by
  intro pins s σ H x y v u Q I rx ry hh
  obtain ⟨G, Hs, B, a, b, Qd, c, ra, rb, ⟨d, ds, rfl, h2, h3, h4, q⟩ | ⟨d, kvs, k', rfl, h2, h3, q⟩, k⟩ := hh
  · obtain ⟨p, xs, rfl, h5, h6⟩ := rb.seq h2 c.bh
    refine op_notIn_seq pins s σ H _ _ v u Q I rx ry ⟨p, xs, rfl, h6, flatV_of (show Dp X.K B x d from ra) h3, flatAll_of h5 h4, ?_⟩
    rw [if_pos rfl, inV_of (show Dp X.K B x d from ra) h3 h5 h4]
    exact k.dat c (.bl _) (by simpa using q)
  · obtain ⟨p, xs, rfl, h5, h6⟩ := rb.kv h2 c.bh
    cases kV_of (show Dp X.K B x d from ra) h3
    obtain ⟨o, h7, h8, _⟩ := dget_of k' h5 h6
    cases ry
    refine d_notIn (by omega) I h7 rx fun s' I' => ⟨.bl (!o.isSome), H, I', rfl, ?_⟩
    rw [h8]
    exact k.dat c (.bl _) (by simpa using q)
end

/-! ### subscripts, slices -/
def fIx : F2 := fun a b Q => (∃ ds i d, a.seq = some ds ∧ b = .s (.int i) ∧ atI ds i = some d ∧ Q (.s d)) ∨
  ∃ kvs e k d, a.kv = some kvs ∧ b = .s e ∧ ofK e = some k ∧ kGet kvs k = some d ∧ Q (.s d)
section
variable {X : Cx} {K : Frag} {H : Hp}
theorem DpAll.atI {xs : List V} {ds : List D} {i : Int} {d : D} (h : DpAll K H xs ds) (e : L2.atI ds i = some d) : ∃ x, L2.atI xs i = some x ∧ Dp K H x d := by
  unfold L2.atI at e ⊢
  rw [h.length]
  cases q : ixN ds.length i with
  | none => rw [q] at e; cases e
  | some j =>
    rw [q] at e
    obtain ⟨x, h1, h2⟩ := h.get e
    exact ⟨x, h1, h2⟩
theorem o_ix (hu : X.A.units + 64 < cLine) : IxR X (lift2 X.K fIx) := by
  intro value slice pins s σ H x y v u Q I rx ry hh hs
  obtain ⟨G, Hs, B, a, b, Qd, c, ra, rb, ⟨ds, i, d, h1, rfl, h2, q⟩ | ⟨kvs, e, k', d, h1, rfl, h2, h3, q⟩, k⟩ := hh
  case inr =>
    obtain ⟨p, xs, rfl, h5, h6⟩ := ra.kv h1 c.bh
    cases kV_of (show Dp X.K B y e from rb) h2
    obtain ⟨o, h7, h8, h9⟩ := dget_of k' h5 h6
    obtain ⟨z, rfl, h10⟩ := h9 d h3
    cases rx
    have hT : s.TypeIs (.ref p) "dict" := by
      obtain ⟨_, _, _, _, dd⟩ := dk_rd I.hok (.inl h5)
      exact dd.typeIs
    exact tail_any hT slot_dict_getitem.lookup (d_getItem (by omega) I h7 ry fun w' s' I' rw' => ⟨z, H, I', rw', k.dat c h10 q⟩) hs
  obtain ⟨p, xs, rfl, h3, h4⟩ := ra.seq h1 c.bh
  cases rb.int
  obtain ⟨z, h5, h6⟩ := h3.atI h2
  have fin : Q z H := k.dat c h6 q
  rcases h4 with h4 | h4
  · exact ix_list value slice pins s σ H _ _ v u Q I rx ry ⟨p, xs, i, z, rfl, rfl, h4, h5, fin⟩ hs
  · exact ix_tup value slice pins s σ H _ _ v u Q I rx ry ⟨p, xs, i, z, rfl, rfl, h4, h5, fin⟩ hs
end
end DL

set_option Elab.async false
set_option linter.all false
set_option maxRecDepth 100000
/-! The data layer: statements, defs, calls. -/
namespace DL
open PySem PySem.Spec PyProof.Rows L2

structure DEnds where
  nx : Rho → Prop
  rt : R → Prop
  bk : Rho → Prop := fun _ => False
  ct : Rho → Prop := fun _ => False
  er : Value → Rho → Prop := fun _ _ => False
abbrev SW := Rho → DEnds → Prop

/-- how data's ends are the layer's ends -/
structure Links (K : Frag) (W : WX) (G : Gh) (B0 H0 B : Hp) (E : DEnds) (D : Ends) : Prop where
  nx : ∀ ρ' σ' B' H', Stt K G B0 H0 B' H' σ' ρ' → Same B B' → E.nx ρ' → D.nx σ' H'
  bk : ∀ ρ' σ' B' H', Stt K G B0 H0 B' H' σ' ρ' → Same B B' → E.bk ρ' → D.bk σ' H'
  ct : ∀ ρ' σ' B' H', Stt K G B0 H0 B' H' σ' ρ' → Same B B' → E.ct ρ' → D.ct σ' H'
  rt : ∀ r x B' H', Stp G B0 H0 B' H' → Same B' (hide G H') → G.ok H' → Rs K G H0 B' H' x r → E.rt r → D.rt x H'
  er : ∀ cls d ρ' σ' B' H', Stt K G B0 H0 B' H' σ' ρ' → Same B B' → E.er cls ρ' → W cls d σ' H'
theorem Links.up {K : Frag} {W : WX} {G : Gh} {B0 H0 B B1 : Hp} {E : DEnds} {D : Ends} (l : Links K W G B0 H0 B E D) (s : Same B B1) : Links K W G B0 H0 B1 E D :=
  ⟨fun a b c d e f => l.nx a b c d e (s.trans f), fun a b c d e f => l.bk a b c d e (s.trans f), fun a b c d e f => l.ct a b c d e (s.trans f), l.rt, fun a b c d e f g h => l.er a b c d e f g (s.trans h)⟩
def TDs (K : Frag) (W : WX) (w : SW) : TS := fun D σ H => ∃ (G : Gh) (B0 H0 B : Hp) (ρ : Rho) (E : DEnds), Stt K G B0 H0 B H σ ρ ∧ w ρ E ∧ Links K W G B0 H0 B E D
abbrev PSD (X : Cx) (W : WX) (st : Stmt) (w : SW) : Prop := PS X st (TDs X.K W w)
abbrev PSDs (X : Cx) (W : WX) (st : List Stmt) (w : SW) : Prop := PSs X st (TDs X.K W w)
theorem ps_imp {X : Cx} {st : Stmt} {t t' : TS} (h : PS X st t) (i : ∀ D σ H, t' D σ H → t D σ H) : PS X st t' := ⟨fun pins s σ H D I q => h.run pins s σ H D I (i _ _ _ q)⟩
theorem pss_imp {X : Cx} {st : List Stmt} {t t' : TS} (h : PSs X st t) (i : ∀ D σ H, t' D σ H → t D σ H) : PSs X st t' := ⟨fun pins s σ H D I q => h.run pins s σ H D I (i _ _ _ q)⟩

def wNext : SW := fun ρ E => E.nx ρ
def wSeq (w u : SW) : SW := fun ρ E => w ρ { E with nx := fun ρ' => u ρ' E }
section
variable {X : Cx} {W : WX} {e a b c : Expr} {st : Stmt} {rest : List Stmt} {es : List Expr} {wa wb wc w : EW} {ws : AW} {wt wt' : TW} {v u : SW} {pos : Pos}
theorem pds_nil : PSDs X W [] wNext := pss_imp pss_nil fun D σ H ⟨G, B0, H0, B, ρ, E, S, q, l⟩ => l.nx _ _ _ _ S (Same.refl _) q
theorem pds_one (h : PSD X W st v) : PSDs X W [st] v := pss_one h
theorem pds_cons (h : PSD X W st v) (hr : PSDs X W rest u) : PSDs X W (st :: rest) (wSeq v u) := pss_imp (pss_cons h hr) fun D σ H ⟨G, B0, H0, B, ρ, E, S, q, l⟩ =>
  ⟨G, B0, H0, B, ρ, _, S, q, ⟨fun ρ' σ' B' H' S' s q' => ⟨G, B0, H0, B', ρ', E, S', q', l.up s⟩, l.bk, l.ct, l.rt, l.er⟩⟩
theorem pds_pass : PSD X W (.Pass pos) wNext := ps_imp ps_pass fun D σ H ⟨G, B0, H0, B, ρ, E, S, q, l⟩ => l.nx _ _ _ _ S (Same.refl _) q
def wBreak : SW := fun ρ E => E.bk ρ
def wCont : SW := fun ρ E => E.ct ρ
theorem pds_break : PSD X W (.Break pos) wBreak := ps_imp ps_break fun D σ H ⟨G, B0, H0, B, ρ, E, S, q, l⟩ => l.bk _ _ _ _ S (Same.refl _) q
theorem pds_continue : PSD X W (.Continue pos) wCont := ps_imp ps_continue fun D σ H ⟨G, B0, H0, B, ρ, E, S, q, l⟩ => l.ct _ _ _ _ S (Same.refl _) q
def wRet (w : EW) : SW := fun ρ E => w ρ E.rt (fun cls => E.er cls ρ)
theorem pds_ret (h : PD X W e w) : PSD X W (.Return (some e) pos) (wRet w) := ps_imp (ps_ret h) fun D σ H ⟨G, B0, H0, B, ρ, E, S, q, l⟩ =>
  ⟨G, B0, H0, B, ρ, _, _, S, q, fun r x B' H' S' s r' q' => l.rt r x B' H' S'.st S'.bh S'.gok (r'.from S.st) q', fun cls d B' H' q' S' s => l.er cls d ρ σ B' H' S' s.bb q'⟩

/-! ### targets -/
abbrev GW := D → Rho → (Rho → Prop) → Prop
abbrev GWs := List D → Rho → (Rho → Prop) → Prop
def TDg (K : Frag) (gw : GW) : TG := fun x σ H R => ∃ (G : Gh) (B0 H0 B : Hp) (ρ : Rho) (d : D) (k : Rho → Prop), Stt K G B0 H0 B H σ ρ ∧ Dp K B x d ∧ gw d ρ k ∧ ∀ ρ' σ' B' H', Stt K G B0 H0 B' H' σ' ρ' → Same B B' → k ρ' → R σ' H'
def TDgs (K : Frag) (gw : GWs) : TGs := fun xs σ H R => ∃ (G : Gh) (B0 H0 B : Hp) (ρ : Rho) (ds : List D) (k : Rho → Prop), Stt K G B0 H0 B H σ ρ ∧ DpAll K B xs ds ∧ gw ds ρ k ∧ ∀ ρ' σ' B' H', Stt K G B0 H0 B' H' σ' ρ' → Same B B' → k ρ' → R σ' H'
abbrev PGD (X : Cx) (tg : Expr) (gw : GW) : Prop := PG X tg (TDg X.K gw)
abbrev PGDs (X : Cx) (tg : List Expr) (gw : GWs) : Prop := PGs X tg (TDgs X.K gw)
theorem pg_imp {X : Cx} {tg : Expr} {t t' : TG} (h : PG X tg t) (i : ∀ x σ H R, t' x σ H R → t x σ H R) : PG X tg t' := ⟨fun pins s σ H v u Q I r q => h.run pins s σ H v u Q I r (i _ _ _ _ q)⟩
theorem pgs_imp {X : Cx} {tg : List Expr} {t t' : TGs} (h : PGs X tg t) (i : ∀ x σ H R, t' x σ H R → t x σ H R) : PGs X tg t' := ⟨fun pins s σ H v u Q I r q => h.run pins s σ H v u Q I r (i _ _ _ _ q)⟩
def gwName (i : Nat) : GW := fun d ρ k => i < ρ.length ∧ k (ρ.set i (some (.s d)))
def gwNil : GWs := fun ds ρ k => ds = [] ∧ k ρ
def gwCons (g : GW) (u : GWs) : GWs := fun ds ρ k => ∃ d r, ds = d :: r ∧ g d ρ fun ρ' => u r ρ' k
def gwTup (n : Nat) (u : GWs) : GW := fun d ρ k => ∃ ds, d = .tuple ds ∧ ds.length = n ∧ u ds ρ k
theorem Stt.put {K : Frag} {G : Gh} {B0 H0 B H : Hp} {σ : L2.St} {ρ : Rho} {x : V} {r : R} (S : Stt K G B0 H0 B H σ ρ) (k : keeps r = true) (hr : Rs K G H B H x r) (i : Nat) (hi : i < ρ.length) : Stt K G B0 H0 B H (σ.set i (some x)) (ρ.set i (some r)) :=
  S.fill (Stp.refl ..) S k hr i (by rw [← S.len]; exact hi)
theorem pgd_name {i : Nat} {x : Expr} (h : PG X x (gName i)) : PGD X x (gwName i) := pg_imp h fun x σ H R ⟨G, B0, H0, B, ρ, d, k, S, hd, ⟨hi, q⟩, l⟩ =>
  l _ _ _ _ (S.put (r := .s d) rfl hd i hi) (Same.refl _) q
theorem pgds_nil : PGDs X [] gwNil := pgs_imp pgs_nil fun xs σ H R ⟨G, B0, H0, B, ρ, ds, k, S, hd, ⟨e, q⟩, l⟩ => by
  subst e
  cases hd
  exact ⟨rfl, l _ _ _ _ S (Same.refl _) q⟩
theorem pgds_cons {g : GW} {gs : GWs} (h : PGs X (e :: es) (gCons (TDg X.K g) (TDgs X.K gs))) : PGDs X (e :: es) (gwCons g gs) :=
  pgs_imp h fun xs σ H R ⟨G, B0, H0, B, ρ, ds, k, S, hd, ⟨d, r, e, q⟩, l⟩ => by
    subst e
    cases hd with
    | cons hd1 hd2 =>
      exact ⟨_, _, rfl, G, B0, H0, B, ρ, d, _, S, hd1, q, fun ρ' σ' B' H' S' s q' => ⟨G, B0, H0, B', ρ', r, _, S', DpAll.mono s hd2, q', fun ρ2 σ2 B2 H2 S2 s2 q2 => l _ _ _ _ S2 (s.trans s2) q2⟩⟩
theorem pgd_tup {n : Nat} {gs : GWs} (h : PG X e (gTup X.K n (TDgs X.K gs))) : PGD X e (gwTup n gs) := pg_imp h fun x σ H R ⟨G, B0, H0, B, ρ, d, k, S, hd, ⟨ds, e, hn, q⟩, l⟩ => by
  subst e
  cases hd with
  | tup h1 h2 => exact ⟨_, _, rfl, (h1.up (S.bh.trans (hide_le H))).t, h2.length.trans hn, G, B0, H0, B, ρ, ds, k, S, h2, q, l⟩

/-! ### assignments -/
def wAsg (i : Nat) (w : EW) : SW := fun ρ E => w ρ (fun r => i < ρ.length ∧ keeps r = true ∧ E.nx (ρ.set i (some r))) (fun cls => E.er cls ρ)
def wAsgT (w : EW) (g : GW) : SW := fun ρ E => w ρ (fun r => ∃ d, r.dat = some d ∧ g d ρ E.nx) (fun cls => E.er cls ρ)
theorem pds_set {i : Nat} (h : PS X st (tAsg (TDe X.K W w) (gName i))) : PSD X W st (wAsg i w) := ps_imp h fun D σ H ⟨G, B0, H0, B, ρ, E, S, q, l⟩ =>
  ⟨G, B0, H0, B, ρ, _, _, S, q, fun r x B' H' S' s r' ⟨hi, k, q'⟩ => l.nx _ _ _ _ (S.fill s S' k r' i (by rw [← S.len]; exact hi)) s.bb q', fun cls d B' H' q' S' s => l.er cls d ρ σ B' H' S' s.bb q'⟩
theorem pds_asgT {g : GW} (h : PS X st (tAsg (TDe X.K W w) (TDg X.K g))) : PSD X W st (wAsgT w g) := ps_imp h fun D σ H ⟨G, B0, H0, B, ρ, E, S, q, l⟩ =>
  ⟨G, B0, H0, B, ρ, _, _, S, q, fun r x B' H' S' s r' ⟨d, e, q'⟩ => ⟨G, B0, H0, B', ρ, d, _, S', r'.dat e, q', fun ρ2 σ2 B2 H2 S2 s2 q2 => l.nx _ _ _ _ S2 (s.bb.trans s2) q2⟩, fun cls d B' H' q' S' s => l.er cls d ρ σ B' H' S' s.bb q'⟩
/-- two names at once, each side written -/
def wPar (i j : Nat) (wa wb : EW) : SW := fun ρ E => wa ρ (fun r => wb ρ (fun u => i < ρ.length ∧ j < ρ.length ∧ keeps r = true ∧ keeps u = true ∧ E.nx ((ρ.set i (some r)).set j (some u))) (fun cls => E.er cls ρ)) (fun cls => E.er cls ρ)
theorem pds_par {i j : Nat} (h : PS X st (tPar i j (TDa X.K W (wCons wa (wCons wb wNil))))) : PSD X W st (wPar i j wa wb) := ps_imp h fun D σ H ⟨G, B0, H0, B, ρ, E, S, q, l⟩ => by
  refine ⟨G, B0, H0, B, ρ, (fun rs => ∃ r u, rs = [r, u] ∧ (i < ρ.length ∧ j < ρ.length ∧ keeps r = true ∧ keeps u = true ∧ E.nx ((ρ.set i (some r)).set j (some u)))), fun cls => E.er cls ρ, S, ?_, ?_, fun cls d B' H' q' S' s => l.er cls d ρ σ B' H' S' s.bb q'⟩
  · show wa ρ (fun r => wb ρ (fun u => wNil ρ _ _) _) _
    have e : (fun r => wb ρ (fun u => wNil ρ (fun rs => ∃ r' u', r :: u :: rs = [r', u'] ∧ (i < ρ.length ∧ j < ρ.length ∧ keeps r' = true ∧ keeps u' = true ∧ E.nx ((ρ.set i (some r')).set j (some u')))) (fun cls => E.er cls ρ)) (fun cls => E.er cls ρ)) =
        (fun r => wb ρ (fun u => i < ρ.length ∧ j < ρ.length ∧ keeps r = true ∧ keeps u = true ∧ E.nx ((ρ.set i (some r)).set j (some u))) (fun cls => E.er cls ρ)) := by
      funext r
      congr 1
      funext u
      apply propext
      constructor
      · rintro ⟨r', u', e, z⟩
        cases e
        exact z
      · intro z
        exact ⟨r, u, rfl, z⟩
    rw [e]
    exact q
  · rintro rs xs B' H' S' s r' ap ⟨r, u, rfl, hi, hj, k1, k2, q'⟩
    cases r' with
    | cons h1 h2 => cases h2 with
      | cons h2 h3 =>
        cases h3
        rename_i x y
        have S1 := S.fill s S' k1 h1 i (by rw [← S.len]; exact hi)
        refine ⟨x, y, rfl, l.nx _ _ _ _ (S1.fillG (h2.slot k2 S.st.hh) j (by rw [List.length_set, ← S.len]; exact hj) fun m v z hm e1 o1 o2 e2 e3 => ?_) s.bb q'⟩
        by_cases qm : m = i
        · subst qm
          rw [List.getElem?_set_self hi] at e1; cases e1
          rw [List.getElem?_set_self (by rw [← S.len]; exact hi)] at e2; cases e2
          exact ap.1 o2 0 u rfl o1 (by rw [e3]; rfl)
        · rw [List.getElem?_set_ne (Ne.symm qm)] at e1 e2
          exact S.away h2 o1 m v z e1 o2 e2 e3
end
end DL

set_option Elab.async false
set_option linter.all false
set_option maxRecDepth 100000
/-! The data layer: if, loops, errors, defs and their calls. -/
namespace DL
open PySem PySem.Spec PyProof.Rows L2
section
variable {X : Cx} {W : WX} {e a b c : Expr} {st : Stmt} {rest : List Stmt} {es : List Expr} {wa wb wc w : EW} {ws : AW} {wt wt' : TW} {v u : SW} {pos : Pos}

def wIfS (t : TW) (v u : SW) : SW := fun ρ E => t ρ (fun k => if k = true then v ρ E else u ρ E) (fun cls => E.er cls ρ)
theorem pds_if {th el : List Stmt} (hc : PDt X W e wt) (ha : PSDs X W th v) (hb : PSDs X W el u) : PSD X W (.If e th el pos) (wIfS wt v u) := ps_imp (ps_if hc ha hb) fun D σ H ⟨G, B0, H0, B, ρ, E, S, q, l⟩ =>
  ⟨G, B0, H0, B, ρ, _, _, S, q, fun k B' H' S' s q' => by
    cases k with
    | true => exact iteT ⟨G, B0, H0, B', ρ, E, S', (if_pos rfl).mp q', l.up s.bb⟩
    | false => exact iteF ⟨G, B0, H0, B', ρ, E, S', (if_neg Bool.false_ne_true).mp q', l.up s.bb⟩, fun cls d B' H' q' S' s => l.er cls d ρ σ B' H' S' s.bb q'⟩

/-! ### name op= e of ints -/
def wAug (i : Nat) (g : Int → Int → Int) (w : EW) : SW := fun ρ E => ∃ n, ρ[i]? = some (some (.s (.int n))) ∧ w ρ (fun r => ∃ m, r = .s (.int m) ∧ E.nx (ρ.set i (some (.s (.int (g n m)))))) (fun cls => E.er cls ρ)
theorem pds_aug {i : Nat} {g : Int → Int → Int} (h : PS X st (tAug i (TDe X.K W w) (ipI g))) : PSD X W st (wAug i g w) := ps_imp h fun D σ H ⟨G, B0, H0, B, ρ, E, S, ⟨n, e1, q⟩, l⟩ => by
  obtain ⟨x, e2, hr⟩ := S.sl i _ e1
  cases (show Dp X.K B x (.int n) from hr)
  refine ⟨.int n, e2, G, B0, H0, B, ρ, _, _, S, q, fun r y B' H' S' s r' q' => ?_, fun cls d B' H' q' S' s => l.er cls d ρ σ B' H' S' s.bb q'⟩
  obtain ⟨m, rfl, q'⟩ := q'
  cases (show Dp X.K B' y (.int m) from r')
  exact ⟨n, m, rfl, rfl, l.nx _ _ _ _ (S'.put (r := .s (.int (g n m))) rfl (show Dp X.K B' (.int (g n m)) (.int (g n m)) from .int _) i ((List.getElem?_eq_some_iff.mp e1).1)) s.bb q'⟩

/-! ### a statement that is an expression -/
def wExpr (w : EW) : SW := fun ρ E => w ρ (fun _ => E.nx ρ) (fun cls => E.er cls ρ)
theorem pds_expr (h : PS X st (tDrop (TDe X.K W w))) : PSD X W st (wExpr w) := ps_imp h fun D σ H ⟨G, B0, H0, B, ρ, E, S, q, l⟩ =>
  ⟨G, B0, H0, B, ρ, _, _, S, q, fun r x B' H' S' s r' q' => l.nx _ _ _ _ S' s.bb q', fun cls d B' H' q' S' s => l.er cls d ρ σ B' H' S' s.bb q'⟩

/-! ### a list of one's own: append, extend, pop, a place written -/
def wAppend (i : Nat) (w : EW) : SW := fun ρ E => ∃ ds, ρ[i]? = some (some (.l true ds)) ∧ w ρ (fun r => ∃ d, r.dat = some d ∧ ds.length < 16777216 ∧ E.nx (ρ.set i (some (.l true (ds ++ [d]))))) (fun cls => E.er cls ρ)
theorem pds_append {i : Nat} (h : PS X st (tDrop (tBM X.K "list" rAppend (tVar i) (tCons (TDe X.K W w) tNil)))) : PSD X W st (wAppend i w) := ps_imp h fun D σ H ⟨G, B0, H0, B, ρ, E, S, ⟨ds, e1, q⟩, l⟩ => by
  obtain ⟨x, e2, ⟨p, xs, ex, h1, h2, h3, h4, h5⟩⟩ := S.sl i _ e1
  subst ex
  refine ⟨_, e2, .inl ⟨rfl, xs, .inl (.inl h1)⟩, G, B0, H0, B, ρ, _, _, S, q, fun r y B' H' S' s r' q' => ?_, fun cls d B' H' q' S' s => l.er cls d ρ σ B' H' S' s.bb q'⟩
  obtain ⟨d, ed, hlen, q'⟩ := q'
  have k1 : H' p = some (.lst xs) := (hide_some (s.hh p _ (by rw [hide_out h4]; exact h1))).2
  refine ⟨p, xs, y, rfl, rfl, k1, by rw [line_eq, h2.length]; exact hlen, ?_⟩
  refine l.nx _ _ _ _ (S'.mut (r' := .l true (ds ++ [d])) e1 rfl e2 ⟨p, _, rfl, upd_same, (DpAll.mono s.bb h2).append (.cons (r'.dat ed) .nil), s.nw p _ h3 (by rw [hide_out h4]; exact h1), h4, h5⟩) s.bb q'
def wExtend (i : Nat) (w : EW) : SW := fun ρ E => ∃ ds, ρ[i]? = some (some (.l true ds)) ∧ w ρ (fun r => ∃ o es, r = .l o es ∧ ds.length + es.length ≤ 16777216 ∧ E.nx (ρ.set i (some (.l true (ds ++ es))))) (fun cls => E.er cls ρ)
theorem pds_extend {i : Nat} (h : PS X st (tDrop (tBM X.K "list" rExtend (tVar i) (tCons (TDe X.K W w) tNil)))) : PSD X W st (wExtend i w) := ps_imp h fun D σ H ⟨G, B0, H0, B, ρ, E, S, ⟨ds, e1, q⟩, l⟩ => by
  obtain ⟨x, e2, ⟨p, xs, ex, h1, h2, h3, h4, h5⟩⟩ := S.sl i _ e1
  subst ex
  refine ⟨_, e2, .inl ⟨rfl, xs, .inl (.inl h1)⟩, G, B0, H0, B, ρ, _, _, S, q, fun r y B' H' S' s r' q' => ?_, fun cls d B' H' q' S' s => l.er cls d ρ σ B' H' S' s.bb q'⟩
  obtain ⟨o, es, rfl, hlen, q'⟩ := q'
  obtain ⟨p2, xs2, rfl, g1, g2, _⟩ := r'
  have k1 : H' p = some (.lst xs) := (hide_some (s.hh p _ (by rw [hide_out h4]; exact h1))).2
  refine ⟨p, p2, xs, xs2, rfl, rfl, k1, (hide_some g1).2, by rw [line_eq, h2.length, g2.length]; exact hlen, ?_⟩
  refine l.nx _ _ _ _ (S'.mut (r' := .l true (ds ++ es)) e1 rfl e2 ⟨p, _, rfl, upd_same, (DpAll.mono s.bb h2).append g2, s.nw p _ h3 (by rw [hide_out h4]; exact h1), h4, h5⟩) s.bb q'
/-- target = x.pop() -/
def wPop (i : Nat) (g : GW) : SW := fun ρ E => ∃ ds d, ρ[i]? = some (some (.l true (ds ++ [d]))) ∧ g d (ρ.set i (some (.l true ds))) E.nx
theorem DpAll_last {K : Frag} {H : Hp} {xs : List V} {ds : List D} {d : D} (h : DpAll K H xs (ds ++ [d])) : ∃ y, xs[xs.length - 1]? = some y ∧ Dp K H y d ∧ DpAll K H xs.dropLast ds := by
  have hl : xs.length = ds.length + 1 := by rw [h.length]; simp
  obtain ⟨y, h1, h2⟩ := h.get (i := ds.length) (d := d) (by simp)
  refine ⟨y, by rw [hl]; exact h1, h2, ?_⟩
  have := h.take ds.length
  rw [List.take_left' rfl] at this
  rw [List.dropLast_eq_take, hl]
  exact this
theorem pds_pop {i : Nat} {g : GW} (h : PS X st (tAsg (tBM0 X.K "list" rPop (tVar i)) (TDg X.K g))) : PSD X W st (wPop i g) := ps_imp h fun D σ H ⟨G, B0, H0, B, ρ, E, S, ⟨ds, d, e1, q⟩, l⟩ => by
  obtain ⟨x, e2, ⟨p, xs, ex, h1, h2, h3, h4, h5⟩⟩ := S.sl i _ e1
  subst ex
  obtain ⟨y, k1, k2, k3⟩ := DpAll_last h2
  refine ⟨_, e2, .inl ⟨rfl, xs, .inl (.inl h1)⟩, p, xs, y, rfl, rfl, h1, k1, ?_⟩
  exact ⟨G, B0, H0, B, _, d, _, S.mut e1 rfl e2 (r' := .l true ds) ⟨p, _, rfl, upd_same, k3, h3, h4, h5⟩, k2, q, fun ρ2 σ2 B2 H2 S2 s2 q2 => l.nx _ _ _ _ S2 s2 q2⟩
/-- x[i] = e, x a list or dict of one's own -/
def putR (r0 z : R) (d : D) (k : R → Prop) : Prop := match r0 with
  | .l true ds => ∃ n j, z = .s (.int n) ∧ ixN ds.length n = some j ∧ k (.l true (ds.set j d))
  | .k true kvs => ∃ e y, z = .s e ∧ ofK e = some y ∧ kvs.length < 16777216 ∧ k (.k true (kPut kvs y d))
  | _ => False
def rSetB : V → V → V → Hp → (Hp → Prop) → Prop := fun o i v H Q => rSetL o i v H Q ∨ rSetD o i v H Q
theorem set_both {X : Cx} (hu : X.A.units + 64 < cLine) : PSet X rSetB := fun pins s σ H o i v ov iv u Q I ro ri rv h =>
  h.elim (set_list pins s σ H o i v ov iv u Q I ro ri rv) (set_dict (by omega) pins s σ H o i v ov iv u Q I ro ri rv)
def wSetIx (i : Nat) (we wi : EW) : SW := fun ρ E => ∃ r0, ρ[i]? = some (some r0) ∧ owns r0 = true ∧ we ρ (fun r => ∃ d, r.dat = some d ∧ wi ρ (fun z => putR r0 z d fun r1 => E.nx (ρ.set i (some r1))) (fun cls => E.er cls ρ)) (fun cls => E.er cls ρ)
theorem pds_setIx {i : Nat} {we wi : EW} (h : PS X st (tAsg (TDe X.K W we) (gSub (tVar i) (TDe X.K W wi) rSetB))) : PSD X W st (wSetIx i we wi) := ps_imp h fun D σ H ⟨G, B0, H0, B, ρ, E, S, ⟨r0, e1, o1, q⟩, l⟩ => by
  refine ⟨G, B0, H0, B, ρ, _, _, S, q, fun r y B' H' S' s r' q' => ?_, fun cls d B' H' q' S' s => l.er cls d ρ σ B' H' S' s.bb q'⟩
  obtain ⟨d, ed, q'⟩ := q'
  obtain ⟨x, e2, sx⟩ := S'.sl i _ e1
  refine ⟨_, e2, G, B0, H0, B', ρ, _, _, S', q', fun z w1 B2 H2 S2 s2 z' q2 => ?_, fun cls d B2 H2 q2 S2 s2 => l.er cls d ρ σ B2 H2 S2 (s.bb.trans s2.bb) q2⟩
  obtain ⟨x2, f2, sx2⟩ := S2.sl i _ e1
  rw [e2] at f2
  cases f2
  cases r0 with
  | l own ds =>
    cases own with
    | false => cases o1
    | true =>
      obtain ⟨n, j, rfl, hj, q2⟩ := q2
      cases (show Dp X.K B2 w1 (.int n) from z')
      obtain ⟨p2, xs2, rfl, g1, g2, g3, g4, g5⟩ := sx2
      refine .inl ⟨p2, xs2, n, j, rfl, rfl, g1, by rw [g2.length]; exact hj, ?_⟩
      exact l.nx _ _ _ _ (S2.mut (r' := .l true (ds.set j d)) e1 rfl e2 ⟨p2, _, rfl, upd_same, g2.set j (Dp.mono s2.bb (r'.dat ed)), g3, g4, g5⟩) (s.bb.trans s2.bb) q2
  | k own kvs =>
    cases own with
    | false => cases o1
    | true =>
      obtain ⟨e, y', rfl, hk, hl, q2⟩ := q2
      cases kV_of (show Dp X.K B2 w1 e from z') hk
      obtain ⟨p2, xs2, rfl, g1, g2, g3, g4, g5⟩ := sx2
      refine .inr ⟨p2, _, rfl, .inl ⟨xs2, y', g1, rfl, by rw [g2.length, line_eq]; exact hl, rfl⟩, ?_⟩
      exact l.nx _ _ _ _ (S2.mut (r' := .k true (kPut kvs y' d)) e1 rfl e2 ⟨p2, _, rfl, upd_same, g2.put y' (Dp.mono s2.bb (r'.dat ed)), g3, g4, g5⟩) (s.bb.trans s2.bb) q2
  | _ => exact q2.elim
/-- d.pop(k), d a dict of one's own, k there -/
def wDPop (i : Nat) (wi : EW) : SW := fun ρ E => ∃ kvs, ρ[i]? = some (some (.k true kvs)) ∧ wi ρ (fun z => ∃ e y, z = .s e ∧ ofK e = some y ∧ (kGet kvs y).isSome = true ∧ E.nx (ρ.set i (some (.k true (kDrop kvs y))))) (fun cls => E.er cls ρ)
theorem pds_dpop {i : Nat} {wi : EW} (h : PS X st (tDrop (tDPop1 (tVar i) (TDe X.K W wi)))) : PSD X W st (wDPop i wi) := ps_imp h fun D σ H ⟨G, B0, H0, B, ρ, E, S, ⟨kvs, e1, q⟩, l⟩ => by
  obtain ⟨x, e2, ⟨p, xs, rfl, h1, h2, h3, h4, h5⟩⟩ := S.sl i _ e1
  refine ⟨_, e2, p, rfl, .inl ⟨_, .inl h1⟩, G, B0, H0, B, ρ, _, _, S, q, fun z w1 B2 H2 S2 s2 z' q2 => ?_, fun cls d B2 H2 q2 S2 s2 => l.er cls d ρ σ B2 H2 S2 s2.bb q2⟩
  obtain ⟨e, y', rfl, hk, hs, q2⟩ := q2
  cases kV_of (show Dp X.K B2 w1 e from z') hk
  obtain ⟨x2, f2, ⟨p2, xs2, ex2, g1, g2, g3, g4, g5⟩⟩ := S2.sl i _ e1
  rw [e2] at f2; cases f2; cases ex2
  rcases g2.find y' with ⟨_, b⟩ | ⟨v, d, a, b, c⟩
  · rw [b] at hs; cases hs
  · refine ⟨xs2, y', v, g1, rfl, a, ?_⟩
    exact l.nx _ _ _ _ (S2.mut (r' := .k true (kDrop kvs y')) e1 rfl e2 ⟨p, _, rfl, upd_same, g2.drop y', g3, g4, g5⟩) s2.bb q2
/-- a list or dict of one's own is a datum from here on -/
def frzR (r : R) (k : R → Prop) : Prop := match r with
  | .l true ds => k (.s (.list ds))
  | .k true kvs => k (.s (.dict (kvD kvs)))
  | r => k r
def wFrzS (i : Nat) (v : SW) : SW := fun ρ E => ∃ r, ρ[i]? = some (some r) ∧ frzR r fun r' => v (ρ.set i (some r')) E
theorem pds_frz {i : Nat} (h : PSD X W st v) : PSD X W st (wFrzS i v) := ps_imp h fun D σ H ⟨G, B0, H0, B, ρ, E, S, ⟨r, e1, q⟩, l⟩ => by
  have same : ρ.set i (some r) = ρ := List.ext_getElem? fun j => by
    by_cases z : i = j
    · subst z
      rw [List.getElem?_set_self (List.getElem?_eq_some_iff.mp e1).1, e1]
    · rw [List.getElem?_set_ne z]
  match r, e1, q, same with
  | .l true ds, e1, q, _ =>
    obtain ⟨B', S', s⟩ := S.freeze e1
    exact ⟨G, B0, H0, B', _, E, S', q, l.up s⟩
  | .k true ds, e1, q, _ =>
    obtain ⟨B', S', s⟩ := S.freezeK e1
    exact ⟨G, B0, H0, B', _, E, S', q, l.up s⟩
  | .l false ds, e1, q, same => exact ⟨G, B0, H0, B, ρ, E, S, by have q' : v (ρ.set i (some (.l false ds))) E := q; rw [same] at q'; exact q', l⟩
  | .k false ds, e1, q, same => exact ⟨G, B0, H0, B, ρ, E, S, by have q' : v (ρ.set i (some (.k false ds))) E := q; rw [same] at q'; exact q', l⟩
  | .t o ds, e1, q, same => exact ⟨G, B0, H0, B, ρ, E, S, by have q' : v (ρ.set i (some (.t o ds))) E := q; rw [same] at q'; exact q', l⟩
  | .s d, e1, q, same => exact ⟨G, B0, H0, B, ρ, E, S, by have q' : v (ρ.set i (some (.s d))) E := q; rw [same] at q'; exact q', l⟩
  | .g, e1, q, same => exact ⟨G, B0, H0, B, ρ, E, S, by have q' : v (ρ.set i (some .g)) E := q; rw [same] at q'; exact q', l⟩
/-- a name given back: what was one's own is the caller's -/
def wRetS (i : Nat) : SW := fun ρ E => ∃ r, ρ[i]? = some (some r) ∧ E.rt r
theorem SlotR.giv {K : Frag} {G : Gh} {B0 H0 B H : Hp} {x : V} {r : R} (h : SlotR K G B0 H0 B H x r) (s : Stp G B0 H0 B H) : Rs K G H0 B H x r := by
  match r, h with
  | .s d, h => exact h
  | .l false ds, ⟨p, xs, e, h1, h2⟩ => exact ⟨p, xs, e, s.hh _ _ h1, h2, fun o => by cases o⟩
  | .l true ds, ⟨p, xs, e, h1, h2, h3, h4, h5⟩ => exact ⟨p, xs, e, by rw [hide_out h4]; exact h1, h2, fun _ => ⟨h3, h5⟩⟩
  | .k false ds, ⟨p, xs, e, h1, h2⟩ => exact ⟨p, xs, e, s.hh _ _ h1, h2, fun o => by cases o⟩
  | .k true ds, ⟨p, xs, e, h1, h2, h3, h4, h5⟩ => exact ⟨p, xs, e, by rw [hide_out h4]; exact h1, h2, fun _ => ⟨h3, h5⟩⟩
  | .t false ds, ⟨p, xs, e, h1, h2⟩ => exact ⟨p, xs, e, s.hh _ _ h1, h2, fun o => by cases o⟩
  | .t true ds, ⟨p, xs, e, h1, h2, h3, h4, h5⟩ => exact ⟨p, xs, e, by rw [hide_out h4]; exact h1, h2, fun _ => ⟨h3, h5⟩⟩
  | .g, h => exact h
theorem pds_retS {i : Nat} (h : PS X st (tRet (tVar i))) : PSD X W st (wRetS i) := ps_imp h fun D σ H ⟨G, B0, H0, B, ρ, E, S, ⟨r, e1, q⟩, l⟩ => by
  obtain ⟨x, e2, sx⟩ := S.sl i _ e1
  exact ⟨_, e2, l.rt _ _ _ _ S.st S.bh S.gok (sx.giv S.st) q⟩

/-! ### while -/
def wWhile (t : TW) (v : SW) : SW := fun ρ E => ∃ (P : Rho → Prop) (μ : Rho → Nat), P ρ ∧ ∀ ρ', P ρ' →
  t ρ' (fun k => if k = true then v ρ' { E with nx := fun ρ'' => P ρ'' ∧ μ ρ'' < μ ρ', ct := fun ρ'' => P ρ'' ∧ μ ρ'' < μ ρ', bk := E.nx } else E.nx ρ') (fun cls => E.er cls ρ')
theorem pds_while {body : List Stmt} (hp : PassesOwn (model X.prog X.w) X.A X.env X.xe) (hc : PDt X W e wt) (hb : PSDs X W body v) : PSD X W (.While e body [] pos) (wWhile wt v) :=
  ps_imp (ps_while hp hc hb) fun D σ H ⟨G, B0, H0, B, ρ, E, S, ⟨P, μ, p0, q⟩, l⟩ => by
    refine ⟨fun m σ H => ∃ B' ρ', m = μ ρ' ∧ Stt X.K G B0 H0 B' H σ ρ' ∧ Same B B' ∧ P ρ', ⟨_, B, ρ, rfl, S, Same.refl _, p0⟩, ?_⟩
    rintro m σ1 H1 ⟨B1, ρ1, rfl, S1, s1, p1⟩
    refine ⟨G, B0, H0, B1, ρ1, _, _, S1, q ρ1 p1, fun k B2 H2 S2 s2 q2 => ?_, fun cls d B' H' q' S' s => l.er cls d ρ1 σ1 B' H' S' (s1.trans s.bb) q'⟩
    cases k with
    | false => exact iteF (l.nx _ _ _ _ S2 (s1.trans s2.bb) ((if_neg Bool.false_ne_true).mp q2))
    | true =>
      refine iteT ⟨fun σ' H' => ∃ m', m' < μ ρ1 ∧ ∃ B' ρ', m' = μ ρ' ∧ Stt X.K G B0 H0 B' H' σ' ρ' ∧ Same B B' ∧ P ρ', fun σ' H' z => z, G, B0, H0, B2, ρ1, _, S2, (if_pos rfl).mp q2, ?_⟩
      have s12 := s1.trans s2.bb
      exact ⟨fun ρ' σ' B' H' S' s ⟨p', lt⟩ => ⟨_, lt, B', ρ', rfl, S', s12.trans s, p'⟩, fun ρ' σ' B' H' S' s q' => l.nx _ _ _ _ S' (s12.trans s) q', fun ρ' σ' B' H' S' s ⟨p', lt⟩ => ⟨_, lt, B', ρ', rfl, S', s12.trans s, p'⟩, l.rt,
        fun cls d ρ' σ' B' H' S' s q' => l.er cls d ρ' σ' B' H' S' (s12.trans s) q'⟩

/-! ### raise, try -/
def wRaise (C : Value) : SW := fun ρ E => E.er C ρ
theorem pds_raise {C : Addr} (tk : Takes X W) (h : PMk X e (fun _ H Q => Q (.ref C) none H)) (hc : X.calm = true) : PSD X W (.Raise (some e) none pos) (wRaise (.ref C)) := ps_imp (ps_raise hc tk h) fun D σ H ⟨G, B0, H0, B, ρ, E, S, q, l⟩ =>
  l.er _ _ _ _ _ _ S (Same.refl _) q

def W0 : WX := fun _ _ _ _ => False
/-- the clauses, one after the other -/
def wHand (K : Frag) : List (Value × SW) → DEnds → Value → Rho → Prop
  | [], E, cls, ρ => E.er cls ρ
  | (c, wh) :: r, E, cls, ρ => ∃ b, PySem.W.exmOne K cls c = some b ∧ (b = true → wh ρ { E with er := fun _ _ => False }) ∧ (b = false → wHand K r E cls ρ)
def wTry (K : Frag) (wb : SW) (hs : List (Value × SW)) : SW := fun ρ E => wb ρ { E with er := wHand K hs E }
def suites (K : Frag) (hs : List (Value × SW)) : List (Value × (Addr → Value → Option Addr → TS)) := hs.map fun p => (p.1, fun _ _ _ => TDs K W0 p.2)
theorem hand_ok {K : Frag} {G : Gh} {B0 H0 B B' H' : Hp} {E : DEnds} {D : Ends} {cls : Value} {d : Option Addr} {σ' : L2.St} {ρ' : Rho} (l : Links K W G B0 H0 B E D) (S : Stt K G B0 H0 B' H' σ' ρ') (s : Same B B') :
    ∀ hs : List (Value × SW), wHand K hs E cls ρ' → wMany K W D (suites K hs) cls d σ' H'
  | [], q => l.er cls d ρ' σ' B' H' S s q
  | (c, wh) :: r, ⟨b, e, h1, h2⟩ => ⟨b, e, fun z a ha => ⟨G, B0, H0, B', ρ', _, S, h1 z, ⟨(l.up s).nx, (l.up s).bk, (l.up s).ct, l.rt, fun _ _ _ _ _ _ _ _ q => q.elim⟩⟩, fun z => hand_ok l S s r (h2 z)⟩
theorem pds_try {body : List Stmt} {h₀ : ExceptHandler} {hds : List ExceptHandler} {hs : List (Value × SW)} (h1 : X.stack = X.env :: X.outer) (h2 : X.env.frame = some X.env.locals) (tk : Takes X W)
    (hb : ∀ (W' : WX) (pn : List (Addr × Obj)) (xe : Value → Shared → Prop), Takes (X.tr pn xe) W' → PassesOwn (model X.prog X.w) X.A X.env xe → PSDs (X.tr pn xe) W' body v)
    (hh : HdsOk X (h₀ :: hds) (suites X.K hs)) : PSD X W (.Try body (h₀ :: hds) [] [] pos) (wTry X.K v hs) :=
  ps_imp (ps_try_many (tb := fun W' => TDs X.K W' v) h1 h2 tk hb hh) fun D σ H ⟨G, B0, H0, B, ρ, E, S, q, l⟩ =>
    ⟨G, B0, H0, B, ρ, _, S, q, ⟨l.nx, l.bk, l.ct, l.rt, fun cls d ρ' σ' B' H' S' s q' => hand_ok l S' s hs q'⟩⟩
end

/-! ### defs -/
abbrev Ct := List R → (R → Prop) → (Value → Prop) → Prop
def spD (K : Frag) (c : Ct) : Sp := fun vs H Q E => ∃ (G : Gh) (F : Hp) (rs : List R) (Qd : R → Prop) (Qe : Value → Prop), Same F (hide G H) ∧ G.ok H ∧ RsAll K G H F H vs (rs.map peek) ∧ c (rs.map peek) Qd Qe ∧
  (∀ r x F' H', Stp G F H F' H' → Same F' (hide G H') → G.ok H' → Rs K G H F' H' x r → Qd r → Q x H') ∧ (∀ cls d F' H', Stp G F H F' H' → Same F' (hide G H') → G.ok H' → Qe cls → E cls d H')
theorem RsAll.length {K : Frag} {G : Gh} {H B' H' : Hp} : ∀ {xs : List V} {rs : List R}, RsAll K G H B' H' xs rs → xs.length = rs.length
  | _, _, .nil => rfl
  | _, _, .cons _ t => congrArg (· + 1) (RsAll.length t)
theorem peek_peek : ∀ r : R, peek (peek r) = peek r
  | .s _ => rfl
  | .l _ _ => rfl
  | .k _ _ => rfl
  | .t _ _ => rfl
  | .g => rfl
theorem owns_peek : ∀ r : R, owns (peek r) = false
  | .s _ => rfl
  | .l _ _ => rfl
  | .k _ _ => rfl
  | .t _ _ => rfl
  | .g => rfl
def rho (n : Nat) (rs : List R) : Rho := rs.map some ++ List.replicate (n - rs.length) none
theorem stt_start {K : Frag} {G : Gh} {F H : Hp} {N : List Str} {vs : List V} {rs : List R} (s : Same F (hide G H)) (g : G.ok H) (r : RsAll K G H F H vs (rs.map peek)) : Stt K G F H F H (L2.start N vs) (rho N.length (rs.map peek)) := by
  have hl := r.length
  refine ⟨by unfold L2.start rho; simp [hl], s, g, Stp.refl .., fun i u e => ?_, fun i j u v x _ e1 _ o _ _ _ => ?_⟩
  · have hi : i < (rs.map peek).length := by
      by_cases q : i < (rs.map peek).length
      · exact q
      · exfalso
        unfold rho at e
        rw [List.getElem?_append_right (by simpa using q)] at e
        have := List.mem_of_getElem? e
        have := List.eq_of_mem_replicate this
        cases this
    unfold rho at e
    rw [List.getElem?_append_left (by simpa using hi)] at e
    have e' : (rs.map peek)[i]? = some u := by
      rw [List.getElem?_map] at e
      cases q : (rs.map peek)[i]? with
      | none => rw [q] at e; cases e
      | some z => rw [q] at e; cases e; rfl
    obtain ⟨y, h1, h2⟩ := r.get e'
    refine ⟨y, ?_, ?_⟩
    · unfold L2.start
      rw [List.getElem?_append_left (by rw [List.length_map, hl]; exact hi), List.getElem?_map, h1]
      rfl
    · have eu : peek u = u := by
        rw [List.getElem?_map] at e'
        cases q : rs[i]? with
        | none => rw [q] at e'; cases e'
        | some z => rw [q] at e'; cases e'; exact peek_peek z
      rw [← eu] at h2 ⊢
      cases u with
      | s d => exact h2
      | l o ds => obtain ⟨p, xs, e1, e2, e3, _⟩ := h2; exact ⟨p, xs, e1, e2, e3⟩
      | k o ds => obtain ⟨p, xs, e1, e2, e3, _⟩ := h2; exact ⟨p, xs, e1, e2, e3⟩
      | t o ds => obtain ⟨p, xs, e1, e2, e3, _⟩ := h2; exact ⟨p, xs, e1, e2, e3⟩
      | g => exact h2
  · exfalso
    have hm : some u ∈ rho N.length (rs.map peek) := List.mem_of_getElem? e1
    unfold rho at hm
    rcases List.mem_append.mp hm with z | z
    · obtain ⟨a, h1, h2⟩ := List.mem_map.mp z
      obtain ⟨b, h3, h4⟩ := List.mem_map.mp h1
      cases h2
      rw [← h4, owns_peek] at o
      cases o
    · exact nomatch List.eq_of_mem_replicate z
theorem fnD {P : Program} {wd : World} {K : Frag} {mg : Str → Option Value} {base : Heap} {x qual : Str} {st : Stmt} {f : Addr} {fd : FuncData} {N ps : List Str} {k : Nat} {c : Ct} {w : SW} (F : Fun K x qual st f fd) (S : FnScope N ps (defScope st))
    (hlen : ∀ rs Q E, c rs Q E → rs.length = ps.length)
    (hb : ∀ (cdv : Value) (A : Around) (outer : List Env) (s : Shared) (H : Hp) (E : XK), Room k (A.deeper (envOfC qual (defScope st) s.heap.objs.size f cdv)) →
      PSDs (cxOf (L2.CX P wd) P wd K mg base N qual (defScope st) f cdv A outer s H E) (fun cls d _ H => E cls d H) (defBody st) w)
    (hw : ∀ rs Q E, c rs Q E → w (rho N.length rs) { nx := fun _ => Q (.s .none), rt := Q, er := fun cls _ => E cls }) : FnOk P wd K mg base (L2.CX P wd) (k + 1) f fd ps (spD K c) := by
  refine F.okX S (fun vs H Q E h => ?_) (fun cdv A outer s H vs Q E hr h => ?_)
  · obtain ⟨G, F', rs, Qd, Qe, _, _, h1, h2, _⟩ := h
    exact h1.length.trans (hlen _ _ _ h2)
  · obtain ⟨G, F', rs, Qd, Qe, s0, g0, h1, h2, ok, er⟩ := h
    refine ⟨_, hb cdv A outer s H E hr, G, F', H, F', _, _, stt_start s0 g0 h1, hw _ _ _ h2, ?_⟩
    exact ⟨fun ρ' σ' B' H' S' s q => ok (.s .none) .non B' H' S'.st S'.bh S'.gok .non q, fun _ _ _ _ _ _ q => q.elim, fun _ _ _ _ _ _ q => q.elim, fun r x B' H' s b g r' q => ok r x B' H' s b g r' q, fun cls d ρ' σ' B' H' S' s q => er cls d B' H' S'.st S'.bh S'.gok q⟩

/-! ### a call -/
def wCall (c : Ct) (ws : AW) : EW := fun ρ Q E => ws ρ (fun rs => c (rs.map peek) Q E) E
theorem RsAll.peek {K : Frag} {G : Gh} {H H1 B' H' : Hp} : ∀ {xs : List V} {rs : List R}, RsAll K G H B' H' xs rs → RsAll K G H1 B' H' xs (rs.map DL.peek)
  | _, _, .nil => .nil
  | _, _, .cons (r := r) h t => .cons (by
    cases r with
    | s d => exact h
    | l o ds => obtain ⟨p, xs, e1, e2, e3, _⟩ := h; exact ⟨p, xs, e1, e2, e3, fun z => by cases z⟩
    | k o ds => obtain ⟨p, xs, e1, e2, e3, _⟩ := h; exact ⟨p, xs, e1, e2, e3, fun z => by cases z⟩
    | t o ds => obtain ⟨p, xs, e1, e2, e3, _⟩ := h; exact ⟨p, xs, e1, e2, e3, fun z => by cases z⟩
    | g => exact h) (RsAll.peek t)
theorem pd_call {X : Cx} {W : WX} {e : Expr} {c : Ct} {ws : AW} (h : PE X e (tCallS (spD X.K c) (WE W) (TDa X.K W ws))) : PD X W e (wCall c ws) :=
  pe_imp h fun σ H Q ⟨G, B0, H0, B, ρ, Qd, Qe, S, q, ok, er⟩ => by
    refine ⟨G, B0, H0, B, ρ, _, Qe, S, q, fun rs xs B1 H1 S1 s1 r1 _ q1 => ?_, er⟩
    exact ⟨G, B1, rs, Qd, Qe, S1.bh, S1.gok, r1.peek, q1, fun r x F' H' s b g r' q' => ok r x F' H' (S1.step s b g) (s1.trans s) (r'.from s1) q', fun cls d F' H' s b g q' => er cls d F' H' q' (S1.step s b g) (s1.trans s)⟩
end DL

set_option Elab.async false
set_option linter.all false
set_option maxRecDepth 100000
/-! The data layer: what is walked; for; comprehensions. -/
namespace DL
open PySem PySem.Spec PyProof.Rows L2

/-- what an iterator gives, as long as Later holds -/
structure ItD (K : Frag) (G : Gh) (Later : Hp → Hp → Prop) (J : It) (ds : List D) : Prop where
  go : ∀ i B H, Later B H → i < ds.length → J.go i H
  stop : ∀ B H, Later B H → J.stop ds.length H
  yld : ∀ i B H x H', Later B H → i < ds.length → J.yld i H x H' → ∃ d B', ds[i]? = some d ∧ Dp K B' x d ∧ Stp G B H B' H' ∧ Same B' (hide G H') ∧ G.ok H'
/-- later in an expression; later in a def's body -/
def LatC (G : Gh) (B1 H1 B H : Hp) : Prop := Stp G B1 H1 B H ∧ Same B (hide G H) ∧ G.ok H
def LatF (G : Gh) (B0 H0 B1 B H : Hp) : Prop := Same B1 B ∧ Same B (hide G H) ∧ G.ok H ∧ Stp G B0 H0 B H
abbrev IW := Rho → (List D → Prop) → (Value → Prop) → Prop
def TDiC (K : Frag) (W : WX) (w : IW) : TI := fun σ H Q => ∃ (G : Gh) (B0 H0 B : Hp) (ρ : Rho) (Qd : List D → Prop) (Qe : Value → Prop), Stt K G B0 H0 B H σ ρ ∧ w ρ Qd Qe ∧
  (∀ ds J B' H', Stt K G B0 H0 B' H' σ ρ → Stp G B H B' H' → ItD K G (LatC G B' H') J ds → Qd ds → Q J H') ∧ (∀ cls d B' H', Qe cls → Stt K G B0 H0 B' H' σ ρ → Stp G B H B' H' → W cls d σ H')
def TDiF (K : Frag) (W : WX) (w : IW) : TI := fun σ H Q => ∃ (G : Gh) (B0 H0 B : Hp) (ρ : Rho) (Qd : List D → Prop) (Qe : Value → Prop), Stt K G B0 H0 B H σ ρ ∧ w ρ Qd Qe ∧
  (∀ ds J B' H', Stt K G B0 H0 B' H' σ ρ → Stp G B H B' H' → ItD K G (LatF G B0 H0 B') J ds → Qd ds → Q J H') ∧ (∀ cls d B' H', Qe cls → Stt K G B0 H0 B' H' σ ρ → Stp G B H B' H' → W cls d σ H')
abbrev PIC (X : Cx) (W : WX) (tg e : Expr) (w : IW) : Prop := PI X tg e (TDiC X.K W w)
abbrev PIF (X : Cx) (W : WX) (tg e : Expr) (w : IW) : Prop := PI X tg e (TDiF X.K W w)
theorem pi_imp {X : Cx} {tg e : Expr} {t t' : TI} (h : PI X tg e t) (i : ∀ σ H Q, t' σ H Q → t σ H Q) : PI X tg e t' := ⟨fun pins s σ H Q I q => h.run pins s σ H Q I (i _ _ _ q)⟩
/-- a list or a tuple -/
def iAny (K : Frag) (tl : TE) : TI := fun σ H R => tl σ H fun x H1 => ∃ a, x = .ref a ∧ (((∃ xs, SqL K H1 a xs) ∧ R (Itl K a) H1) ∨ ((∃ xs, SqT K H1 a xs) ∧ R (Itt K a) H1))
theorem pi_any {X : Cx} {tg l : Expr} {tl : TE} (hl : PE X l tl) : PI X tg l (iAny X.K tl) := by
  refine ⟨fun pins s σ H R I h => ?_⟩
  refine thn (hl.run pins s σ H _ I h) fun v s1 ⟨x, H1, I1, r1, q1⟩ => ?_
  obtain ⟨a, e, q1⟩ := q1
  subst e
  cases r1
  have fp : ∀ b ∈ [s1.heap.objs.size], FpOk X pins H1 b := fun b hb => by
    have e : b = s1.heap.objs.size := by simpa using hb
    subst e
    exact I1.fpOk (Nat.le_refl _) (I1.hok.fresh (Nat.le_refl _))
  rcases q1 with ⟨⟨xs, hq⟩, q⟩ | ⟨⟨xs, hq⟩, q⟩
  · obtain ⟨its, rv, p, hz⟩ := I1.list hq
    refine wpAny_pyIter_list p.isList ?_
    exact ⟨s1.heap.objs.size, [s1.heap.objs.size], _, _, H1, rfl, I1.kept (t' := s1.toks) fun b o e => Heap.get?_push_of_some _ e, turn_list a _, ⟨_, Heap.get?_push_size _ rfl, rfl, rfl⟩, fp, q⟩
  · obtain ⟨its, rv, p, hz⟩ := I1.tuple hq
    refine wpAny_pyIter_tuple (show s1.heap.IsTuple a its.toArray from p) ?_
    exact ⟨s1.heap.objs.size, [s1.heap.objs.size], _, _, H1, rfl, I1.kept (t' := s1.toks) fun b o e => Heap.get?_push_of_some _ e, turn_tuple a _, ⟨_, Heap.get?_push_size _ rfl, rfl, rfl⟩, fp, q⟩
section
variable {K : Frag} {G : Gh} {Later : Hp → Hp → Prop}
theorem itd_list {a : Addr} {xs : List V} {ds : List D} (h : ∀ B H, Later B H → SqL K H a xs ∧ DpAll K B xs ds ∧ Same B (hide G H) ∧ G.ok H) : ItD K G Later (Itl K a) ds := by
  refine ⟨fun i B H l hi => ?_, fun B H l => ?_, fun i B H x H' l hi y => ?_⟩
  · obtain ⟨h1, h2, _⟩ := h B H l
    have : i < xs.length := by rw [h2.length]; exact hi
    exact ⟨xs, xs[i], h1, by simp [this]⟩
  · obtain ⟨h1, h2, _⟩ := h B H l
    exact ⟨xs, h1, by rw [h2.length]; exact Nat.le_refl _⟩
  · obtain ⟨h1, h2, h3, h4⟩ := h B H l
    obtain ⟨rfl, y⟩ := y
    obtain ⟨d, e1, e2⟩ := h2.get' (y xs h1)
    exact ⟨d, B, e1, e2, Stp.refl .., h3, h4⟩
theorem itd_tup {a : Addr} {xs : List V} {ds : List D} (h : ∀ B H, Later B H → SqT K H a xs ∧ DpAll K B xs ds ∧ Same B (hide G H) ∧ G.ok H) : ItD K G Later (Itt K a) ds := by
  refine ⟨fun i B H l hi => ?_, fun B H l => ?_, fun i B H x H' l hi y => ?_⟩
  · obtain ⟨h1, h2, _⟩ := h B H l
    have : i < xs.length := by rw [h2.length]; exact hi
    exact ⟨xs, xs[i], h1, by simp [this]⟩
  · obtain ⟨h1, h2, _⟩ := h B H l
    exact ⟨xs, h1, by rw [h2.length]; exact Nat.le_refl _⟩
  · obtain ⟨h1, h2, h3, h4⟩ := h B H l
    obtain ⟨rfl, y⟩ := y
    obtain ⟨d, e1, e2⟩ := h2.get' (y xs h1)
    exact ⟨d, B, e1, e2, Stp.refl .., h3, h4⟩
def rangeD (lo : Int) (n : Nat) : List D := (List.range n).map fun k : Nat => PyData.int (lo + (k : Int))
theorem itd_range {lo : Int} {n : Nat} (h : ∀ B H, Later B H → Same B (hide G H) ∧ G.ok H) : ItD K G Later (Itr lo n) (rangeD lo n) := by
  have hl : (rangeD lo n).length = n := by simp [rangeD]
  refine ⟨fun i B H l hi => by rw [hl] at hi; exact hi, fun B H l => by rw [hl]; exact Nat.le_refl _, fun i B H x H' l hi y => ?_⟩
  obtain ⟨h3, h4⟩ := h B H l
  obtain ⟨rfl, rfl⟩ := y
  rw [hl] at hi
  exact ⟨.int (lo + i), B, by simp [rangeD, hi], .int _, Stp.refl .., h3, h4⟩
end
def wSeqC (w : EW) : IW := fun ρ Q E => w ρ (fun r => ∃ ds, r.seq = some ds ∧ Q ds) E
/-- a list or tuple that stands for good -/
def R.stab : R → Option (List D)
  | .s (.list xs) => some xs
  | .s (.tuple xs) => some xs
  | _ => none
def wSeqF (w : EW) : IW := fun ρ Q E => w ρ (fun r => ∃ ds, r.stab = some ds ∧ Q ds) E
section
variable {X : Cx} {W : WX} {tg e a b : Expr} {w : EW} {ws : AW} {wi : IW}
theorem pic_seq (h : PD X W e w) : PIC X W tg e (wSeqC w) := pi_imp (pi_any h) fun σ H Q ⟨G, B0, H0, B, ρ, Qd, Qe, S, q, ok, er⟩ => by
  refine ⟨G, B0, H0, B, ρ, _, Qe, S, q, fun r x B' H' S' s r' q' => ?_, er⟩
  obtain ⟨ds, e1, q'⟩ := q'
  cases r with
  | s d =>
    cases d with
    | list es =>
      cases e1
      cases (show Dp X.K B' x (.list ds) from r') with
      | lst h1 h2 =>
        exact ⟨_, rfl, .inl ⟨⟨_, Same.sqL (S'.bh.trans (hide_le H')) h1⟩, ok _ _ _ _ S' s (itd_list fun B2 H2 ⟨l1, l2, l3⟩ => ⟨Same.sqL (l2.trans (hide_le H2)) (Same.sqL l1.bb h1), DpAll.mono l1.bb h2, l2, l3⟩) q'⟩⟩
    | tuple es =>
      cases e1
      cases (show Dp X.K B' x (.tuple ds) from r') with
      | tup h1 h2 =>
        exact ⟨_, rfl, .inr ⟨⟨_, Same.sqT (S'.bh.trans (hide_le H')) h1.t⟩, ok _ _ _ _ S' s (itd_tup fun B2 H2 ⟨l1, l2, l3⟩ => ⟨Same.sqT (l2.trans (hide_le H2)) (Same.sqT l1.bb h1.t), DpAll.mono l1.bb h2, l2, l3⟩) q'⟩⟩
    | _ => cases e1
  | l own es =>
    cases e1
    obtain ⟨p, xs, rfl, h1, h2, _⟩ := r'
    exact ⟨p, rfl, .inl ⟨⟨xs, .inl (.inl (hide_some h1).2)⟩, ok _ _ _ _ S' s (itd_list fun B2 H2 ⟨l1, l2, l3⟩ => ⟨.inl (.inl (hide_some (l1.hh _ _ h1)).2), DpAll.mono l1.bb h2, l2, l3⟩) q'⟩⟩
  | _ => cases e1
theorem pif_seq (h : PD X W e w) : PIF X W tg e (wSeqF w) := pi_imp (pi_any h) fun σ H Q ⟨G, B0, H0, B, ρ, Qd, Qe, S, q, ok, er⟩ => by
  refine ⟨G, B0, H0, B, ρ, _, Qe, S, q, fun r x B' H' S' s r' q' => ?_, er⟩
  obtain ⟨ds, e1, q'⟩ := q'
  cases r with
  | s d =>
    cases d with
    | list es =>
      cases e1
      cases (show Dp X.K B' x (.list ds) from r') with
      | lst h1 h2 =>
        exact ⟨_, rfl, .inl ⟨⟨_, Same.sqL (S'.bh.trans (hide_le H')) h1⟩, ok _ _ _ _ S' s (itd_list fun B2 H2 ⟨l1, l2, l3, _⟩ => ⟨Same.sqL (l2.trans (hide_le H2)) (Same.sqL l1 h1), DpAll.mono l1 h2, l2, l3⟩) q'⟩⟩
    | tuple es =>
      cases e1
      cases (show Dp X.K B' x (.tuple ds) from r') with
      | tup h1 h2 =>
        exact ⟨_, rfl, .inr ⟨⟨_, Same.sqT (S'.bh.trans (hide_le H')) h1.t⟩, ok _ _ _ _ S' s (itd_tup fun B2 H2 ⟨l1, l2, l3, _⟩ => ⟨Same.sqT (l2.trans (hide_le H2)) (Same.sqT l1 h1.t), DpAll.mono l1 h2, l2, l3⟩) q'⟩⟩
    | _ => cases e1
  | _ => cases e1
/-- a parameter that is a list -/
def wParF (i : Nat) : IW := fun ρ Q _ => ∃ ds, ρ[i]? = some (some (.l false ds)) ∧ Q ds
theorem pif_par {i : Nat} (h : PE X e (tVar i)) : PIF X W tg e (wParF i) := pi_imp (pi_any h) fun σ H Q ⟨G, B0, H0, B, ρ, Qd, Qe, S, ⟨ds, e1, q⟩, ok, er⟩ => by
  obtain ⟨x, e2, ⟨p, xs, ex, h1, h2⟩⟩ := S.sl i _ e1
  subst ex
  exact ⟨_, e2, p, rfl, .inl ⟨⟨xs, .inl (.inl (hide_some (S.st.hh _ _ h1)).2)⟩, ok _ _ _ _ S (Stp.refl ..) (itd_list fun B2 H2 ⟨l1, l2, l3, l4⟩ => ⟨.inl (.inl (hide_some (l4.hh _ _ h1)).2), DpAll.mono l1 h2, l2, l3⟩) q⟩⟩
/-- range(n), range(a, b) -/
def wRange1 (ws : AW) : IW := fun ρ Q E => ws ρ (fun rs => ∃ n, rs = [.s (.int n)] ∧ -(2 ^ 62) ≤ n ∧ n < 2 ^ 62 ∧ Q (rangeD 0 n.toNat)) E
def wRange2 (ws : AW) : IW := fun ρ Q E => ws ρ (fun rs => ∃ m n, rs = [.s (.int m), .s (.int n)] ∧ (-(2 ^ 62) ≤ m ∧ m < 2 ^ 62 ∧ -(2 ^ 62) ≤ n ∧ n < 2 ^ 62) ∧ Q (rangeD m (n - m).toNat)) E
theorem pic_range1 (h : PI X tg e (iRng1 (TDa X.K W ws))) : PIC X W tg e (wRange1 ws) := pi_imp h fun σ H Q ⟨G, B0, H0, B, ρ, Qd, Qe, S, q, ok, er⟩ => by
  refine ⟨G, B0, H0, B, ρ, _, Qe, S, q, fun rs xs B' H' S' s r' _ q' => ?_, er⟩
  obtain ⟨n, rfl, h1, h2, q'⟩ := q'
  obtain ⟨x, rfl, r1⟩ := r'.one
  cases r1.int
  exact ⟨n, rfl, h1, h2, ok _ _ _ _ S' s (itd_range fun B2 H2 ⟨_, l2, l3⟩ => ⟨l2, l3⟩) q'⟩
theorem pic_range2 (h : PI X tg e (iRng2 (TDa X.K W ws))) : PIC X W tg e (wRange2 ws) := pi_imp h fun σ H Q ⟨G, B0, H0, B, ρ, Qd, Qe, S, q, ok, er⟩ => by
  refine ⟨G, B0, H0, B, ρ, _, Qe, S, q, fun rs xs B' H' S' s r' _ q' => ?_, er⟩
  obtain ⟨m, n, rfl, h1, q'⟩ := q'
  obtain ⟨x, y, rfl, r1, r2⟩ := r'.two
  cases r1.int; cases r2.int
  exact ⟨m, n, rfl, h1, ok _ _ _ _ S' s (itd_range fun B2 H2 ⟨_, l2, l3⟩ => ⟨l2, l3⟩) q'⟩
theorem pif_range1 (h : PI X tg e (iRng1 (TDa X.K W ws))) : PIF X W tg e (wRange1 ws) := pi_imp h fun σ H Q ⟨G, B0, H0, B, ρ, Qd, Qe, S, q, ok, er⟩ => by
  refine ⟨G, B0, H0, B, ρ, _, Qe, S, q, fun rs xs B' H' S' s r' _ q' => ?_, er⟩
  obtain ⟨n, rfl, h1, h2, q'⟩ := q'
  obtain ⟨x, rfl, r1⟩ := r'.one
  cases r1.int
  exact ⟨n, rfl, h1, h2, ok _ _ _ _ S' s (itd_range fun B2 H2 ⟨_, l2, l3, _⟩ => ⟨l2, l3⟩) q'⟩
theorem pif_range2 (h : PI X tg e (iRng2 (TDa X.K W ws))) : PIF X W tg e (wRange2 ws) := pi_imp h fun σ H Q ⟨G, B0, H0, B, ρ, Qd, Qe, S, q, ok, er⟩ => by
  refine ⟨G, B0, H0, B, ρ, _, Qe, S, q, fun rs xs B' H' S' s r' _ q' => ?_, er⟩
  obtain ⟨m, n, rfl, h1, q'⟩ := q'
  obtain ⟨x, y, rfl, r1, r2⟩ := r'.two
  cases r1.int; cases r2.int
  exact ⟨m, n, rfl, h1, ok _ _ _ _ S' s (itd_range fun B2 H2 ⟨_, l2, l3, _⟩ => ⟨l2, l3⟩) q'⟩

/-! ### for -/
def wFor (wi : IW) (g : GW) (v : SW) : SW := fun ρ E => wi ρ (fun ds => ∃ P : Nat → Rho → Prop, P 0 ρ ∧ (∀ i d ρ', ds[i]? = some d → P i ρ' → g d ρ' fun ρ2 => v ρ2 { E with nx := P (i + 1), ct := P (i + 1), bk := E.nx }) ∧
  ∀ ρ', P ds.length ρ' → E.nx ρ') (fun cls => E.er cls ρ)
theorem pds_for {g : GW} {v : SW} {st : Stmt} (h : PS X st (tFor (TDiF X.K W wi) (TDg X.K g) (TDs X.K W v))) : PSD X W st (wFor wi g v) := ps_imp h fun D σ H ⟨G, B0, H0, B, ρ, E, S, q, l⟩ => by
  refine ⟨G, B0, H0, B, ρ, _, _, S, q, fun ds J B1 H1 S1 s1 it ⟨P, p0, turn, done⟩ => ?_, fun cls d B' H' q' S' s => l.er cls d ρ σ B' H' S' s.bb q'⟩
  refine ⟨fun i m σ H => m = ds.length - i ∧ i ≤ ds.length ∧ ∃ B' ρ', Stt X.K G B0 H0 B' H σ ρ' ∧ Same B1 B' ∧ P i ρ', ⟨_, rfl, Nat.zero_le _, B1, ρ, S1, Same.refl _, p0⟩, ?_⟩
  rintro i m σ2 H2 ⟨rfl, hi, B2, ρ2, S2, s2, p2⟩
  have lat : LatF G B0 H0 B1 B2 H2 := ⟨s2, S2.bh, S2.gok, S2.st⟩
  by_cases hlt : i < ds.length
  · refine .inr ⟨it.go i _ _ lat hlt, fun σ' H' => i + 1 ≤ ds.length ∧ ∃ B' ρ', Stt X.K G B0 H0 B' H' σ' ρ' ∧ Same B1 B' ∧ P (i + 1) ρ', fun σ' H' ⟨z1, z2⟩ => ⟨ds.length - (i + 1), by omega, rfl, z1, z2⟩, fun x H' y => ?_⟩
    obtain ⟨d, B3, e1, e2, s3, b3, g3⟩ := it.yld i _ _ x H' lat hlt y
    have S3 := S2.step s3 b3 g3
    refine ⟨G, B0, H0, B3, ρ2, d, _, S3, e2, turn i d ρ2 e1 p2, fun ρ4 σ4 B4 H4 S4 s4 q4 => ⟨G, B0, H0, B4, ρ4, _, S4, q4, ?_⟩⟩
    have s14 := (s2.trans s3.bb).trans s4
    have s04 := s1.bb.trans s14
    exact ⟨fun ρ' σ' B' H' S' s q' => ⟨hlt, B', ρ', S', s14.trans s, q'⟩, fun ρ' σ' B' H' S' s q' => l.nx _ _ _ _ S' (s04.trans s) q', fun ρ' σ' B' H' S' s q' => ⟨hlt, B', ρ', S', s14.trans s, q'⟩, l.rt, fun cls d ρ' σ' B' H' S' s q' => l.er cls d ρ' σ' B' H' S' (s04.trans s) q'⟩
  · have e : i = ds.length := by omega
    subst e
    exact .inl ⟨it.stop _ _ lat, l.nx _ _ _ _ S2 (s1.bb.trans s2) (done ρ2 p2)⟩
end
end DL

set_option Elab.async false
set_option linter.all false
set_option maxRecDepth 100000
/-! The data layer: comprehensions, built-ins. -/
namespace DL
open PySem PySem.Spec PyProof.Rows L2

def wipeR (ρ : Rho) : List Nat → Rho
  | [] => ρ
  | v :: vs => (wipeR ρ vs).set v none
/-- the targets of a comprehension: names, their slots -/
def putA (ρ : Rho) : List Nat → List D → Rho
  | i :: is, d :: ds => putA (ρ.set i (some (.s d))) is ds
  | _, _ => ρ
def putV (σ : L2.St) : List Nat → List V → L2.St
  | i :: is, x :: xs => putV (σ.set i (some x)) is xs
  | _, _ => σ
section
variable {K : Frag} {G : Gh} {B0 H0 B H B' H' : Hp} {σ : L2.St} {ρ : Rho}
theorem wipe_set {σ : L2.St} {i : Nat} {o : Option V} : ∀ {vs : List Nat}, i ∈ vs → wipe (σ.set i o) vs = wipe σ vs
  | [], h => nomatch h
  | v :: vs, h => by
    show (wipe (σ.set i o) vs).set v none = (wipe σ vs).set v none
    by_cases q : i ∈ vs
    · rw [wipe_set q]
    · have e : i = v := by
        rcases List.mem_cons.mp h with h | h
        · exact h
        · exact absurd h q
      subst e
      have key : ∀ (ws : List Nat), i ∉ ws → wipe (σ.set i o) ws = (wipe σ ws).set i o := by
        intro ws
        induction ws with
        | nil => intro _; rfl
        | cons w ws ih =>
          intro h
          have h1 : i ≠ w := fun e => h (e ▸ List.mem_cons_self)
          have h2 : i ∉ ws := fun e => h (List.mem_cons_of_mem _ e)
          show (wipe (σ.set i o) ws).set w none = ((wipe σ ws).set w none).set i o
          rw [ih h2, List.set_comm _ _ h1]
      rw [key vs q, List.set_set]
theorem wipe_wipe {σ : L2.St} {vs : List Nat} : ∀ ws : List Nat, (∀ i ∈ ws, i ∈ vs) → wipe (wipe σ ws) vs = wipe σ vs
  | [], _ => rfl
  | w :: ws, h => by
    show wipe ((wipe σ ws).set w none) vs = wipe σ vs
    rw [wipe_set (h w List.mem_cons_self), wipe_wipe ws fun i hi => h i (List.mem_cons_of_mem _ hi)]
theorem wipe_putV {σ : L2.St} {vs : List Nat} : ∀ (is : List Nat) (xs : List V) (τ : L2.St), wipe τ vs = wipe σ vs → (∀ i ∈ is, i ∈ vs) → wipe (putV τ is xs) vs = wipe σ vs
  | [], _, τ, h, _ => h
  | _ :: _, [], τ, h, _ => h
  | i :: is, x :: xs, τ, h, hi => wipe_putV is xs _ (by rw [wipe_set (hi i List.mem_cons_self)]; exact h) fun j hj => hi j (List.mem_cons_of_mem _ hj)
theorem Stt.wipe (S : Stt K G B0 H0 B H σ ρ) : ∀ vs : List Nat, Stt K G B0 H0 B H (L2.wipe σ vs) (wipeR ρ vs)
  | [] => S
  | v :: vs => by
    have T := Stt.wipe S vs
    show Stt K G B0 H0 B H ((L2.wipe σ vs).set v none) ((wipeR ρ vs).set v none)
    refine ⟨by simp [T.len], T.bh, T.gok, T.st, fun i r e => ?_, fun i j r u x hij e1 e2 o1 o2 e3 e4 => ?_⟩
    · by_cases q : i = v
      · subst q
        by_cases z : i < (wipeR ρ vs).length
        · rw [List.getElem?_set_self z] at e; cases e
        · rw [List.getElem?_eq_none (by simpa using z)] at e; cases e
      · rw [List.getElem?_set_ne (Ne.symm q)] at e ⊢
        exact T.sl i r e
    · have ne : ∀ {k : Nat} {w : R}, ((wipeR ρ vs).set v none)[k]? = some (some w) → k ≠ v := fun {k w} e q => by
        subst q
        by_cases z : k < (wipeR ρ vs).length
        · rw [List.getElem?_set_self z] at e; cases e
        · rw [List.getElem?_eq_none (by simpa using z)] at e; cases e
      have n1 := ne e1
      have n2 := ne e2
      rw [List.getElem?_set_ne (Ne.symm n1)] at e1 e3
      rw [List.getElem?_set_ne (Ne.symm n2)] at e2 e4
      exact T.dis i j r u x hij e1 e2 o1 o2 e3 e4
theorem Stt.putA : ∀ (is : List Nat) {xs : List V} {ds : List D} {σ : L2.St} {ρ : Rho}, Stt K G B0 H0 B H σ ρ → DpAll K B xs ds → (∀ i ∈ is, i < ρ.length) → Stt K G B0 H0 B H (putV σ is xs) (DL.putA ρ is ds)
  | [], _, _, _, _, S, _, _ => S
  | _ :: _, _, _, _, _, S, .nil, _ => S
  | i :: is, _, _, _, _, S, .cons h t, hi => Stt.putA is (S.put (r := .s _) rfl h i (hi i List.mem_cons_self)) t fun j hj => by
    rw [List.length_set]; exact hi j (List.mem_cons_of_mem _ hj)
/-- an object beside the slots is written -/
theorem Stt.side {p : Addr} {o : HO} (S : Stt K G B0 H0 B H σ ρ) (hb : B p = none) (hg : p ∉ G.at_) (h0 : hide G H0 p = none) (aw : ∀ (j : Nat) (r : R), ρ[j]? = some (some r) → owns r = true → σ[j]? ≠ some (some (.ref p))) :
    Stt K G B0 H0 B (upd H p o) σ ρ := by
  have hu : hide G (upd H p o) = upd (hide G H) p o := hide_upd hg
  refine ⟨S.len, fun b v e => by rw [hu, upd_ne (ne_of_none e hb)]; exact S.bh _ _ e, ghost_upd hg S.gok, ⟨S.st.bb, fun b v e => by rw [hu, upd_ne (ne_of_none e h0)]; exact S.st.hh _ _ e, S.st.nw⟩, fun j v e => ?_, S.dis⟩
  obtain ⟨y, g1, g2⟩ := S.sl j v e
  refine ⟨y, g1, ?_⟩
  have ne : ∀ q, y = .ref q → owns v = true → q ≠ p := fun q ey ov eqp => by
    subst ey; subst eqp
    exact aw j v e ov g1
  match v, g2, ne with
  | .s d, g2, _ => exact g2
  | .l false ds, g2, _ => exact g2
  | .l true ds, ⟨q, xs, e, k1, k2, k3, k4, k5⟩, ne => exact ⟨q, xs, e, by rw [upd_ne (ne q e rfl)]; exact k1, k2, k3, k4, k5⟩
  | .k false ds, g2, _ => exact g2
  | .k true ds, ⟨q, xs, e, k1, k2, k3, k4, k5⟩, ne => exact ⟨q, xs, e, by rw [upd_ne (ne q e rfl)]; exact k1, k2, k3, k4, k5⟩
  | .t false ds, g2, _ => exact g2
  | .t true ds, ⟨q, xs, e, k1, k2, k3, k4, k5⟩, ne => exact ⟨q, xs, e, by rw [upd_ne (ne q e rfl)]; exact k1, k2, k3, k4, k5⟩
  | .g, g2, _ => exact g2
end

/-! ### comprehensions -/
/-- a target that is one name, or a tuple of names -/
def gNames : List Nat → TGs
  | [] => gNil
  | i :: is => gCons (gName i) (gNames is)
def gwNames (tup : Bool) (is : List Nat) (d : D) (Q : List D → Prop) : Prop := if tup = true then ∃ ds, d = .tuple ds ∧ ds.length = is.length ∧ Q ds else Q [d]
def gC (K : Frag) (tup : Bool) (is : List Nat) : TG := match tup with
  | true => gTup K is.length (gNames is)
  | false => match is with
    | [i] => gName i
    | _ => fun _ _ _ _ => False
theorem gNames_ok : ∀ (is : List Nat) (xs : List V) (σ : L2.St) (H : Hp) (Q : L2.St → Hp → Prop), xs.length = is.length → Q (putV σ is xs) H → gNames is xs σ H Q
  | [], [], _, _, _, _, q => ⟨rfl, q⟩
  | [], _ :: _, _, _, _, e, _ => by cases e
  | _ :: _, [], _, _, _, e, _ => by cases e
  | i :: is, x :: xs, σ, H, Q, e, q => ⟨x, xs, rfl, gNames_ok is xs _ H Q (by simpa using e) q⟩
abbrev PDts (X : Cx) (ifs : List Expr) (wt : TW) : Prop := PTs X ifs (TDt X.K W0 wt)
def wYes : TW := fun _ Q _ => Q true
theorem pts_imp {X : Cx} {ifs : List Expr} {t t' : TT} (h : PTs X ifs t) (i : ∀ σ H Q, t' σ H Q → t σ H Q) : PTs X ifs t' := ⟨fun pins s σ H Q I q => h.run pins s σ H Q I (i _ _ _ q)⟩
theorem pdts_nil {X : Cx} : PDts X [] wYes := pts_imp pts_nil fun σ H Q ⟨G, B0, H0, B, ρ, Qd, Qe, S, q, ok, er⟩ => ok true _ _ S (Stp.refl ..) q
theorem pdts_one {X : Cx} {c : Expr} {wt : TW} (h : PDt X W0 c wt) : PDts X [c] wt := pts_one h
/-- [elt for names in wi if wt] -/
def wLc (wi : IW) (tup : Bool) (is vs : List Nat) (wt : TW) (we : EW) : EW := fun ρ Q E => wi ρ (fun ds => ∃ P : Nat → List D → Prop, P 0 [] ∧
  (∀ k acc d, ds[k]? = some d → P k acc → gwNames tup is d fun es => (∀ i ∈ is, i < ρ.length) ∧ wt (putA (wipeR ρ vs) is es) (fun b => if b = true then we (putA (wipeR ρ vs) is es) (fun r => ∃ z, r.dat = some z ∧ acc.length < 16777216 ∧ P (k + 1) (acc ++ [z])) (fun _ => False) else P (k + 1) acc) (fun _ => False)) ∧
  ∀ acc, P ds.length acc → Q (.l true acc)) E
theorem wipeR_length (ρ : Rho) : ∀ vs : List Nat, (wipeR ρ vs).length = ρ.length
  | [] => rfl
  | v :: vs => by unfold wipeR; rw [List.length_set, wipeR_length ρ vs]
theorem lc_core_d {K : Frag} {W : WX} {wi : IW} {tup : Bool} {is vs : List Nat} {wt : TW} {we : EW} (hsub : ∀ i ∈ is, i ∈ vs) (h1 : tup = true ∨ ∃ i, is = [i]) :
    ∀ σ H Q, TDe K W (wLc wi tup is vs wt we) σ H Q → tLc (TDiC K W wi) (gC K tup is) (TDt K W0 wt) (TDe K W0 we) vs σ H Q := by
  rintro σ H Q ⟨G, B0, H0, B, ρ, Qd, Qe, S, q, ok, er⟩
  refine ⟨G, B0, H0, B, ρ, _, Qe, S, q, fun ds J B1 H1 S1 s1 it ⟨P, p0, turn, done⟩ => ?_, er⟩
  intro Dl hD
  have dG : Dl ∉ G.at_ := S1.notG hD
  have d0 : hide G H0 Dl = none := S1.st.hh.free (hide_free hD)
  have dS : hide G H Dl = none := s1.hh.free (hide_free hD)
  have aw : ∀ (j : Nat) (r : R), ρ[j]? = some (some r) → owns r = true → σ[j]? ≠ some (some (.ref Dl)) := fun j r e1 o e2 => by
    obtain ⟨x, f1, f2⟩ := S1.sl j r e1
    rw [e2] at f1; cases f1
    obtain ⟨p, u, ep, k1, _⟩ := f2.own o
    cases ep
    rw [hD] at k1; cases k1
  refine ⟨fun i m H => m = ds.length - i ∧ i ≤ ds.length ∧ ∃ (B' : Hp) (av : List V) (acc : List D), Stt K G B0 H0 B' H σ ρ ∧ Stp G B1 H1 B' H ∧ H Dl = some (.lst av) ∧ DpAll K B' av acc ∧ B' Dl = none ∧ P i acc,
    ⟨_, rfl, Nat.zero_le _, B1, [], [], S1.new hD, Stp.new hD, upd_same, .nil, S1.freeB hD, p0⟩, ?_⟩
  rintro i m H2 ⟨rfl, hi, B2, av, acc, S2, s2, hd, ha, hb, p2⟩
  have lat : LatC G B1 H1 B2 H2 := ⟨s2, S2.bh, S2.gok⟩
  by_cases hlt : i < ds.length
  · refine .inr ⟨it.go i _ _ lat hlt, fun H' => i + 1 ≤ ds.length ∧ ∃ (B' : Hp) (av : List V) (acc : List D), Stt K G B0 H0 B' H' σ ρ ∧ Stp G B1 H1 B' H' ∧ H' Dl = some (.lst av) ∧ DpAll K B' av acc ∧ B' Dl = none ∧ P (i + 1) acc, fun H' ⟨z1, z2⟩ => ⟨ds.length - (i + 1), by omega, rfl, z1, z2⟩, fun x H3 y => ?_⟩
    obtain ⟨d, B3, e1, e2, s3, b3, g3⟩ := it.yld i _ _ x H3 lat hlt y
    have S3 := S2.step s3 b3 g3
    have trk : hide G H2 Dl = some (.lst av) := by rw [hide_out dG]; exact hd
    have q3 := turn i acc d e1 p2
    have fin : ∀ (xs : List V) (es : List D), DpAll K B3 xs es → (∀ i ∈ is, i < ρ.length) → wt (putA (wipeR ρ vs) is es) (fun b => if b = true then we (putA (wipeR ρ vs) is es) (fun r => ∃ z, r.dat = some z ∧ acc.length < 16777216 ∧ P (i + 1) (acc ++ [z])) (fun _ => False) else P (i + 1) acc) (fun _ => False) →
        (wipe (putV (wipe σ vs) is xs) vs = wipe σ vs ∧ TDt K W0 wt (putV (wipe σ vs) is xs) H3 fun b H4 => if b = true then TDe K W0 we (putV (wipe σ vs) is xs) H4 fun y H5 => ∃ acc, H5 Dl = some (.lst acc) ∧ acc.length < sizeLine ∧
          (i + 1 ≤ ds.length ∧ ∃ (B' : Hp) (av : List V) (acc' : List D), Stt K G B0 H0 B' (upd H5 Dl (.lst (acc ++ [y]))) σ ρ ∧ Stp G B1 H1 B' (upd H5 Dl (.lst (acc ++ [y]))) ∧ (upd H5 Dl (.lst (acc ++ [y]))) Dl = some (.lst av) ∧ DpAll K B' av acc' ∧ B' Dl = none ∧ P (i + 1) acc')
          else (i + 1 ≤ ds.length ∧ ∃ (B' : Hp) (av : List V) (acc : List D), Stt K G B0 H0 B' H4 σ ρ ∧ Stp G B1 H1 B' H4 ∧ H4 Dl = some (.lst av) ∧ DpAll K B' av acc ∧ B' Dl = none ∧ P (i + 1) acc)) := by
      intro xs es hx hl q
      refine ⟨wipe_putV is xs _ (wipe_wipe vs fun _ h => h) hsub, ?_⟩
      have T3 : Stt K G B0 H0 B3 H3 (putV (wipe σ vs) is xs) (putA (wipeR ρ vs) is es) := Stt.putA is (S3.wipe vs) hx fun i hi => by rw [wipeR_length]; exact hl i hi
      refine ⟨G, B0, H0, B3, _, _, _, T3, q, fun b B4 H4 T4 s4 q4 => ?_, fun _ _ _ _ z => z.elim⟩
      have S4 := S3.step s4 T4.bh T4.gok
      cases b with
      | false => exact iteF ⟨hlt, B4, av, acc, S4, (s2.trans s3).trans s4, (hide_some (s4.hh _ _ (s3.hh _ _ trk))).2, DpAll.mono (s3.bb.trans s4.bb) ha, s4.nw _ _ (s3.nw _ _ hb trk) (s3.hh _ _ trk), (if_neg Bool.false_ne_true).mp q4⟩
      | true =>
        refine iteT ⟨G, B0, H0, B4, _, _, _, T4, (if_pos rfl).mp q4, fun r y B5 H5 T5 s5 r5 ⟨z, ez, hlen, p5⟩ => ?_, fun _ _ _ _ z => z.elim⟩
        have S5 := S4.step s5 T5.bh T5.gok
        have t5 := s5.hh _ _ (s4.hh _ _ (s3.hh _ _ trk))
        have h5 : H5 Dl = some (.lst av) := (hide_some t5).2
        have b5 : B5 Dl = none := s5.nw _ _ (s4.nw _ _ (s3.nw _ _ hb trk) (s3.hh _ _ trk)) (s4.hh _ _ (s3.hh _ _ trk))
        have s15 := ((s2.trans s3).trans s4).trans s5
        refine ⟨av, h5, by rw [line_eq, ha.length]; exact hlen, hlt, B5, av ++ [y], acc ++ [z], S5.side b5 dG d0 aw, ⟨s15.bb, fun b v e => ?_, s15.nw⟩, upd_same, (DpAll.mono ((s3.bb.trans s4.bb).trans s5.bb) ha).append (.cons (r5.dat ez) .nil), b5, p5⟩
        rw [hide_upd dG, upd_ne (ne_of_none e (hide_free hD))]
        exact s15.hh _ _ e
    cases tup with
    | true =>
      obtain ⟨es, rfl, hn, hl, q4⟩ := (if_pos rfl).mp q3
      cases e2 with
      | tup k1 k2 => exact ⟨_, _, rfl, (k1.up (b3.trans (hide_le H3))).t, k2.length.trans hn, gNames_ok is _ _ _ _ (k2.length.trans hn) (fin _ es k2 hl q4)⟩
    | false =>
      rcases h1 with h1 | ⟨i1, rfl⟩
      · cases h1
      · obtain ⟨hl, q4⟩ := (if_neg Bool.false_ne_true).mp q3
        exact fin [x] [d] (.cons e2 .nil) hl q4
  · have e : i = ds.length := by omega
    subst e
    refine .inl ⟨it.stop _ _ lat, ok (.l true acc) (.ref Dl) B2 H2 S2 (s1.trans s2) ⟨Dl, av, rfl, by rw [hide_out dG]; exact hd, ha, fun _ => ⟨hb, dS⟩⟩ (done acc p2)⟩
section
variable {X : Cx} {W : WX} {tg iter elt : Expr} {ifs : List Expr} {e : Expr} {st : Stmt} {wi : IW} {tup : Bool} {is vs : List Nat} {wt : TW} {we : EW}
theorem pd_lc (h : PE X e (tLc (TDiC X.K W wi) (gC X.K tup is) (TDt X.K W0 wt) (TDe X.K W0 we) vs)) (hsub : ∀ i ∈ is, i ∈ vs) (h1 : tup = true ∨ ∃ i, is = [i]) : PD X W e (wLc wi tup is vs wt we) :=
  pe_imp h (lc_core_d hsub h1)
theorem pds_setLc {i : Nat} (h : PS X st (tAsg (tLc (TDiC X.K W wi) (gC X.K tup is) (TDt X.K W0 wt) (TDe X.K W0 we) vs) (gName i))) (hsub : ∀ i ∈ is, i ∈ vs) (h1 : tup = true ∨ ∃ i, is = [i]) : PSD X W st (wAsg i (wLc wi tup is vs wt we)) :=
  pds_set (ps_imp h fun D σ H q => lc_core_d hsub h1 σ H _ q)
end
end DL

set_option Elab.async false
set_option linter.all false
set_option maxRecDepth 100000
/-! The data layer: built-ins. -/
namespace DL
open PySem PySem.Spec PyProof.Rows L2
section
variable {X : Cx} {W : WX} {e a b : Expr} {w : EW} {ws : AW} {pos p : Pos}
theorem seq_of {K : Frag} {G : Gh} {Hs B H : Hp} {x : V} {r : R} {ds : List D} (c : Ctx K G B H) (h : Rs K G Hs B H x r) (e : r.seq = some ds) : ∃ p xs, x = .ref p ∧ DpAll K B xs ds ∧ (SqL K H p xs ∨ SqT K H p xs) := h.seq e c.bh
/-- len -/
def fLen : FL := fun rs Q => ∃ r, rs = [r] ∧ ((∃ ds, r.seq = some ds ∧ Q (.s (.int ds.length))) ∨ (∃ z, r = .s (.str z) ∧ z.length ≤ 16777216 ∧ Q (.s (.int z.length))) ∨ ∃ kvs, r.kv = some kvs ∧ Q (.s (.int kvs.length)))
theorem c_len : CallR X (.builtin "len") (liftL X.K fLen) := by
  intro pins s σ H xs us Q I rx hh
  obtain ⟨G, Hs, B, rs, Qd, c, ra, ⟨r, rfl, q⟩, k⟩ := hh
  obtain ⟨x, rfl, r1⟩ := ra.one
  rcases q with ⟨ds, e1, q⟩ | ⟨z, rfl, hz, q⟩ | ⟨kvs, e1, q⟩
  · obtain ⟨p, xs, rfl, h1, h2⟩ := r1.seq e1 c.bh
    refine call_len_seq pins s σ H _ us Q I rx ⟨p, xs, rfl, h2, ?_⟩
    rw [h1.length]
    exact k.dat c (.int _) q
  · cases r1.str
    exact call_len_str pins s σ H _ us Q I rx ⟨z, rfl, by rw [line_eq]; exact hz, k.dat c (.int _) q⟩
  · obtain ⟨p, xs, rfl, h1, h2⟩ := r1.kv e1 c.bh
    refine call_lenD pins s σ H _ us Q I rx ⟨p, xs, rfl, h1, ?_⟩
    rw [h2.length]
    exact k.dat c (.int _) q
/-- all, any of a list of truth values -/
def fAll : FL := fun rs Q => ∃ (o : Bool) (bs : List Bool), rs = [.l o (bs.map PyData.bool)] ∧ Q (.s (.bool (bs.all id)))
def fAny : FL := fun rs Q => ∃ (o : Bool) (bs : List Bool), rs = [.l o (bs.map PyData.bool)] ∧ Q (.s (.bool (bs.any id)))
def fSum : FL := fun rs Q => ∃ (o : Bool) (ns : List Int), rs = [.l o (ns.map PyData.int)] ∧ Q (.s (.int ns.sum))
theorem c_all (hc : X.calm = true) : CallR X (.builtin "all") (liftL X.K fAll) := by
  intro pins s σ H xs us Q I rx hh
  obtain ⟨G, Hs, B, rs, Qd, c, ra, ⟨o, bs, rfl, q⟩, k⟩ := hh
  obtain ⟨x, rfl, p, vs, rfl, h1, h2, _⟩ := ra.one
  cases h2.bls'
  exact cr_all hc pins s σ H _ us Q I rx ⟨p, bs, rfl, .inl (.inl (hide_some h1).2), k.dat c (.bl _) q⟩
theorem c_any (hc : X.calm = true) : CallR X (.builtin "any") (liftL X.K fAny) := by
  intro pins s σ H xs us Q I rx hh
  obtain ⟨G, Hs, B, rs, Qd, c, ra, ⟨o, bs, rfl, q⟩, k⟩ := hh
  obtain ⟨x, rfl, p, vs, rfl, h1, h2, _⟩ := ra.one
  cases h2.bls'
  exact cr_any hc pins s σ H _ us Q I rx ⟨p, bs, rfl, .inl (.inl (hide_some h1).2), k.dat c (.bl _) q⟩
theorem c_sum (hc : X.calm = true) : CallR X (.builtin "sum") (liftL X.K fSum) := by
  intro pins s σ H xs us Q I rx hh
  obtain ⟨G, Hs, B, rs, Qd, c, ra, ⟨o, ns, rfl, q⟩, k⟩ := hh
  obtain ⟨x, rfl, p, vs, rfl, h1, h2, _⟩ := ra.one
  cases h2.ints'
  exact cr_sum hc pins s σ H _ us Q I rx ⟨p, ns, rfl, .inl (.inl (hide_some h1).2), k.dat c (.int _) q⟩
/-- list(x), tuple(x) of lists and tuples; int(n) -/
def fList : FL := fun rs Q => ∃ r ds, rs = [r] ∧ r.seq = some ds ∧ Q (.l true ds)
def fTuple : FL := fun rs Q => ∃ r ds, rs = [r] ∧ r.seq = some ds ∧ Q (.s (.tuple ds))
def fIntOf : FL := fun rs Q => ∃ n, rs = [.s (.int n)] ∧ Q (.s (.int n))
theorem c_list : CallR X (.type "list") (liftL X.K fList) := by
  intro pins s σ H xs us Q I rx hh
  obtain ⟨G, Hs, B, rs, Qd, c, ra, ⟨r, ds, rfl, e1, q⟩, k⟩ := hh
  obtain ⟨x, rfl, r1⟩ := ra.one
  obtain ⟨p, xs, rfl, h1, h2⟩ := r1.seq e1 c.bh
  exact call_list_of pins s σ H _ us Q I rx ⟨p, xs, rfl, h2, fun l hl => k.lst c hl h1 q⟩
theorem c_tuple : CallR X (.type "tuple") (liftL X.K fTuple) := by
  intro pins s σ H xs us Q I rx hh
  obtain ⟨G, Hs, B, rs, Qd, c, ra, ⟨r, ds, rfl, e1, q⟩, k⟩ := hh
  obtain ⟨x, rfl, r1⟩ := ra.one
  cases r with
  | s d =>
    cases d with
    | list es =>
      cases e1
      cases (show Dp X.K B x (.list ds) from r1) with
      | lst h1 h2 => exact callN_tuple pins s σ H _ us Q I rx ⟨_, _, rfl, .inl ⟨Same.sqL c.le h1, k.tup c h2 q⟩⟩
    | tuple es =>
      cases e1
      cases (show Dp X.K B x (.tuple ds) from r1) with
      | tup h1 h2 => exact callN_tuple pins s σ H _ us Q I rx ⟨_, _, rfl, .inr ⟨(h1.up c.le).t, k.dat c (.tup h1 h2) q⟩⟩
    | _ => cases e1
  | l own es =>
    cases e1
    obtain ⟨p, xs, rfl, h1, h2, _⟩ := r1
    exact callN_tuple pins s σ H _ us Q I rx ⟨_, _, rfl, .inl ⟨.inl (.inl (hide_some h1).2), k.tup c h2 q⟩⟩
  | _ => cases e1
theorem c_int : CallR X (.type "int") (liftL X.K fIntOf) := by
  intro pins s σ H xs us Q I rx hh
  obtain ⟨G, Hs, B, rs, Qd, c, ra, ⟨n, rfl, q⟩, k⟩ := hh
  obtain ⟨x, rfl, r1⟩ := ra.one
  cases r1.int
  exact call_int1 pins s σ H _ us Q I rx (.inl ⟨n, rfl, k.dat c (.int _) q⟩)
def fMax2 : FL := fun rs Q => ∃ i j, rs = [.s (.int i), .s (.int j)] ∧ Q (.s (.int (if j > i then j else i)))
def fMin2 : FL := fun rs Q => ∃ i j, rs = [.s (.int i), .s (.int j)] ∧ Q (.s (.int (if j < i then j else i)))
theorem c_max2 (hc : X.calm = true) : CallR X (.builtin "max") (liftL X.K fMax2) := by
  intro pins s σ H xs us Q I rx hh
  obtain ⟨G, Hs, B, rs, Qd, c, ra, ⟨i, j, rfl, q⟩, k⟩ := hh
  obtain ⟨x, y, rfl, r1, r2⟩ := ra.two
  cases r1.int; cases r2.int
  exact call_max2 hc pins s σ H _ us Q I rx ⟨i, j, rfl, k.dat c (.int _) q⟩
theorem c_min2 (hc : X.calm = true) : CallR X (.builtin "min") (liftL X.K fMin2) := by
  intro pins s σ H xs us Q I rx hh
  obtain ⟨G, Hs, B, rs, Qd, c, ra, ⟨i, j, rfl, q⟩, k⟩ := hh
  obtain ⟨x, y, rfl, r1, r2⟩ := ra.two
  cases r1.int; cases r2.int
  exact call_min2 hc pins s σ H _ us Q I rx ⟨i, j, rfl, k.dat c (.int _) q⟩

/-! ### isinstance of a built-in class -/
def tyN : D → String
  | .none => "NoneType"
  | .bool _ => "bool"
  | .int _ => "int"
  | .str _ => "str"
  | .list _ => "list"
  | .tuple _ => "tuple"
  | .dict _ => "dict"
def isI : D → Bool
  | .int _ | .bool _ => true
  | _ => false
def isB : D → Bool
  | .bool _ => true
  | _ => false
def isS : D → Bool
  | .str _ => true
  | _ => false
def isT : D → Bool
  | .tuple _ => true
  | _ => false
def isL : D → Bool
  | .list _ => true
  | _ => false
theorem tyx_of {K : Frag} {H : Hp} {x : V} {d : D} (h : Dp K H x d) : TyX K H x (.type (tyN d)) := by
  cases h with
  | non => exact .base .non
  | bl b => exact .base (.bl b)
  | int i => exact .base (.int i)
  | str z => exact .base (.str z)
  | lst h1 h2 =>
    rcases h1 with (h1 | ⟨o, h1⟩) | ⟨o, its, n, h1, h3, _⟩
    · exact .base (.lst h1)
    · exact .base (.frz h1)
    · exact .kList h1 h3
  | tup h1 h2 =>
    rcases h1 with ⟨o, h1, _⟩ | ⟨o, its, n, h1, h3, _⟩
    · exact .fTuple h1
    · exact .kTuple h1 h3.1
  | dic h1 h2 => exact .base (.dK h1)
def wIsi (f : D → Bool) (w : EW) : EW := fun ρ Q E => w ρ (fun r => ∃ d, r.look = some d ∧ Q (.s (.bool (f d)))) E
theorem pd_isi {f : D → Bool} {T : String} (h : PE X e (tCB (rIsi X.K) (tCons (TDe X.K W w) (tCons (tC (.ty T)) tNil)))) (hf : ∀ d : D, kitB (tyN d) T = some (f d)) : PD X W e (wIsi f w) :=
  pe_imp h fun σ H Q ⟨G, B0, H0, B, ρ, Qd, Qe, S, q, ok, er⟩ => by
    refine ⟨G, B0, H0, B, ρ, _, Qe, S, q, fun r x B' H' S' s r' q' => ?_, er⟩
    obtain ⟨d, e1, q'⟩ := q'
    exact ⟨x, .ty T, _, _, f d, rfl, .ty T, tyx_of (r'.look e1 S'.bh), kit_ty (hf d), ok (.s (.bool (f d))) _ _ _ S' s (.bl _) q'⟩
theorem kit_int : ∀ d : D, kitB (tyN d) "int" = some (isI d)
  | .none => by decide +kernel
  | .bool _ => by show kitB "bool" "int" = some true; decide +kernel
  | .int _ => by show kitB "int" "int" = some true; decide +kernel
  | .str _ => by show kitB "str" "int" = some false; decide +kernel
  | .list _ => by show kitB "list" "int" = some false; decide +kernel
  | .tuple _ => by show kitB "tuple" "int" = some false; decide +kernel
  | .dict _ => by show kitB "dict" "int" = some false; decide +kernel
theorem kit_bool : ∀ d : D, kitB (tyN d) "bool" = some (isB d)
  | .none => by decide +kernel
  | .bool _ => by show kitB "bool" "bool" = some true; decide +kernel
  | .int _ => by show kitB "int" "bool" = some false; decide +kernel
  | .str _ => by show kitB "str" "bool" = some false; decide +kernel
  | .list _ => by show kitB "list" "bool" = some false; decide +kernel
  | .tuple _ => by show kitB "tuple" "bool" = some false; decide +kernel
  | .dict _ => by show kitB "dict" "bool" = some false; decide +kernel
theorem kit_str : ∀ d : D, kitB (tyN d) "str" = some (isS d)
  | .none => by decide +kernel
  | .bool _ => by show kitB "bool" "str" = some false; decide +kernel
  | .int _ => by show kitB "int" "str" = some false; decide +kernel
  | .str _ => by show kitB "str" "str" = some true; decide +kernel
  | .list _ => by show kitB "list" "str" = some false; decide +kernel
  | .tuple _ => by show kitB "tuple" "str" = some false; decide +kernel
  | .dict _ => by show kitB "dict" "str" = some false; decide +kernel
theorem kit_tuple : ∀ d : D, kitB (tyN d) "tuple" = some (isT d)
  | .none => by decide +kernel
  | .bool _ => by show kitB "bool" "tuple" = some false; decide +kernel
  | .int _ => by show kitB "int" "tuple" = some false; decide +kernel
  | .str _ => by show kitB "str" "tuple" = some false; decide +kernel
  | .list _ => by show kitB "list" "tuple" = some false; decide +kernel
  | .tuple _ => by show kitB "tuple" "tuple" = some true; decide +kernel
  | .dict _ => by show kitB "dict" "tuple" = some false; decide +kernel
theorem kit_list : ∀ d : D, kitB (tyN d) "list" = some (isL d)
  | .none => by decide +kernel
  | .bool _ => by show kitB "bool" "list" = some false; decide +kernel
  | .int _ => by show kitB "int" "list" = some false; decide +kernel
  | .str _ => by show kitB "str" "list" = some false; decide +kernel
  | .list _ => by show kitB "list" "list" = some true; decide +kernel
  | .tuple _ => by show kitB "tuple" "list" = some false; decide +kernel
  | .dict _ => by show kitB "dict" "list" = some false; decide +kernel

/-! ### displays -/
theorem pd_tup {es : List Expr} {x1} (h : PDa X W es ws) : PD X W (.Tuple es x1 pos) (wTup ws) := pe_imp (peN_tup h) fun σ H Q ⟨G, B0, H0, B, ρ, Qd, Qe, S, q, ok, er⟩ => by
  refine ⟨G, B0, H0, B, ρ, _, Qe, S, q, fun rs xs B1 H1 S1 s1 r1 _ q1 => ?_, er⟩
  obtain ⟨ds, e1, hl, q1⟩ := q1
  have h1 := dats_all r1 e1
  refine ⟨by rw [line_eq, h1.length]; exact hl, fun p o hp hn => ?_⟩
  have s2 : Stp G B1 H1 (upd B1 p (.frz o (.tup xs))) (upd H1 p (.frz o (.tup xs))) := Stp.newS hp (S1.freeB hp)
  exact ok (.s (.tuple ds)) _ _ _ (S1.newS hp) (s1.trans s2) (Dp.tup (.inl ⟨o, upd_same, hn⟩) (DpAll.mono s2.bb h1)) q1
theorem pd_lst {es : List Expr} (h : PDa X W es ws) : PD X W (.List es pos) (wLst ws) := pe_imp (pe_lst h) fun σ H Q ⟨G, B0, H0, B, ρ, Qd, Qe, S, q, ok, er⟩ => by
  refine ⟨G, B0, H0, B, ρ, _, Qe, S, q, fun rs xs B1 H1 S1 s1 r1 _ q1 => ?_, er⟩
  obtain ⟨ds, e1, hl, q1⟩ := q1
  have h1 := dats_all r1 e1
  refine ⟨by rw [line_eq, h1.length]; exact hl, fun p hp => ?_⟩
  exact ok (.l true ds) _ _ _ (S1.new hp) (s1.trans (Stp.new hp)) ⟨p, xs, rfl, by rw [hide_out (S1.notG hp), upd_same], h1, fun _ => ⟨S1.freeB hp, s1.hh.free (hide_free hp)⟩⟩ q1

/-! ### slices of lists and tuples -/
abbrev OW := Rho → (Option Int → Prop) → (Value → Prop) → Prop
def TDo (K : Frag) (W : WX) (w : OW) : TO := fun σ H Q => ∃ (G : Gh) (B0 H0 B : Hp) (ρ : Rho) (Qd : Option Int → Prop) (Qe : Value → Prop), Stt K G B0 H0 B H σ ρ ∧ w ρ Qd Qe ∧
  (∀ b B' H', Stt K G B0 H0 B' H' σ ρ → Stp G B H B' H' → Qd b → Q b H') ∧ (∀ cls d B' H', Qe cls → Stt K G B0 H0 B' H' σ ρ → Stp G B H B' H' → W cls d σ H')
def wONone : OW := fun _ Q _ => Q none
def wOSome (w : EW) : OW := fun ρ Q E => w ρ (fun r => ∃ n, r = .s (.int n) ∧ Q (some n)) E
theorem pdo_none : PO X Option.none (TDo X.K W wONone) := ⟨fun pins s σ H Q I ⟨G, B0, H0, B, ρ, Qd, Qe, S, q, ok, er⟩ => po_none.run pins s σ H Q I (ok _ _ _ S (Stp.refl ..) q)⟩
theorem pdo_some (h : PD X W e w) : PO X (some e) (TDo X.K W (wOSome w)) := ⟨fun pins s σ H Q I ⟨G, B0, H0, B, ρ, Qd, Qe, S, q, ok, er⟩ => (po_some h).run pins s σ H Q I (by
  refine ⟨G, B0, H0, B, ρ, _, Qe, S, q, fun r x B' H' S' s r' q' => ?_, er⟩
  obtain ⟨n, rfl, q'⟩ := q'
  cases r'.int
  exact ⟨n, rfl, ok _ _ _ S' s q'⟩)⟩
def cutD (xs : List D) (lo hi : Option Int) : List D := (xs.drop (HT.sIx xs.length 0 lo)).take (HT.sIx xs.length xs.length hi - HT.sIx xs.length 0 lo)
def fSl (a : R) (lo hi : Option Int) (Q : R → Prop) : Prop := match a with
  | .s (.tuple xs) => Q (.s (.tuple (cutD xs lo hi)))
  | .s (.list xs) => Q (.l true (cutD xs lo hi))
  | .l _ xs => Q (.l true (cutD xs lo hi))
  | .s (.str z) => z.length ≤ 16777216 ∧ Q (.s (.str (L2.cutS z lo hi)))
  | _ => False
def liftS (K : Frag) (f : R → Option Int → Option Int → (R → Prop) → Prop) : V → Option Int → Option Int → Hp → VK → Prop := fun x lo hi H Q => ∃ G Hs B a Qd, Ctx K G B H ∧ Rs K G Hs B H x a ∧ f a lo hi Qd ∧ Cont K G B H Qd Q
theorem DpAll.cut {K : Frag} {H : Hp} {xs : List V} {ds : List D} (h : DpAll K H xs ds) (lo hi : Option Int) : DpAll K H (cutV xs lo hi) (cutD ds lo hi) := by
  unfold cutV cutD
  rw [h.length]
  exact (h.drop _).take _
theorem o_sl : L2.SlR X (liftS X.K fSl) := by
  intro pins s σ H x v vl vu lo hi sl Q I rx hs pl pu hh
  obtain ⟨G, Hs, B, a, Qd, c, ra, q, k⟩ := hh
  unfold fSl at q
  split at q
  · obtain ⟨p, xs, rfl, h1, h2⟩ := ra.tup
    refine slN_tup pins s σ H _ v vl vu lo hi sl Q I rx hs pl pu ⟨p, xs, rfl, (h1.up c.le).t, fun w => ?_, fun w => k.tup c (h2.cut lo hi) q⟩
    rw [h2.length] at w
    have e : ∀ ys : List D, (HT.sIx ys.length 0 lo = 0 ∧ HT.sIx ys.length ys.length hi = ys.length) → cutD ys lo hi = ys := fun ys w => by
      unfold cutD
      rw [w.1, w.2, List.drop_zero, Nat.sub_zero, List.take_length]
    rw [e _ w] at q
    exact k.dat c (.tup h1 h2) q
  · cases (show Dp X.K B x (.list _) from ra) with
    | lst h1 h2 => exact sl_list pins s σ H _ v vl vu lo hi sl Q I rx hs pl pu ⟨_, _, rfl, Same.sqL c.le h1, fun p hp => k.lst c hp (h2.cut lo hi) q⟩
  · obtain ⟨p, xs, rfl, h1, h2, _⟩ := ra
    exact sl_list pins s σ H _ v vl vu lo hi sl Q I rx hs pl pu ⟨_, _, rfl, .inl (.inl (hide_some h1).2), fun p hp => k.lst c hp (h2.cut lo hi) q⟩
  · cases ra.str
    exact L2.sl_str pins s σ H _ v vl vu lo hi sl Q I rx hs pl pu ⟨_, rfl, by rw [line_eq]; exact q.1, k.dat c (.str _) q.2⟩
  · exact q.elim
def wSl (w : EW) (wl wh : OW) : EW := fun ρ Q E => w ρ (fun r => wl ρ (fun lo => wh ρ (fun hi => fSl r lo hi Q) E) E) E
theorem pd_sl {wl wh : OW} (h : PE X e (tSl (liftS X.K fSl) (TDe X.K W w) (TDo X.K W wl) (TDo X.K W wh))) : PD X W e (wSl w wl wh) := pe_imp h fun σ H Q ⟨G, B0, H0, B, ρ, Qd, Qe, S, q, ok, er⟩ => by
  refine ⟨G, B0, H0, B, ρ, _, Qe, S, q, fun r x B1 H1 S1 s1 r1 q1 => ?_, er⟩
  refine ⟨G, B0, H0, B1, ρ, _, Qe, S1, q1, fun lo B2 H2 S2 s2 q2 => ?_, erT er s1⟩
  refine ⟨G, B0, H0, B2, ρ, _, Qe, S2, q2, fun hi B3 H3 S3 s3 q3 => ?_, erT er (s1.trans s2)⟩
  have s13 := (s1.trans s2).trans s3
  exact ⟨G, H, B3, r, _, ⟨S3.bh, S3.gok⟩, r1.step (s2.trans s3), q3, fun r4 z B4 H4 s4 bh gk rz qz => ok _ _ _ _ (S3.step s4 bh gk) (s13.trans s4) (rz.from s13) qz⟩
end
end DL

set_option Elab.async false
set_option linter.all false
set_option maxRecDepth 100000
/-! The data layer: the deck. -/
namespace DL
open PySem PySem.Spec PyProof.Rows L2
theorem sh_ints (ns : List Int) : Sh (.list (ns.map PyData.int)) := by
  have h1 : PyData.canLayAll0 (ns.map PyData.int) = true := by
    induction ns with
    | nil => rfl
    | cons n ns ih => simp only [List.map_cons, PyData.canLayAll0, PyData.canLay0, ih, Bool.and_self]
  have h2 : PyData.depthAll (ns.map PyData.int) = 0 := by
    induction ns with
    | nil => rfl
    | cons n ns ih =>
      simp only [List.map_cons, PyData.canLayAll0, PyData.canLay0, Bool.true_and] at h1
      simp only [List.map_cons, PyData.depthAll, PyData.depth, ih h1, Nat.max_self]
  show (PyData.canLay0 (.list (ns.map PyData.int)) && decide (PyData.depth (.list (ns.map PyData.int)) ≤ 64)) = true
  simp only [PyData.canLay0, PyData.depth, h1, h2]
  decide
theorem eqv_nil (ns : List Int) : PyData.eqv (.list (ns.map PyData.int)) (.list []) = ns.isEmpty := by
  cases ns <;> simp [PyData.eqv, PyData.eqvAll]
/-- what a draw hands back -/
def c_pick : Ct := fun rs Q _ => ∃ n : Int, rs = [.g, .s (.int n)] ∧ 0 < n ∧ n < 1073741824 ∧ ∀ r : Int, 0 ≤ r → r < n → Q (.s (.int r))
/-- where the deck stands -/
structure DeckAt (a c : Addr) (H : Hp) (cells : List Int) (s m : Int) : Prop where
  h1 : H a = some (.lst [.ref c, .int s, .int m])
  h2 : H c = some (.lst (cells.map V.int))
  h3 : ∀ x ∈ cells, 0 ≤ x ∧ x < 10 ^ 60
  s0 : 0 ≤ s
  s1 : s < 10 ^ 60
  m0 : 0 ≤ m
  m1 : m < 2147483647
  len : cells.length ≤ 1000
theorem DeckAt.ne {a c : Addr} {H : Hp} {cells : List Int} {s m : Int} (d : DeckAt a c H cells s m) : a ≠ c := ne_of d.h1 d.h2 (by
  intro z
  cases cells with
  | nil => cases z
  | cons x xs => simp at z)
theorem DeckAt.ok {a c : Addr} {H : Hp} {cells : List Int} {s m : Int} (d : DeckAt a c H cells s m) : (deckG a c).ok H := ⟨cells, s, m, d.h1, d.h2, d.h3, d.s0, d.s1, d.m0, d.m1, d.len⟩
theorem DeckAt.of {a c : Addr} {H : Hp} (h : (deckG a c).ok H) : ∃ cells s m, DeckAt a c H cells s m := by
  obtain ⟨cells, s, m, h1, h2, h3, h4, h5, h6, h7, h8⟩ := h
  exact ⟨cells, s, m, h1, h2, h3, h4, h5, h6, h7, h8⟩
/-- the deck's first place or number is written -/
theorem DeckAt.setS {a c : Addr} {H : Hp} {cells : List Int} {s m s' : Int} (d : DeckAt a c H cells s m) (h : 0 ≤ s') (h' : s' < 10 ^ 60) : DeckAt a c (upd H a (.lst [.ref c, .int s', .int m])) cells s' m :=
  ⟨upd_same, by rw [upd_ne d.ne.symm]; exact d.h2, d.h3, h, h', d.m0, d.m1, d.len⟩
theorem DeckAt.setM {a c : Addr} {H : Hp} {cells : List Int} {s m m' : Int} (d : DeckAt a c H cells s m) (h : 0 ≤ m') (h' : m' < 2147483647) : DeckAt a c (upd H a (.lst [.ref c, .int s, .int m'])) cells s m' :=
  ⟨upd_same, by rw [upd_ne d.ne.symm]; exact d.h2, d.h3, d.s0, d.s1, h, h', d.len⟩
theorem DeckAt.pop {a c : Addr} {H : Hp} {x : Int} {cells : List Int} {s m : Int} (d : DeckAt a c H (x :: cells) s m) : DeckAt a c (upd H c (.lst (cells.map V.int))) cells s m :=
  ⟨by rw [upd_ne d.ne]; exact d.h1, upd_same, fun y hy => d.h3 y (List.mem_cons_of_mem _ hy), d.s0, d.s1, d.m0, d.m1, by have := d.len; simp at this; omega⟩
theorem DeckAt.new {a c p : Addr} {H : Hp} {cells : List Int} {s m : Int} {o : HO} (d : DeckAt a c H cells s m) (hp : H p = none) : DeckAt a c (upd H p o) cells s m :=
  ⟨by rw [upd_ne (ne_of_none d.h1 hp)]; exact d.h1, by rw [upd_ne (ne_of_none d.h2 hp)]; exact d.h2, d.h3, d.s0, d.s1, d.m0, d.m1, d.len⟩
theorem hide_ghost {G : Gh} {H : Hp} {b : Addr} {o : HO} (h : b ∈ G.at_) : hide G (upd H b o) = hide G H := by
  funext z
  by_cases q : z ∈ G.at_
  · rw [hide_in q, hide_in q]
  · rw [hide_out q, hide_out q, upd_ne (fun e => q (by rw [e]; exact h))]
/-- the first if of a draw: whatever it does, the deck stands -/
def tPickA : TS := fun D σ H => ∃ (a c : Addr) (n : Int) (cells : List Int) (s m : Int), σ = [some (.ref a), some (.int n), some (.ref c), none, none] ∧ DeckAt a c H cells s m ∧
  ∀ v H' cells' s' m', DeckAt a c H' cells' s' m' → Same (hide (deckG a c) H) (hide (deckG a c) H') → D.nx [some (.ref a), some (.int n), some (.ref c), v, none] H'
/-! ### the deck is made; the law's start -/
def spDeck (K : Frag) : Sp := fun vs H Q _ => ∃ (a : Addr) (ns : List Int), vs = [.ref a] ∧ SqL K H a (ns.map V.int) ∧ ns.length ≤ 63 ∧
  ∀ (H' : Hp) (a0 c : Addr) (cells : List Int), Same H H' → H a0 = none → H c = none → DeckAt a0 c H' cells 0 6151 → Q (.ref a0) H'
def spLaw (K : Frag) : Sp := fun vs H Q _ => ∃ (a : Addr) (ns : List Int), vs = [.ref a] ∧ SqL K H a (ns.map V.int) ∧ ns.length ≤ 63 ∧ ∀ H', Q (.bl true) H'
theorem cut63 {ns : List Int} (h : ns.length ≤ 63) : cutV (ns.map V.int) none (some 63) = ns.map V.int := by
  unfold cutV
  have e : HT.sIx (ns.map V.int).length (ns.map V.int).length (some 63) = ns.length := by
    rw [show (some (63 : Int)) = some ((63 : Nat) : Int) from rfl, HT.sIx_nat, List.length_map]
    omega
  rw [e, HT.sIx_none, List.drop_zero, Nat.sub_zero, ← List.length_map (f := V.int), List.take_length]
/-- the reading of the deck's making -/
def tDeckC (K : Frag) : TE := tOp (rI (fun _ j => 0 < j) fun i j => .int (i % j)) (tCB (fun xs H Q => (∃ i, xs = [.int i] ∧ Q (.int i) H) ∨ ∃ k, xs = [.bl k] ∧ Q (.int (if k then 1 else 0)) H) (tCons (tVar 1) tNil)) (tOp (rI CPow fun i j => .int (i ^ j.toNat)) (tC (.int 10)) (tC (.int 60)))
theorem deck_read {K : Frag} {H : Hp} {vs : List V} {Q : VK} {E : XK} {nx : L2.St → Hp → Prop} (h : spDeck K vs H Q E) :
    tRet (tLst (tCons (tLc (iList K (tSl (rSlL K) (tVar 0) tNoPart (tPart (tC (.int 63))))) (gName 1) tYes (tDeckC K) [1]) (tCons (tC (.int 0)) (tCons (tC (.int 6151)) tNil)))) { nx := nx, rt := Q } (L2.start ["script", "cell"] vs) H := by
  obtain ⟨a, ns, rfl, hS, hl, k⟩ := h
  refine ⟨_, rfl, _, rfl, a, _, rfl, hS, fun p hp => ?_⟩
  rw [cut63 hl]
  have s1 : Same H (upd H p (.lst (ns.map V.int))) := fun b o e => by rw [upd_ne (ne_of_none e hp)]; exact e
  refine ⟨p, rfl, ⟨_, .inl (.inl upd_same)⟩, fun D hD => ?_⟩
  have npD : p ≠ D := fun e => by rw [← e, upd_same] at hD; cases hD
  have hD0 : H D = none := by rw [upd_ne npD.symm] at hD; exact hD
  refine lc_list (K := K) (a := p) (xs := ns.map V.int) (fun i H' => ∃ cells : List Int, H' = upd (upd H p (.lst (ns.map V.int))) D (.lst (cells.map V.int)) ∧ cells.length ≤ i ∧ ∀ x ∈ cells, 0 ≤ x ∧ x < 10 ^ 60) ⟨[], rfl, Nat.le_refl _, fun x hx => by cases hx⟩ ?_ ?_ ?_
  · rintro i H' _ ⟨cells, rfl, _⟩
    exact .inl (.inl (by rw [upd_ne npD, upd_same]))
  · rintro i x H' hi ⟨cells, rfl, hc, hb⟩
    obtain ⟨z, rfl⟩ : ∃ z, x = V.int z := by
      rw [List.getElem?_map] at hi
      cases e : ns[i]? with
      | none => rw [e] at hi; cases hi
      | some z => rw [e] at hi; exact ⟨z, (Option.some.inj hi).symm⟩
    have hi63 : i < ns.length := by
      have q := (List.getElem?_eq_some_iff.mp hi).1
      rw [List.length_map] at q
      exact q
    refine ⟨rfl, ?_⟩
    unfold tYes
    refine iteT ?_
    refine ⟨_, rfl, .inl ⟨_, rfl, _, _, rfl, rfl, by unfold CPow; decide, _, _, rfl, rfl, (by show (0 : Int) < _; decide), cells.map V.int, upd_same, by rw [List.length_map, line_eq]; omega, cells ++ [z % 10 ^ 60], ?_, by simp; omega, fun y hy => ?_⟩⟩
    · rw [upd_upd, List.map_append]
      rfl
    · rcases List.mem_append.mp hy with hy | hy
      · exact hb y hy
      · have e : y = z % 10 ^ 60 := by simpa using hy
        rw [e]
        exact ⟨Int.emod_nonneg _ (by decide), Int.emod_lt_of_pos _ (by decide)⟩
  · rintro H' ⟨cells, rfl, hc, hb⟩
    refine ⟨by show 3 ≤ sizeLine; decide, fun q hq => ?_⟩
    have nqD : q ≠ D := fun e => by rw [e, upd_same] at hq; cases hq
    have nqp : q ≠ p := fun e => by rw [e, upd_ne npD, upd_same] at hq; cases hq
    have hq0 : H q = none := by rw [upd_ne nqD, upd_ne nqp] at hq; exact hq
    refine k _ q D cells (fun b o e => ?_) hq0 hD0 ⟨upd_same, by rw [upd_ne nqD.symm, upd_same], hb, by decide, by decide, by decide, by decide, by rw [List.length_map] at hc; omega⟩
    rw [upd_ne (ne_of_none e hq0), upd_ne (ne_of_none e hD0)]
    exact s1 b o e
theorem law_read {K : Frag} {H : Hp} {vs : List V} {Q : VK} {E : XK} {nx : L2.St → Hp → Prop} {N : List Str} {w : SW} (hN : 2 ≤ N.length) (h : spLaw K vs H Q E)
    (hw : ∀ ns : List Int, ns.length ≤ 63 → w (some (.s (.list (ns.map PyData.int))) :: some .g :: List.replicate (N.length - 2) none) { nx := fun _ => False, rt := fun r => r = .s (.bool true) }) :
    tSeq (tAsg (tCallS (spDeck K) (WE W0) (tCons (tVar 0) tNil)) (gName 1)) (TDs K W0 w) { nx := nx, rt := Q } (L2.start N vs) H := by
  obtain ⟨a, ns, rfl, hS, hl, k⟩ := h
  refine ⟨_, rfl, a, ns, rfl, hS, hl, fun H1 a0 c cells s ha hc d => ?_⟩
  have nin : ∀ b o, H b = some o → b ∉ (deckG a0 c).at_ := fun b o e z => by
    rcases List.mem_cons.mp z with rfl | z
    · rw [ha] at e; cases e
    · rcases List.mem_cons.mp z with rfl | z
      · rw [hc] at e; cases e
      · cases z
  have hS' : SqL K (hide (deckG a0 c) H1) a (ns.map V.int) := by
    rcases hS with (h | ⟨o, h⟩) | h
    · exact .inl (.inl (by rw [hide_out (nin _ _ h)]; exact s _ _ h))
    · exact .inl (.inr ⟨o, by rw [hide_out (nin _ _ h)]; exact s _ _ h⟩)
    · exact .inr h
  refine ⟨deckG a0 c, hide (deckG a0 c) H1, H1, hide (deckG a0 c) H1, _, _, ?_, hw ns hl, ⟨fun _ _ _ _ _ _ z => z.elim, fun _ _ _ _ _ _ z => z.elim, fun _ _ _ _ _ _ z => z.elim, fun r x B' H' _ _ _ r' z => ?_, fun _ _ _ _ _ _ _ _ z => z.elim⟩⟩
  · refine ⟨?_, Same.refl _, d.ok, Stp.refl .., fun i r e => ?_, fun i j r u x _ e1 _ o1 _ _ _ => ?_⟩
    · unfold L2.start
      simp
      omega
    · match i, e with
      | 0, e => cases e; exact ⟨.ref a, by unfold L2.start; simp, .lst hS' (DpAll.ints ns)⟩
      | 1, e =>
        cases e
        refine ⟨.ref a0, ?_, a0, c, rfl, rfl⟩
        rw [List.getElem?_set_self]
        unfold L2.start
        simp
        omega
      | i + 2, e =>
        have : some r ∈ List.replicate (N.length - 2) (none : Option R) := List.mem_of_getElem? (i := i) (by simpa using e)
        exact nomatch List.eq_of_mem_replicate this
    · match i, e1 with
      | 0, e => cases e; cases o1
      | 1, e => cases e; cases o1
      | i + 2, e =>
        have : some r ∈ List.replicate (N.length - 2) (none : Option R) := List.mem_of_getElem? (i := i) (by simpa using e)
        exact nomatch List.eq_of_mem_replicate this
  · subst z
    cases (show Dp K B' x (.bool true) from r')
    exact k _
end DL

set_option Elab.async false
set_option linter.all false
set_option maxRecDepth 100000
/-! The data layer: words for plain proofs. -/
namespace DL
open PySem PySem.Spec PyProof.Rows L2
theorem seq_l (o : Bool) (xs : List D) : R.seq (.l o xs) = some xs := rfl
theorem seq_t (xs : List D) : R.seq (.s (.tuple xs)) = some xs := rfl
theorem seq_L (xs : List D) : R.seq (.s (.list xs)) = some xs := rfl
theorem stab_t (xs : List D) : R.stab (.s (.tuple xs)) = some xs := rfl
theorem stab_L (xs : List D) : R.stab (.s (.list xs)) = some xs := rfl
theorem look_s (d : D) : R.look (.s d) = some d := rfl
theorem look_l (o : Bool) (xs : List D) : R.look (.l o xs) = some (.list xs) := rfl
theorem dat_s (d : D) : R.dat (.s d) = some d := rfl
theorem frz_s (d : D) : frz (.s d) = .s d := rfl
theorem frz_l (xs : List D) : frz (.l true xs) = .s (.list xs) := rfl
theorem peek_s (d : D) : peek (.s d) = .s d := rfl
theorem peek_l (o : Bool) (xs : List D) : peek (.l o xs) = .l false xs := rfl
theorem peek_g : peek .g = .g := rfl
theorem keeps_s (d : D) : keeps (.s d) = true := rfl
theorem keeps_l (xs : List D) : keeps (.l true xs) = true := rfl
theorem dats_nil : dats [] = some [] := rfl
theorem dats_cons (d : D) (rs : List R) : dats (.s d :: rs) = (match dats rs with | some ds => some (d :: ds) | none => none) := by
  show (match R.dat (.s d), dats rs with | some d, some ds => some (d :: ds) | _, _ => none) = _
  rw [dat_s]
  cases dats rs <;> rfl
/-- shaped data, by parts -/
theorem sh_int (i : Int) : Sh (.int i) := rfl
theorem sh_bool (i : Bool) : Sh (.bool i) := rfl
theorem sh_none : Sh .none := rfl
theorem eqv_int (i j : Int) : PyData.eqv (.int i) (.int j) = (i == j) := by simp [PyData.eqv]
theorem eqv_bool (i j : Bool) : PyData.eqv (.bool i) (.bool j) = (i == j) := by simp [PyData.eqv]
theorem eqv_str (i j : Str) : PyData.eqv (.str i) (.str j) = (i == j) := by simp [PyData.eqv]
theorem at0 {α : Type} (x : α) (l : List α) : L2.atI (x :: l) 0 = some x := atI_nat (j := 0) rfl
theorem at1 {α : Type} (x y : α) (l : List α) : L2.atI (x :: y :: l) 1 = some y := atI_nat (j := 1) rfl
theorem at2 {α : Type} (x y z : α) (l : List α) : L2.atI (x :: y :: z :: l) 2 = some z := atI_nat (j := 2) rfl
theorem at3 {α : Type} (x y z u : α) (l : List α) : L2.atI (x :: y :: z :: u :: l) 3 = some u := atI_nat (j := 3) rfl
theorem flat_none : flatD .none = true := rfl
theorem flat_bool (b : Bool) : flatD (.bool b) = true := rfl
theorem flat_int (b : Int) : flatD (.int b) = true := rfl
theorem flat_str (b : Str) : flatD (.str b) = true := rfl
theorem isS_s (d : D) : R.isS (.s d) = true := rfl
theorem isN_none : R.isN (.s .none) = true := rfl
theorem isN_int (i : Int) : R.isN (.s (.int i)) = false := rfl
theorem isN_bool (i : Bool) : R.isN (.s (.bool i)) = false := rfl
theorem isN_str (i : Str) : R.isN (.s (.str i)) = false := rfl
theorem isN_tup (i : List D) : R.isN (.s (.tuple i)) = false := rfl
theorem bne_ff (b : Bool) : (false != b) = b := by cases b <;> rfl
theorem bne_tt (b : Bool) : (true != b) = !b := by cases b <;> rfl
theorem drop_at {α : Type} {l : List α} {i : Nat} {d : α} (h : l[i]? = some d) : l.drop i = d :: l.drop (i + 1) := by
  obtain ⟨h1, h2⟩ := List.getElem?_eq_some_iff.mp h
  rw [List.drop_eq_getElem_cons h1, h2]
theorem take_at {α : Type} {l : List α} {i : Nat} {d : α} (h : l[i]? = some d) : l.take (i + 1) = l.take i ++ [d] := by
  rw [List.take_succ, h]
  rfl
/-- an if of two known ways -/
theorem ite_both {c : Bool} {A B : Prop} (h1 : c = true → A) (h2 : c = false → B) : if c = true then A else B := by
  cases c with
  | true => exact (if_pos rfl).mpr (h1 rfl)
  | false => exact (if_neg Bool.false_ne_true).mpr (h2 rfl)
end DL

set_option Elab.async false
set_option linter.all false
set_option maxRecDepth 100000
/-! The data layer: what the end of a claim needs. -/
namespace DL
open PySem PySem.Spec PyProof.Rows L2
/-- nobody asks it -/
def c_never : Ct := fun _ _ _ => False
theorem fn_never {P : Program} {w : World} {K : Frag} {mg : Str → Option Value} {base : Heap} {CX : CXT} {k : Nat} {f : Addr} {fd : FuncData} {ps : List Str} : FnOk P w K mg base CX k f fd ps (spD K c_never) :=
  ⟨fun _ _ _ _ h => by obtain ⟨_, _, _, _, _, _, _, _, z, _⟩ := h; exact z.elim, fun _ _ _ _ _ _ _ _ _ _ _ _ _ h => by obtain ⟨_, _, _, _, _, _, _, _, z, _⟩ := h; exact z.elim⟩
/-- what a law's head asks for -/
theorem law_fd {K : Frag} {x : Str} {st : Stmt} {fa : Addr} {fd : FuncData} (F : Fun K x x st fa fd) (e : Binds K fd ["script"] []) (h : ∀ (s : Shared) (v : Value), BindsTo s fd ⟨[v], []⟩ [("script", v)]) : ∀ (s : Shared) (v : Value), BindsTo s fd ⟨[v], []⟩ [("script", v)] := h
end DL

set_option Elab.async false
set_option linter.all false
set_option maxRecDepth 100000
/-! The data layer: zip, dict(..), {}. -/
namespace DL
open PySem PySem.Spec PyProof.Rows L2
theorem newS_ok {G : Gh} {B H : Hp} {p : Addr} {o : HO} (bh : Same B (hide G H)) (ok : G.ok H) (hp : H p = none) : Stp G B H (upd B p o) (upd H p o) ∧ Same (upd B p o) (hide G (upd H p o)) ∧ G.ok (upd H p o) := by
  have hb : B p = none := bh.free (hide_free hp)
  have hg : p ∉ G.at_ := fun z => G.here _ ok _ z hp
  refine ⟨Stp.newS hp hb, fun b u e => ?_, ghost_upd hg ok⟩
  rw [hide_upd hg]
  by_cases z : b = p
  · subst z; rw [upd_same] at e ⊢; exact e
  · rw [upd_ne z] at e ⊢; exact bh _ _ e
def zipD (xs ys : List D) : List D := List.zipWith (fun a b => PyData.tuple [a, b]) xs ys
theorem zipD_len (xs ys : List D) : (zipD xs ys).length = min xs.length ys.length := by simp [zipD]
section
variable {K : Frag} {G : Gh} {Later : Hp → Hp → Prop}
theorem itd_zip {a b : Addr} {xs ys : List V} {ds es : List D} (h : ∀ B H, Later B H → (SqT K H a xs ∧ SqT K H b ys) ∧ (DpAll K B xs ds ∧ DpAll K B ys es) ∧ Same B (hide G H) ∧ G.ok H) : ItD K G Later (ItzN K a b) (zipD ds es) := by
  refine ⟨fun i B H l hi => ?_, fun B H l => ?_, fun i B H x H' l hi y => ?_⟩
  · obtain ⟨⟨h1, h2⟩, ⟨h3, h4⟩, _⟩ := h B H l
    rw [zipD_len] at hi
    have i1 : i < xs.length := by rw [h3.length]; omega
    have i2 : i < ys.length := by rw [h4.length]; omega
    exact ⟨xs, ys, xs[i], ys[i], h1, h2, by simp [i1], by simp [i2]⟩
  · obtain ⟨⟨h1, h2⟩, ⟨h3, h4⟩, _⟩ := h B H l
    exact ⟨xs, ys, h1, h2, by rw [h3.length, h4.length, zipD_len]; omega⟩
  · obtain ⟨⟨h1, h2⟩, ⟨h3, h4⟩, h5, h6⟩ := h B H l
    obtain ⟨T, o, x1, y1, rfl, hT, hn, rfl, k1, k2⟩ := y
    obtain ⟨d, e1, e2⟩ := h3.get' (k1 xs h1)
    obtain ⟨d', e3, e4⟩ := h4.get' (k2 ys h2)
    obtain ⟨s, q1, q2⟩ := newS_ok (o := .frz o (.tup [x1, y1])) h5 h6 hT
    exact ⟨.tuple [d, d'], _, by simp [zipD, List.getElem?_zipWith, e1, e3], .tup (.inl ⟨o, upd_same, hn⟩) (.cons (Dp.mono s.bb e2) (.cons (Dp.mono s.bb e4) .nil)), s, q1, q2⟩
end
def zipOf : R → R → Option (List D)
  | .s (.tuple xs), .s (.tuple ys) => some (zipD xs ys)
  | _, _ => none
theorem zip_cases {a b : R} {l : List D} (h : zipOf a b = some l) : ∃ xs ys, a = .s (.tuple xs) ∧ b = .s (.tuple ys) ∧ l = zipD xs ys := by
  unfold zipOf at h
  split at h
  · cases h; exact ⟨_, _, rfl, rfl, rfl⟩
  · cases h
def wZip (ws : AW) : IW := fun ρ Q E => ws ρ (fun rs => ∃ a b l, rs = [a, b] ∧ zipOf a b = some l ∧ Q l) E
section
variable {X : Cx} {W : WX} {tg e : Expr} {ws : AW}
theorem pic_zip (h : PI X tg e (iZipN X.K (TDa X.K W ws))) : PIC X W tg e (wZip ws) := pi_imp h fun σ H Q ⟨G, B0, H0, B, ρ, Qd, Qe, S, q, ok, er⟩ => by
  refine ⟨G, B0, H0, B, ρ, _, Qe, S, q, fun rs xs B' H' S' s r' ap q' => ?_, er⟩
  obtain ⟨a, b, l, rfl, e1, q'⟩ := q'
  obtain ⟨x, y, rfl, r1, r2⟩ := r'.two
  obtain ⟨ds, es, rfl, rfl, rfl⟩ := zip_cases e1
  obtain ⟨p1, xs, rfl, h1, h2⟩ := r1.tup
  obtain ⟨p2, ys, rfl, h3, h4⟩ := r2.tup
  have up := S'.bh.trans (hide_le H')
  exact ⟨_, _, _, _, rfl, (h1.up up).t, (h3.up up).t, ok _ _ _ _ S' s (itd_zip fun B2 H2 ⟨l1, l2, l3⟩ =>
    ⟨⟨((h1.up l1.bb).up (l2.trans (hide_le H2))).t, ((h3.up l1.bb).up (l2.trans (hide_le H2))).t⟩, ⟨DpAll.mono l1.bb h2, DpAll.mono l1.bb h4⟩, l2, l3⟩) q'⟩
theorem pif_zip (h : PI X tg e (iZipN X.K (TDa X.K W ws))) : PIF X W tg e (wZip ws) := pi_imp h fun σ H Q ⟨G, B0, H0, B, ρ, Qd, Qe, S, q, ok, er⟩ => by
  refine ⟨G, B0, H0, B, ρ, _, Qe, S, q, fun rs xs B' H' S' s r' ap q' => ?_, er⟩
  obtain ⟨a, b, l, rfl, e1, q'⟩ := q'
  obtain ⟨x, y, rfl, r1, r2⟩ := r'.two
  obtain ⟨ds, es, rfl, rfl, rfl⟩ := zip_cases e1
  obtain ⟨p1, xs, rfl, h1, h2⟩ := r1.tup
  obtain ⟨p2, ys, rfl, h3, h4⟩ := r2.tup
  have up := S'.bh.trans (hide_le H')
  exact ⟨_, _, _, _, rfl, (h1.up up).t, (h3.up up).t, ok _ _ _ _ S' s (itd_zip fun B2 H2 ⟨l1, l2, l3, _⟩ =>
    ⟨⟨((h1.up l1).up (l2.trans (hide_le H2))).t, ((h3.up l1).up (l2.trans (hide_le H2))).t⟩, ⟨DpAll.mono l1 h2, DpAll.mono l1 h4⟩, l2, l3⟩) q'⟩
end
/-! ### {}, dict(..) -/
def wDNew : EW := fun ρ Q E => Q (.k true [])
theorem pd_dnew {X : Cx} {W : WX} {e : Expr} (h : PE X e tDNewK) : PD X W e wDNew := pe_imp h fun σ H Q ⟨G, B0, H0, B, ρ, Qd, Qe, S, q, ok, er⟩ => fun p hp =>
  Cont.dk (Qd := Qd) ⟨S.bh, S.gok⟩ (fun r z B' H' s bh g hr q' => ok r z B' H' (S.step s bh g) s hr q') hp .nil q
/-- pairs with keys -/
def pairsK : List D → Option (List (Key × D))
  | [] => some []
  | .tuple [a, d] :: r => match ofK a, pairsK r with
    | some k, some s => some ((k, d) :: s)
    | _, _ => none
  | _ => none
def fDict : FL := fun rs Q => ∃ r, rs = [r] ∧ ((∃ kvs, r.kv = some kvs ∧ Q (.k true kvs)) ∨ ∃ ds kvs, r.seq = some ds ∧ pairsK ds = some kvs ∧ Q (.k true (kMerge [] kvs)))
theorem pairs_read {K : Frag} {B H : Hp} (up : Same B H) : ∀ {ds : List D} {kvs : List (Key × D)} {xs : List V}, pairsK ds = some kvs → DpAll K B xs ds →
    ∃ (ps : List Addr) (kv : List (Key × V)), xs = ps.map V.ref ∧ Paired (fun p q => SqT K H p [kV q.1, q.2]) ps kv ∧ KvP K B kv kvs
  | [], kvs, xs, e, h => by
    cases h
    cases e
    exact ⟨[], [], rfl, .nil, .nil⟩
  | d :: r, kvs, xs, e, h => by
    cases h with
    | cons h t =>
      unfold pairsK at e
      split at e
      · cases ‹_ :: _ = []›
      · rename_i a d' r' heq
        cases heq
        cases h1 : ofK a with
        | none => rw [h1] at e; cases e
        | some k =>
          cases h2 : pairsK r with
          | none => rw [h1, h2] at e; cases e
          | some s =>
            rw [h1, h2] at e
            cases e
            obtain ⟨ps, kv, rfl, p1, p2⟩ := pairs_read up h2 t
            cases h with
            | tup g1 g2 =>
              cases g2 with
              | cons ga g3 =>
                cases g3 with
                | cons gd g4 =>
                  cases g4
                  cases kV_of ga h1
                  rename_i pa vd
                  exact ⟨pa :: ps, (k, vd) :: kv, rfl, .cons (g1.up up).t p1, .cons gd p2⟩
      · cases e
/-- dict(t) of a neat tuple of pairs -/
theorem pairs_are {X : Cx} {pins : List (Addr × Obj)} {σ : L2.St} {H : Hp} {s : Shared} (I : Inv X pins σ H s) : ∀ {ps : List Addr} {kvs : List (Key × V)}, Paired (fun p kv => SqT X.K H p [kV kv.1, kv.2]) ps kvs →
    ∃ (prs : List (Key × Value)) (uv : List (Value × Value)), KV kvs prs ∧ prs.length = ps.length ∧ uv.length = ps.length ∧ ∀ (j : Nat) (u v : Value), uv[j]? = some (u, v) → ∃ b k, ps[j]? = some b ∧ IsTup s.heap b #[u, v] ∧ prs[j]? = some (k, v) ∧ keyIs k u = true
  | _, _, .nil => ⟨[], [], .nil, rfl, rfl, fun j u v e => by simp at e⟩
  | _, _, .cons (a := p) (b := kv) h t => by
    obtain ⟨prs, uv, g1, g2, g3, g4⟩ := pairs_are I t
    obtain ⟨its, rv, ht, _⟩ := I.tuple h
    obtain ⟨u, y, ei, ru, ry⟩ := vals2 rv
    subst ei
    refine ⟨(kv.1, y) :: prs, (u, y) :: uv, .cons ⟨rfl, ry⟩ g1, congrArg (· + 1) g2, congrArg (· + 1) g3, fun j u' v' e => ?_⟩
    cases j with
    | zero =>
      cases (show some (u, y) = some (u', v') from e)
      exact ⟨p, kv.1, rfl, ht, rfl, kV_is (P := X.prog) (w := X.w) ru⟩
    | succ j => exact g4 j u' v' e
theorem SqN.obj {X : Cx} {pins : List (Addr × Obj)} {σ : L2.St} {H : Hp} {s : Shared} {a : Addr} {xs : List V} (I : Inv X pins σ H s) (h : SqN X.K H a xs) : ∃ (o : Obj) (its : Array Value) (n : Nat), s.heap.get? a = some o ∧ Neat o ∧ o.data = .seq its n ∧ its.size ≤ sizeLine ∧ Vals xs its.toList := by
  rcases h with ⟨o, h, hn⟩ | ⟨o, its, n, h1, h2, h3, h4, h5⟩
  · obtain ⟨e, hz, its, r, o', e', _, n, hd⟩ := I.hok _ _ h
    rw [e] at e'
    cases e'
    exact ⟨o, its.toArray, n, e, hn, hd, by rw [List.size_toArray, ← r.length]; exact hz, r⟩
  · exact ⟨o, its, n, I.kIn _ _ h1, h2, h3, h4, h5⟩
theorem callN_dictT {X : Cx} (hc : X.calm = true) : CallR X (.type "dict") (fun vs H Q => ∃ (a : Addr) (ps : List Addr) (kvs : List (Key × V)), vs = [.ref a] ∧ SqN X.K H a (ps.map V.ref) ∧ Paired (fun p kv => SqT X.K H p [kV kv.1, kv.2]) ps kvs ∧
    ∀ p, H p = none → Q (.ref p) (upd H p (.dK (mergeK [] kvs)))) := by
  intro pins s σ H vs us Q I r ⟨a, ps, kvs, ev, hq, hp, q⟩
  subst ev
  obtain ⟨u, eu, rx⟩ := vals1 r
  subst eu
  cases rx
  obtain ⟨o, its, n, ho, hn, hd, hz, rv⟩ := hq.obj I
  have ei := refs_at rv
  obtain ⟨prs, uv, g1, g2, g3, g4⟩ := pairs_are I hp
  have hsz : its.size = ps.length := by rw [← Array.length_toList, ei, List.length_map]
  have hit : ∀ (j : Nat) (b : Addr), ps[j]? = some b → its[j]? = some (Value.ref b) := fun j b e => by
    rw [← Array.getElem?_toList, ei, List.getElem?_map, e]
    rfl
  have arg := PairArg.tuple (prog := X.prog) (w := X.w) a its (fun j => ps.getD j 0) uv
  refine call_dict_pairs (knd := mixKind X.prog X.w) (kvs := prs) arg (I.ok.hd hc) ⟨⟨o, n, ho, hn.1, hn.2, hd⟩, by rw [hsz, g3], fun j k v e => ?_⟩ ⟨by rw [g2, g3], fun i key v e => ?_⟩ (by rw [g3, ← hsz]; exact hz) fun h' tk hd' hk => ?_
  · obtain ⟨b, kk, e1, e2, e3, e4⟩ := g4 j k v e
    have eb : ps.getD j 0 = b := by simp [List.getD, e1]
    show its[j]? = some (.ref (ps.getD j 0)) ∧ PairAt s.heap (ps.getD j 0) k v
    rw [eb]
    exact ⟨hit j b e1, .inl e2⟩
  · obtain ⟨b, kk, e1, e2, e3, e4⟩ := g4 i key v e
    exact ⟨kk, e3, e4⟩
  · have hm : (s.heap.objs.size == sysModules) = false := beq_eq_false_iff_ne.mpr (Nat.ne_of_gt I.big)
    have hlen : (mergeK [] kvs).length ≤ sizeLine := by
      refine Nat.le_trans (length_mergeK kvs []) ?_
      rw [List.length_nil, Nat.zero_add, g1.length, g2, ← hsz]
      exact hz
    exact ⟨.ref s.heap.objs.size, upd H s.heap.objs.size (.dK (mergeK [] kvs)), I.laid (t' := tk) (fun b o e => hk b o (fun z => nomatch z) e) (Nat.le_refl _) (show ObjOk X.prog X.w _ _ _ (.dK (mergeK [] kvs)) from ⟨hlen, hm, merged [] prs, KV.merge g1 .nil, hd'⟩), rfl, q _ (I.hok.fresh (Nat.le_refl _))⟩
theorem c_dict {X : Cx} (hc : X.calm = true) : CallR X (.type "dict") (liftL X.K fDict) := by
  intro pins s σ H xs us Q I rx hh
  obtain ⟨G, Hs, B, rs, Qd, c, ra, ⟨r, rfl, q⟩, k⟩ := hh
  obtain ⟨x, rfl, r1⟩ := ra.one
  rcases q with ⟨kvs, e1, q⟩ | ⟨ds, kvs, e1, e2, q⟩
  · obtain ⟨p, xs, rfl, h1, h2⟩ := r1.kv e1 c.bh
    exact call_dictD pins s σ H _ us Q I rx ⟨p, xs, rfl, .inl h1, fun p' hp => k.dk c hp h2 q⟩
  · cases r with
    | s d =>
      cases d with
      | tuple es =>
        cases e1
        obtain ⟨p, xs, rfl, h1, h2⟩ := r1.tup
        obtain ⟨ps, kv, rfl, g1, g2⟩ := pairs_read c.le e2 h2
        exact callN_dictT hc pins s σ H _ us Q I rx ⟨p, ps, kv, rfl, h1.up c.le, g1, fun p' hp => k.dk c hp (KvP.merge g2 .nil) q⟩
      | list es =>
        cases e1
        cases (show Dp X.K B x (.list ds) from r1) with
        | lst h1 h2 =>
          obtain ⟨ps, kv, rfl, g1, g2⟩ := pairs_read c.le e2 h2
          exact call_dictP hc pins s σ H _ us Q I rx ⟨_, ps, kv, rfl, Same.sqL c.le h1, g1, fun p' hp => k.dk c hp (KvP.merge g2 .nil) q⟩
      | _ => cases e1
    | l own es =>
      cases e1
      obtain ⟨p, xs, rfl, h1, h2, _⟩ := r1
      obtain ⟨ps, kv, rfl, g1, g2⟩ := pairs_read c.le e2 h2
      exact call_dictP hc pins s σ H _ us Q I rx ⟨_, ps, kv, rfl, .inl (.inl (hide_some h1).2), g1, fun p' hp => k.dk c hp (KvP.merge g2 .nil) q⟩
    | _ => cases e1
end DL

set_option Elab.async false
set_option linter.all false
set_option maxRecDepth 100000
/-! The data layer: sorted(..). -/
namespace DL
open PySem PySem.Spec PyProof.Rows L2
/-- many new objects at once -/
theorem lay_new {X : Cx} {pins : List (Addr × Obj)} {σ : L2.St} {H H' : Hp} {s : Shared} {h' : Heap} {tk : Nat} (I : Inv X pins σ H s) (hk : ∀ b o, s.heap.get? b = some o → h'.get? b = some o) (low : ∀ a, a < s.heap.objs.size → H' a = H a)
    (hi : ∀ a o, s.heap.objs.size ≤ a → H' a = some o → ObjOk X.prog X.w H' h' a o) : Inv X pins σ H' { s with heap := h', toks := tk } := by
  have kp : ∀ b u, H b = some u → H' b = some u := fun b u e => by rw [low b (I.hok b u e).lt]; exact e
  refine I.call' (ch := []) rfl ⟨fun b o q _ _ _ => hk b o q, fun b o q _ _ _ => ⟨o.slots, hk b o q⟩, fun b o q n _ => ?_, fun b o q _ => ⟨o, hk b o q⟩, fun b xs q => kp b _ q, fun b o u q => kp b _ q, fun b ps q => ⟨#[], by rw [kp b _ q]; simp⟩⟩ (fun b u q => ?_) I.bare fun b z => by cases z
  · rw [low b (Heap.lt_size q)]; exact n
  · by_cases hb : b < s.heap.objs.size
    · rw [low b hb] at q
      exact (I.hok b u q).stay (fun d v _ y => hk d v y) (fun d y => kp d _ y) fun d xs y => kp d _ y
    · exact hi b u (Nat.le_of_not_lt hb) q
def sortD (ds : List D) : List D := ds.mergeSort (PySem.W.dataLe false id)
/-- what may be sorted -/
structure SrtOk (ds : List D) : Prop where
  al : PySem.W.AllAlike ds
  so : PySem.W.Sortable ds
  ly : ∀ d ∈ ds, PyData.canLay0 d = true ∧ PyData.depth d ≤ 60
  ln : ds.length ≤ 16777216
/-- a value and its datum -/
def Vd (K : Frag) (B : Hp) (v : Value) (d : D) : Prop := ∃ x, RelV x v ∧ Dp K B x d
theorem vd_all {K : Frag} {B : Hp} : ∀ {vs : List Value} {xs : List V} {ds : List D}, Vals xs vs → DpAll K B xs ds → PySem.W.EachIs (Vd K B) vs ds
  | _, _, _, .nil, .nil => .nil
  | _, _, _, .cons r t, .cons h u => .cons ⟨_, r, h⟩ (vd_all t u)
theorem vd_back {K : Frag} {B : Hp} : ∀ {vs : List Value} {ds : List D}, PySem.W.EachIs (Vd K B) vs ds → ∃ xs, Vals xs vs ∧ DpAll K B xs ds
  | _, _, .nil => ⟨[], .nil, .nil⟩
  | _, _, .cons ⟨x, r, h⟩ t => let ⟨xs, r', h'⟩ := vd_back t; ⟨x :: xs, .cons r r', .cons h h'⟩
theorem vd_reads {X : Cx} {pins : List (Addr × Obj)} {σ : L2.St} {H B : Hp} {s : Shared} (I : Inv X pins σ H s) (up : Same B H) : ∀ {vs : List Value} {ds : List D}, PySem.W.EachIs (Vd X.K B) vs ds → (∀ d ∈ ds, PyData.canLay0 d = true) → PySem.W.EachIs (fun v b => ∃ as, Reads s.heap v (id b) as) vs ds
  | _, _, .nil, _ => .nil
  | _, _, .cons (b := d) ⟨x, r, h⟩ t, c => .cons (Dp.reads I d x _ ((Dp.mono up h).old (c d List.mem_cons_self)) r) (vd_reads I up t fun d' hd => c d' (List.mem_cons_of_mem _ hd))
def fSorted : FL := fun rs Q => ∃ r ds, rs = [r] ∧ ((∃ o, r = .l o ds) ∨ r = .s (.list ds)) ∧ SrtOk ds ∧ Q (.l true (sortD ds))
theorem c_sorted {X : Cx} (hu : X.A.units + 64 < cLine) : CallR X (.builtin "sorted") (liftL X.K fSorted) := by
  intro pins s σ H xs us Q I rx hh
  obtain ⟨G, Hs, B, rs, Qd, c, ra, ⟨r, ds, rfl, hr, so, q⟩, k⟩ := hh
  obtain ⟨x, rfl, r1⟩ := ra.one
  obtain ⟨u, rfl, rx'⟩ := vals1 rx
  obtain ⟨p, xs, rfl, h1, h2⟩ : ∃ p xs, x = .ref p ∧ SqL X.K H p xs ∧ DpAll X.K B xs ds := by
    rcases hr with ⟨o, rfl⟩ | rfl
    · obtain ⟨p, xs, rfl, h1, h2, _⟩ := r1
      exact ⟨p, xs, rfl, .inl (.inl (hide_some h1).2), h2⟩
    · cases (show Dp X.K B x (.list ds) from r1) with
      | lst h1 h2 => exact ⟨_, _, rfl, Same.sqL c.le h1, h2⟩
  cases rx'
  obtain ⟨its, rv, pl, hz⟩ := I.list h1
  have ev := vd_all rv h2
  refine PySem.W.sorted_data (enc := id) (R := Vd X.K B) (vs := its) pl.isList ev (vd_reads I c.le ev fun d hd => (so.ly d hd).1) (by rw [List.map_id]; exact so.al) (by rw [List.map_id]; exact so.so) (by rw [line_eq]; exact so.ln) (fun d hd => ?_) fun out ho eo => ?_
  · have := (so.ly d hd).2
    show X.A.units + 2 + d.depth < cLine
    omega
  · obtain ⟨ys, ry, hy⟩ := vd_back eo
    obtain ⟨n, at'⟩ := sortedAll_at s.heap its (List.toArray out)
    have hp : H (s.heap.objs.size + 1) = none := I.hok.fresh (Nat.le_succ _)
    refine ⟨.ref (s.heap.objs.size + 1), upd H (s.heap.objs.size + 1) (.lst ys), I.laid (t' := s.toks) (fun b o e => sortedAll_old e) (Nat.le_succ _) ⟨?_, out, n, ry, at'⟩, rfl, k.lst c hp hy q⟩
    rw [ry.length, ho, line_eq]
    exact so.ln
/-! ### sorted(d.items()) -/
def rItemsK : V → List V → Hp → VK → Prop := fun x vs H Q => ∃ a kvs, x = .ref a ∧ vs = [] ∧ H a = some (.dK kvs) ∧ ∀ p, H p = none → Q (.ref p) (upd H p (DX.itemsO p a))
theorem dk_raw {X : Cx} {pins : List (Addr × Obj)} {σ : L2.St} {H : Hp} {s : Shared} {a : Addr} {kvs : List (Key × V)} (I : Inv X pins σ H s) (h : H a = some (.dK kvs)) :
    kvs.length ≤ sizeLine ∧ (a == sysModules) = false ∧ ∃ (vs : List (Key × Value)) (es : Array DictEntry) (ep : Nat), KV kvs vs ∧ DT.Raw s.heap a es ep ∧ Pairs (mixKind X.prog X.w) es.toList vs := by
  obtain ⟨hz, hd, vs, rel, o, es, ep, ho, hx, hdat, _, hp, _⟩ := I.hok _ _ h
  exact ⟨hz, hd, vs, es, ep, rel, ⟨o, ho, hx, hdat⟩, hp⟩
theorem mt_itemsK {X : Cx} : MtR X "dict.items" rItemsK := by
  intro pins s σ H x xs v us Q I rx rxs ⟨a, kvs, ex, ev, ha, q⟩
  subst ex ev
  cases rx
  cases rxs
  obtain ⟨_, hd, _, es, ep, _, raw, _⟩ := dk_raw I ha
  exact DT.callItems hd raw ⟨.ref s.heap.objs.size, _, I.laid (t' := s.toks) (fun b u e => Heap.get?_push_of_some _ e) (Nat.le_refl _) (DX.itemsO_ok (Heap.get?_push_size _ rfl)), rfl, q _ (I.hok.fresh (Nat.le_refl _))⟩
def pairsD (ds : List (Key × D)) : List D := ds.map fun p => .tuple [kD p.1, p.2]
def grow (B H H' : Hp) (l : Addr) : Hp := fun b => match H b with
  | some _ => B b
  | none => if b = l then none else H' b
theorem flat_reads {K : Frag} {B : Hp} {h : Heap} {v : V} {d : D} {u : Value} (hv : Dp K B v d) (f : flatD d = true) (r : RelV v u) : Reads h u d [] := by
  cases hv with
  | non => cases r; exact .none
  | bl b => cases r; exact .bool b
  | int i => obtain ⟨t, rfl⟩ := r; exact .int i t
  | str x => obtain ⟨t, rfl⟩ := r; exact .str x t
  | lst _ _ => cases f
  | tup _ _ => cases f
  | dic _ _ => cases f
theorem key_reads {h : Heap} {k : Key} {u : Value} (r : RelV (kV k) u) : Reads h u (kD k) [] := by
  cases k with
  | inl i => obtain ⟨t, rfl⟩ := r; exact .int i t
  | inr x => obtain ⟨t, rfl⟩ := r; exact .str x t
theorem key_dp {K : Frag} {B : Hp} (k : Key) : Dp K B (kV k) (kD k) := by
  cases k with
  | inl i => exact .int i
  | inr x => exact .str x
theorem pairs_made {X : Cx} {B : Hp} {h' : Heap} : ∀ {as : List Addr} {vs : List (Key × Value)} {kvs : List (Key × V)} {ds : List (Key × D)}, KV kvs vs → KvP X.K B kvs ds → as.length = vs.length →
    (∀ (j : Nat) (a : Addr), as[j]? = some a → ∃ key k x, vs[j]? = some (k, x) ∧ keyIs k key = true ∧ h'.get? a = some { cls := .type "tuple", data := .seq #[key, x] }) → (∀ q ∈ ds, flatD q.2 = true) →
    ∃ N : List (Addr × HO), N.map (·.1) = as ∧ (∀ p ∈ N, ∀ (H'' : Hp) (h2 : Heap), (∀ o, h'.get? p.1 = some o → h2.get? p.1 = some o) → ObjOk X.prog X.w H'' h2 p.1 p.2) ∧ ∀ B' : Hp, (∀ p ∈ N, B' p.1 = some p.2) → Same B B' →
      PySem.W.EachIs (Vd X.K B') (as.map Value.ref) (pairsD ds) ∧ PySem.W.EachIs (fun v b => Reads h' v b []) (as.map Value.ref) (pairsD ds)
  | [], [], _, _, .nil, .nil, _, _, _ => ⟨[], rfl, fun p hp => (nomatch hp), fun B' _ _ => ⟨.nil, .nil⟩⟩
  | [], _ :: _, _, _, _, _, hl, _, _ => by cases hl
  | _ :: _, [], _, _, _, _, hl, _, _ => by cases hl
  | a :: as, (k, y) :: vs, _, _, .cons (a := (k1, v1)) ⟨e1, ry⟩ kt, hkv, hl, hm, hf => by
    cases hkv with
    | @cons _ _ d _ ds hd ht =>
      obtain ⟨key, k0, x, g1, g2, g3⟩ := hm 0 a rfl
      cases (show some (k, y) = some (k0, x) from g1)
      obtain rfl : k1 = k := e1
      obtain ⟨N, n1, n2, n3⟩ := pairs_made kt ht (Nat.succ.inj hl) (fun j b e => hm (j + 1) b e) (fun q hq => hf q (List.mem_cons_of_mem _ hq))
      have rk : RelV (kV k1) key := relV_key g2
      refine ⟨(a, .frz { cls := .type "tuple", data := .seq #[key, y] } (.tup [kV k1, v1])) :: N, congrArg (a :: ·) n1, fun p hp H'' h2 hk => ?_, fun B' hb hs => ?_⟩
      · rcases List.mem_cons.mp hp with rfl | hp
        · exact ⟨hk _ g3, by show 2 ≤ sizeLine; decide, [key, y], .cons rk (.cons ry .nil), _, hk _ g3, rfl, _, rfl⟩
        · exact n2 p hp H'' h2 hk
      · obtain ⟨q1, q2⟩ := n3 B' (fun p hp => hb p (List.mem_cons_of_mem _ hp)) hs
        refine ⟨.cons ⟨.ref a, rfl, .tup (.inl ⟨_, hb _ List.mem_cons_self, rfl, rfl⟩) (.cons (key_dp k1) (.cons (Dp.mono hs hd) .nil))⟩ q1, .cons ?_ q2⟩
        exact .tuple g3 rfl rfl (.cons (key_reads rk) (.cons (flat_reads hd (hf _ List.mem_cons_self) ry) .nil))
theorem find_one : ∀ {N : List (Addr × HO)} {p : Addr × HO}, (N.map (·.1)).Nodup → p ∈ N → N.find? (fun q => decide (q.1 = p.1)) = some p
  | [], _, _, h => (nomatch h)
  | q :: N, p, hn, h => by
    rw [List.map_cons, List.nodup_cons] at hn
    rcases List.mem_cons.mp h with rfl | h
    · simp
    · have ne : ¬ q.1 = p.1 := fun e => hn.1 (by rw [e]; exact List.mem_map.mpr ⟨p, h, rfl⟩)
      rw [List.find?_cons_of_neg (by simpa using ne)]
      exact find_one hn.2 h
def rSI (K : Frag) : List V → Hp → VK → Prop := fun vs H Q => ∃ p a kvs B ds, vs = [.ref p] ∧ H p = some (DX.itemsO p a) ∧ H a = some (.dK kvs) ∧ Same B H ∧ KvP K B kvs ds ∧ (∀ q ∈ ds, flatD q.2 = true) ∧ SrtOk (pairsD ds) ∧
  ∀ (H' : Hp) (l : Addr) (xs : List V), Same H H' → H l = none → H' l = some (.lst xs) → DpAll K (grow B H H' l) xs (sortD (pairsD ds)) → Q (.ref l) H'
theorem c_sortIt {X : Cx} (hc : X.calm = true) (hu : X.A.units + 64 < cLine) : CallR X (.builtin "sorted") (rSI X.K) := by
  intro pins s σ H xs us Q I rx ⟨p, a, kvs, B, ds, ev, hp, ha, up, hkv, hf, so, q⟩
  subst ev
  obtain ⟨u, eu, rp⟩ := vals1 rx
  subst eu
  cases rp
  obtain ⟨hz, _, vs, es, ep, rel, raw, prs⟩ := dk_raw I ha
  have hes : es.size = vs.length := by rw [← Array.length_toList]; exact prs.length
  have hkl := rel.length
  refine DT.sortedI (I.ok.hd hc) (I.hok _ _ hp).1 raw (by rw [hes, ← hkl]; exact hz) fun h' tk as hk hlt hl hG => ?_
  have made : ∀ (j : Nat) (b : Addr), as[j]? = some b → ∃ key k x, vs[j]? = some (k, x) ∧ keyIs k key = true ∧ h'.get? b = some { cls := .type "tuple", data := .seq #[key, x] } := fun j b e => by
    obtain ⟨en, e1, e2⟩ := hG.pairs j b e
    have e3 : es.toList[j]? = some en := by rw [Array.getElem?_toList]; exact e1
    obtain ⟨⟨k, x⟩, e4⟩ : ∃ z, vs[j]? = some z := ⟨_, List.getElem?_eq_getElem (by rw [← prs.length]; exact (List.getElem?_eq_some_iff.mp e3).1)⟩
    obtain ⟨g1, g2⟩ := prs.get? e3 e4
    subst g2
    exact ⟨en.key, k, en.val, e4, g1, e2⟩
  obtain ⟨N, n1, n2, n3⟩ := pairs_made (X := X) rel hkv (hl.trans hes) made hf
  have nd : (N.map (·.1)).Nodup := by rw [n1]; exact hG.rise.imp fun h => Nat.ne_of_lt h
  let H' : List V → Hp := fun ys b => if b < s.heap.objs.size then H b else if b = h'.objs.size then some (.lst ys) else (N.find? fun z => decide (z.1 = b)).map (·.2)
  have inN : ∀ z ∈ N, s.heap.objs.size < z.1 ∧ z.1 < h'.objs.size := fun z hz' => by
    have m : z.1 ∈ as := by rw [← n1]; exact List.mem_map.mpr ⟨z, hz', rfl⟩
    exact ⟨hG.above _ m, hG.there m⟩
  have atN : ∀ ys, ∀ z ∈ N, H' ys z.1 = some z.2 := fun ys z hz' => by
    obtain ⟨a1, a2⟩ := inN z hz'
    show (if z.1 < s.heap.objs.size then H z.1 else if z.1 = h'.objs.size then some (.lst ys) else (N.find? fun q => decide (q.1 = z.1)).map (·.2)) = some z.2
    rw [if_neg (Nat.not_lt.mpr (Nat.le_of_lt a1)), if_neg (Nat.ne_of_lt a2), find_one nd hz']
    rfl
  have off : ∀ ys b, h'.objs.size ≤ b → b ≠ h'.objs.size → H' ys b = none := fun ys b h1 h2 => by
    show (if b < s.heap.objs.size then H b else if b = h'.objs.size then some (.lst ys) else (N.find? fun q => decide (q.1 = b)).map (·.2)) = none
    rw [if_neg (Nat.not_lt.mpr (Nat.le_trans (Nat.le_of_lt hlt) h1)), if_neg h2, List.find?_eq_none.mpr fun z hz' => ?_]
    · rfl
    · have := (inN z hz').2
      simpa using Nat.ne_of_lt (Nat.lt_of_lt_of_le this h1)
  have low : ∀ ys b, b < s.heap.objs.size → H' ys b = H b := fun ys b h => if_pos h
  have atL : ∀ ys, H' ys h'.objs.size = some (HO.lst ys) := fun ys => by
    show (if h'.objs.size < s.heap.objs.size then H h'.objs.size else if h'.objs.size = h'.objs.size then some (HO.lst ys) else (N.find? fun z => decide (z.1 = h'.objs.size)).map (·.2)) = some (HO.lst ys)
    rw [if_neg (Nat.not_lt.mpr (Nat.le_of_lt hlt)), if_pos rfl]
  have old : ∀ ys, Same H (H' ys) := fun ys b o e => by rw [low ys b (I.hok b o e).lt]; exact e
  have fresh : ∀ b, s.heap.objs.size ≤ b → H b = none := fun b h => I.hok.fresh h
  have gr : ∀ ys, grow B H (H' ys) h'.objs.size = grow B H (H' []) h'.objs.size := fun ys => by
    funext b
    unfold grow
    cases e : H b with
    | some _ => rfl
    | none =>
      by_cases hb : b = h'.objs.size
      · simp only [hb, if_true]
      · simp only [hb, if_false]
        show (if b < s.heap.objs.size then H b else if b = h'.objs.size then some (.lst ys) else _) = (if b < s.heap.objs.size then H b else if b = h'.objs.size then some (.lst []) else _)
        rw [if_neg hb, if_neg hb]
  have gB : Same B (grow B H (H' []) h'.objs.size) := fun b o e => by
    unfold grow
    rw [up b o e]
    exact e
  have gN : ∀ z ∈ N, grow B H (H' []) h'.objs.size z.1 = some z.2 := fun z hz' => by
    obtain ⟨a1, a2⟩ := inN z hz'
    unfold grow
    rw [fresh _ (Nat.le_of_lt a1)]
    simp only [Nat.ne_of_lt a2, if_false]
    exact atN [] z hz'
  obtain ⟨ev, er⟩ := n3 _ gN gB
  have la : (as.map Value.ref).length = (pairsD ds).length := ev.length
  have er' : ∀ {vs' : List Value} {bs : List D} {o : Obj}, PySem.W.EachIs (fun v b => Reads h' v b []) vs' bs → PySem.W.EachIs (fun v b => ∃ as', Reads (h'.push o) v (id b) as' ∧ h'.objs.size ∉ as') vs' bs := fun h => h.mono fun v b r =>
    ⟨[], PyProof.Rows.Reads.keeps (fun _ _ e => Heap.get?_push_of_some _ e) r, fun z => nomatch z⟩
  refine PySem.W.list_sort_data (enc := id) (R := Vd X.K (grow B H (H' []) h'.objs.size)) (n := 0) (Heap.get?_push_size _ rfl) ev (er' er) (by rw [List.map_id]; exact so.al) (by rw [List.map_id]; exact so.so) (by rw [line_eq]; exact so.ln) (fun d hd => ?_) fun out ho eo => ?_
  · have := (so.ly d hd).2
    show X.A.units + 1 + 1 + d.depth < cLine
    omega
  obtain ⟨ys, ry, hy⟩ := vd_back eo
  have hL : (h'.push { cls := .type "list", data := .seq (as.map Value.ref).toArray }).get? h'.objs.size = some (seqObj "list" (as.map Value.ref).toArray 0) := Heap.get?_push_size _ rfl
  obtain ⟨n, at'⟩ := sortedHeap_at (out := List.toArray out) hL
  have keep : ∀ b o, b ≠ h'.objs.size → h'.get? b = some o → (sortedHeap (h'.push { cls := .type "list", data := .seq (as.map Value.ref).toArray }) h'.objs.size (as.map Value.ref) (List.toArray out)).get? b = some o := fun b o hb e => by
    rw [sortedHeap_old hb (by rw [size_push']; exact Nat.lt_succ_of_lt (Heap.lt_size e))]
    exact Heap.get?_push_of_some _ e
  refine ⟨.ref h'.objs.size, H' ys, lay_new (s := s) (tk := tk) I (fun b o e => keep b o (Nat.ne_of_lt (Nat.lt_trans (Heap.lt_size e) hlt)) (hk b o e)) (low ys) (fun b o hb e => ?_), rfl, q _ _ ys (old ys) (fresh _ (Nat.le_of_lt hlt)) (atL ys) (by rw [gr ys]; exact hy)⟩
  by_cases hb2 : b = h'.objs.size
  · subst hb2
    rw [atL ys] at e
    cases e
    refine ⟨?_, out, n, ry, at'⟩
    rw [ry.length, ho, line_eq]
    exact so.ln
  · have e' : (N.find? fun z => decide (z.1 = b)).map (·.2) = some o := by
      have : H' ys b = (if b < s.heap.objs.size then H b else if b = h'.objs.size then some (.lst ys) else (N.find? fun z => decide (z.1 = b)).map (·.2)) := rfl
      rw [this, if_neg (Nat.not_lt.mpr hb), if_neg hb2] at e
      exact e
    cases f : N.find? fun z => decide (z.1 = b) with
    | none => rw [f] at e'; cases e'
    | some z =>
      rw [f] at e'
      cases e'
      have zb : z.1 = b := by simpa using List.find?_some f
      have zN := List.mem_of_find?_eq_some f
      subst zb
      exact n2 z zN _ _ fun o' e2 => keep _ o' hb2 e2
theorem grow_step {G : Gh} {B H1 H2 H' : Hp} {l : Addr} (bh : Same B (hide G H1)) (gok : G.ok H1) (h12 : Same H1 H2) (h2 : Same H2 H') (hl : H2 l = none) : Stp G B H1 (grow B H2 H' l) H' ∧ Same (grow B H2 H' l) (hide G H') ∧ G.ok H' ∧ l ∉ G.at_ ∧ H1 l = none := by
  have h1l : H1 l = none := h12.free hl
  have all : Same H1 H' := h12.trans h2
  have ng : ∀ b, H1 b = none → b ∉ G.at_ := fun b e z => G.here _ gok _ z e
  have hh : Same (hide G H1) (hide G H') := fun b o e => by
    obtain ⟨z, e⟩ := hide_some e
    rw [hide_out z]
    exact all _ _ e
  refine ⟨⟨fun b o e => ?_, hh, fun b o e1 e2 => ?_⟩, fun b o e => ?_, G.stay _ _ (fun a ha => ?_) gok, ng l h1l, h1l⟩
  · unfold grow
    rw [h12 b o (hide_some (bh b o e)).2]
    exact e
  · unfold grow
    rw [h12 b o (hide_some e2).2]
    exact e1
  · unfold grow at e
    cases q : H2 b with
    | some u => rw [q] at e; exact hh b o (bh b o e)
    | none =>
      rw [q] at e
      by_cases z : b = l
      · simp only [z, if_true] at e; cases e
      · simp only [z, if_false] at e
        rw [hide_out (ng b (h12.free q))]
        exact e
  · cases q : H1 a with
    | none => exact absurd q (G.here _ gok a ha)
    | some o => exact all a o q
def wSortIt (w : EW) : EW := fun ρ Q E => w ρ (fun r => ∃ kvs, r.kv = some kvs ∧ (kvs.all fun q => flatD q.2) = true ∧ SrtOk (pairsD kvs) ∧ Q (.l true (sortD (pairsD kvs)))) E
theorem pd_sortIt {X : Cx} {W : WX} {e : Expr} {w : EW} (h : PE X e (tCB (rSI X.K) (tCons (tBM0 X.K "dict" rItemsK (TDe X.K W w)) tNil))) : PD X W e (wSortIt w) := pe_imp h fun σ H Q ⟨G, B0, H0, B, ρ, Qd, Qe, S, q, ok, er⟩ => by
  refine ⟨G, B0, H0, B, ρ, _, Qe, S, q, fun r x B1 H1 S1 s1 r1 q1 => ?_, er⟩
  obtain ⟨kvs, e1, hf, so, q1⟩ := q1
  obtain ⟨p, xs, rfl, h1, h2⟩ := r1.kv e1 S1.bh
  refine ⟨.inr (.inr (.inl ⟨rfl, .inl ⟨_, h1⟩⟩)), p, xs, rfl, rfl, h1, fun v hv => ?_⟩
  have h12 : Same H1 (upd H1 v (DX.itemsO v p)) := fun b o e => by rw [upd_ne (ne_of_none e hv)]; exact e
  refine ⟨v, p, xs, B1, kvs, rfl, upd_same, h12 _ _ h1, (S1.bh.trans (hide_le H1)).trans h12, h2, List.all_eq_true.mp hf, so, fun H' l ys hs hl hL hd => ?_⟩
  obtain ⟨st, bh, gok, ng, hl1⟩ := grow_step S1.bh S1.gok h12 hs hl
  refine ok (.l true (sortD (pairsD kvs))) _ _ _ (S1.step st bh gok) (s1.trans st) ⟨l, ys, rfl, by rw [hide_out ng]; exact hL, hd, fun _ => ⟨?_, s1.hh.free (hide_free hl1)⟩⟩ q1
  unfold grow; rw [hl]; simp
end DL

set_option Elab.async false
set_option linter.all false
set_option maxRecDepth 100000
set_option maxHeartbeats 4000000
/-! The data layer: sets of ints: {e for x in s if c}, set(l); sorted of such. -/
namespace DL
open PySem PySem.Spec PyProof.Rows L2
theorem add_int {X : Cx} {pins : List (Addr × Obj)} {σ : L2.St} {H : Hp} {s : Shared} {E : Value → Shared → Prop} {D : Addr} {S : Int → Bool} {n : Nat} {y : Int} {t : Tok} {Q : Value → Shared → Prop} (I : Inv X pins σ H s) (hD : H D = some (SetO X.w D S n)) (room : n + 1 < scanBound)
    (h : ∀ s', Inv X pins σ (upd H D (SetO X.w D (fun j => S j || decide (j = y)) (if S y = true then n else n + 1))) s' → Q .none s') : wpAny (model X.prog X.w) X.A (call (.builtin "set.add") [.ref D, .int y t]) Q E s := by
  refine setR_add (setO_get I hD) room fun h' sb new => h _ ?_
  obtain ⟨o, _, _, _, ho, _⟩ := id new
  exact I.write (e := D) (t' := s.toks + 1) (by rw [hD]; trivial) (.inl rfl) (fun b u hb hu => (sb.2 b hb).trans hu) ⟨o, ho⟩ (setO_new new)
/-- {elt for target in iter if ..}, elt an int: D the new set -/
def tScI (w : World) (wi : TI) (g : TG) (tt : TT) (te : TE) (vs : List Nat) : TE := fun σ H Q => wi σ H fun J H1 => ∀ D, H1 D = none → ∃ W : Nat → Nat → Hp → Prop, (∃ m, W 0 m (upd H1 D (SetO w D (fun _ => false) 0))) ∧ ∀ i m H, W i m H →
  (J.stop i H ∧ Q (.ref D) H) ∨ (J.go i H ∧ ∃ Nx : Hp → Prop, (∀ H', Nx H' → ∃ m', m' < m ∧ W (i + 1) m' H') ∧ ∀ x H', J.yld i H x H' → g x (wipe σ vs) H' fun σ2 H2 => wipe σ2 vs = wipe σ vs ∧ tt σ2 H2 fun b H3 =>
    if b = true then te σ2 H3 fun y H4 => ∃ (c : Int) (S : Int → Bool) (n : Nat), y = .int c ∧ H4 D = some (SetO w D S n) ∧ n + 1 < scanBound ∧ Nx (upd H4 D (SetO w D (fun j => S j || decide (j = c)) (if S c = true then n else n + 1))) else Nx H3)
section
variable {X : Cx}
theorem pe_scI {elt tg iter : Expr} {ifs : List Expr} {scope : Scope} {own : List (PySem.Str × Nat)} {pos : Pos} {wi : TI} {g : TG} {tt : TT} {te : TE} (hc : X.calm = true) (hN : X.N.Nodup) (hi : PI X tg iter wi) (ok : BlkOk X.N X.env.scope scope own)
    (hg : ∀ (s : Shared) (H : Hp) (C : Addr) (cl : List (PySem.Str × Addr)) (fp : List Addr), PG (X.blk s H scope (compEnvC scope cl C X.env) fp) tg g) (ht : ∀ (s : Shared) (H : Hp) (C : Addr) (cl : List (PySem.Str × Addr)) (fp : List Addr), PTs (X.blk s H scope (compEnvC scope cl C X.env) fp) ifs tt)
    (he : ∀ (s : Shared) (H : Hp) (C : Addr) (cl : List (PySem.Str × Addr)) (fp : List Addr), PE (X.blk s H scope (compEnvC scope cl C X.env) fp) elt te) (hs : ∀ x, foldedSetIterable iter X.env x = pure x := by intro _; rfl) :
    PE X (.SetComp elt [⟨tg, iter, ifs, 0⟩] scope pos) (tScI X.w wi g tt te (own.map (·.2))) := by
  refine ⟨fun pins s σ H Q I h => ?_⟩
  rw [PpSet.eval_SetComp]
  have closed := closure_ok (scope := scope) (env := X.env) fun y hy e => (ok.free y hy e).elim (fun k => I.ok.has _ (.inl k)) fun k => I.ok.has _ (.inr k)
  refine wpAny_comprehension_free (use := none) rfl hs closed ok.kind (fun y hy e => by rw [ok.uniq y hy, e]) (thn (hi.run pins s σ H _ I h) fun xv s1 hx => thn hx fun itv s2 ⟨it, fp, tn, J, H2, eit, I2, T, st2, f2, q⟩ => ?_)
  subst eit
  refine PpSet.newSet_ok (newEnv_comp ?_)
  generalize hD : s2.heap.objs.size = D
  have hDn : H2 D = none := I2.hok.fresh (Nat.le_of_eq hD)
  obtain ⟨W, ⟨m0, w0⟩, turn⟩ := q D hDn
  -- the empty set stands
  generalize hs3 : ({ s2 with heap := s2.heap.push { cls := .type "set", dict := none, data := .set #[] 0 (.fresh 0 0 (!X.w.params.followText "set-order")) } } : Shared) = s3
  have h3 : s3.heap = s2.heap.push { cls := .type "set", dict := none, data := .set #[] 0 (.fresh 0 0 (!X.w.params.followText "set-order")) } := by rw [← hs3]
  have up3 : ∀ b o, s2.heap.get? b = some o → s3.heap.get? b = some o := fun b o e => by rw [h3]; exact Heap.get?_push_of_some _ e
  have I3 : Inv X pins σ (upd H2 D (SetO X.w D (fun _ => false) 0)) s3 := by
    rw [← hs3]
    exact I2.laid (t' := s2.toks) (fun b o e => Heap.get?_push_of_some _ e) (Nat.le_of_eq hD) (by rw [← hD]; exact setO_new (setR_fresh X.w))
  have f3 : ∀ b ∈ fp, FpOk X pins (upd H2 D (SetO X.w D (fun _ => false) 0)) b ∧ b < s3.heap.objs.size := fun b hb => by
    obtain ⟨o, e, _⟩ := T.obj _ _ st2 b hb
    have lt := Heap.lt_size e
    exact ⟨⟨by rw [upd_ne (by rw [← hD]; exact Nat.ne_of_lt lt)]; exact (f2 b hb).1, (f2 b hb).2⟩, Heap.lt_size (up3 b o e)⟩
  have st3 : tn 0 s3.heap := T.keep _ _ _ st2 fun b _ o e => up3 b o e
  have I4 := block_start I3 ok hN f3
  have pg := hg s3 (upd H2 D (SetO X.w D (fun _ => false) 0)) s3.heap.objs.size (cellsFrom (s3.heap.objs.size + 1) scope.names (cloFrom X.env.cells scope.names [])) fp
  have pt := ht s3 (upd H2 D (SetO X.w D (fun _ => false) 0)) s3.heap.objs.size (cellsFrom (s3.heap.objs.size + 1) scope.names (cloFrom X.env.cells scope.names [])) fp
  have pe := he s3 (upd H2 D (SetO X.w D (fun _ => false) 0)) s3.heap.objs.size (cellsFrom (s3.heap.objs.size + 1) scope.names (cloFrom X.env.cells scope.names [])) fp
  show codeAny _ _ (.compStart (.SetComp elt [⟨tg, iter, ifs, 0⟩] scope pos) 0 (.ref it) (.ref D) (compEnvC scope (cellsFrom (s3.heap.objs.size + 1) scope.names (cloFrom X.env.cells scope.names [])) s3.heap.objs.size X.env)) _ { s3 with heap := pushCells (s3.heap.push { cls := .type "dict", data := .dict #[] }) scope.names }
  generalize hce : compEnvC scope (cellsFrom (s3.heap.objs.size + 1) scope.names (cloFrom X.env.cells scope.names [])) s3.heap.objs.size X.env = ce at I4 pg pt pe ⊢
  have cL : ce.locals = s3.heap.objs.size := by subst hce; rfl
  generalize hH3 : upd H2 D (SetO X.w D (fun _ => false) 0) = H3 at I3 I4 pg pt pe w0 f3
  generalize hs4 : ({ s3 with heap := pushCells (s3.heap.push { cls := .type "dict", data := .dict #[] }) scope.names } : Shared) = s4 at I4 ⊢
  have st4 : tn 0 s4.heap := T.keep _ _ _ st3 fun b _ o e => by rw [← hs4]; exact pushCells_keeps _ _ _ _ (Heap.get?_push_of_some _ e)
  have stat : ∀ {σ' : L2.St} {H' : Hp} {s' : Shared}, Inv (X.blk s3 H3 scope ce fp) [] σ' H' s' → (∀ b ∈ fp, H' b = none) → ∀ b ∈ fp, FpOk (X.blk s3 H3 scope ce fp) [] H' b := fun I' hn b hb =>
    ⟨hn b hb, (I'.ok.exf b hb).1, I'.ok.exfs b hb, .inl hb, fun x c e => (I'.ok.exf b hb).2 x c e, fun p hp => absurd (show p ∈ ([] : List (Addr × Obj)) ++ [] from hp) (by simp)⟩
  refine (fun loop => PpSet.codeAny_compStart_set loop (T.self X.A 0 _ _ _ st4 loop)) ?_
  refine PpSet.compLoopS_any (fun n s' => ∃ i H', Inv (X.blk s3 H3 scope ce fp) [] (wipe σ (own.map (·.2))) H' s' ∧ tn i s'.heap ∧ (∀ b ∈ fp, H' b = none) ∧ W i n H') ?_ m0 ⟨0, H3, I4, st4, fun b hb => (f3 b hb).1.1, w0⟩
  rintro n s5 ⟨i, H5, I5, st5, n5, w5⟩
  rcases turn i n H5 w5 with ⟨stop, qq⟩ | ⟨go, Nx, hNx, step⟩
  · refine thnF (T.done (X.blk s3 H3 scope ce fp) rfl rfl rfl hc i [] s5 _ H5 (fun _ _ => False) I5 (stat I5 n5) st5 stop) fun r s6 ⟨hr, I6⟩ => ?_
    subst hr
    have I7 : Inv X pins σ H5 s6 := I3.call' (ch := fp) I6.os I6.base I6.hok I6.bare fun b hb => ⟨(f3 b hb).1.2.2.2.1, (f3 b hb).1.2.1, (f3 b hb).1.2.2.2.2.1, (f3 b hb).1.2.2.2.2.2⟩
    have nC : H5 s3.heap.objs.size = none := cL ▸ (show H5 ce.locals = none from I6.free)
    obtain ⟨m, hn, _⟩ := I6.loc
    have hn : s6.heap.Ns s3.heap.objs.size m := cL ▸ (show s6.heap.Ns ce.locals m from hn)
    obtain ⟨g0, g1, g2, g3, g4, g5⟩ := I3.fpOk (Nat.le_refl _) nC
    exact ⟨m, hn, fun h'' sb => ⟨.ref D, H5, I7.turned (t' := s6.toks) (fun b o hb e => (sb.2 b hb).trans e) g0 g1 g3 g4 g5, rfl, qq⟩⟩
  · refine thnF (T.item (X.blk s3 H3 scope ce fp) rfl rfl rfl hc i [] s5 _ H5 (fun _ _ => False) I5 (stat I5 n5) st5 go) fun r s6 ⟨u, hr, h6⟩ => ?_
    subst hr
    refine thnF h6 fun _ s7 ⟨x, H7, I7, r7, y7, st7, n7⟩ => ?_
    have I7' := I7.pinned (stat I7 n7) (T.obj _ _ st7)
    refine thnF (pg.run _ s7 _ H7 x u _ I7' r7 (step x H7 y7)) fun _ s8 ⟨σ8, H8, I8, hw8, q8⟩ => thnF (pt.run _ s8 σ8 H8 _ I8 q8) fun b s9 ⟨H9, I9, q9⟩ => ?_
    have fin : ∀ {s' : Shared} {H' : Hp}, Inv (X.blk s3 H3 scope ce fp) ([] ++ pinsAt fp s7.heap) σ8 H' s' → Nx H' → ∃ m, m < n ∧ ∃ i H', Inv (X.blk s3 H3 scope ce fp) [] (wipe σ (own.map (·.2))) H' s' ∧ tn i s'.heap ∧ (∀ b ∈ fp, H' b = none) ∧ W i m H' := fun {s' H'} I' nx => by
      obtain ⟨m', hm, w'⟩ := hNx H' nx
      have pin' : ∀ b ∈ fp, ∀ o, s7.heap.get? b = some o → s'.heap.get? b = some o ∧ H' b = none := fun b hb o e => let z := I'.pin (b, o) (List.mem_append_right _ (List.mem_append_right _ (mem_pinsAt hb e))); ⟨z.1, z.2.1⟩
      refine ⟨m', hm, i + 1, H', (I'.unpinned (pins := [])).weak (by rw [← hw8, wipe_length]) (fun j v e => (wipe_some (by rw [← hw8] at e; exact e)).1), T.keep _ _ _ st7 fun b hb o e => (pin' b hb o e).1, fun b hb => ?_, w'⟩
      obtain ⟨o, e, _⟩ := T.obj _ _ st7 b hb
      exact (pin' b hb o e).2
    cases b with
    | false => exact fin I9 q9
    | true =>
      refine thnF (pe.run _ s9 σ8 H9 _ I9 q9) fun z s10 ⟨yv, H10, I10, r10, cb, S0, n0, ey, hD10, hz10, nx⟩ => ?_
      subst ey
      obtain ⟨tk, ez⟩ := r10
      subst ez
      exact add_int (X := X.blk s3 H3 scope ce fp) I10 hD10 hz10 fun s11 I11 => fin I11 nx
end
end DL

set_option Elab.async false
set_option linter.all false
set_option maxRecDepth 100000
set_option maxHeartbeats 8000000
/-! The data layer: set(l) of a list of ints. -/
namespace DL
open PySem PySem.Spec PyProof.Rows L2
abbrev set0 (w : World) : Obj := { cls := .type "set", dict := none, data := .set #[] 0 (.fresh 0 0 (!w.params.followText "set-order")) }
section
variable {P : Program} {w : World} {A : Around} {E : Value → Shared → Prop} {s : Shared}
theorem set_of_list {l : Addr} {its : Array Value} (ns : List Int) {Q : Value → Shared → Prop} (hh : A.handled = none) (hl : s.heap.IsList l its) (hit : IntsAre its.toList ns) (room : ns.length + 1 < scanBound)
    (h : ∀ (h' : Heap) (tk c : Nat), SetR w h' s.heap.objs.size (fun j => decide (j ∈ ns)) c → c ≤ ns.length → (∀ b o, s.heap.get? b = some o → h'.get? b = some o) → Q (.ref s.heap.objs.size) { s with heap := h', toks := tk }) :
    wpAny (model P w) A (call (.type "set") [.ref l]) Q E s := by
  have many : its.size = ns.length := by rw [← Array.length_toList]; exact IntsAre.length hit
  obtain ⟨_, _, hmro⟩ := F.called_set.mro
  have hmade := F.called_set.made
  have hsub := F.called_set.sub
  refine wpAny_call (codeAny_of_tree ?_)
  show wpAny _ _ (callAny (.type "set") _) _ _ _
  refine wpAny_pure ⟨Code.quiet_builtin _ (by decide +kernel), codeAny_builtin F.entry_type_call ?_⟩
  rw [Around.under_plain (weight_type_call_type "set" [.ref l] []) rfl]
  have h1 := F.called_set.notType
  have h2 := F.called_set.canCreate
  have hct := F.typeCall_set_1 (.ref l)
  repeat (any_goals (first | assumption | wp_step))
  refine codeAny_mono (code_set_led1 (.ref l) (E := E) (Q₁ := fun obj s1 => obj = .ref s.heap.objs.size ∧ s1 = { s with heap := s.heap.push (set0 w) }) ⟨rfl, rfl⟩) fun r s1 hr => ?_
  cases r with
  | error e => exact hr
  | ok fl =>
    cases fl with
    | ret obj =>
      obtain ⟨rfl, rfl⟩ := hr
      have atS : (s.heap.push (set0 w)).get? s.heap.objs.size = some (set0 w) := Heap.get?_push_size _ rfl
      have hT : Shared.TypeIs { s with heap := s.heap.push (set0 w) } (.ref s.heap.objs.size) "set" := ⟨_, atS, rfl⟩
      have hli := F.called_set.init.lookup
      have hbi := F.called_set.init.bind (.ref s.heap.objs.size)
      repeat (any_goals (first | assumption | wp_step))
      refine codeAny_mono (codeAny_call_builtin (R := wants (fun r s2 => r = .none ∧ ∃ h' tk c, s2 = { s with heap := h', toks := tk } ∧ SetR w h' s.heap.objs.size (fun j => decide (j ∈ ns)) c ∧ c ≤ ns.length ∧ (∀ b o, s.heap.get? b = some o → h'.get? b = some o)) E) F.called_set.init.plain F.entry_set_init (check_set_init_1 hT ?_)) fun r2 s2 hr2 => ?_
      · obtain ⟨⟨ocls, odict, odata, oslots⟩, hol, hcl, nl, hdl⟩ := hl
        obtain rfl : ocls = .type "list" := hcl
        obtain rfl : odata = .seq its nl := hdl
        have lt := Heap.lt_size hol
        have hol' : (s.heap.push (set0 w)).get? l = some { cls := .type "list", dict := odict, data := .seq its nl, slots := oslots } := Heap.get?_push_of_some _ hol
        have hsls : isSubtype (.type "list") (.type "set") = pure false := by rw [isSubtype_type]; kernel_rfl
        have hslf : isSubtype (.type "list") (.type "frozenset") = pure false := by rw [isSubtype_type]; kernel_rfl
        have hne : (Value.type "list" == Value.type "dict") = false := by decide
        have hl1 : (s.heap.push (set0 w)).IsList l its := ⟨_, hol', rfl, nl, rfl⟩
        have sz : (s.heap.push (set0 w)).objs.size = s.heap.objs.size + 1 := Heap.size_push ..
        unfold Builtin.«set.__init__» noKeywords Builtin.Frozenset.updateFrom
        generalize hPI : pyIter = PI
        wp_walk
        subst hPI
        refine wpAny_pyIter_list hl1 (wpAny_bind (wpAny_runValue ?_))
        have hh3 : A.in1.in1.in1.handled = none := by simp [hh]
        have far : l ≠ (s.heap.push (set0 w)).objs.size := by rw [sz]; exact Nat.ne_of_lt (Nat.lt_succ_of_lt lt)
        have out : s.heap.objs.size ∉ [(s.heap.push (set0 w)).objs.size, l] := by
          rw [sz]; simp only [List.mem_cons, List.not_mem_nil, or_false, not_or]
          exact ⟨Nat.ne_of_lt (Nat.lt_succ_self _), Nat.ne_of_gt lt⟩
        have each : ∀ (i : Nat) (v : Value), its[i]? = some v → ∃ k t, ns[i]? = some k ∧ v = .int k t := fun i v hv => by
          have hi : i < ns.length := many ▸ (Array.getElem?_eq_some_iff.mp hv).1
          obtain ⟨t, e⟩ := PyProof.Rows.IntsAre.int_at hit i v (by rw [Array.getElem?_toList]; exact hv)
          exact ⟨ns[i], t, List.getElem?_eq_getElem hi, by rw [e, List.getD_eq_getElem?_getD, List.getElem?_eq_getElem hi] <;> rfl⟩
        refine set_update_ints ((Walks.list hh3 _ l far its).toS) s.heap.objs.size out ns many room each (its.size - 0) 0 _ (by omega) (Nat.zero_le _) ⟨⟨_, Heap.get?_push_size _ rfl, rfl, rfl⟩, hl1.push _⟩ ⟨0, Nat.le_refl 0, setR_new_at (Heap.get?_push_of_some _ atS)⟩ ?_
        intro s' c' hm hc' hS'
        obtain ⟨h', g2, d', tk', os'⟩ := s'
        obtain rfl : g2 = s.gens := hm.gens
        obtain rfl : d' = s.drawn := hm.drawn
        obtain rfl : os' = s.os := hm.os
        show wpAny _ _ _ _ _ _
        refine wpAny_pure ?_
        show wpAny _ _ (ret Value.none) _ _ _
        refine wpAny_pure ⟨rfl, h', tk', c', rfl, hS', many ▸ hc', fun b o e => hm.heap b o ?_ (Heap.get?_push_of_some _ (Heap.get?_push_of_some _ e))⟩
        rw [sz]
        simp only [List.mem_cons, List.not_mem_nil, or_false, not_or]
        exact ⟨Nat.ne_of_lt (Heap.lt_size e), Nat.ne_of_lt (Nat.lt_succ_of_lt (Heap.lt_size e))⟩
      · cases r2 with
        | error e => exact hr2
        | ok fl2 =>
          cases fl2 with
          | ret r =>
            obtain ⟨rfl, h', tk, c', rfl, hS', hc', hk'⟩ := hr2
            repeat (any_goals (first | assumption | wp_step))
            exact h _ _ _ hS' hc' hk'
          | _ => exact hr2.elim
    | _ => exact hr.elim
end
def rSetL2 (K : Frag) (w : World) : List V → Hp → VK → Prop := fun vs H Q => ∃ (l : Addr) (ns : List Int), vs = [.ref l] ∧ SqL K H l (ns.map V.int) ∧ ns.length < 4000 ∧ ∀ D c, H D = none → c ≤ ns.length → Q (.ref D) (upd H D (SetO w D (fun j => decide (j ∈ ns)) c))
theorem c_setL {X : Cx} (hc : X.calm = true) : CallR X (.type "set") (rSetL2 X.K X.w) := by
  intro pins s σ H vs us Q I r ⟨l, ns, ev, hl, hz, q⟩
  subst ev
  obtain ⟨u, eu, rx⟩ := vals1 r
  subst eu
  cases rx
  obtain ⟨its, rv, pl, _⟩ := I.list hl
  refine set_of_list ns (I.ok.hd hc) pl.isList (by simpa using Vals.ints rv) (by unfold scanBound; omega) fun h' tk c hS hcn hk => ?_
  exact ⟨.ref s.heap.objs.size, _, I.laid (t' := tk) hk (Nat.le_refl _) (setO_new hS), rfl, q _ c (I.hok.fresh (Nat.le_refl _)) hcn⟩
end DL

set_option Elab.async false
set_option linter.all false
set_option maxRecDepth 100000
/-! The data layer: sorted({..}), sorted(set(..)). -/
namespace DL
open PySem PySem.Spec PyProof.Rows L2
/-- sorted of a set of ints, up to 4000 members -/
theorem set_sorted {P : Program} {w : World} {A : Around} {E : Value → Shared → Prop} {s : Shared} {D : Addr} {f : Int → Bool} {m : Nat} {Q : Value → Shared → Prop} (R : SetR w s.heap D f m) (calm : A.handled = none) (few : m ≤ 4000)
    (fin : ∀ t p (os : Array Value) (c : Nat) (ks : List Int), (∀ b o, s.heap.get? b = some o → t.heap.get? b = some o) → t.gens = s.gens → t.os = s.os → s.heap.objs.size ≤ p →
      t.heap.get? p = some (seqObj "list" os c) → IntsAre os.toList ks → ks.Pairwise (· < ·) → (∀ k, k ∈ ks ↔ f k = true) → ks.length = m → Q (.ref p) t) :
    wpAny (model P w) A (call (.builtin "sorted") [.ref D]) Q E s := by
  obtain ⟨o, rows, ep, tb, h1, h2, h3, hg, hnd, hmem, hb, hf, hcount, hr, hl⟩ := R
  apply Calls.call_function_entry kind_sorted plain_sorted entry_sorted (args_sorted1 _)
  unfold Builtin.«sorted»
  refine wpAny_bind (m := checkCount _ _ _ _) (wpAny_pure ?_)
  refine wpAny_bind ?_
  refine collect_set (A := A.in1) calm ⟨o, h1, h2.1, h3⟩ hf hb hr hl fun t us ku hz g1 o1 perm => ?_
  have count : us.length = m := by rw [perm.length_eq, List.length_map, Array.length_toList]; exact hcount
  have isI : IntsAre us (us.map Builtin.Re.reRawOf) := ints_of us fun u hu => by
    obtain ⟨e, he, eq⟩ := List.mem_map.mp (perm.mem_iff.mp hu)
    obtain ⟨k, tk, h4, _⟩ := hg e he
    exact ⟨k, tk, by rw [← eq]; exact h4⟩
  have permK : (us.map Builtin.Re.reRawOf).Perm (rows.toList.map keyOf) := by
    have := perm.map Builtin.Re.reRawOf
    rwa [List.map_map] at this
  refine wpAny_bind ?_
  refine wpAny_newList ?_ (by rw [count, sizeLine_eq]; omega)
  have mk0 : (t.heap.push (seqObj "list" us.toArray 0)).get? t.heap.objs.size = some (seqObj "list" us.toArray 0) := Heap.get?_push_size _ rfl
  refine wpAny_bind (wpAny_holding ?_)
  refine wpAny_call_entry slot_list_sort ⟨_, mk0, rfl⟩ entry_list_sort ?_ (args_list_sort _)
  refine list_sort_treeAny mk0 isI (by rw [count, sizeLine_eq]; omega) fun os ks b1 b2 b3 => ⟨_, rfl, ?_⟩
  obtain ⟨c, there⟩ := sortedHeap_at (vs := us) (out := os) mk0
  have pk := b2.trans permK
  refine wpAny_pure ⟨_, rfl, fin _ t.heap.objs.size os c ks (fun b u e => ?_) g1 o1 hz there b1 (lt_of_le_nodup ks b3 (pk.nodup_iff.mpr hnd)) (fun k => by rw [pk.mem_iff, ← hmem k]) ?_⟩
  · have old := ku b u e
    have lt := Heap.lt_size old
    show (sortedHeap (t.heap.push (seqObj "list" us.toArray 0)) t.heap.objs.size us os).get? b = some u
    rw [sortedHeap_old (Nat.ne_of_lt lt) (by rw [size_push']; exact Nat.lt_succ_of_lt lt)]
    exact Heap.get?_push_of_some _ old
  · rw [pk.length_eq, List.length_map, Array.length_toList]
    exact hcount
def rSetAny (w : World) : List V → Hp → VK → Prop := fun vs H Q => ∃ (D : Addr) (f : Int → Bool) (m : Nat), vs = [V.ref D] ∧ H D = some (SetO w D f m) ∧ m ≤ 4000 ∧
  ∀ (ks : List Int) (p : Addr), ks.Pairwise (· < ·) → (∀ k : Int, k ∈ ks ↔ f k = true) → ks.length = m → H p = none → Q (.ref p) (upd H p (.lst (ks.map V.int)))
theorem cr_setAny {X : Cx} (hc : X.calm = true) : CallR X (.builtin "sorted") (rSetAny X.w) := by
  intro pins s σ H vs us Q I r ⟨D, f, m, ev, hD, few, q⟩
  subst ev
  have R := setO_get I hD
  rw [Vals.ref1 r]
  refine set_sorted R (I.ok.hd hc) few fun t p os c ks k g o hp hg hi hs hm hl => ?_
  have sz : (ks.map V.int).length ≤ sizeLine := by rw [List.length_map, hl, sizeLine_eq]; omega
  have new : H p = none := I.hok.fresh hp
  have J : Inv X pins σ (upd H p (.lst (ks.map V.int))) { s with heap := t.heap, gens := t.gens, drawn := t.drawn, toks := t.toks } :=
    I.call (ch := []) (Un.laid k hp new) (I.hok.laid k hp ⟨sz, os.toList, c, vals_of_ints hi, hg⟩) (by rw [g]; exact I.bare) fun _ z => nomatch z
  have same : t = { s with heap := t.heap, gens := t.gens, drawn := t.drawn, toks := t.toks } := by
    cases t
    cases s
    simp only at o
    subst o
    rfl
  rw [same]
  exact ⟨.ref p, _, J, rfl, q ks p hs hm hl new⟩
/-- the members of ns, in order -/
def SortedOf (ns ns' : List Int) : Prop := ns'.Pairwise (· < ·) ∧ (∀ k, k ∈ ns' ↔ k ∈ ns) ∧ ns'.length ≤ 4000
def wSortSet (w : EW) : EW := fun ρ Q E => w ρ (fun r => ∃ ns : List Int, ((∃ o, r = .l o (ns.map PyData.int)) ∨ r = .s (.list (ns.map PyData.int))) ∧ ns.length < 4000 ∧ ∀ ns', SortedOf ns ns' → Q (.l true (ns'.map PyData.int))) E
/-- sorted({elt for names in wi if wt}) -/
def wSortSc (wi : IW) (tup : Bool) (is vs : List Nat) (wt : TW) (we : EW) : EW := fun ρ Q E => wi ρ (fun ds => ∃ P : Nat → List Int → Prop, P 0 [] ∧
  (∀ k acc d, ds[k]? = some d → P k acc → gwNames tup is d fun es => (∀ i ∈ is, i < ρ.length) ∧ wt (putA (wipeR ρ vs) is es) (fun b => if b = true then we (putA (wipeR ρ vs) is es) (fun r => ∃ z, r = .s (.int z) ∧ acc.length < 4000 ∧ P (k + 1) (acc ++ [z])) (fun _ => False) else P (k + 1) acc) (fun _ => False)) ∧
  ∀ acc, P ds.length acc → acc.length ≤ 4000 ∧ ∀ ns', SortedOf acc ns' → Q (.l true (ns'.map PyData.int))) E
theorem set_end {K : Frag} {w : World} {G : Gh} {B0 H0 B H B1 H1 : Hp} {σ : L2.St} {ρ : Rho} {Qd : R → Prop} {Q : VK} {D : Addr} {S : Int → Bool} {n : Nat} {ns : List Int}
    (ok : ∀ r x B' H', Stt K G B0 H0 B' H' σ ρ → Stp G B H B' H' → Rs K G H B' H' x r → Qd r → Q x H') (S1 : Stt K G B0 H0 B1 H1 σ ρ) (s1 : Stp G B H B1 H1) (hD : H1 D = some (SetO w D S n)) (hm : ∀ k, S k = true ↔ k ∈ ns) (hn : n ≤ 4000)
    (q : ∀ ns', SortedOf ns ns' → Qd (.l true (ns'.map PyData.int))) : rSetAny w [.ref D] H1 Q :=
  ⟨D, S, n, rfl, hD, hn, fun ns' p h1 h2 h3 hp => by
    have g := S1.notG hp
    refine ok (.l true (ns'.map PyData.int)) (.ref p) B1 _ (S1.new hp) (s1.trans (Stp.new hp)) ⟨p, _, rfl, by rw [hide_out g, upd_same], DpAll.ints ns', fun _ => ⟨S1.freeB hp, s1.hh.free (hide_free hp)⟩⟩ (q ns' ⟨h1, fun k => (h2 k).trans (hm k), by omega⟩)⟩
theorem pd_sortSet {X : Cx} {W : WX} {e : Expr} {w : EW} (h : PE X e (tCB (rSetAny X.w) (tCons (tCB (rSetL2 X.K X.w) (tCons (TDe X.K W w) tNil)) tNil))) : PD X W e (wSortSet w) := pe_imp h fun σ H Q ⟨G, B0, H0, B, ρ, Qd, Qe, S, q, ok, er⟩ => by
  refine ⟨G, B0, H0, B, ρ, _, Qe, S, q, fun r x B1 H1 S1 s1 r1 ⟨ns, hr, hl, q1⟩ => ?_, er⟩
  obtain ⟨p, rfl, hq⟩ : ∃ p, x = .ref p ∧ SqL X.K H1 p (ns.map V.int) := by
    rcases hr with ⟨o, rfl⟩ | rfl
    · obtain ⟨p, xs, rfl, h1, h2, _⟩ := r1
      cases h2.ints'
      exact ⟨p, rfl, .inl (.inl (hide_some h1).2)⟩
    · cases (show Dp X.K B1 x (.list (ns.map PyData.int)) from r1) with
      | lst h1 h2 => cases h2.ints'; exact ⟨_, rfl, Same.sqL (S1.bh.trans (hide_le H1)) h1⟩
  refine ⟨p, ns, rfl, hq, by omega, fun D c hD hc => ?_⟩
  exact set_end ok (S1.new hD) (s1.trans (Stp.new hD)) upd_same (fun k => by simp) (by omega) q1
theorem pd_sortSc {X : Cx} {W : WX} {e : Expr} {wi : IW} {tup : Bool} {is vs : List Nat} {wt : TW} {we : EW} (h : PE X e (tCB (rSetAny X.w) (tCons (tScI X.w (TDiC X.K W wi) (gC X.K tup is) (TDt X.K W0 wt) (TDe X.K W0 we) vs) tNil)))
    (hsub : ∀ i ∈ is, i ∈ vs) (h1 : tup = true ∨ ∃ i, is = [i]) : PD X W e (wSortSc wi tup is vs wt we) := pe_imp h fun σ H Q ⟨G, B0, H0, B, ρ, Qd, Qe, S, q, ok, er⟩ => by
  refine ⟨G, B0, H0, B, ρ, _, Qe, S, q, fun ds J B1 H1 S1 s1 it ⟨P, p0, turn, done⟩ => ?_, er⟩
  intro Dl hD
  have dG : Dl ∉ G.at_ := S1.notG hD
  have d0 : hide G H0 Dl = none := S1.st.hh.free (hide_free hD)
  have aw : ∀ (j : Nat) (r : R), ρ[j]? = some (some r) → owns r = true → σ[j]? ≠ some (some (.ref Dl)) := fun j r e1 o e2 => by
    obtain ⟨x, f1, f2⟩ := S1.sl j r e1
    rw [e2] at f1; cases f1
    obtain ⟨p, u, ep, k1, _⟩ := f2.own o
    cases ep
    rw [hD] at k1; cases k1
  let Inv' : Nat → Hp → Prop := fun i H => i ≤ ds.length ∧ ∃ (B' : Hp) (f : Int → Bool) (n : Nat) (acc : List Int), Stt X.K G B0 H0 B' H σ ρ ∧ Stp G B1 H1 B' H ∧ H Dl = some (SetO X.w Dl f n) ∧ (∀ k, f k = true ↔ k ∈ acc) ∧ n ≤ acc.length ∧ B' Dl = none ∧ P i acc
  refine ⟨fun i m H => m = ds.length - i ∧ Inv' i H, ⟨_, rfl, Nat.zero_le _, B1, _, 0, [], S1.new hD, Stp.new hD, upd_same, fun k => by simp, Nat.le_refl _, S1.freeB hD, p0⟩, ?_⟩
  rintro i m H2 ⟨rfl, hi, B2, f, n, acc, S2, s2, hd, ha, hn, hb, p2⟩
  have lat : LatC G B1 H1 B2 H2 := ⟨s2, S2.bh, S2.gok⟩
  by_cases hlt : i < ds.length
  · refine .inr ⟨it.go i _ _ lat hlt, fun H' => Inv' (i + 1) H', fun H' z => ⟨ds.length - (i + 1), by omega, rfl, z⟩, fun x H3 y => ?_⟩
    obtain ⟨d, B3, e1, e2, s3, b3, g3⟩ := it.yld i _ _ x H3 lat hlt y
    have S3 := S2.step s3 b3 g3
    have trk : hide G H2 Dl = some (SetO X.w Dl f n) := by rw [hide_out dG]; exact hd
    have q3 := turn i acc d e1 p2
    have fin : ∀ (xs : List V) (es : List D), DpAll X.K B3 xs es → (∀ i ∈ is, i < ρ.length) → wt (putA (wipeR ρ vs) is es) (fun b => if b = true then we (putA (wipeR ρ vs) is es) (fun r => ∃ z, r = .s (.int z) ∧ acc.length < 4000 ∧ P (i + 1) (acc ++ [z])) (fun _ => False) else P (i + 1) acc) (fun _ => False) →
        (wipe (putV (wipe σ vs) is xs) vs = wipe σ vs ∧ TDt X.K W0 wt (putV (wipe σ vs) is xs) H3 fun b H4 => if b = true then TDe X.K W0 we (putV (wipe σ vs) is xs) H4 fun y H5 => ∃ (c : Int) (S : Int → Bool) (n : Nat), y = .int c ∧ H5 Dl = some (SetO X.w Dl S n) ∧ n + 1 < scanBound ∧
          Inv' (i + 1) (upd H5 Dl (SetO X.w Dl (fun j => S j || decide (j = c)) (if S c = true then n else n + 1))) else Inv' (i + 1) H4) := by
      intro xs es hx hl q
      refine ⟨wipe_putV is xs _ (wipe_wipe vs fun _ h => h) hsub, ?_⟩
      have T3 : Stt X.K G B0 H0 B3 H3 (putV (wipe σ vs) is xs) (putA (wipeR ρ vs) is es) := Stt.putA is (S3.wipe vs) hx fun i hi => by rw [wipeR_length]; exact hl i hi
      refine ⟨G, B0, H0, B3, _, _, _, T3, q, fun b B4 H4 T4 s4 q4 => ?_, fun _ _ _ _ z => z.elim⟩
      have S4 := S3.step s4 T4.bh T4.gok
      cases b with
      | false => exact iteF ⟨hlt, B4, f, n, acc, S4, (s2.trans s3).trans s4, (hide_some (s4.hh _ _ (s3.hh _ _ trk))).2, ha, hn, s4.nw _ _ (s3.nw _ _ hb trk) (s3.hh _ _ trk), (if_neg Bool.false_ne_true).mp q4⟩
      | true =>
        refine iteT ⟨G, B0, H0, B4, _, _, _, T4, (if_pos rfl).mp q4, fun r y B5 H5 T5 s5 r5 ⟨z, ez, hlen, p5⟩ => ?_, fun _ _ _ _ z => z.elim⟩
        subst ez
        cases r5.int
        have S5 := S4.step s5 T5.bh T5.gok
        have t5 := s5.hh _ _ (s4.hh _ _ (s3.hh _ _ trk))
        have b5 : B5 Dl = none := s5.nw _ _ (s4.nw _ _ (s3.nw _ _ hb trk) (s3.hh _ _ trk)) (s4.hh _ _ (s3.hh _ _ trk))
        have s15 := ((s2.trans s3).trans s4).trans s5
        refine ⟨z, f, n, rfl, (hide_some t5).2, by unfold scanBound; omega, hlt, B5, _, _, acc ++ [z], S5.side b5 dG d0 aw, ⟨s15.bb, fun b v e => ?_, s15.nw⟩, upd_same, fun k => ?_, ?_, b5, p5⟩
        · rw [hide_upd dG, upd_ne (ne_of_none e (hide_free hD))]
          exact s15.hh _ _ e
        · rw [Bool.or_eq_true, decide_eq_true_iff, ha k, List.mem_append, List.mem_singleton]
        · rw [List.length_append, List.length_singleton]
          split <;> omega
    cases tup with
    | true =>
      obtain ⟨es, rfl, hn', hl, q4⟩ := (if_pos rfl).mp q3
      cases e2 with
      | tup k1 k2 => exact ⟨_, _, rfl, (k1.up (b3.trans (hide_le H3))).t, k2.length.trans hn', gNames_ok is _ _ _ _ (k2.length.trans hn') (fin _ es k2 hl q4)⟩
    | false =>
      rcases h1 with h1 | ⟨i1, rfl⟩
      · cases h1
      · obtain ⟨hl, q4⟩ := (if_neg Bool.false_ne_true).mp q3
        exact fin [x] [d] (.cons e2 .nil) hl q4
  · have e : i = ds.length := by omega
    subst e
    obtain ⟨d1, d2⟩ := done acc p2
    exact .inl ⟨it.stop _ _ lat, set_end ok S2 (s1.trans s2) hd ha (by omega) d2⟩
end DL

set_option Elab.async false
set_option linter.all false
set_option maxRecDepth 100000
set_option maxHeartbeats 4000000
/-! The data layer: x[::-1], max of a list, a, b, .. = x, y, .. of what is one's own. -/
namespace DL
open PySem PySem.Spec PyProof.Rows L2
section
variable {prog : Program} {w : World} {A : Around} {E : Value → Shared → Prop} {s : Shared}
theorem fm_congr {α β : Type} {f g : α → Option β} : ∀ {l : List α}, (∀ x ∈ l, f x = g x) → l.filterMap f = l.filterMap g
  | [], _ => rfl
  | x :: l, h => by rw [List.filterMap_cons, List.filterMap_cons, h x List.mem_cons_self, fm_congr fun y hy => h y (List.mem_cons_of_mem _ hy)]
theorem back_range (xs : Array Value) : ((List.range xs.size).filterMap fun (k : Nat) => xs[((xs.size : Int) - 1 + (k : Int) * -1).toNat]?) = xs.toList.reverse := by
  refine List.ext_getElem? fun i => ?_
  have e : ((List.range xs.size).filterMap fun (k : Nat) => xs[((xs.size : Int) - 1 + (k : Int) * -1).toNat]?) = (List.range xs.size).filterMap fun (k : Nat) => xs.toList.reverse[k]? := by
    refine fm_congr fun k hk => ?_
    have hk := List.mem_range.mp hk
    rw [List.getElem?_reverse (by rw [Array.length_toList]; exact hk), Array.length_toList, Array.getElem?_toList]
    congr 1
    omega
  rw [e]
  have l : xs.size = xs.toList.reverse.length := by rw [List.length_reverse, Array.length_toList]
  rw [l]
  generalize xs.toList.reverse = ys
  congr 1
  induction ys with
  | nil => rfl
  | cons y ys ih =>
    rw [List.length_cons, List.range_succ_eq_map, List.filterMap_cons]
    simp only [List.getElem?_cons_zero, List.filterMap_map]
    refine congrArg (y :: ·) ?_
    refine Eq.trans (fm_congr fun k _ => ?_) ih
    simp
theorem cut_back {sl : Addr} {vl vu vs : Value} {n : Nat} {Q : Int × Int × Nat → Shared → Prop} (hs : s.heap.IsSliceOf sl vl vu vs) (pl : IsPart vl none) (pu : IsPart vu none) (ps : IsPart vs (some (-1))) (h : Q ((n : Int) - 1, -1, n) s) :
    wpAny (model prog w) A (Builtin.Slice.sliceApplied (.ref sl) (pure (n : Int))) Q E s := by
  obtain ⟨os, hos, hcs, hds⟩ := id hs
  unfold Builtin.Slice.sliceApplied Builtin.Slice.sliceFields
  refine wpAny_bind (wpAny_bind (wpAny_field hos hds (x := vl) rfl (wpAny_bind (wpAny_field hos hds (x := vu) rfl (wpAny_bind (wpAny_field hos hds (x := vs) rfl (wpAny_pure ?_)))))))
  refine wpAny_bind (HT.slicePart_ ps ?_)
  show wpAny _ _ (if ((-1 : Int) == 0) = true then _ else _) _ _ s
  rw [if_neg (by decide)]
  refine wpAny_bind (HT.slicePart_ pl (wpAny_bind (HT.slicePart_ pu (wpAny_bind (wpAny_pure ?_)))))
  have e1 : Builtin.Slice.sliceAdjust none none (-1) (n : Int) = ((n : Int) - 1, -1) := by
    unfold Builtin.Slice.sliceAdjust
    simp
  have e2 : Builtin.Slice.slicePlaces ((n : Int) - 1) (-1) (-1) = n := by
    unfold Builtin.Slice.slicePlaces
    simp
    omega
  show wpAny _ _ (match Builtin.Slice.sliceAdjust none none (-1) (n : Int) with | (lo, hi) => pure (lo, (-1 : Int), Builtin.Slice.slicePlaces lo hi (-1))) _ _ s
  rw [e1]
  show wpAny _ _ (pure (((n : Int) - 1), (-1 : Int), Builtin.Slice.slicePlaces ((n : Int) - 1) (-1) (-1))) _ _ s
  rw [e2]
  exact wpAny_pure h
theorem item_back {t sl : Addr} {its : Array Value} {vl vu vs : Value} {Q : Value → Shared → Prop} (ht : IsTup s.heap t its) (hs : s.heap.IsSliceOf sl vl vu vs) (pl : IsPart vl none) (pu : IsPart vu none) (ps : IsPart vs (some (-1))) (hsz : its.size ≤ sizeLine)
    (h : Q (.ref s.heap.objs.size) { s with heap := s.heap.push { cls := .type "tuple", data := .seq its.toList.reverse.toArray } }) : wpAny (model prog w) A (getItem (.ref t) (.ref sl)) Q E s := by
  obtain ⟨os, hos, hcs, hds⟩ := id hs
  have hTs : s.TypeIs (.ref sl) "slice" := ⟨os, hos, hcs⟩
  have fits : sizeOk (.seq its.toList.reverse.toArray) := by
    show its.toList.reverse.toArray.size ≤ sizeLine
    rw [List.size_toArray, List.length_reverse, Array.length_toList]
    exact hsz
  unfold getItem
  try with_reducible refine wpAny_holding ?_
  first | refine wpAny_bind (wpAny_pure ?_) | skip
  refine wpAny_bind (wpAny_sequenceKey ht.typeIs (by decide) ?_)
  refine wpAny_bind (wpAny_callSpecial?_slot (name := Str.ofString "__getitem__") ht.typeIs PyProof.Rows.slot_tuple_getitem (wpAny_call_entry PyProof.Rows.slot_tuple_getitem ht.typeIs entry_tuple_getitem ?_ (args_tuple_getitem _ _)))
  show wpAny _ _ (Builtin.Tuple.tupleItemsOf (.ref t) >>= _) _ _ s
  refine wpAny_bind (tupleItemsOf_ ht (wpAny_bind (wpAny_typeOf hTs ?_)))
  rw [if_pos (by decide)]
  refine wpAny_bind (cut_back hs pl pu ps ?_)
  have no : ¬ ((((its.size : Int) - 1) == 0 && (-1 : Int) == 1 && its.size == its.size) = true) := by simp
  show wpAny _ _ (if (((its.size : Int) - 1) == 0 && (-1 : Int) == 1 && its.size == its.size) = true then _ else _) _ _ s
  rw [if_neg no, back_range]
  first
    | exact wpAny_bind (m := Builtin.Tuple.tupleExact _) (wpAny_newObj_type (wpAny_pure ⟨_, rfl, wpAny_pure h⟩) fits)
    | exact wpAny_bind (m := Builtin.Tuple.tupleExact _) (wpAny_newObj_type (wpAny_bind (wpAny_pure (wpAny_pure ⟨_, rfl, wpAny_pure h⟩))) fits)
    | exact wpAny_bind (wpAny_bind (m := Builtin.Tuple.tupleExact _) (wpAny_newObj_type (wpAny_pure (wpAny_pure ⟨_, rfl, wpAny_pure h⟩)) fits))
    | exact wpAny_bind (wpAny_bind (m := Builtin.Tuple.tupleExact _) (wpAny_newObj_type (wpAny_pure ⟨_, rfl, wpAny_pure h⟩) fits))
end
def tRevB (K : Frag) (te : TE) : TE := fun σ H Q => te σ H fun x H1 => ∃ a xs, x = .ref a ∧ ((SqL K H1 a xs ∧ ∀ p, H1 p = none → Q (.ref p) (upd H1 p (.lst xs.reverse))) ∨ (SqT K H1 a xs ∧ NewT xs.reverse H1 Q))
theorem peN_rev {X : Cx} {e : Expr} {te : TE} {k : Nat} {p1 p2 p3 pos : Pos} (he : PE X e te) : PE X (.Subscript e (.Slice none none (some (.UnaryOp .USub (.Constant (.int 1) k p1) p2)) p3) pos) (tRevB X.K te) := by
  refine ⟨fun pins s σ H Q I h => Subscript_ (thn (he.run pins s σ H _ I h) fun v s1 ⟨x, H1, I1, r1, a, xs, ex, hx⟩ => ?_)⟩
  subst ex
  cases r1
  have neg1 : PO X (some (.UnaryOp .USub (.Constant (.int 1) k p1) p2)) (tPart (tUn (rU fun i => .int (-i)) (tC (.int 1)))) := po_some (pe_un un_neg pe_int)
  refine wpAny_Slice (thn (po_none.run pins s1 σ H1 (fun o H2 => o = none ∧ H2 = H1) I1 ⟨rfl, rfl⟩) fun vl s2 ⟨l, H2, I2, pl, el, e2⟩ => thn (po_none.run pins s2 σ H2 (fun o H3 => o = none ∧ H3 = H2) I2 ⟨rfl, rfl⟩) fun vu s3 ⟨u, H3, I3, pu, eu, e3⟩ =>
    thn (neg1.run pins s3 σ H3 (fun o H4 => o = some (-1) ∧ H4 = H3) I3 ⟨1, rfl, -1, rfl, rfl, rfl⟩) fun vs s4 ⟨o, H4, I4, ps, eo, e4⟩ => ?_)
  subst el e2 eu e3 eo e4
  have I5 : Inv X pins σ H4 { s4 with heap := s4.heap.push { cls := .type "slice", data := .fields #[vl, vu, vs] } } := I4.kept (t' := s4.toks) fun b ob q => Heap.get?_push_of_some _ q
  show wpAny (model X.prog X.w) X.A (subscriptTail e (.Slice none none (some (.UnaryOp .USub (.Constant (.int 1) k p1) p2)) p3) (.ref a) (.ref s4.heap.objs.size)) (EP X pins σ Q) X.xe { s4 with heap := s4.heap.push { cls := .type "slice", data := .fields #[vl, vu, vs] } }
  rcases hx with ⟨hx, q⟩ | ⟨hx, q⟩
  · obtain ⟨its, r, ht, hz⟩ := I5.list hx
    have hlen := r.length
    refine tail_any (ops := [.ref a, .ref s4.heap.objs.size]) ht.isList.typeIs (PySem.slot_list_getitem.lookup) (wpAny_getItem_list_slice ht.isList (Heap.IsSliceOf.new _ vl vu vs) pl pu ps (by decide) ?_ (by rw [List.size_toArray]; omega)) (by with_unfolding_all rfl)
    rw [PySem.W.krv_pick]
    exact ⟨.ref _, _, I5.laid (t' := s4.toks) (o := .lst xs.reverse) (fun b ob q => Heap.get?_push_of_some _ q) (Nat.le_refl _) ⟨by rw [List.length_reverse]; exact hz, _, 0, r.reverse, Heap.get?_push_size _ rfl⟩, rfl, q _ (I5.hok.fresh (Nat.le_refl _))⟩
  · obtain ⟨its, r, ht, hz⟩ := I5.tuple hx
    have hlen := r.length
    exact tail_any (ops := [.ref a, .ref s4.heap.objs.size]) ht.typeIs PyProof.Rows.slot_tuple_getitem.lookup (item_back ht (Heap.IsSliceOf.new _ vl vu vs) pl pu ps (by rw [List.size_toArray]; omega) (new_t I5 r.reverse (by rw [List.length_reverse]; exact hz) q)) (by with_unfolding_all rfl)
def wRev (w : EW) : EW := fun ρ Q E => w ρ (fun r => (∃ ds, r = .s (.tuple ds) ∧ Q (.s (.tuple ds.reverse))) ∨ ∃ ds, ((∃ o, r = .l o ds) ∨ r = .s (.list ds)) ∧ Q (.l true ds.reverse)) E
theorem pd_rev {X : Cx} {W : WX} {e : Expr} {w : EW} (h : PE X e (tRevB X.K (TDe X.K W w))) : PD X W e (wRev w) := pe_imp h fun σ H Q ⟨G, B0, H0, B, ρ, Qd, Qe, S, q, ok, er⟩ => by
  refine ⟨G, B0, H0, B, ρ, _, Qe, S, q, fun r x B1 H1 S1 s1 r1 q1 => ?_, er⟩
  have c : Ctx X.K G B1 H1 := ⟨S1.bh, S1.gok⟩
  have k : ∀ Qd', Qd' = Qd → Cont X.K G B1 H1 Qd' Q := fun Qd' e r z B' H' s bh g hr q' => ok r z B' H' (S1.step s bh g) (s1.trans s) (hr.from s1) (e ▸ q')
  rcases q1 with ⟨ds, rfl, q1⟩ | ⟨ds, hr, q1⟩
  · obtain ⟨p, xs, rfl, h1, h2⟩ := r1.tup
    exact ⟨p, xs, rfl, .inr ⟨(h1.up c.le).t, (k _ rfl).tup c h2.reverse q1⟩⟩
  · rcases hr with ⟨o, rfl⟩ | rfl
    · obtain ⟨p, xs, rfl, h1, h2, _⟩ := r1
      exact ⟨p, xs, rfl, .inl ⟨.inl (.inl (hide_some h1).2), fun l hl => (k _ rfl).lst c hl h2.reverse q1⟩⟩
    · cases (show Dp X.K B1 x (.list ds) from r1) with
      | lst h1 h2 => exact ⟨_, _, rfl, .inl ⟨Same.sqL c.le h1, fun l hl => (k _ rfl).lst c hl h2.reverse q1⟩⟩
/-! max of a list -/
def fMax1 : FL := fun rs Q => ∃ (o : Bool) (ns : List Int), rs = [.l o (ns.map PyData.int)] ∧ ns ≠ [] ∧ ∀ m, m ∈ ns → (∀ y ∈ ns, y ≤ m) → Q (.s (.int m))
theorem c_max1 {X : Cx} (hc : X.calm = true) : CallR X (.builtin "max") (liftL X.K fMax1) := by
  intro pins s σ H xs us Q I rx hh
  obtain ⟨G, Hs, B, rs, Qd, c, ra, ⟨o, ns, rfl, hn, q⟩, k⟩ := hh
  obtain ⟨x, rfl, p, xs, rfl, h1, h2, _⟩ := ra.one
  cases h2.ints'
  exact cr_max hc pins s σ H _ us Q I rx ⟨p, ns, rfl, .inl (.inl (hide_some h1).2), List.length_pos_iff.mpr hn, fun m hm hy => k.dat c (.int _) (q m hm hy)⟩
end DL

set_option Elab.async false
set_option linter.all false
set_option maxRecDepth 100000
/-! The data layer: a, b, c = x, y, z. -/
namespace DL
open PySem PySem.Spec PyProof.Rows L2
def putRs (ρ : Rho) : List Nat → List R → Rho
  | i :: is, r :: rs => putRs (ρ.set i (some r)) is rs
  | _, _ => ρ
theorem Stt.putMany {K : Frag} {G : Gh} {B0 H0 B' H' H : Hp} : ∀ (is : List Nat) {xs : List V} {rs : List R} {σ : L2.St} {ρ : Rho}, Stt K G B0 H0 B' H' σ ρ → RsAll K G H B' H' xs rs → Same (hide G H0) (hide G H) → Apart xs rs → rs.all keeps = true → (∀ i ∈ is, i < ρ.length) → rs.length = is.length →
    (∀ (m : Nat) (v : R) (z : V), ρ[m]? = some (some v) → owns v = true → σ[m]? = some (some z) → ∀ (j : Nat) (u : R), rs[j]? = some u → owns u = true → xs[j]? ≠ some z) → Stt K G B0 H0 B' H' (putV σ is xs) (putRs ρ is rs)
  | [], _, _, _, _, S, .nil, _, _, _, _, _, _ => S
  | [], _, _, _, _, _, .cons _ _, _, _, _, _, hl, _ => by cases hl
  | _ :: _, _, _, _, _, _, .nil, _, _, _, _, hl, _ => by cases hl
  | i :: is, _, _, σ, ρ, S, .cons (x := x) (xs := xs) (r := r) (rs := rs) h t, hs, ap, kp, hi, hl, D => by
    rw [List.all_cons, Bool.and_eq_true] at kp
    have i0 : i < ρ.length := hi i List.mem_cons_self
    have i1 : i < σ.length := by rw [← S.len]; exact i0
    have S1 : Stt K G B0 H0 B' H' (σ.set i (some x)) (ρ.set i (some r)) := S.fillG (h.slot kp.1 hs) i i1 fun m v z hm e1 o1 o2 e2 e3 => D m v z e1 o2 e2 0 r rfl o1 (by rw [e3]; rfl)
    refine Stt.putMany is S1 t hs ap.2 kp.2 (fun j hj => by rw [List.length_set]; exact hi j (List.mem_cons_of_mem _ hj)) (Nat.succ.inj hl) fun m v z e1 o e2 j u e3 o3 => ?_
    by_cases q : m = i
    · subst q
      rw [List.getElem?_set_self i0] at e1; cases e1
      rw [List.getElem?_set_self i1] at e2; cases e2
      exact ap.1 o j u e3 o3
    · rw [List.getElem?_set_ne (Ne.symm q)] at e1 e2
      exact D m v z e1 o e2 (j + 1) u e3 o3
def wParN (is : List Nat) (ws : AW) : SW := fun ρ E => ws ρ (fun rs => rs.length = is.length ∧ rs.all keeps = true ∧ (∀ i ∈ is, i < ρ.length) ∧ E.nx (putRs ρ is rs)) (fun cls => E.er cls ρ)
section
variable {X : Cx} {W : WX} {st : Stmt} {ws : AW}
theorem par_core {K : Frag} {G : Gh} {B0 H0 B H B' H' : Hp} {σ : L2.St} {ρ : Rho} {is : List Nat} {xs : List V} {rs : List R} (S : Stt K G B0 H0 B H σ ρ) (S' : Stt K G B0 H0 B' H' σ ρ) (s : Stp G B H B' H') (r : RsAll K G H B' H' xs rs) (ap : Apart xs rs) (hl : rs.length = is.length) (kp : rs.all keeps = true) (hi : ∀ i ∈ is, i < ρ.length) :
    Stt K G B0 H0 B' H' (putV σ is xs) (putRs ρ is rs) :=
  Stt.putMany is S' r S.st.hh ap kp hi hl fun m v z e1 o e2 j u e3 o3 e4 => by
    obtain ⟨y, f1, f2⟩ := r.get e3
    rw [f1] at e4
    cases e4
    exact S.away f2 o3 m v _ e1 o e2 rfl
theorem pds_par3 {i j l : Nat} (h : PS X st (tPar3 i j l (TDa X.K W ws))) : PSD X W st (wParN [i, j, l] ws) := ps_imp h fun D σ H ⟨G, B0, H0, B, ρ, E, S, q, lk⟩ => by
  refine ⟨G, B0, H0, B, ρ, _, _, S, q, fun rs xs B' H' S' s r ap ⟨hl, kp, hi, q'⟩ => ?_, fun cls d B' H' q' S' s => lk.er cls d ρ σ B' H' S' s.bb q'⟩
  have fin := par_core S S' s r ap hl kp hi
  match xs, rs, r, hl, fin, q' with
  | [x, y, z], [_, _, _], _, _, fin, q' => exact ⟨x, y, z, rfl, lk.nx _ _ _ _ fin s.bb q'⟩
  | [], [_, _, _], r, _, _, _ => cases r
  | [_], [_, _, _], r, _, _, _ => cases r with | cons _ t => cases t
  | [_, _], [_, _, _], r, _, _, _ => cases r with | cons _ t => cases t with | cons _ t => cases t
  | _ :: _ :: _ :: _ :: _, [_, _, _], r, _, _, _ => cases r with | cons _ t => cases t with | cons _ t => cases t with | cons _ t => cases t
  | _, [], _, hl, _, _ => cases hl
  | _, [_], _, hl, _, _ => cases hl
  | _, [_, _], _, hl, _, _ => cases hl
  | _, _ :: _ :: _ :: _ :: _, _, hl, _, _ => cases hl
theorem pds_parT {is : List Nat} (hz : is.length ≤ 1000) (h : PS X st (tAsg (tTupN (TDa X.K W ws)) (gTup X.K is.length (gNames is)))) : PSD X W st (wParN is ws) := ps_imp h fun D σ H ⟨G, B0, H0, B, ρ, E, S, q, lk⟩ => by
  refine ⟨G, B0, H0, B, ρ, _, _, S, q, fun rs xs B' H' S' s r ap ⟨hl, kp, hi, q'⟩ => ?_, fun cls d B' H' q' S' s => lk.er cls d ρ σ B' H' S' s.bb q'⟩
  have hx : xs.length = is.length := r.length.trans hl
  refine ⟨?_, fun p o hp hn => ⟨p, xs, rfl, .inl (.inr ⟨o, upd_same⟩), hx, gNames_ok is xs _ _ _ hx ?_⟩⟩
  · rw [line_eq, hx]; omega
  · have fin := par_core S S' s r ap hl kp hi
    exact lk.nx _ _ _ _ (fin.new hp) s.bb q'
end
end DL

set_option Elab.async false
set_option linter.all false
set_option maxRecDepth 100000
/-! The data layer: words for plain proofs about dicts. -/
namespace DL
open PySem PySem.Spec PyProof.Rows L2
theorem kv_k (o : Bool) (kvs : List (Key × D)) : R.kv (.k o kvs) = some kvs := rfl
theorem kv_d (kvs : List (Key × D)) : R.kv (.s (.dict (kvD kvs))) = some kvs := unK_kvD kvs
theorem kv_t (l : List D) : R.kv (.s (.tuple l)) = none := rfl
theorem kv_L (l : List D) : R.kv (.s (.list l)) = none := rfl
theorem kv_l (o : Bool) (l : List D) : R.kv (.l o l) = none := rfl
theorem kv_i (i : Int) : R.kv (.s (.int i)) = none := rfl
theorem kv_s (i : Str) : R.kv (.s (.str i)) = none := rfl
theorem seq_k (o : Bool) (kvs : List (Key × D)) : R.seq (.k o kvs) = none := rfl
theorem seq_d (l : List (D × D)) : R.seq (.s (.dict l)) = none := rfl
theorem seq_i (i : Int) : R.seq (.s (.int i)) = none := rfl
theorem seq_s (i : Str) : R.seq (.s (.str i)) = none := rfl
theorem frz_k (kvs : List (Key × D)) : frz (.k true kvs) = .s (.dict (kvD kvs)) := rfl
theorem peek_k (o : Bool) (kvs : List (Key × D)) : peek (.k o kvs) = .k false kvs := rfl
theorem keeps_k (kvs : List (Key × D)) : keeps (.k true kvs) = true := rfl
theorem keeps_g : keeps .g = true := rfl
theorem owns_k (kvs : List (Key × D)) : owns (.k true kvs) = true := rfl
theorem owns_l (l : List D) : owns (.l true l) = true := rfl
theorem putR_l (ds : List D) (z : R) (d : D) (k : R → Prop) : putR (.l true ds) z d k = ∃ n j, z = .s (.int n) ∧ ixN ds.length n = some j ∧ k (.l true (ds.set j d)) := rfl
theorem putR_k (kvs : List (Key × D)) (z : R) (d : D) (k : R → Prop) : putR (.k true kvs) z d k = ∃ e y, z = .s e ∧ ofK e = some y ∧ kvs.length < 16777216 ∧ k (.k true (kPut kvs y d)) := rfl
theorem frzR_s (d : D) (k : R → Prop) : frzR (.s d) k = k (.s d) := rfl
theorem frzR_l (ds : List D) (k : R → Prop) : frzR (.l true ds) k = k (.s (.list ds)) := rfl
theorem frzR_k (kvs : List (Key × D)) (k : R → Prop) : frzR (.k true kvs) k = k (.s (.dict (kvD kvs))) := rfl
theorem putRs_nil (ρ : Rho) (rs : List R) : putRs ρ [] rs = ρ := rfl
theorem putRs_cons (ρ : Rho) (i : Nat) (is : List Nat) (r : R) (rs : List R) : putRs ρ (i :: is) (r :: rs) = putRs (ρ.set i (some r)) is rs := rfl
theorem zip_t (xs ys : List D) : zipOf (.s (.tuple xs)) (.s (.tuple ys)) = some (zipD xs ys) := rfl
theorem ofK_int (i : Int) : ofK (.int i) = some (.inl i) := rfl
theorem ofK_str (i : Str) : ofK (.str i) = some (.inr i) := rfl
theorem all_keeps (r : R) (rs : List R) : (r :: rs).all keeps = (keeps r && rs.all keeps) := rfl
theorem all_keeps0 : ([] : List R).all keeps = true := rfl
/-! dicts with int keys: as functions -/
def iK (kvs : List (Int × Int)) : List (Key × D) := kvs.map fun p => (Sum.inl p.1, PyData.int p.2)
def iGet (kvs : List (Int × Int)) (k : Int) : Option Int := (kvs.find? fun p => decide (p.1 = k)).map (·.2)
theorem iGet_k (k : Int) : ∀ kvs : List (Int × Int), kGet (iK kvs) (.inl k) = (iGet kvs k).map PyData.int
  | [] => rfl
  | p :: r => by
    have ih := iGet_k k r
    unfold kGet iK iGet at ih ⊢
    rw [List.map_cons, List.find?_cons, List.find?_cons]
    by_cases e : p.1 = k
    · simp [e]
    · have e' : ¬ (Sum.inl p.1 : Key) = Sum.inl k := fun z => e (Sum.inl.inj z)
      simp only [e, e', decide_false]
      exact ih
theorem iK_len (kvs : List (Int × Int)) : (iK kvs).length = kvs.length := by simp [iK]
end DL

set_option Elab.async false
set_option linter.all false
set_option maxRecDepth 100000
/-! The data layer: readings as words that a simp can walk from the top (made by mkdlu.py). -/
namespace DL
open PySem PySem.Spec PyProof.Rows L2
def peekQ (r : R) (Q : R → Prop) : Prop := Q (peek r)
def frzQ (r : R) (Q : R → Prop) : Prop := Q (frz r)
def getQ (i : Nat) (ρ : Rho) (k : R → Prop) : Prop := ∃ r, ρ[i]? = some (some r) ∧ k r
def setQ (i : Nat) (ρ : Rho) (r : R) (k : Rho → Prop) : Prop := i < ρ.length ∧ k (ρ.set i (some r))
def keepQ (r : R) (P : Prop) : Prop := keeps r = true ∧ P
def boolQ (r : R) (Q : Bool → Prop) : Prop := ∃ b, r = .s (.bool b) ∧ Q b
def intQ (r : R) (Q : Int → Prop) : Prop := ∃ n, r = .s (.int n) ∧ Q n
def datQ (r : R) (Q : D → Prop) : Prop := ∃ d, r.dat = some d ∧ Q d
def lookQ (r : R) (Q : D → Prop) : Prop := ∃ d, r.look = some d ∧ Q d
def seqQ (r : R) (Q : List D → Prop) : Prop := ∃ ds, r.seq = some ds ∧ Q ds
def stabQ (r : R) (Q : List D → Prop) : Prop := ∃ ds, r.stab = some ds ∧ Q ds
def kvQ (r : R) (Q : List (Key × D) → Prop) : Prop := ∃ kvs, r.kv = some kvs ∧ Q kvs
def ownQ (r : R) (Q : List D → Prop) : Prop := ∃ ds, r = .l true ds ∧ Q ds
def ownKQ (r : R) (Q : List (Key × D) → Prop) : Prop := ∃ ds, r = .k true ds ∧ Q ds
def lQ (r : R) (Q : List D → Prop) : Prop := ∃ o ds, r = .l o ds ∧ Q ds
def keyQ (r : R) (Q : Key → Prop) : Prop := ∃ e y, r = .s e ∧ ofK e = some y ∧ Q y
def popQ (l : List D) (Q : List D → D → Prop) : Prop := ∃ ds d, l = ds ++ [d] ∧ Q ds d
def tupQ (rs : List R) (Q : R → Prop) : Prop := ∃ ds, dats rs = some ds ∧ ds.length ≤ 16777216 ∧ Q (.s (.tuple ds))
def lstQ (rs : List R) (Q : R → Prop) : Prop := ∃ ds, dats rs = some ds ∧ ds.length ≤ 16777216 ∧ Q (.l true ds)
def parQ : List Nat → List R → Rho → (Rho → Prop) → Prop
  | [], [], ρ, k => k ρ
  | i :: is, r :: rs, ρ, k => keepQ r (setQ i ρ r fun ρ' => parQ is rs ρ' k)
  | _, _, _, _ => False
def pksQ : List R → (List R → Prop) → Prop
  | [], k => k []
  | r :: rs, k => peekQ r fun r' => pksQ rs fun rs' => k (r' :: rs')
def forQ (g : GW) (v : SW) (ρ : Rho) (E : DEnds) (ds : List D) : Prop := ∃ P : Nat → Rho → Prop, P 0 ρ ∧ (∀ i d ρ', ds[i]? = some d → P i ρ' → g d ρ' fun ρ2 => v ρ2 { E with nx := P (i + 1), ct := P (i + 1), bk := E.nx }) ∧
  ∀ ρ', P ds.length ρ' → E.nx ρ'
def lcQ (tup : Bool) (is vs : List Nat) (wt : TW) (we : EW) (ρ : Rho) (Q : R → Prop) (ds : List D) : Prop := ∃ P : Nat → List D → Prop, P 0 [] ∧
  (∀ k acc d, ds[k]? = some d → P k acc → gwNames tup is d fun es => (∀ i ∈ is, i < ρ.length) ∧ wt (putA (wipeR ρ vs) is es) (fun b => if b = true then we (putA (wipeR ρ vs) is es) (fun r => ∃ z, r.dat = some z ∧ acc.length < 16777216 ∧ P (k + 1) (acc ++ [z])) (fun _ => False) else P (k + 1) acc) (fun _ => False)) ∧
  ∀ acc, P ds.length acc → Q (.l true acc)
def scQ (tup : Bool) (is vs : List Nat) (wt : TW) (we : EW) (ρ : Rho) (Q : R → Prop) (ds : List D) : Prop := ∃ P : Nat → List Int → Prop, P 0 [] ∧
  (∀ k acc d, ds[k]? = some d → P k acc → gwNames tup is d fun es => (∀ i ∈ is, i < ρ.length) ∧ wt (putA (wipeR ρ vs) is es) (fun b => if b = true then we (putA (wipeR ρ vs) is es) (fun r => ∃ z, r = .s (.int z) ∧ acc.length < 4000 ∧ P (k + 1) (acc ++ [z])) (fun _ => False) else P (k + 1) acc) (fun _ => False)) ∧
  ∀ acc, P ds.length acc → acc.length ≤ 4000 ∧ ∀ ns', SortedOf acc ns' → Q (.l true (ns'.map PyData.int))
theorem get_lt {α : Type} {l : List α} {i : Nat} {x : α} (h : l[i]? = some x) : i < l.length := (List.getElem?_eq_some_iff.mp h).1
section
variable (i j : Nat) (w u wa wb wc : EW) (ws : AW) (wt : TW) (wi : IW) (g : GW) (v : SW) (ρ : Rho) (Q : R → Prop) (E : Value → Prop) (Y : DEnds) (P : Prop)

theorem u_var : wVar i ρ Q E = getQ i ρ fun r => peekQ r Q := rfl
theorem u_frz : wFrz w ρ Q E = w ρ (fun r => frzQ r Q) E := rfl
theorem u_tup : wTup ws ρ Q E = ws ρ (fun rs => tupQ rs Q) E := rfl
theorem u_lst : wLst ws ρ Q E = ws ρ (fun rs => lstQ rs Q) E := rfl
theorem u_tst (T : Bool → Prop) : wTst w ρ T E = w ρ (fun r => boolQ r T) E := rfl
theorem u_andV : wAndV wa wb ρ Q E = wa ρ (fun r => boolQ r fun b => if b = true then wb ρ Q E else Q (.s (.bool false))) E := rfl
theorem u_orV : wOrV wa wb ρ Q E = wa ρ (fun r => boolQ r fun b => if b = true then Q (.s (.bool true)) else wb ρ Q E) E := rfl
theorem u_notV : wNotV wa ρ Q E = wa ρ (fun r => boolQ r fun b => Q (.s (.bool (!b)))) E := rfl
theorem u_chain (f f' : F2) : wChain f f' wa wb wc ρ Q E = wa ρ (fun x => wb ρ (fun y => f x y fun r => boolQ r fun k => if k = true then wc ρ (fun z => f' y z Q) E else Q (.s (.bool false))) E) E := rfl
theorem u_asg : wAsg i w ρ Y = w ρ (fun r => keepQ r (setQ i ρ r Y.nx)) (fun cls => Y.er cls ρ) := by
  have e : (fun r => i < ρ.length ∧ keeps r = true ∧ Y.nx (ρ.set i (some r))) = fun r => keepQ r (setQ i ρ r Y.nx) := funext fun r => propext and_left_comm
  unfold wAsg
  rw [e]
theorem u_asgT : wAsgT w g ρ Y = w ρ (fun r => datQ r fun d => g d ρ Y.nx) (fun cls => Y.er cls ρ) := rfl
theorem u_par : wPar i j wa wb ρ Y = wa ρ (fun r => wb ρ (fun u => keepQ r (keepQ u (setQ i ρ r fun ρ1 => setQ j ρ1 u Y.nx))) (fun cls => Y.er cls ρ)) (fun cls => Y.er cls ρ) := by
  have e : ∀ r, (fun u => i < ρ.length ∧ j < ρ.length ∧ keeps r = true ∧ keeps u = true ∧ Y.nx ((ρ.set i (some r)).set j (some u))) = fun u => keepQ r (keepQ u (setQ i ρ r fun ρ1 => setQ j ρ1 u Y.nx)) := fun r => funext fun u => propext (by
    unfold keepQ setQ
    show _ ↔ keeps r = true ∧ keeps u = true ∧ i < ρ.length ∧ j < (ρ.set i (some r)).length ∧ _
    rw [List.length_set]
    exact ⟨fun ⟨a, b, c, d, e⟩ => ⟨c, d, a, b, e⟩, fun ⟨c, d, a, b, e⟩ => ⟨a, b, c, d, e⟩⟩)
  unfold wPar
  simp only [e]
theorem u_aug (f : Int → Int → Int) : wAug i f w ρ Y = getQ i ρ fun r => intQ r fun n => w ρ (fun r => intQ r fun m => setQ i ρ (.s (.int (f n m))) Y.nx) (fun cls => Y.er cls ρ) := by
  unfold wAug getQ intQ setQ
  refine propext ⟨fun ⟨n, h, q⟩ => ⟨_, h, n, rfl, ?_⟩, fun ⟨r, h, n, e, q⟩ => ⟨n, by rw [h, e], ?_⟩⟩
  · simpa only [get_lt h, true_and] using q
  · simpa only [get_lt h, true_and] using q
theorem u_append : wAppend i w ρ Y = getQ i ρ fun r0 => ownQ r0 fun ds => w ρ (fun r => datQ r fun d => ds.length < 16777216 ∧ setQ i ρ (.l true (ds ++ [d])) Y.nx) (fun cls => Y.er cls ρ) := by
  unfold wAppend getQ ownQ datQ setQ
  refine propext ⟨fun ⟨n, h, q⟩ => ⟨_, h, n, rfl, ?_⟩, fun ⟨r, h, n, e, q⟩ => ⟨n, by rw [h, e], ?_⟩⟩
  · simpa only [get_lt h, true_and] using q
  · simpa only [get_lt h, true_and] using q
theorem u_extend : wExtend i w ρ Y = getQ i ρ fun r0 => ownQ r0 fun ds => w ρ (fun r => lQ r fun es => ds.length + es.length ≤ 16777216 ∧ setQ i ρ (.l true (ds ++ es)) Y.nx) (fun cls => Y.er cls ρ) := by
  unfold wExtend getQ ownQ lQ setQ
  refine propext ⟨fun ⟨n, h, q⟩ => ⟨_, h, n, rfl, ?_⟩, fun ⟨r, h, n, e, q⟩ => ⟨n, by rw [h, e], ?_⟩⟩
  · simpa only [get_lt h, true_and] using q
  · simpa only [get_lt h, true_and] using q
theorem u_pop : wPop i g ρ Y = getQ i ρ fun r0 => ownQ r0 fun l => popQ l fun ds d => setQ i ρ (.l true ds) fun ρ' => g d ρ' Y.nx := by
  unfold wPop getQ ownQ popQ setQ
  refine propext ⟨fun ⟨ds, d, h, q⟩ => ⟨_, h, _, rfl, ds, d, rfl, get_lt h, q⟩, ?_⟩
  rintro ⟨r, h, l, rfl, ds, d, rfl, _, q⟩
  exact ⟨ds, d, h, q⟩
theorem u_setIx (we : EW) (wj : EW) : wSetIx i we wj ρ Y = getQ i ρ fun r0 => owns r0 = true ∧ we ρ (fun r => datQ r fun d => wj ρ (fun z => putR r0 z d fun r1 => setQ i ρ r1 Y.nx) (fun cls => Y.er cls ρ)) (fun cls => Y.er cls ρ) := by
  unfold wSetIx getQ datQ setQ
  refine propext ⟨fun ⟨r, h, q⟩ => ⟨r, h, ?_⟩, fun ⟨r, h, q⟩ => ⟨r, h, ?_⟩⟩
  · simpa only [get_lt h, true_and] using q
  · simpa only [get_lt h, true_and] using q
theorem u_dpop : wDPop i w ρ Y = getQ i ρ fun r0 => ownKQ r0 fun kvs => w ρ (fun z => keyQ z fun y => (kGet kvs y).isSome = true ∧ setQ i ρ (.k true (kDrop kvs y)) Y.nx) (fun cls => Y.er cls ρ) := by
  unfold wDPop getQ ownKQ keyQ setQ
  refine propext ⟨fun ⟨n, h, q⟩ => ⟨_, h, n, rfl, ?_⟩, fun ⟨r, h, n, e, q⟩ => ⟨n, by rw [h, e], ?_⟩⟩
  · simpa only [get_lt h, true_and] using q
  · simpa only [get_lt h, true_and] using q
theorem u_frzS : wFrzS i v ρ Y = getQ i ρ fun r => frzR r fun r' => setQ i ρ r' fun ρ' => v ρ' Y := by
  unfold wFrzS getQ setQ
  refine propext ⟨fun ⟨r, h, q⟩ => ⟨r, h, ?_⟩, fun ⟨r, h, q⟩ => ⟨r, h, ?_⟩⟩
  · simpa only [get_lt h, true_and] using q
  · simpa only [get_lt h, true_and] using q
theorem u_retS : wRetS i ρ Y = getQ i ρ Y.rt := rfl
theorem par_iff : ∀ (is : List Nat) (rs : List R) (ρ : Rho) (k : Rho → Prop), (rs.length = is.length ∧ rs.all keeps = true ∧ (∀ i ∈ is, i < ρ.length) ∧ k (putRs ρ is rs)) ↔ parQ is rs ρ k
  | [], [], ρ, k => by simp [parQ, putRs]
  | [], _ :: _, ρ, k => by simp [parQ]
  | _ :: _, [], ρ, k => by simp [parQ]
  | i :: is, r :: rs, ρ, k => by
    have ih := par_iff is rs (ρ.set i (some r)) k
    show _ ↔ keeps r = true ∧ i < ρ.length ∧ parQ is rs (ρ.set i (some r)) k
    rw [← ih]
    simp only [List.length_cons, List.all_cons, Bool.and_eq_true, List.length_set, List.mem_cons, forall_eq_or_imp, putRs_cons]
    constructor
    · rintro ⟨a, ⟨b, c⟩, ⟨d, e⟩, f⟩
      exact ⟨b, d, by omega, c, e, f⟩
    · rintro ⟨b, d, a, c, e, f⟩
      exact ⟨by omega, ⟨b, c⟩, ⟨d, e⟩, f⟩
theorem u_parN (is : List Nat) : wParN is ws ρ Y = ws ρ (fun rs => parQ is rs ρ Y.nx) (fun cls => Y.er cls ρ) := by
  have e : (fun rs : List R => rs.length = is.length ∧ rs.all keeps = true ∧ (∀ i ∈ is, i < ρ.length) ∧ Y.nx (putRs ρ is rs)) = fun rs => parQ is rs ρ Y.nx := funext fun rs => propext (par_iff is rs ρ Y.nx)
  unfold wParN
  rw [e]
theorem u_seqC (T : List D → Prop) : wSeqC w ρ T E = w ρ (fun r => seqQ r T) E := rfl
theorem u_seqF (T : List D → Prop) : wSeqF w ρ T E = w ρ (fun r => stabQ r T) E := rfl
def rng1Q (rs : List R) (Q : List D → Prop) : Prop := ∃ n, rs = [.s (.int n)] ∧ -(2 ^ 62) ≤ n ∧ n < 2 ^ 62 ∧ Q (rangeD 0 n.toNat)
def rng2Q (rs : List R) (Q : List D → Prop) : Prop := ∃ m n, rs = [.s (.int m), .s (.int n)] ∧ (-(2 ^ 62) ≤ m ∧ m < 2 ^ 62 ∧ -(2 ^ 62) ≤ n ∧ n < 2 ^ 62) ∧ Q (rangeD m (n - m).toNat)
theorem u_range1 (T : List D → Prop) : wRange1 ws ρ T E = ws ρ (fun rs => rng1Q rs T) E := rfl
theorem u_range2 (T : List D → Prop) : wRange2 ws ρ T E = ws ρ (fun rs => rng2Q rs T) E := rfl
theorem rng1_at (n : Int) (T : List D → Prop) : rng1Q [.s (.int n)] T = (-(2 ^ 62) ≤ n ∧ n < 2 ^ 62 ∧ T (rangeD 0 n.toNat)) := by simp [rng1Q]
theorem rng2_at (m n : Int) (T : List D → Prop) : rng2Q [.s (.int m), .s (.int n)] T = ((-(2 ^ 62) ≤ m ∧ m < 2 ^ 62 ∧ -(2 ^ 62) ≤ n ∧ n < 2 ^ 62) ∧ T (rangeD m (n - m).toNat)) := propext ⟨fun ⟨_, _, e, h⟩ => by cases e; exact h, fun h => ⟨_, _, rfl, h⟩⟩
def zipQ (rs : List R) (T : List D → Prop) : Prop := ∃ a b l, rs = [a, b] ∧ zipOf a b = some l ∧ T l
theorem u_zip (T : List D → Prop) : wZip ws ρ T E = ws ρ (fun rs => zipQ rs T) E := rfl
theorem zip_at (xs ys : List D) (T : List D → Prop) : zipQ [.s (.tuple xs), .s (.tuple ys)] T = T (zipD xs ys) := propext ⟨fun ⟨_, _, _, e, h, q⟩ => by cases e; cases h; exact q, fun h => ⟨_, _, _, rfl, rfl, h⟩⟩
theorem u_isi (f : D → Bool) : wIsi f w ρ Q E = w ρ (fun r => lookQ r fun d => Q (.s (.bool (f d)))) E := rfl
theorem u_some (T : Option Int → Prop) : wOSome w ρ T E = w ρ (fun r => intQ r fun n => T (some n)) E := rfl
theorem u_for : wFor wi g v ρ Y = wi ρ (fun ds => forQ g v ρ Y ds) (fun cls => Y.er cls ρ) := rfl
theorem u_lc (tup : Bool) (is vs : List Nat) : wLc wi tup is vs wt w ρ Q E = wi ρ (fun ds => lcQ tup is vs wt w ρ Q ds) E := rfl
theorem u_sc (tup : Bool) (is vs : List Nat) : wSortSc wi tup is vs wt w ρ Q E = wi ρ (fun ds => scQ tup is vs wt w ρ Q ds) E := rfl
theorem u_sortIt : wSortIt w ρ Q E = w ρ (fun r => kvQ r fun kvs => (kvs.all fun q => flatD q.2) = true ∧ SrtOk (pairsD kvs) ∧ Q (.l true (sortD (pairsD kvs)))) E := rfl
theorem pks_eq : ∀ (rs : List R) (k : List R → Prop), pksQ rs k = k (rs.map peek)
  | [], k => rfl
  | r :: rs, k => by
    show pksQ rs (fun z => k (peek r :: z)) = _
    rw [pks_eq rs, List.map_cons]
theorem u_call (c : Ct) : wCall c ws ρ Q E = ws ρ (fun rs => pksQ rs fun rs' => c rs' Q E) E := by
  unfold wCall
  simp only [pks_eq]
def revQ (r : R) (Q : R → Prop) : Prop := (∃ ds, r = .s (.tuple ds) ∧ Q (.s (.tuple ds.reverse))) ∨ ∃ ds, ((∃ o, r = .l o ds) ∨ r = .s (.list ds)) ∧ Q (.l true ds.reverse)
theorem u_rev : wRev w ρ Q E = w ρ (fun r => revQ r Q) E := rfl
theorem parQ_nil (ρ : Rho) (k : Rho → Prop) : parQ [] [] ρ k = k ρ := rfl
theorem parQ_cons (i : Nat) (is : List Nat) (r : R) (rs : List R) (ρ : Rho) (k : Rho → Prop) : parQ (i :: is) (r :: rs) ρ k = keepQ r (setQ i ρ r fun ρ' => parQ is rs ρ' k) := rfl
theorem pksQ_nil (k : List R → Prop) : pksQ [] k = k [] := rfl
theorem pksQ_cons (r : R) (rs : List R) (k : List R → Prop) : pksQ (r :: rs) k = peekQ r fun r' => pksQ rs fun rs' => k (r' :: rs') := rfl
end
section
variable (g : GW) (u : GWs) (d : D) (r : List D) (ρ : Rho) (k : Rho → Prop)
theorem gw_name (i : Nat) : gwName i d ρ k = setQ i ρ (.s d) k := rfl
theorem gw_nil : gwNil [] ρ k = k ρ := by simp [gwNil]
theorem gw_cons : gwCons g u (d :: r) ρ k = g d ρ fun ρ' => u r ρ' k := propext ⟨fun ⟨_, _, e, h⟩ => by cases e; exact h, fun h => ⟨_, _, rfl, h⟩⟩
theorem gw_tup (n : Nat) (ds : List D) : gwTup n u (.tuple ds) ρ k = (ds.length = n ∧ u ds ρ k) := by simp [gwTup]
end
section
variable (Q : R → Prop) (P : Prop) (d : D) (ds es : List D) (o o' : Bool) (kvs : List (Key × D)) (i j : Int) (x y : Str) (b : Bool)
theorem peekQ_s : peekQ (.s d) Q = Q (.s d) := rfl
theorem peekQ_l : peekQ (.l o ds) Q = Q (.l false ds) := rfl
theorem peekQ_k : peekQ (.k o kvs) Q = Q (.k false kvs) := rfl
theorem peekQ_g : peekQ .g Q = Q .g := rfl
theorem frzQ_s : frzQ (.s d) Q = Q (.s d) := rfl
theorem frzQ_lt : frzQ (.l true ds) Q = Q (.s (.list ds)) := rfl
theorem frzQ_lf : frzQ (.l false ds) Q = Q (.l false ds) := rfl
theorem frzQ_kt : frzQ (.k true kvs) Q = Q (.s (.dict (kvD kvs))) := rfl
theorem frzQ_kf : frzQ (.k false kvs) Q = Q (.k false kvs) := rfl
theorem keepQ_s : keepQ (.s d) P = P := propext ⟨fun h => h.2, fun h => ⟨rfl, h⟩⟩
theorem keepQ_l : keepQ (.l true ds) P = P := propext ⟨fun h => h.2, fun h => ⟨rfl, h⟩⟩
theorem keepQ_k : keepQ (.k true kvs) P = P := propext ⟨fun h => h.2, fun h => ⟨rfl, h⟩⟩
theorem keepQ_g : keepQ .g P = P := propext ⟨fun h => h.2, fun h => ⟨rfl, h⟩⟩
theorem boolQ_b (T : Bool → Prop) : boolQ (.s (.bool b)) T = T b := propext ⟨fun ⟨_, e, h⟩ => by cases e; exact h, fun h => ⟨_, rfl, h⟩⟩
theorem intQ_i (T : Int → Prop) : intQ (.s (.int i)) T = T i := propext ⟨fun ⟨_, e, h⟩ => by cases e; exact h, fun h => ⟨_, rfl, h⟩⟩
theorem datQ_s (T : D → Prop) : datQ (.s d) T = T d := propext ⟨fun ⟨_, e, h⟩ => by cases e; exact h, fun h => ⟨_, rfl, h⟩⟩
theorem lookQ_s (T : D → Prop) : lookQ (.s d) T = T d := propext ⟨fun ⟨_, e, h⟩ => by cases e; exact h, fun h => ⟨_, rfl, h⟩⟩
theorem lookQ_l (T : D → Prop) : lookQ (.l o ds) T = T (.list ds) := propext ⟨fun ⟨_, e, h⟩ => by cases e; exact h, fun h => ⟨_, rfl, h⟩⟩
theorem seqQ_t (T : List D → Prop) : seqQ (.s (.tuple ds)) T = T ds := propext ⟨fun ⟨_, e, h⟩ => by cases e; exact h, fun h => ⟨_, rfl, h⟩⟩
theorem seqQ_L (T : List D → Prop) : seqQ (.s (.list ds)) T = T ds := propext ⟨fun ⟨_, e, h⟩ => by cases e; exact h, fun h => ⟨_, rfl, h⟩⟩
theorem stabQ_t (T : List D → Prop) : stabQ (.s (.tuple ds)) T = T ds := propext ⟨fun ⟨_, e, h⟩ => by cases e; exact h, fun h => ⟨_, rfl, h⟩⟩
theorem stabQ_L (T : List D → Prop) : stabQ (.s (.list ds)) T = T ds := propext ⟨fun ⟨_, e, h⟩ => by cases e; exact h, fun h => ⟨_, rfl, h⟩⟩
theorem seqQ_l (T : List D → Prop) : seqQ (.l o ds) T = T ds := propext ⟨fun ⟨_, e, h⟩ => by cases e; exact h, fun h => ⟨_, rfl, h⟩⟩
theorem kvQ_k (T : List (Key × D) → Prop) : kvQ (.k o kvs) T = T kvs := propext ⟨fun ⟨_, e, h⟩ => by cases e; exact h, fun h => ⟨_, rfl, h⟩⟩
theorem kvQ_d (T : List (Key × D) → Prop) : kvQ (.s (.dict (kvD kvs))) T = T kvs := by simp [kvQ, kv_d]
theorem ownQ_l (T : List D → Prop) : ownQ (.l true ds) T = T ds := propext ⟨fun ⟨_, e, h⟩ => by cases e; exact h, fun h => ⟨_, rfl, h⟩⟩
theorem ownKQ_k (T : List (Key × D) → Prop) : ownKQ (.k true kvs) T = T kvs := propext ⟨fun ⟨_, e, h⟩ => by cases e; exact h, fun h => ⟨_, rfl, h⟩⟩
theorem lQ_l (T : List D → Prop) : lQ (.l o ds) T = T ds := propext ⟨fun ⟨_, _, e, h⟩ => by cases e; exact h, fun h => ⟨_, _, rfl, h⟩⟩
theorem keyQ_i (T : Key → Prop) : keyQ (.s (.int i)) T = T (.inl i) := by simp [keyQ, ofK_int]
theorem keyQ_s (T : Key → Prop) : keyQ (.s (.str x)) T = T (.inr x) := by simp [keyQ, ofK_str]
theorem popQ_1 (T : List D → D → Prop) : popQ [d] T = T [] d := propext ⟨fun ⟨a, b, e, h⟩ => by
    have e' : [] ++ [d] = a ++ [b] := e
    obtain ⟨rfl, e2⟩ := List.append_inj' e' rfl
    cases e2
    exact h, fun h => ⟨[], d, rfl, h⟩⟩
theorem popQ_s (T : List D → D → Prop) : popQ (ds ++ [d]) T = T ds d := propext ⟨fun ⟨a, b, e, h⟩ => by
    obtain ⟨rfl, e2⟩ := List.append_inj' e rfl
    cases e2
    exact h, fun h => ⟨ds, d, rfl, h⟩⟩
theorem tupQ_0  : tupQ [] Q = Q (.s (.tuple [])) := propext ⟨fun ⟨_, e, _, h⟩ => by cases e; exact h, fun h => ⟨_, rfl, by decide, h⟩⟩
theorem tupQ_1 (a0 : D) : tupQ [.s a0] Q = Q (.s (.tuple [a0])) := propext ⟨fun ⟨_, e, _, h⟩ => by cases e; exact h, fun h => ⟨_, rfl, by simp, h⟩⟩
theorem tupQ_2 (a0 a1 : D) : tupQ [.s a0, .s a1] Q = Q (.s (.tuple [a0, a1])) := propext ⟨fun ⟨_, e, _, h⟩ => by cases e; exact h, fun h => ⟨_, rfl, by simp, h⟩⟩
theorem tupQ_3 (a0 a1 a2 : D) : tupQ [.s a0, .s a1, .s a2] Q = Q (.s (.tuple [a0, a1, a2])) := propext ⟨fun ⟨_, e, _, h⟩ => by cases e; exact h, fun h => ⟨_, rfl, by simp, h⟩⟩
theorem tupQ_4 (a0 a1 a2 a3 : D) : tupQ [.s a0, .s a1, .s a2, .s a3] Q = Q (.s (.tuple [a0, a1, a2, a3])) := propext ⟨fun ⟨_, e, _, h⟩ => by cases e; exact h, fun h => ⟨_, rfl, by simp, h⟩⟩
theorem tupQ_5 (a0 a1 a2 a3 a4 : D) : tupQ [.s a0, .s a1, .s a2, .s a3, .s a4] Q = Q (.s (.tuple [a0, a1, a2, a3, a4])) := propext ⟨fun ⟨_, e, _, h⟩ => by cases e; exact h, fun h => ⟨_, rfl, by simp, h⟩⟩
theorem tupQ_6 (a0 a1 a2 a3 a4 a5 : D) : tupQ [.s a0, .s a1, .s a2, .s a3, .s a4, .s a5] Q = Q (.s (.tuple [a0, a1, a2, a3, a4, a5])) := propext ⟨fun ⟨_, e, _, h⟩ => by cases e; exact h, fun h => ⟨_, rfl, by simp, h⟩⟩
theorem tupQ_7 (a0 a1 a2 a3 a4 a5 a6 : D) : tupQ [.s a0, .s a1, .s a2, .s a3, .s a4, .s a5, .s a6] Q = Q (.s (.tuple [a0, a1, a2, a3, a4, a5, a6])) := propext ⟨fun ⟨_, e, _, h⟩ => by cases e; exact h, fun h => ⟨_, rfl, by simp, h⟩⟩
theorem tupQ_8 (a0 a1 a2 a3 a4 a5 a6 a7 : D) : tupQ [.s a0, .s a1, .s a2, .s a3, .s a4, .s a5, .s a6, .s a7] Q = Q (.s (.tuple [a0, a1, a2, a3, a4, a5, a6, a7])) := propext ⟨fun ⟨_, e, _, h⟩ => by cases e; exact h, fun h => ⟨_, rfl, by simp, h⟩⟩
theorem lstQ_0  : lstQ [] Q = Q (.l true []) := propext ⟨fun ⟨_, e, _, h⟩ => by cases e; exact h, fun h => ⟨_, rfl, by decide, h⟩⟩
theorem lstQ_1 (a0 : D) : lstQ [.s a0] Q = Q (.l true [a0]) := propext ⟨fun ⟨_, e, _, h⟩ => by cases e; exact h, fun h => ⟨_, rfl, by simp, h⟩⟩
theorem lstQ_2 (a0 a1 : D) : lstQ [.s a0, .s a1] Q = Q (.l true [a0, a1]) := propext ⟨fun ⟨_, e, _, h⟩ => by cases e; exact h, fun h => ⟨_, rfl, by simp, h⟩⟩
theorem lstQ_3 (a0 a1 a2 : D) : lstQ [.s a0, .s a1, .s a2] Q = Q (.l true [a0, a1, a2]) := propext ⟨fun ⟨_, e, _, h⟩ => by cases e; exact h, fun h => ⟨_, rfl, by simp, h⟩⟩
theorem lstQ_4 (a0 a1 a2 a3 : D) : lstQ [.s a0, .s a1, .s a2, .s a3] Q = Q (.l true [a0, a1, a2, a3]) := propext ⟨fun ⟨_, e, _, h⟩ => by cases e; exact h, fun h => ⟨_, rfl, by simp, h⟩⟩
theorem lstQ_5 (a0 a1 a2 a3 a4 : D) : lstQ [.s a0, .s a1, .s a2, .s a3, .s a4] Q = Q (.l true [a0, a1, a2, a3, a4]) := propext ⟨fun ⟨_, e, _, h⟩ => by cases e; exact h, fun h => ⟨_, rfl, by simp, h⟩⟩
theorem lstQ_6 (a0 a1 a2 a3 a4 a5 : D) : lstQ [.s a0, .s a1, .s a2, .s a3, .s a4, .s a5] Q = Q (.l true [a0, a1, a2, a3, a4, a5]) := propext ⟨fun ⟨_, e, _, h⟩ => by cases e; exact h, fun h => ⟨_, rfl, by simp, h⟩⟩
theorem lstQ_7 (a0 a1 a2 a3 a4 a5 a6 : D) : lstQ [.s a0, .s a1, .s a2, .s a3, .s a4, .s a5, .s a6] Q = Q (.l true [a0, a1, a2, a3, a4, a5, a6]) := propext ⟨fun ⟨_, e, _, h⟩ => by cases e; exact h, fun h => ⟨_, rfl, by simp, h⟩⟩
theorem lstQ_8 (a0 a1 a2 a3 a4 a5 a6 a7 : D) : lstQ [.s a0, .s a1, .s a2, .s a3, .s a4, .s a5, .s a6, .s a7] Q = Q (.l true [a0, a1, a2, a3, a4, a5, a6, a7]) := propext ⟨fun ⟨_, e, _, h⟩ => by cases e; exact h, fun h => ⟨_, rfl, by simp, h⟩⟩
theorem ixk0 (a0 : D) : atI (a0 :: ds) 0 = some a0 := by
  unfold atI ixN
  rw [if_pos (by decide), if_pos (by simp only [List.length_cons]; omega)]
  rfl
theorem ixk1 (a0 a1 : D) : atI (a0 :: a1 :: ds) 1 = some a1 := by
  unfold atI ixN
  rw [if_pos (by decide), if_pos (by simp only [List.length_cons]; omega)]
  rfl
theorem ixk2 (a0 a1 a2 : D) : atI (a0 :: a1 :: a2 :: ds) 2 = some a2 := by
  unfold atI ixN
  rw [if_pos (by decide), if_pos (by simp only [List.length_cons]; omega)]
  rfl
theorem ixk3 (a0 a1 a2 a3 : D) : atI (a0 :: a1 :: a2 :: a3 :: ds) 3 = some a3 := by
  unfold atI ixN
  rw [if_pos (by decide), if_pos (by simp only [List.length_cons]; omega)]
  rfl
theorem ixk4 (a0 a1 a2 a3 a4 : D) : atI (a0 :: a1 :: a2 :: a3 :: a4 :: ds) 4 = some a4 := by
  unfold atI ixN
  rw [if_pos (by decide), if_pos (by simp only [List.length_cons]; omega)]
  rfl
theorem fAdd_i : fAdd (.s (.int i)) (.s (.int j)) Q = Q (.s (.int (i + j))) := by simp [fAdd]
theorem fAdd_t : fAdd (.s (.tuple ds)) (.s (.tuple es)) Q = (ds.length + es.length ≤ 16777216 ∧ Q (.s (.tuple (ds ++ es)))) := by simp [fAdd]
theorem fAdd_l : fAdd (.l o ds) (.l o' es) Q = (ds.length + es.length ≤ 16777216 ∧ Q (.l true (ds ++ es))) := propext ⟨fun ⟨_, _, e, h⟩ => by cases e; exact h, fun h => ⟨_, _, rfl, h⟩⟩
theorem fAdd_s : fAdd (.s (.str x)) (.s (.str y)) Q = (x.length + y.length ≤ 16777216 ∧ Q (.s (.str (x ++ y)))) := by simp [fAdd]
theorem fInt_i (C : Int → Int → Prop) (g : Int → Int → Int) : fInt C g (.s (.int i)) (.s (.int j)) Q = (C i j ∧ Q (.s (.int (g i j)))) := by simp [fInt]
theorem fSub_i : fInt (fun _ _ => True) (· - ·) (.s (.int i)) (.s (.int j)) Q = Q (.s (.int (i - j))) := by simp [fInt]
theorem fMul_i : fMul (.s (.int i)) (.s (.int j)) Q = (CMul i j ∧ Q (.s (.int (i * j)))) := by simp [fMul]
theorem fNeg_i : fNeg (.s (.int i)) Q = Q (.s (.int (-i))) := by simp [fNeg]
theorem fEq_s (e : D) : fEq (.s d) (.s e) Q = (Sh d ∧ Sh e ∧ Q (.s (.bool (PyData.eqv d e)))) := by simp [fEq, look_s, look_l, sh_int, sh_bool, sh_none]
theorem fEq_i : fEq (.s (.int i)) (.s (.int j)) Q = Q (.s (.bool (PyData.eqv (.int i) (.int j)))) := by simp [fEq, look_s, sh_int]
theorem fEq_b (b' : Bool) : fEq (.s (.bool b)) (.s (.bool b')) Q = Q (.s (.bool (PyData.eqv (.bool b) (.bool b')))) := by simp [fEq, look_s, sh_bool]
theorem fEq_l : fEq (.l o ds) (.l o' es) Q = (Sh (.list ds) ∧ Sh (.list es) ∧ Q (.s (.bool (PyData.eqv (.list ds) (.list es))))) := by simp [fEq, look_s, look_l, sh_int, sh_bool, sh_none]
theorem fEq_L : fEq (.s (.list ds)) (.l o' es) Q = (Sh (.list ds) ∧ Sh (.list es) ∧ Q (.s (.bool (PyData.eqv (.list ds) (.list es))))) := by simp [fEq, look_s, look_l, sh_int, sh_bool, sh_none]
theorem fNe_s (e : D) : fNe (.s d) (.s e) Q = (Sh d ∧ Sh e ∧ Q (.s (.bool (!PyData.eqv d e)))) := by simp [fNe, look_s, look_l, sh_int, sh_bool, sh_none]
theorem fNe_i : fNe (.s (.int i)) (.s (.int j)) Q = Q (.s (.bool (!PyData.eqv (.int i) (.int j)))) := by simp [fNe, look_s, sh_int]
theorem fNe_b (b' : Bool) : fNe (.s (.bool b)) (.s (.bool b')) Q = Q (.s (.bool (!PyData.eqv (.bool b) (.bool b')))) := by simp [fNe, look_s, sh_bool]
theorem fNe_l : fNe (.l o ds) (.l o' es) Q = (Sh (.list ds) ∧ Sh (.list es) ∧ Q (.s (.bool (!PyData.eqv (.list ds) (.list es))))) := by simp [fNe, look_s, look_l, sh_int, sh_bool, sh_none]
theorem fNe_L : fNe (.s (.list ds)) (.l o' es) Q = (Sh (.list ds) ∧ Sh (.list es) ∧ Q (.s (.bool (!PyData.eqv (.list ds) (.list es))))) := by simp [fNe, look_s, look_l, sh_int, sh_bool, sh_none]
theorem fCmp_i (g : Int → Int → Bool) : fCmp g (.s (.int i)) (.s (.int j)) Q = Q (.s (.bool (g i j))) := by simp [fCmp]
theorem fLt_i : fLt (.s (.int i)) (.s (.int j)) Q = Q (.s (.bool (decide (i < j)))) := by simp [fLt]
theorem fIs_n (neg : Bool) : fIs neg (.s d) (.s .none) Q = Q (.s (.bool (neg != R.isN (.s d)))) := by simp [fIs, R.isS]
theorem fIs_b (neg : Bool) (b' : Bool) : fIs neg (.s (.bool b)) (.s (.bool b')) Q = Q (.s (.bool (neg != (b == b')))) := by simp [fIs]
theorem fIn_t (neg : Bool) : fIn neg (.s d) (.s (.tuple ds)) Q = (flatD d = true ∧ ds.all flatD = true ∧ Q (.s (.bool (neg != inD d ds)))) := by simp [fIn, kv_t, R.seq]
theorem fIx_t : fIx (.s (.tuple ds)) (.s (.int i)) Q = (∃ d, atI ds i = some d ∧ Q (.s d)) := by simp [fIx, kv_t, R.seq]
theorem fIx_t0 (a0 : D) : fIx (.s (.tuple (a0 :: ds))) (.s (.int 0)) Q = Q (.s a0) := by rw [fIx_t, ixk0]; simp
theorem fIx_t1 (a0 a1 : D) : fIx (.s (.tuple (a0 :: a1 :: ds))) (.s (.int 1)) Q = Q (.s a1) := by rw [fIx_t, ixk1]; simp
theorem fIx_t2 (a0 a1 a2 : D) : fIx (.s (.tuple (a0 :: a1 :: a2 :: ds))) (.s (.int 2)) Q = Q (.s a2) := by rw [fIx_t, ixk2]; simp
theorem fIx_t3 (a0 a1 a2 a3 : D) : fIx (.s (.tuple (a0 :: a1 :: a2 :: a3 :: ds))) (.s (.int 3)) Q = Q (.s a3) := by rw [fIx_t, ixk3]; simp
theorem fIx_t4 (a0 a1 a2 a3 a4 : D) : fIx (.s (.tuple (a0 :: a1 :: a2 :: a3 :: a4 :: ds))) (.s (.int 4)) Q = Q (.s a4) := by rw [fIx_t, ixk4]; simp
theorem fLen_t : fLen [.s (.tuple ds)] Q = Q (.s (.int ds.length)) := by simp [fLen, kv_t, R.seq]
theorem fList_t : fList [.s (.tuple ds)] Q = Q (.l true ds) := by simp [fList, R.seq]
theorem fTuple_t : fTuple [.s (.tuple ds)] Q = Q (.s (.tuple ds)) := by simp [fTuple, R.seq]
theorem fDict_t : fDict [.s (.tuple ds)] Q = (∃ kvs, pairsK ds = some kvs ∧ Q (.k true (kMerge [] kvs))) := by simp [fDict, kv_t, R.seq]
theorem fSl_t (lo hi : Option Int) : fSl (.s (.tuple ds)) lo hi Q = Q (.s (.tuple (cutD ds lo hi))) := rfl
theorem fIn_L (neg : Bool) : fIn neg (.s d) (.s (.list ds)) Q = (flatD d = true ∧ ds.all flatD = true ∧ Q (.s (.bool (neg != inD d ds)))) := by simp [fIn, kv_L, R.seq]
theorem fIx_L : fIx (.s (.list ds)) (.s (.int i)) Q = (∃ d, atI ds i = some d ∧ Q (.s d)) := by simp [fIx, kv_L, R.seq]
theorem fIx_L0 (a0 : D) : fIx (.s (.list (a0 :: ds))) (.s (.int 0)) Q = Q (.s a0) := by rw [fIx_L, ixk0]; simp
theorem fIx_L1 (a0 a1 : D) : fIx (.s (.list (a0 :: a1 :: ds))) (.s (.int 1)) Q = Q (.s a1) := by rw [fIx_L, ixk1]; simp
theorem fIx_L2 (a0 a1 a2 : D) : fIx (.s (.list (a0 :: a1 :: a2 :: ds))) (.s (.int 2)) Q = Q (.s a2) := by rw [fIx_L, ixk2]; simp
theorem fIx_L3 (a0 a1 a2 a3 : D) : fIx (.s (.list (a0 :: a1 :: a2 :: a3 :: ds))) (.s (.int 3)) Q = Q (.s a3) := by rw [fIx_L, ixk3]; simp
theorem fIx_L4 (a0 a1 a2 a3 a4 : D) : fIx (.s (.list (a0 :: a1 :: a2 :: a3 :: a4 :: ds))) (.s (.int 4)) Q = Q (.s a4) := by rw [fIx_L, ixk4]; simp
theorem fLen_L : fLen [.s (.list ds)] Q = Q (.s (.int ds.length)) := by simp [fLen, kv_L, R.seq]
theorem fList_L : fList [.s (.list ds)] Q = Q (.l true ds) := by simp [fList, R.seq]
theorem fTuple_L : fTuple [.s (.list ds)] Q = Q (.s (.tuple ds)) := by simp [fTuple, R.seq]
theorem fDict_L : fDict [.s (.list ds)] Q = (∃ kvs, pairsK ds = some kvs ∧ Q (.k true (kMerge [] kvs))) := by simp [fDict, kv_L, R.seq]
theorem fSl_L (lo hi : Option Int) : fSl (.s (.list ds)) lo hi Q = Q (.l true (cutD ds lo hi)) := rfl
theorem fIn_l (neg : Bool) : fIn neg (.s d) (.l o ds) Q = (flatD d = true ∧ ds.all flatD = true ∧ Q (.s (.bool (neg != inD d ds)))) := by simp [fIn, kv_l, R.seq]
theorem fIx_l : fIx (.l o ds) (.s (.int i)) Q = (∃ d, atI ds i = some d ∧ Q (.s d)) := by simp [fIx, kv_l, R.seq]
theorem fIx_l0 (a0 : D) : fIx (.l o (a0 :: ds)) (.s (.int 0)) Q = Q (.s a0) := by rw [fIx_l, ixk0]; simp
theorem fIx_l1 (a0 a1 : D) : fIx (.l o (a0 :: a1 :: ds)) (.s (.int 1)) Q = Q (.s a1) := by rw [fIx_l, ixk1]; simp
theorem fIx_l2 (a0 a1 a2 : D) : fIx (.l o (a0 :: a1 :: a2 :: ds)) (.s (.int 2)) Q = Q (.s a2) := by rw [fIx_l, ixk2]; simp
theorem fIx_l3 (a0 a1 a2 a3 : D) : fIx (.l o (a0 :: a1 :: a2 :: a3 :: ds)) (.s (.int 3)) Q = Q (.s a3) := by rw [fIx_l, ixk3]; simp
theorem fIx_l4 (a0 a1 a2 a3 a4 : D) : fIx (.l o (a0 :: a1 :: a2 :: a3 :: a4 :: ds)) (.s (.int 4)) Q = Q (.s a4) := by rw [fIx_l, ixk4]; simp
theorem fLen_l : fLen [.l o ds] Q = Q (.s (.int ds.length)) := by simp [fLen, kv_l, R.seq]
theorem fList_l : fList [.l o ds] Q = Q (.l true ds) := by simp [fList, R.seq]
theorem fTuple_l : fTuple [.l o ds] Q = Q (.s (.tuple ds)) := by simp [fTuple, R.seq]
theorem fDict_l : fDict [.l o ds] Q = (∃ kvs, pairsK ds = some kvs ∧ Q (.k true (kMerge [] kvs))) := by simp [fDict, kv_l, R.seq]
theorem fSl_l (lo hi : Option Int) : fSl (.l o ds) lo hi Q = Q (.l true (cutD ds lo hi)) := rfl
theorem fIn_k (neg : Bool) : fIn neg (.s d) (.k o kvs) Q = (∃ k, ofK d = some k ∧ Q (.s (.bool (neg != (kGet kvs k).isSome)))) := by simp [fIn, kv_k, seq_k]
theorem fIn_ki (neg : Bool) : fIn neg (.s (.int i)) (.k o kvs) Q = Q (.s (.bool (neg != (kGet kvs (.inl i)).isSome))) := by simp [fIn, kv_k, seq_k, ofK_int]
theorem fIn_ks (neg : Bool) : fIn neg (.s (.str x)) (.k o kvs) Q = Q (.s (.bool (neg != (kGet kvs (.inr x)).isSome))) := by simp [fIn, kv_k, seq_k, ofK_str]
theorem fIx_k : fIx (.k o kvs) (.s d) Q = (∃ k, ofK d = some k ∧ ∃ e, kGet kvs k = some e ∧ Q (.s e)) := by simp [fIx, kv_k, seq_k]
theorem fIx_ki : fIx (.k o kvs) (.s (.int i)) Q = (∃ e, kGet kvs (.inl i) = some e ∧ Q (.s e)) := by simp [fIx, kv_k, seq_k, ofK_int]
theorem fIx_ks : fIx (.k o kvs) (.s (.str x)) Q = (∃ e, kGet kvs (.inr x) = some e ∧ Q (.s e)) := by simp [fIx, kv_k, seq_k, ofK_str]
theorem fLen_k : fLen [.k o kvs] Q = Q (.s (.int kvs.length)) := by simp [fLen, kv_k, seq_k]
theorem fLen_d : fLen [.s (.dict (kvD kvs))] Q = Q (.s (.int kvs.length)) := by simp [fLen, kv_d, seq_d]
theorem fDict_k : fDict [.k o kvs] Q = Q (.k true kvs) := by simp [fDict, kv_k, seq_k]
theorem fDict_d : fDict [.s (.dict (kvD kvs))] Q = Q (.k true kvs) := by simp [fDict, kv_d, seq_d]
theorem fSorted_l : fSorted [.l o ds] Q = (SrtOk ds ∧ Q (.l true (sortD ds))) := by unfold fSorted; exact propext ⟨fun ⟨r, es, e, h, a, b⟩ => by cases e; rcases h with ⟨_, h⟩ | h <;> cases h; exact ⟨a, b⟩, fun ⟨a, b⟩ => ⟨_, ds, rfl, .inl ⟨o, rfl⟩, a, b⟩⟩
theorem fSorted_L : fSorted [.s (.list ds)] Q = (SrtOk ds ∧ Q (.l true (sortD ds))) := by simp [fSorted]
theorem revQ_t : revQ (.s (.tuple ds)) Q = Q (.s (.tuple ds.reverse)) := by simp [revQ]
theorem revQ_l : revQ (.l o ds) Q = Q (.l true ds.reverse) := by unfold revQ; exact propext ⟨fun h => by rcases h with ⟨_, h, _⟩ | ⟨_, ⟨_, h⟩ | h, q⟩ <;> cases h; exact q, fun h => .inr ⟨_, .inl ⟨_, rfl⟩, h⟩⟩
theorem revQ_L : revQ (.s (.list ds)) Q = Q (.l true ds.reverse) := by unfold revQ; exact propext ⟨fun h => by rcases h with ⟨_, h, _⟩ | ⟨_, ⟨_, h⟩ | h, q⟩ <;> cases h; exact q, fun h => .inr ⟨_, .inr rfl, h⟩⟩
theorem fIntOf_i : fIntOf [.s (.int i)] Q = Q (.s (.int i)) := by simp [fIntOf]
theorem fMax2_i : fMax2 [.s (.int i), .s (.int j)] Q = Q (.s (.int (if j > i then j else i))) := propext ⟨fun ⟨_, _, e, h⟩ => by cases e; exact h, fun h => ⟨_, _, rfl, h⟩⟩
theorem fMin2_i : fMin2 [.s (.int i), .s (.int j)] Q = Q (.s (.int (if j < i then j else i))) := propext ⟨fun ⟨_, _, e, h⟩ => by cases e; exact h, fun h => ⟨_, _, rfl, h⟩⟩
theorem pick_at (E : Value → Prop) : c_pick [.g, .s (.int i)] Q E = (0 < i ∧ i < 1073741824 ∧ ∀ r : Int, 0 ≤ r → r < i → Q (.s (.int r))) := propext ⟨fun ⟨_, e, h⟩ => by cases e; exact h, fun h => ⟨_, rfl, h⟩⟩
theorem putR_li  : putR (.l true ds) (.s (.int i)) d Q = (∃ j, ixN ds.length i = some j ∧ Q (.l true (ds.set j d))) := by simp [putR]
theorem putR_ki  : putR (.k true kvs) (.s (.int i)) d Q = (kvs.length < 16777216 ∧ Q (.k true (kPut kvs (.inl i) d))) := by simp [putR, ofK_int]
theorem putR_ks  : putR (.k true kvs) (.s (.str x)) d Q = (kvs.length < 16777216 ∧ Q (.k true (kPut kvs (.inr x) d))) := by simp [putR, ofK_str]
end
theorem getQ_0  (l : Rho) (r : R) (k : R → Prop) : getQ 0 (some r :: l) k = k r := propext ⟨fun ⟨_, e, h⟩ => by cases e; exact h, fun h => ⟨_, rfl, h⟩⟩
theorem setQ_0 (x : Option R) (l : Rho) (r : R) (k : Rho → Prop) : setQ 0 (x :: l) r k = k (some r :: l) := propext ⟨fun h => h.2, fun h => ⟨by simp, h⟩⟩
theorem getQ_1 (x0 : Option R) (l : Rho) (r : R) (k : R → Prop) : getQ 1 (x0 :: some r :: l) k = k r := propext ⟨fun ⟨_, e, h⟩ => by cases e; exact h, fun h => ⟨_, rfl, h⟩⟩
theorem setQ_1 (x0 x : Option R) (l : Rho) (r : R) (k : Rho → Prop) : setQ 1 (x0 :: x :: l) r k = k (x0 :: some r :: l) := propext ⟨fun h => h.2, fun h => ⟨by simp, h⟩⟩
theorem getQ_2 (x0 x1 : Option R) (l : Rho) (r : R) (k : R → Prop) : getQ 2 (x0 :: x1 :: some r :: l) k = k r := propext ⟨fun ⟨_, e, h⟩ => by cases e; exact h, fun h => ⟨_, rfl, h⟩⟩
theorem setQ_2 (x0 x1 x : Option R) (l : Rho) (r : R) (k : Rho → Prop) : setQ 2 (x0 :: x1 :: x :: l) r k = k (x0 :: x1 :: some r :: l) := propext ⟨fun h => h.2, fun h => ⟨by simp, h⟩⟩
theorem getQ_3 (x0 x1 x2 : Option R) (l : Rho) (r : R) (k : R → Prop) : getQ 3 (x0 :: x1 :: x2 :: some r :: l) k = k r := propext ⟨fun ⟨_, e, h⟩ => by cases e; exact h, fun h => ⟨_, rfl, h⟩⟩
theorem setQ_3 (x0 x1 x2 x : Option R) (l : Rho) (r : R) (k : Rho → Prop) : setQ 3 (x0 :: x1 :: x2 :: x :: l) r k = k (x0 :: x1 :: x2 :: some r :: l) := propext ⟨fun h => h.2, fun h => ⟨by simp, h⟩⟩
theorem getQ_4 (x0 x1 x2 x3 : Option R) (l : Rho) (r : R) (k : R → Prop) : getQ 4 (x0 :: x1 :: x2 :: x3 :: some r :: l) k = k r := propext ⟨fun ⟨_, e, h⟩ => by cases e; exact h, fun h => ⟨_, rfl, h⟩⟩
theorem setQ_4 (x0 x1 x2 x3 x : Option R) (l : Rho) (r : R) (k : Rho → Prop) : setQ 4 (x0 :: x1 :: x2 :: x3 :: x :: l) r k = k (x0 :: x1 :: x2 :: x3 :: some r :: l) := propext ⟨fun h => h.2, fun h => ⟨by simp, h⟩⟩
theorem getQ_5 (x0 x1 x2 x3 x4 : Option R) (l : Rho) (r : R) (k : R → Prop) : getQ 5 (x0 :: x1 :: x2 :: x3 :: x4 :: some r :: l) k = k r := propext ⟨fun ⟨_, e, h⟩ => by cases e; exact h, fun h => ⟨_, rfl, h⟩⟩
theorem setQ_5 (x0 x1 x2 x3 x4 x : Option R) (l : Rho) (r : R) (k : Rho → Prop) : setQ 5 (x0 :: x1 :: x2 :: x3 :: x4 :: x :: l) r k = k (x0 :: x1 :: x2 :: x3 :: x4 :: some r :: l) := propext ⟨fun h => h.2, fun h => ⟨by simp, h⟩⟩
theorem getQ_6 (x0 x1 x2 x3 x4 x5 : Option R) (l : Rho) (r : R) (k : R → Prop) : getQ 6 (x0 :: x1 :: x2 :: x3 :: x4 :: x5 :: some r :: l) k = k r := propext ⟨fun ⟨_, e, h⟩ => by cases e; exact h, fun h => ⟨_, rfl, h⟩⟩
theorem setQ_6 (x0 x1 x2 x3 x4 x5 x : Option R) (l : Rho) (r : R) (k : Rho → Prop) : setQ 6 (x0 :: x1 :: x2 :: x3 :: x4 :: x5 :: x :: l) r k = k (x0 :: x1 :: x2 :: x3 :: x4 :: x5 :: some r :: l) := propext ⟨fun h => h.2, fun h => ⟨by simp, h⟩⟩
theorem getQ_7 (x0 x1 x2 x3 x4 x5 x6 : Option R) (l : Rho) (r : R) (k : R → Prop) : getQ 7 (x0 :: x1 :: x2 :: x3 :: x4 :: x5 :: x6 :: some r :: l) k = k r := propext ⟨fun ⟨_, e, h⟩ => by cases e; exact h, fun h => ⟨_, rfl, h⟩⟩
theorem setQ_7 (x0 x1 x2 x3 x4 x5 x6 x : Option R) (l : Rho) (r : R) (k : Rho → Prop) : setQ 7 (x0 :: x1 :: x2 :: x3 :: x4 :: x5 :: x6 :: x :: l) r k = k (x0 :: x1 :: x2 :: x3 :: x4 :: x5 :: x6 :: some r :: l) := propext ⟨fun h => h.2, fun h => ⟨by simp, h⟩⟩
theorem getQ_8 (x0 x1 x2 x3 x4 x5 x6 x7 : Option R) (l : Rho) (r : R) (k : R → Prop) : getQ 8 (x0 :: x1 :: x2 :: x3 :: x4 :: x5 :: x6 :: x7 :: some r :: l) k = k r := propext ⟨fun ⟨_, e, h⟩ => by cases e; exact h, fun h => ⟨_, rfl, h⟩⟩
theorem setQ_8 (x0 x1 x2 x3 x4 x5 x6 x7 x : Option R) (l : Rho) (r : R) (k : Rho → Prop) : setQ 8 (x0 :: x1 :: x2 :: x3 :: x4 :: x5 :: x6 :: x7 :: x :: l) r k = k (x0 :: x1 :: x2 :: x3 :: x4 :: x5 :: x6 :: x7 :: some r :: l) := propext ⟨fun h => h.2, fun h => ⟨by simp, h⟩⟩
theorem getQ_9 (x0 x1 x2 x3 x4 x5 x6 x7 x8 : Option R) (l : Rho) (r : R) (k : R → Prop) : getQ 9 (x0 :: x1 :: x2 :: x3 :: x4 :: x5 :: x6 :: x7 :: x8 :: some r :: l) k = k r := propext ⟨fun ⟨_, e, h⟩ => by cases e; exact h, fun h => ⟨_, rfl, h⟩⟩
theorem setQ_9 (x0 x1 x2 x3 x4 x5 x6 x7 x8 x : Option R) (l : Rho) (r : R) (k : Rho → Prop) : setQ 9 (x0 :: x1 :: x2 :: x3 :: x4 :: x5 :: x6 :: x7 :: x8 :: x :: l) r k = k (x0 :: x1 :: x2 :: x3 :: x4 :: x5 :: x6 :: x7 :: x8 :: some r :: l) := propext ⟨fun h => h.2, fun h => ⟨by simp, h⟩⟩
theorem getQ_10 (x0 x1 x2 x3 x4 x5 x6 x7 x8 x9 : Option R) (l : Rho) (r : R) (k : R → Prop) : getQ 10 (x0 :: x1 :: x2 :: x3 :: x4 :: x5 :: x6 :: x7 :: x8 :: x9 :: some r :: l) k = k r := propext ⟨fun ⟨_, e, h⟩ => by cases e; exact h, fun h => ⟨_, rfl, h⟩⟩
theorem setQ_10 (x0 x1 x2 x3 x4 x5 x6 x7 x8 x9 x : Option R) (l : Rho) (r : R) (k : Rho → Prop) : setQ 10 (x0 :: x1 :: x2 :: x3 :: x4 :: x5 :: x6 :: x7 :: x8 :: x9 :: x :: l) r k = k (x0 :: x1 :: x2 :: x3 :: x4 :: x5 :: x6 :: x7 :: x8 :: x9 :: some r :: l) := propext ⟨fun h => h.2, fun h => ⟨by simp, h⟩⟩
theorem getQ_11 (x0 x1 x2 x3 x4 x5 x6 x7 x8 x9 x10 : Option R) (l : Rho) (r : R) (k : R → Prop) : getQ 11 (x0 :: x1 :: x2 :: x3 :: x4 :: x5 :: x6 :: x7 :: x8 :: x9 :: x10 :: some r :: l) k = k r := propext ⟨fun ⟨_, e, h⟩ => by cases e; exact h, fun h => ⟨_, rfl, h⟩⟩
theorem setQ_11 (x0 x1 x2 x3 x4 x5 x6 x7 x8 x9 x10 x : Option R) (l : Rho) (r : R) (k : Rho → Prop) : setQ 11 (x0 :: x1 :: x2 :: x3 :: x4 :: x5 :: x6 :: x7 :: x8 :: x9 :: x10 :: x :: l) r k = k (x0 :: x1 :: x2 :: x3 :: x4 :: x5 :: x6 :: x7 :: x8 :: x9 :: x10 :: some r :: l) := propext ⟨fun h => h.2, fun h => ⟨by simp, h⟩⟩
theorem getQ_12 (x0 x1 x2 x3 x4 x5 x6 x7 x8 x9 x10 x11 : Option R) (l : Rho) (r : R) (k : R → Prop) : getQ 12 (x0 :: x1 :: x2 :: x3 :: x4 :: x5 :: x6 :: x7 :: x8 :: x9 :: x10 :: x11 :: some r :: l) k = k r := propext ⟨fun ⟨_, e, h⟩ => by cases e; exact h, fun h => ⟨_, rfl, h⟩⟩
theorem setQ_12 (x0 x1 x2 x3 x4 x5 x6 x7 x8 x9 x10 x11 x : Option R) (l : Rho) (r : R) (k : Rho → Prop) : setQ 12 (x0 :: x1 :: x2 :: x3 :: x4 :: x5 :: x6 :: x7 :: x8 :: x9 :: x10 :: x11 :: x :: l) r k = k (x0 :: x1 :: x2 :: x3 :: x4 :: x5 :: x6 :: x7 :: x8 :: x9 :: x10 :: x11 :: some r :: l) := propext ⟨fun h => h.2, fun h => ⟨by simp, h⟩⟩
theorem getQ_13 (x0 x1 x2 x3 x4 x5 x6 x7 x8 x9 x10 x11 x12 : Option R) (l : Rho) (r : R) (k : R → Prop) : getQ 13 (x0 :: x1 :: x2 :: x3 :: x4 :: x5 :: x6 :: x7 :: x8 :: x9 :: x10 :: x11 :: x12 :: some r :: l) k = k r := propext ⟨fun ⟨_, e, h⟩ => by cases e; exact h, fun h => ⟨_, rfl, h⟩⟩
theorem setQ_13 (x0 x1 x2 x3 x4 x5 x6 x7 x8 x9 x10 x11 x12 x : Option R) (l : Rho) (r : R) (k : Rho → Prop) : setQ 13 (x0 :: x1 :: x2 :: x3 :: x4 :: x5 :: x6 :: x7 :: x8 :: x9 :: x10 :: x11 :: x12 :: x :: l) r k = k (x0 :: x1 :: x2 :: x3 :: x4 :: x5 :: x6 :: x7 :: x8 :: x9 :: x10 :: x11 :: x12 :: some r :: l) := propext ⟨fun h => h.2, fun h => ⟨by simp, h⟩⟩
theorem getQ_14 (x0 x1 x2 x3 x4 x5 x6 x7 x8 x9 x10 x11 x12 x13 : Option R) (l : Rho) (r : R) (k : R → Prop) : getQ 14 (x0 :: x1 :: x2 :: x3 :: x4 :: x5 :: x6 :: x7 :: x8 :: x9 :: x10 :: x11 :: x12 :: x13 :: some r :: l) k = k r := propext ⟨fun ⟨_, e, h⟩ => by cases e; exact h, fun h => ⟨_, rfl, h⟩⟩
theorem setQ_14 (x0 x1 x2 x3 x4 x5 x6 x7 x8 x9 x10 x11 x12 x13 x : Option R) (l : Rho) (r : R) (k : Rho → Prop) : setQ 14 (x0 :: x1 :: x2 :: x3 :: x4 :: x5 :: x6 :: x7 :: x8 :: x9 :: x10 :: x11 :: x12 :: x13 :: x :: l) r k = k (x0 :: x1 :: x2 :: x3 :: x4 :: x5 :: x6 :: x7 :: x8 :: x9 :: x10 :: x11 :: x12 :: x13 :: some r :: l) := propext ⟨fun h => h.2, fun h => ⟨by simp, h⟩⟩
theorem getQ_15 (x0 x1 x2 x3 x4 x5 x6 x7 x8 x9 x10 x11 x12 x13 x14 : Option R) (l : Rho) (r : R) (k : R → Prop) : getQ 15 (x0 :: x1 :: x2 :: x3 :: x4 :: x5 :: x6 :: x7 :: x8 :: x9 :: x10 :: x11 :: x12 :: x13 :: x14 :: some r :: l) k = k r := propext ⟨fun ⟨_, e, h⟩ => by cases e; exact h, fun h => ⟨_, rfl, h⟩⟩
theorem setQ_15 (x0 x1 x2 x3 x4 x5 x6 x7 x8 x9 x10 x11 x12 x13 x14 x : Option R) (l : Rho) (r : R) (k : Rho → Prop) : setQ 15 (x0 :: x1 :: x2 :: x3 :: x4 :: x5 :: x6 :: x7 :: x8 :: x9 :: x10 :: x11 :: x12 :: x13 :: x14 :: x :: l) r k = k (x0 :: x1 :: x2 :: x3 :: x4 :: x5 :: x6 :: x7 :: x8 :: x9 :: x10 :: x11 :: x12 :: x13 :: x14 :: some r :: l) := propext ⟨fun h => h.2, fun h => ⟨by simp, h⟩⟩
theorem getQ_16 (x0 x1 x2 x3 x4 x5 x6 x7 x8 x9 x10 x11 x12 x13 x14 x15 : Option R) (l : Rho) (r : R) (k : R → Prop) : getQ 16 (x0 :: x1 :: x2 :: x3 :: x4 :: x5 :: x6 :: x7 :: x8 :: x9 :: x10 :: x11 :: x12 :: x13 :: x14 :: x15 :: some r :: l) k = k r := propext ⟨fun ⟨_, e, h⟩ => by cases e; exact h, fun h => ⟨_, rfl, h⟩⟩
theorem setQ_16 (x0 x1 x2 x3 x4 x5 x6 x7 x8 x9 x10 x11 x12 x13 x14 x15 x : Option R) (l : Rho) (r : R) (k : Rho → Prop) : setQ 16 (x0 :: x1 :: x2 :: x3 :: x4 :: x5 :: x6 :: x7 :: x8 :: x9 :: x10 :: x11 :: x12 :: x13 :: x14 :: x15 :: x :: l) r k = k (x0 :: x1 :: x2 :: x3 :: x4 :: x5 :: x6 :: x7 :: x8 :: x9 :: x10 :: x11 :: x12 :: x13 :: x14 :: x15 :: some r :: l) := propext ⟨fun h => h.2, fun h => ⟨by simp, h⟩⟩
theorem getQ_17 (x0 x1 x2 x3 x4 x5 x6 x7 x8 x9 x10 x11 x12 x13 x14 x15 x16 : Option R) (l : Rho) (r : R) (k : R → Prop) : getQ 17 (x0 :: x1 :: x2 :: x3 :: x4 :: x5 :: x6 :: x7 :: x8 :: x9 :: x10 :: x11 :: x12 :: x13 :: x14 :: x15 :: x16 :: some r :: l) k = k r := propext ⟨fun ⟨_, e, h⟩ => by cases e; exact h, fun h => ⟨_, rfl, h⟩⟩
theorem setQ_17 (x0 x1 x2 x3 x4 x5 x6 x7 x8 x9 x10 x11 x12 x13 x14 x15 x16 x : Option R) (l : Rho) (r : R) (k : Rho → Prop) : setQ 17 (x0 :: x1 :: x2 :: x3 :: x4 :: x5 :: x6 :: x7 :: x8 :: x9 :: x10 :: x11 :: x12 :: x13 :: x14 :: x15 :: x16 :: x :: l) r k = k (x0 :: x1 :: x2 :: x3 :: x4 :: x5 :: x6 :: x7 :: x8 :: x9 :: x10 :: x11 :: x12 :: x13 :: x14 :: x15 :: x16 :: some r :: l) := propext ⟨fun h => h.2, fun h => ⟨by simp, h⟩⟩
theorem getQ_18 (x0 x1 x2 x3 x4 x5 x6 x7 x8 x9 x10 x11 x12 x13 x14 x15 x16 x17 : Option R) (l : Rho) (r : R) (k : R → Prop) : getQ 18 (x0 :: x1 :: x2 :: x3 :: x4 :: x5 :: x6 :: x7 :: x8 :: x9 :: x10 :: x11 :: x12 :: x13 :: x14 :: x15 :: x16 :: x17 :: some r :: l) k = k r := propext ⟨fun ⟨_, e, h⟩ => by cases e; exact h, fun h => ⟨_, rfl, h⟩⟩
theorem setQ_18 (x0 x1 x2 x3 x4 x5 x6 x7 x8 x9 x10 x11 x12 x13 x14 x15 x16 x17 x : Option R) (l : Rho) (r : R) (k : Rho → Prop) : setQ 18 (x0 :: x1 :: x2 :: x3 :: x4 :: x5 :: x6 :: x7 :: x8 :: x9 :: x10 :: x11 :: x12 :: x13 :: x14 :: x15 :: x16 :: x17 :: x :: l) r k = k (x0 :: x1 :: x2 :: x3 :: x4 :: x5 :: x6 :: x7 :: x8 :: x9 :: x10 :: x11 :: x12 :: x13 :: x14 :: x15 :: x16 :: x17 :: some r :: l) := propext ⟨fun h => h.2, fun h => ⟨by simp, h⟩⟩
theorem getQ_19 (x0 x1 x2 x3 x4 x5 x6 x7 x8 x9 x10 x11 x12 x13 x14 x15 x16 x17 x18 : Option R) (l : Rho) (r : R) (k : R → Prop) : getQ 19 (x0 :: x1 :: x2 :: x3 :: x4 :: x5 :: x6 :: x7 :: x8 :: x9 :: x10 :: x11 :: x12 :: x13 :: x14 :: x15 :: x16 :: x17 :: x18 :: some r :: l) k = k r := propext ⟨fun ⟨_, e, h⟩ => by cases e; exact h, fun h => ⟨_, rfl, h⟩⟩
theorem setQ_19 (x0 x1 x2 x3 x4 x5 x6 x7 x8 x9 x10 x11 x12 x13 x14 x15 x16 x17 x18 x : Option R) (l : Rho) (r : R) (k : Rho → Prop) : setQ 19 (x0 :: x1 :: x2 :: x3 :: x4 :: x5 :: x6 :: x7 :: x8 :: x9 :: x10 :: x11 :: x12 :: x13 :: x14 :: x15 :: x16 :: x17 :: x18 :: x :: l) r k = k (x0 :: x1 :: x2 :: x3 :: x4 :: x5 :: x6 :: x7 :: x8 :: x9 :: x10 :: x11 :: x12 :: x13 :: x14 :: x15 :: x16 :: x17 :: x18 :: some r :: l) := propext ⟨fun h => h.2, fun h => ⟨by simp, h⟩⟩
/-! what may be compared -/
def Shn (n : Nat) (d : D) : Prop := PyData.canLay0 d = true ∧ PyData.depth d ≤ n
theorem Shn.mono {n m : Nat} {d : D} (h : Shn n d) (l : n ≤ m) : Shn m d := ⟨h.1, Nat.le_trans h.2 l⟩
theorem Shn.sh {n : Nat} {d : D} (h : Shn n d) (l : n ≤ 64) : Sh d := Bool.and_eq_true_iff.mpr ⟨h.1, decide_eq_true (Nat.le_trans h.2 l)⟩
theorem Sh.n {d : D} (h : Sh d) : Shn 64 d := ⟨(Bool.and_eq_true_iff.mp h).1, of_decide_eq_true (Bool.and_eq_true_iff.mp h).2⟩
theorem shn_int (n : Nat) (i : Int) : Shn n (.int i) := ⟨by simp [PyData.canLay0], by simp [PyData.depth]⟩
theorem shn_bool (n : Nat) (i : Bool) : Shn n (.bool i) := ⟨by simp [PyData.canLay0], by simp [PyData.depth]⟩
theorem shn_none (n : Nat) : Shn n .none := ⟨by simp [PyData.canLay0], by simp [PyData.depth]⟩
theorem shn_str (n : Nat) {x : Str} (h : Sh (.str x)) : Shn n (.str x) := ⟨h.n.1, by simp [PyData.depth]⟩
theorem shn_all : ∀ {xs : List D} {n : Nat}, (∀ x ∈ xs, Shn n x) → PyData.canLayAll0 xs = true ∧ PyData.depthAll xs ≤ n
  | [], n, _ => ⟨by simp [PyData.canLayAll0], by simp [PyData.depthAll]⟩
  | x :: xs, n, h => by
    have h1 := h x List.mem_cons_self
    have h2 := shn_all (xs := xs) fun y hy => h y (List.mem_cons_of_mem _ hy)
    refine ⟨by simp only [PyData.canLayAll0, h1.1, h2.1, Bool.and_self], ?_⟩
    simp only [PyData.depthAll]
    have := h1.2
    have := h2.2
    omega
theorem shn_list {n : Nat} {xs : List D} (h : ∀ x ∈ xs, Shn n x) : Shn (n + 1) (.list xs) := ⟨by simp only [PyData.canLay0, (shn_all h).1], by simp only [PyData.depth]; have := (shn_all h).2; omega⟩
theorem shn_tup {n : Nat} {xs : List D} (h : ∀ x ∈ xs, Shn n x) : Shn (n + 1) (.tuple xs) := ⟨by simp only [PyData.canLay0, (shn_all h).1], by simp only [PyData.depth]; have := (shn_all h).2; omega⟩
theorem sh_nilL : Sh (.list []) = True := eq_true ((shn_list (n := 0) (xs := []) fun x h => nomatch h).sh (by decide))
theorem sh_nilT : Sh (.tuple []) = True := eq_true ((shn_tup (n := 0) (xs := []) fun x h => nomatch h).sh (by decide))
theorem eqv_nilL (xs : List D) : PyData.eqv (.list xs) (.list []) = xs.isEmpty := by cases xs <;> simp [PyData.eqv, PyData.eqvAll]
theorem eqv_nilT (xs : List D) : PyData.eqv (.tuple xs) (.tuple []) = xs.isEmpty := by cases xs <;> simp [PyData.eqv, PyData.eqvAll]
theorem isE_nil {α : Type} : ([] : List α).isEmpty = true := rfl
theorem isE_cons {α : Type} (x : α) (l : List α) : (x :: l).isEmpty = false := rfl
theorem isE_snoc {α : Type} (x : α) (l : List α) : (l ++ [x]).isEmpty = false := by cases l <;> rfl
theorem for_go {g : GW} {v : SW} {ρ : Rho} {E : DEnds} {ds : List D} (P : Nat → Rho → Prop) (h0 : P 0 ρ) (h1 : ∀ i d ρ', ds[i]? = some d → P i ρ' → g d ρ' fun ρ2 => v ρ2 { E with nx := P (i + 1), ct := P (i + 1), bk := E.nx }) (h2 : ∀ ρ', P ds.length ρ' → E.nx ρ') : forQ g v ρ E ds := ⟨P, h0, h1, h2⟩
def lenAt (i : Nat) (ρ : Rho) : Nat := match ρ[i]? with
  | some (some (.l _ ds)) => ds.length
  | _ => 0
theorem while_go {t : TW} {v : SW} {ρ : Rho} {E : DEnds} (P : Rho → Prop) (μ : Rho → Nat) (h0 : P ρ) (h1 : ∀ ρ', P ρ' → t ρ' (fun k => if k = true then v ρ' { E with nx := fun ρ'' => P ρ'' ∧ μ ρ'' < μ ρ', ct := fun ρ'' => P ρ'' ∧ μ ρ'' < μ ρ', bk := E.nx } else E.nx ρ') (fun cls => E.er cls ρ')) : wWhile t v ρ E := ⟨P, μ, h0, h1⟩
end DL

set_option Elab.async false
set_option linter.all false
set_option maxRecDepth 100000
/-! The data layer: loops and comprehensions, read from the top. -/
namespace DL
open PySem PySem.Spec PyProof.Rows L2
theorem range_at {a : Int} {n k : Nat} {d : D} (h : (rangeD a n)[k]? = some d) : d = .int (a + k) ∧ k < n := by
  unfold rangeD at h
  rw [List.getElem?_map] at h
  cases e : (List.range n)[k]? with
  | none => rw [e] at h; cases h
  | some j =>
    have hk : k < n := by have := get_lt e; rwa [List.length_range] at this
    rw [List.getElem?_range hk] at e
    cases e
    rw [List.getElem?_range hk] at h
    cases h
    exact ⟨rfl, hk⟩
theorem range0_at {n k : Nat} {d : D} (h : (rangeD 0 n)[k]? = some d) : d = .int (k : Int) ∧ k < n := by
  have := range_at h
  rwa [Int.zero_add] at this
theorem range_len (a : Int) (n : Nat) : (rangeD a n).length = n := by simp [rangeD]
theorem atI_of {α : Type} {l : List α} {i : Int} {j : Nat} {x : α} (h : i = (j : Int)) (e : l[j]? = some x) : L2.atI l i = some x := by
  subst h
  exact atI_nat e
/-- a comprehension that is told by what it has at each turn -/
theorem lc_go {tup : Bool} {is vs : List Nat} {wt : TW} {we : EW} {ρ : Rho} {Q : R → Prop} {ds : List D} (A : Nat → List D) (h0 : A 0 = [])
    (h1 : ∀ k d, ds[k]? = some d → gwNames tup is d fun es => (∀ i ∈ is, i < ρ.length) ∧ wt (putA (wipeR ρ vs) is es) (fun b => if b = true then we (putA (wipeR ρ vs) is es) (fun r => ∃ z, r.dat = some z ∧ (A k).length < 16777216 ∧ A (k + 1) = A k ++ [z]) (fun _ => False) else A (k + 1) = A k) (fun _ => False))
    (h2 : Q (.l true (A ds.length))) : lcQ tup is vs wt we ρ Q ds :=
  ⟨fun k acc => acc = A k, h0.symm, fun k acc d hd e => by
    subst e
    have := h1 k d hd
    simp only [eq_comm (a := A (k + 1))] at this
    exact this, fun acc e => by rw [e]; exact h2⟩
theorem gwN1 (i : Nat) (d : D) (Q : List D → Prop) : gwNames false [i] d Q = Q [d] := rfl
theorem gwNt (is : List Nat) (ds : List D) (Q : List D → Prop) : gwNames true is (.tuple ds) Q = (ds.length = is.length ∧ Q ds) := by
  unfold gwNames
  exact propext ⟨fun h => by obtain ⟨_, e, h⟩ := h; cases e; exact h, fun h => ⟨_, rfl, h⟩⟩
theorem take_succ_map {α β : Type} {l : List α} {k : Nat} {x : α} (f : α → β) (h : l[k]? = some x) : (l.take (k + 1)).map f = (l.take k).map f ++ [f x] := by
  rw [List.take_succ, h, List.map_append]
  rfl
theorem range_succ_map {β : Type} (k : Nat) (f : Nat → β) : (List.range (k + 1)).map f = (List.range k).map f ++ [f k] := by
  rw [List.range_succ, List.map_append]
  rfl
end DL

set_option Elab.async false
set_option linter.all false
set_option maxRecDepth 100000
/-! The data layer: calls with keywords alone, in the order of the parameters. -/
namespace DL
open PySem PySem.Spec PyProof.Rows L2
def BindsK (K : PySem.W.Frag) (fd : FuncData) (ps : List Str) : Prop := ∀ (s : Shared) (ws : List Value), K.In s.heap → ws.length = ps.length → BindsTo s fd ⟨[], ps.zip ws⟩ (ps.zip ws)
section
variable {X : Cx} {CX : CXT} {W : WX} {k : Nat} {f : Addr} {fd : FuncData} {ps : List Str} {sp : Sp} {E : L2.St → XK} {x : Str} {p pos : Pos} {kws : List Keyword} {tk : TA}
theorem run_fnK {pins : List (Addr × Obj)} {σ : L2.St} {H : Hp} {s : Shared} {Q : VK} {us : List Value} {vs : List V} (F : FnOk X.prog X.w X.K X.mg X.base CX k f fd ps sp) (hr : Room k X.A) (hb : BindsK X.K fd ps) (hx : PassesAt CX X σ (E σ))
    (I : Inv X pins σ H s) (r : Vals vs us) (h : sp vs H Q (E σ)) : wpAny (model X.prog X.w) X.A (call (.ref f) [] (ps.zip us)) (EP X pins σ Q) X.xe s := by
  have hl : us.length = ps.length := by rw [← r.length]; exact F.len _ _ _ _ h
  have b := hb s us I.kIn hl
  refine wpAny_call (codeAny_mono (F.run X.A X.stack s H ⟨[], ps.zip us⟩ us vs Q (E σ) hr I.env0 b r h) fun r s' hq => ?_)
  cases r with
  | error e => exact hx pins H s e s' I hq
  | ok fl =>
    cases fl with
    | ret u => exact I.after hq
    | next => exact False.elim hq
    | brk => exact False.elim hq
    | cont => exact False.elim hq
/-- f(k = v, ..), all parameters by keywords -/
theorem pe_callKA (F : FnOk X.prog X.w X.K X.mg X.base CX k f fd ps sp) (hr : Room k X.A) (hg : Gl X x) (hm : X.mg x = some (.ref f)) (hk : PySem.W.keepIn X.K (.ref f) = true) (hb : BindsK X.K fd ps) (hx : ∀ σ, PassesAt CX X σ (E σ))
    (hkw : PK X kws tk) (hall : (backToKw pos (keywordEach kws X.env)).all (·.1.isSome) = true := by rfl) (hks : (backToKw pos (keywordEach kws X.env)).filterMap (·.1) = ps := by rfl)
    (hdb : (x == ("__debug__" : Str)) = false := by decide)
    (hpl : ((backTo pos (starEach [] X.env)).any (·.1) || (backToKw pos (keywordEach kws X.env)).any (·.1.isNone)) = false := by rfl) :
    PE X (.Call (.Name x p) [] kws pos) (tCallS sp E tk) := by
  refine ⟨fun pins s σ H Q I h => ?_⟩
  refine wpAny_Call_Name_kw (ld_glob I hg hm ?_ hdb)
  refine PySem.W.callWith_KW0 (h₀ := X.base) I.ok.mod.kin hk hall (thn (hkw.run pos pins s σ H _ I h) fun ws s2 ⟨zs, H2, I2, rz, q2⟩ => ⟨I2.kIn, ?_⟩) hpl
  rw [hks, List.append_nil]
  exact run_fnK F hr hb (hx σ) I2 rz q2
end
abbrev PDk (X : Cx) (W : WX) (kws : List Keyword) (ws : AW) : Prop := PK X kws (TDa X.K W ws)
section
variable {X : Cx} {W : WX} {e : Expr} {kws : List Keyword} {w : EW} {ws : AW} {nm : Option Str} {kpos : Pos}
theorem pk_imp {t t' : TA} (h : PK X kws t) (i : ∀ σ H Q, t' σ H Q → t σ H Q) : PK X kws t' := ⟨fun pos pins s σ H Q I q => h.run pos pins s σ H Q I (i _ _ _ q)⟩
theorem pdk_nil : PDk X W [] wNil := pk_imp pk_nil fun σ H Q ⟨G, B0, H0, B, ρ, Qd, Qe, S, q, ok, _⟩ => ok _ _ _ _ S (Stp.refl ..) .nil trivial q
theorem pdk_cons (ha : PD X W e w) (hr : PDk X W kws ws) : PDk X W (⟨nm, e, kpos⟩ :: kws) (wCons w ws) :=
  pk_imp (pk_cons ha hr) fun σ H Q ⟨G, B0, H0, B, ρ, Qd, Qe, S, q, ok, er⟩ => by
    refine ⟨G, B0, H0, B, ρ, _, Qe, S, q, fun r x B1 H1 S1 s1 r1 q1 => ?_, er⟩
    refine ⟨G, B0, H0, B1, ρ, _, Qe, S1, q1, fun rs xs B2 H2 S2 s2 r2 a2 q2 => ok _ _ _ _ S2 (s1.trans s2) (.cons (r1.step s2) (r2.from s1)) ⟨fun o1 j u e1 o2 e2 => ?_, a2⟩ q2, erT er s1⟩
    obtain ⟨y, f1, f2⟩ := r2.get e1
    rw [e2] at f1; cases f1
    obtain ⟨p, ep, hp⟩ := f2.own_new o2
    obtain ⟨q', v, eq, hq⟩ := r1.own_at o1
    rw [ep] at eq; cases eq
    rw [hp] at hq; cases hq
end
theorem funBindsK {K : PySem.W.Frag} {x qual : Str} {st : Stmt} {f : Addr} {fd : FuncData} (F : Fun K x qual st f fd) {ps : List Str}
    (h : ∀ (kV doc pm : Value) (an : Option Addr) (cdv ct : Value) (us : List Value), us.length = ps.length → bindArgs (PySem.W.fnOf x qual (defArgs st) (defBody st) (defScope st) .none kV doc pm an cdv ct) ⟨[], ps.zip us⟩ = pure (ps.zip us)) : BindsK K fd ps := by
  obtain ⟨⟨oc, od, kV, doc, pm, an, cdv, ct, osl, rfl, lk, hcd⟩, _⟩ := F
  intro s us _ hl
  exact .of_eq (h kV doc pm an cdv ct us hl)
end DL

set_option Elab.async false
set_option linter.all false
set_option maxRecDepth 100000
set_option maxHeartbeats 4000000
/-! The data layer: x.extend(y), y a list or a tuple. -/
namespace DL
open PySem PySem.Spec PyProof.Rows L2
section
theorem ext_tup (l : Addr) (items : Array Value) (n : Nat) (b : Addr) (items2 : Array Value) (n2 : Nat) (dd : Option Addr) (sl : Array (Option Value)) (hs0 : ¬(!items.isEmpty && Builtin.List.listTooLong (items.size + items2.size)) = true) (hs1 : items.size ≤ sizeLine) (hs2 : items.size + items2.size ≤ sizeLine + 1) :
    Meets (Builtin.«list.extend» ⟨[.ref l, .ref b], []⟩) (fun _ R s => s.heap.get? l = some { cls := .type "list", dict := none, data := .seq items n, slots := #[] } ∧ s.heap.get? b = some { cls := .type "tuple", dict := dd, data := .seq items2 n2, slots := sl } ∧ R (.ok (.ret Value.none)) { s with heap := s.heap.update l (Obj.mapSeq fun x => x ++ items2), toks := s.toks }) :=
  .of_wp fun prog w A R s h => by
    obtain ⟨hp, g, d, tk, os⟩ := s; obtain ⟨hl, hb, h⟩ := h; have f1 := AutoSeq1.idx_int; have f2 := AutoSeq1.sub_tuple_tuple; have f3 := AutoSeq1.sub_list_list; have f4 := AutoSeq1.sub_tuple_list; have f5 := AutoSeq1.sub_list_tuple;
    have fits : (items ++ items2).size ≤ sizeLine + 1 := by
      rw [Array.size_append]
      exact hs2
    wp_walk using (wpAny_updateSeq hl rfl (hz := hs1) (_hz' := fits)), AutoSeq1.wpAny_loadPart' hl, AutoSeq1.wpAny_loadPart' hb; exact ⟨_, rfl, h⟩
end
section
variable {X : Cx}
def rExtT (K : Frag) : V → List V → Hp → VK → Prop := fun x vs H Q => ∃ l b xs zs, x = .ref l ∧ vs = [.ref b] ∧ H l = some (.lst xs) ∧ SqT K H b zs ∧ xs.length + zs.length ≤ sizeLine ∧ Q .non (upd H l (.lst (xs ++ zs)))
theorem mt_extT : MtM X "list.extend" (rExtT X.K) := by
  intro pins s σ H x vs v us Q I rx rv h
  obtain ⟨l, b, xs, zs, rfl, rfl, hH, hB, hz, q⟩ := h
  cases rx
  obtain ⟨u, rfl, ru⟩ := rv.one
  cases ru
  obtain ⟨z, its, n, r, hl, e⟩ := I.lstM hH
  obtain ⟨its2, r2, ⟨o2, e2, c2, n2, d2⟩, hl2⟩ := I.tuple hB
  have h2 := r2.length
  have hsz : its.toArray.size + its2.toArray.size ≤ sizeLine := by rw [List.size_toArray, List.size_toArray]; omega
  have hlong : ¬ (!its.toArray.isEmpty && Builtin.List.listTooLong (its.toArray.size + its2.toArray.size)) = true := by
    rw [notLongL hsz, Bool.and_false]
    exact Bool.false_ne_true
  have e2' : s.heap.get? b = some { cls := .type "tuple", dict := o2.dict, data := .seq its2.toArray n2, slots := o2.slots } := by
    rw [e2]
    cases o2
    simp only at c2 d2
    subst c2
    subst d2
    rfl
  refine call_meets F.slot_list_extend ⟨_, e, rfl⟩ F.entry_list_extend (F.args_list_extend_2 _ _)
    (ext_tup l its.toArray n b its2.toArray n2 o2.dict o2.slots hlong (by rw [List.size_toArray]; omega) (by omega)) ⟨e, e2', ?_⟩
  refine ⟨.non, _, I.lset (its' := its ++ its2) hH e (by simp) (r.append r2) ?_, rfl, q⟩
  rw [List.length_append]
  omega
def rExtB (K : Frag) : V → List V → Hp → VK → Prop := fun x vs H Q => rExtend x vs H Q ∨ rExtT K x vs H Q
theorem mt_extB : MtM X "list.extend" (rExtB X.K) := fun pins s σ H x vs v us Q I rx rv h =>
  h.elim (mt_extend pins s σ H x vs v us Q I rx rv) (mt_extT pins s σ H x vs v us Q I rx rv)
def extOf : R → Option (List D)
  | .l _ xs => some xs
  | .s (.tuple xs) => some xs
  | _ => none
/-- x.extend(y), y a list or a tuple -/
def wExt (i : Nat) (w : EW) : SW := fun ρ E => ∃ ds, ρ[i]? = some (some (.l true ds)) ∧ w ρ (fun r => ∃ es, extOf r = some es ∧ ds.length + es.length ≤ 16777216 ∧ E.nx (ρ.set i (some (.l true (ds ++ es))))) (fun cls => E.er cls ρ)
variable {W : WX} {st : Stmt} {w : EW}
theorem pds_ext {i : Nat} (h : PS X st (tDrop (tBM X.K "list" (rExtB X.K) (tVar i) (tCons (TDe X.K W w) tNil)))) : PSD X W st (wExt i w) := ps_imp h fun D σ H ⟨G, B0, H0, B, ρ, E, S, ⟨ds, e1, q⟩, l⟩ => by
  obtain ⟨x, e2, ⟨p, xs, ex, h1, h2, h3, h4, h5⟩⟩ := S.sl i _ e1
  subst ex
  refine ⟨_, e2, .inl ⟨rfl, xs, .inl (.inl h1)⟩, G, B0, H0, B, ρ, _, _, S, q, fun r y B' H' S' s r' q' => ?_, fun cls d B' H' q' S' s => l.er cls d ρ σ B' H' S' s.bb q'⟩
  obtain ⟨es, eq, hlen, q'⟩ := q'
  have k1 : H' p = some (.lst xs) := (hide_some (s.hh p _ (by rw [hide_out h4]; exact h1))).2
  have fin : ∀ (xs2 : List V), DpAll X.K B' xs2 es → D.nx σ (upd H' p (.lst (xs ++ xs2))) := fun xs2 g2 =>
    l.nx _ _ _ _ (S'.mut (r' := .l true (ds ++ es)) e1 rfl e2 ⟨p, _, rfl, upd_same, (DpAll.mono s.bb h2).append g2, s.nw p _ h3 (by rw [hide_out h4]; exact h1), h4, h5⟩) s.bb q'
  match r, eq, r' with
  | .l o es', eq, r' =>
    cases eq
    obtain ⟨p2, xs2, rfl, g1, g2, _⟩ := r'
    exact .inl ⟨p, p2, xs, xs2, rfl, rfl, k1, (hide_some g1).2, by rw [line_eq, h2.length, g2.length]; exact hlen, fin xs2 g2⟩
  | .s (.tuple es'), eq, r' =>
    cases eq
    obtain ⟨p2, xs2, rfl, g1, g2⟩ := Rs.tup r'
    exact .inr ⟨p, p2, xs, xs2, rfl, rfl, k1, (g1.up (S'.bh.trans (hide_le H'))).t, by rw [line_eq, h2.length, g2.length]; exact hlen, fin xs2 g2⟩
end
theorem extOf_l (o : Bool) (ds : List D) : extOf (.l o ds) = some ds := rfl
theorem extOf_t (ds : List D) : extOf (.s (.tuple ds)) = some ds := rfl
def extQ (r : R) (Q : List D → Prop) : Prop := ∃ es, extOf r = some es ∧ Q es
theorem extQ_l (o : Bool) (ds : List D) (Q : List D → Prop) : extQ (.l o ds) Q = Q ds := propext ⟨fun ⟨_, e, h⟩ => by cases e; exact h, fun h => ⟨_, rfl, h⟩⟩
theorem extQ_t (ds : List D) (Q : List D → Prop) : extQ (.s (.tuple ds)) Q = Q ds := propext ⟨fun ⟨_, e, h⟩ => by cases e; exact h, fun h => ⟨_, rfl, h⟩⟩
theorem u_ext (i : Nat) (w : EW) (ρ : Rho) (Y : DEnds) : wExt i w ρ Y = getQ i ρ fun r0 => ownQ r0 fun ds => w ρ (fun r => extQ r fun es => ds.length + es.length ≤ 16777216 ∧ setQ i ρ (.l true (ds ++ es)) Y.nx) (fun cls => Y.er cls ρ) := by
  unfold wExt getQ ownQ extQ setQ
  refine propext ⟨fun ⟨n, h, q⟩ => ⟨_, h, n, rfl, ?_⟩, fun ⟨r, h, n, e, q⟩ => ⟨n, by rw [h, e], ?_⟩⟩
  · simpa only [get_lt h, true_and] using q
  · simpa only [get_lt h, true_and] using q
end DL

set_option Elab.async false
set_option linter.all false
set_option maxRecDepth 100000
set_option maxHeartbeats 4000000
/-! The data layer: y = [x.pop(e) for k in ..], x a list of one's own. -/
namespace DL
open PySem PySem.Spec PyProof.Rows L2
theorem DpAll.dropAt {K : Frag} {H : Hp} : ∀ {xs : List V} {ds : List D} (j : Nat), DpAll K H xs ds → DpAll K H (xs.eraseIdx j) (ds.eraseIdx j)
  | _, _, _, .nil => .nil
  | _, _, 0, .cons _ t => t
  | _, _, j + 1, .cons h t => .cons h (DpAll.dropAt j t)
/-- t = [x.pop(we) for k in wi], x the list in slot i -/
def wPopAll (t i k : Nat) (wi : IW) (we : EW) : SW := fun ρ E => ∃ ds0, ρ[i]? = some (some (.l true ds0)) ∧ wi ρ (fun ds => ∃ P : Nat → List D → List D → Prop, P 0 ds0 [] ∧
  (∀ j rest acc d, ds[j]? = some d → P j rest acc → k < ρ.length ∧ we (putA (wipeR (ρ.set i (some (.l true rest))) [k]) [k] [d]) (fun r => ∃ n z, r = .s (.int n) ∧ 0 ≤ n ∧ n < 2 ^ 62 ∧ rest[n.toNat]? = some z ∧ acc.length < 16777216 ∧ P (j + 1) (rest.eraseIdx n.toNat) (acc ++ [z])) (fun _ => False)) ∧
  ∀ rest acc, P ds.length rest acc → t < ρ.length ∧ E.nx ((ρ.set i (some (.l true rest))).set t (some (.l true acc)))) (fun cls => E.er cls ρ)
theorem pds_popAll {X : Cx} {W : WX} {st : Stmt} {t i k : Nat} {wi : IW} {we : EW} (h : PS X st (tAsg (tLc (TDiF X.K W wi) (gC X.K false [k]) (TDt X.K W0 wYes) (tBM X.K "list" rPopAt (tVar i) (tCons (TDe X.K W0 we) tNil)) [k]) (gName t))) (hik : i ≠ k) : PSD X W st (wPopAll t i k wi we) :=
  ps_imp h fun Dn σ H ⟨G, B0, H0, B, ρ, E, S, ⟨ds0, e1, q⟩, l⟩ => by
  refine ⟨G, B0, H0, B, ρ, _, _, S, q, fun ds J B1 H1 S1 s1 it ⟨P, p0, turn, done⟩ => ?_, fun cls d B' H' q' S' s => l.er cls d ρ σ B' H' S' s.bb q'⟩
  intro Dl hD
  have dG : Dl ∉ G.at_ := S1.notG hD
  have d0 : hide G H0 Dl = none := S1.st.hh.free (hide_free hD)
  have aw : ∀ (j : Nat) (r : R), ρ[j]? = some (some r) → owns r = true → σ[j]? ≠ some (some (.ref Dl)) := fun j r e1 o e2 => by
    obtain ⟨x, f1, f2⟩ := S1.sl j r e1
    rw [e2] at f1; cases f1
    obtain ⟨p, u, ep, k1, _⟩ := f2.own o
    cases ep
    rw [hD] at k1; cases k1
  have hi : i < ρ.length := (List.getElem?_eq_some_iff.mp e1).1
  obtain ⟨x0, e2, ⟨p, xs0, ex0, _⟩⟩ := S1.sl i _ e1
  subst ex0
  have pD : p ≠ Dl := fun z => aw i _ e1 rfl (by rw [e2, z])
  have aw' : ∀ (rest : List D) (j : Nat) (r : R), (ρ.set i (some (.l true rest)))[j]? = some (some r) → owns r = true → σ[j]? ≠ some (some (.ref Dl)) := fun rest j r f1 o => by
    by_cases z : j = i
    · subst z; exact aw j _ e1 rfl
    · rw [List.getElem?_set_ne (Ne.symm z)] at f1; exact aw j r f1 o
  have same : ρ.set i (some (.l true ds0)) = ρ := List.ext_getElem? fun j => by
    by_cases z : i = j
    · subst z; rw [List.getElem?_set_self hi, e1]
    · rw [List.getElem?_set_ne z]
  refine ⟨fun j m H => m = ds.length - j ∧ j ≤ ds.length ∧ ∃ (B' : Hp) (rest acc : List D) (av : List V), Stt X.K G B0 H0 B' H σ (ρ.set i (some (.l true rest))) ∧ Same B1 B' ∧ H Dl = some (.lst av) ∧ DpAll X.K B' av acc ∧ B' Dl = none ∧ P j rest acc,
    ⟨_, rfl, Nat.zero_le _, B1, ds0, [], [], by rw [same]; exact S1.new hD, Same.refl _, upd_same, .nil, S1.freeB hD, p0⟩, ?_⟩
  rintro j m H2 ⟨rfl, hj, B2, rest, acc, av, S2, s2, hd, ha, hb, p2⟩
  have lat : LatF G B0 H0 B1 B2 H2 := ⟨s2, S2.bh, S2.gok, S2.st⟩
  by_cases hlt : j < ds.length
  · refine .inr ⟨it.go j _ _ lat hlt, fun H' => j + 1 ≤ ds.length ∧ ∃ (B' : Hp) (rest acc : List D) (av : List V), Stt X.K G B0 H0 B' H' σ (ρ.set i (some (.l true rest))) ∧ Same B1 B' ∧ H' Dl = some (.lst av) ∧ DpAll X.K B' av acc ∧ B' Dl = none ∧ P (j + 1) rest acc,
      fun H' ⟨z1, z2⟩ => ⟨ds.length - (j + 1), by omega, rfl, z1, z2⟩, fun x H3 y => ?_⟩
    obtain ⟨d, B3, y1, y2, s3, b3, g3⟩ := it.yld j _ _ x H3 lat hlt y
    have S3 := S2.step s3 b3 g3
    obtain ⟨hk, q3⟩ := turn j rest acc d y1 p2
    have trk : hide G H2 Dl = some (.lst av) := by rw [hide_out dG]; exact hd
    refine (?_ : wipe (putV (wipe σ [k]) [k] [x]) [k] = wipe σ [k] ∧ _)
    refine ⟨wipe_putV [k] [x] _ (wipe_wipe [k] fun _ h => h) (fun _ h => h), ?_⟩
    have T3 : Stt X.K G B0 H0 B3 H3 (putV (wipe σ [k]) [k] [x]) (putA (wipeR (ρ.set i (some (.l true rest))) [k]) [k] [d]) := Stt.putA [k] (S3.wipe [k]) (.cons y2 .nil) fun n hn => by
      rw [wipeR_length, List.length_set]
      rcases List.mem_cons.mp hn with rfl | hn
      · exact hk
      · cases hn
    refine ⟨G, B0, H0, B3, _, (fun b => b = true), fun _ => False, T3, rfl, fun b B4 H4 T4 s4 q4 => ?_, fun _ _ _ _ z => z.elim⟩
    subst q4
    refine iteT ?_
    have S4 := S3.step s4 T4.bh T4.gok
    obtain ⟨x4, f1, ⟨p4, xs4, ex4, g1, _⟩⟩ := S4.sl i _ (List.getElem?_set_self hi)
    have f1' := f1
    rw [e2] at f1
    cases f1
    cases ex4
    have look : (putV (wipe σ [k]) [k] [x])[i]? = some (some (.ref p)) := by
      show ((σ.set k none).set k (some x))[i]? = _
      rw [List.getElem?_set_ne (Ne.symm hik), List.getElem?_set_ne (Ne.symm hik), e2]
    refine ⟨_, look, .inl ⟨rfl, xs4, .inl (.inl g1)⟩, ?_⟩
    refine ⟨G, B0, H0, B4, _, _, _, T4, q3, fun r y5 B5 H5 T5 s5 r5 ⟨n, z, ez, n0, n1, hz, hlen, p5⟩ => ?_, fun _ _ _ _ z => z.elim⟩
    subst ez
    cases r5.int
    have S5 := S4.step s5 T5.bh T5.gok
    obtain ⟨x5, f5, ⟨p5', xs5, ex5, k1, k2, k3, k4, k5⟩⟩ := S5.sl i _ (List.getElem?_set_self hi)
    rw [e2] at f5
    cases f5
    cases ex5
    obtain ⟨yv, hy, hyd⟩ := k2.get hz
    have hlt5 : n.toNat < xs5.length := (List.getElem?_eq_some_iff.mp hy).1
    have t5 := s5.hh _ _ (s4.hh _ _ (s3.hh _ _ trk))
    have h5 : H5 Dl = some (.lst av) := (hide_some t5).2
    have b5 : B5 Dl = none := s5.nw _ _ (s4.nw _ _ (s3.nw _ _ hb trk) (s3.hh _ _ trk)) (s4.hh _ _ (s3.hh _ _ trk))
    have sq : seqIndex? n xs5.length = some n.toNat := by
      unfold seqIndex?
      simp only [show ¬ n < 0 by omega, if_false]
      rw [if_pos]
      simp only [Bool.and_eq_true, decide_eq_true_eq]
      omega
    refine ⟨p, xs5, n, n.toNat, yv, rfl, rfl, k1, by omega, by omega, sq, hy, ?_⟩
    have S6 := S5.mut (r' := .l true (rest.eraseIdx n.toNat)) (o := .lst (xs5.eraseIdx n.toNat)) (List.getElem?_set_self hi) rfl e2 ⟨p, _, rfl, upd_same, k2.dropAt n.toNat, k3, k4, k5⟩
    rw [List.set_set] at S6
    have S7 := S6.side (o := .lst (av ++ [yv])) b5 dG d0 (aw' _)
    exact ⟨av, by rw [upd_ne (Ne.symm pD)]; exact h5, by rw [line_eq, ha.length]; exact hlen, hlt, B5, _, acc ++ [z], av ++ [yv], S7, ((s2.trans s3.bb).trans s4.bb).trans s5.bb, upd_same, (DpAll.mono ((s3.bb.trans s4.bb).trans s5.bb) ha).append (.cons hyd .nil), b5, p5⟩
  · have e : j = ds.length := by omega
    subst e
    refine .inl ⟨it.stop _ _ lat, ?_⟩
    obtain ⟨ht, q4⟩ := done rest acc p2
    refine l.nx _ _ _ _ (S2.fillG (x := .ref Dl) (r := .l true acc) ⟨Dl, av, rfl, hd, ha, hb, dG, d0⟩ t (by rw [← S2.len, List.length_set]; exact ht) fun m u y _ f1 _ o2 f2 f3 => ?_) (s1.bb.trans s2) q4
    subst f3
    exact aw' rest m u f1 o2 f2
/-! x.insert(n, y) -/
abbrev rIns : V → List V → Hp → VK → Prop := fun x vs H Q => ∃ (l : Addr) (xs : List V) (n : Int) (y : V), x = .ref l ∧ vs = [.int n, y] ∧ H l = some (.lst xs) ∧ xs.length < sizeLine ∧ 0 ≤ n ∧ n < 2 ^ 63 ∧ Q .non (upd H l (.lst (xs.take n.toNat ++ [y] ++ xs.drop n.toNat)))
theorem mt_ins {X : Cx} : MtR X "list.insert" rIns := mt_insert
def wInsert (i : Nat) (wa wb : EW) : SW := fun ρ E => ∃ ds, ρ[i]? = some (some (.l true ds)) ∧ wa ρ (fun r => ∃ n, r = .s (.int n) ∧ wb ρ (fun u => ∃ d, u.dat = some d ∧ 0 ≤ n ∧ n < 2 ^ 62 ∧ ds.length < 16777216 ∧ E.nx (ρ.set i (some (.l true (ds.take n.toNat ++ [d] ++ ds.drop n.toNat))))) (fun cls => E.er cls ρ)) (fun cls => E.er cls ρ)
theorem pds_insert {X : Cx} {W : WX} {st : Stmt} {wa wb : EW} {i : Nat} (h : PS X st (tDrop (tBM X.K "list" rIns (tVar i) (tCons (TDe X.K W wa) (tCons (TDe X.K W wb) tNil))))) : PSD X W st (wInsert i wa wb) := ps_imp h fun Dn σ H ⟨G, B0, H0, B, ρ, E, S, ⟨ds, e1, q⟩, l⟩ => by
  obtain ⟨x, e2, ⟨p, xs, ex, h1, h2, h3, h4, h5⟩⟩ := S.sl i _ e1
  subst ex
  refine ⟨_, e2, .inl ⟨rfl, xs, .inl (.inl h1)⟩, G, B0, H0, B, ρ, _, _, S, q, fun r y B' H' S' s r' q' => ?_, fun cls d B' H' q' S' s => l.er cls d ρ σ B' H' S' s.bb q'⟩
  obtain ⟨n, en, q'⟩ := q'
  subst en
  cases r'.int
  refine ⟨G, B0, H0, B', ρ, _, _, S', q', fun u y2 B2 H2 S2 s2 r2 q2 => ?_, fun cls d B2 H2 q2 S2 s2 => l.er cls d ρ σ B2 H2 S2 (s.bb.trans s2.bb) q2⟩
  obtain ⟨d, ed, n0, n1, hlen, q2⟩ := q2
  have t := s2.hh _ _ (s.hh _ _ (by rw [hide_out h4]; exact h1 : hide G H p = some (.lst xs)))
  have k1 : H2 p = some (.lst xs) := (hide_some t).2
  have nw : B2 p = none := s2.nw _ _ (s.nw p _ h3 (by rw [hide_out h4]; exact h1)) (s.hh _ _ (by rw [hide_out h4]; exact h1))
  have ha : DpAll X.K B2 xs ds := DpAll.mono (s.bb.trans s2.bb) h2
  refine ⟨p, xs, n, y2, rfl, rfl, k1, by rw [line_eq, h2.length]; exact hlen, n0, by omega, ?_⟩
  exact l.nx _ _ _ _ (S2.mut (r' := .l true (ds.take n.toNat ++ [d] ++ ds.drop n.toNat)) e1 rfl e2 ⟨p, _, rfl, upd_same, ((ha.take _).append (.cons (r2.dat ed) .nil)).append (ha.drop _), nw, h4, h5⟩) (s.bb.trans s2.bb) q2
/-! {k: v} -/
def wDisp1 (wk wv : EW) : EW := fun ρ Q E => wk ρ (fun r => ∃ e y, r = .s e ∧ ofK e = some y ∧ wv ρ (fun u => ∃ d, u.dat = some d ∧ Q (.k true [(y, d)])) E) E
theorem pd_disp1 {X : Cx} {W : WX} {e : Expr} {wk wv : EW} (h : PE X e (tDisp [(TDe X.K W wk, TDe X.K W wv)])) : PD X W e (wDisp1 wk wv) := pe_imp h fun σ H Q ⟨G, B0, H0, B, ρ, Qd, Qe, S, q, ok, er⟩ => by
  intro p hp
  have pG : p ∉ G.at_ := S.notG hp
  have p0 : hide G H0 p = none := S.st.hh.free (hide_free hp)
  have aw : ∀ (j : Nat) (r : R), ρ[j]? = some (some r) → owns r = true → σ[j]? ≠ some (some (.ref p)) := fun j r e1 o e2 => by
    obtain ⟨x, f1, f2⟩ := S.sl j r e1
    rw [e2] at f1; cases f1
    obtain ⟨b, u, ep, k1, _⟩ := f2.own o
    cases ep
    rw [hp] at k1; cases k1
  have s0 : Stp G B H B (upd H p (.dK [])) := Stp.new hp
  refine ⟨G, B0, H0, B, ρ, _, Qe, S.new hp, q, fun r x B1 H1 S1 s1 r1 ⟨e, y, er', ey, q1⟩ => ?_, fun cls d B1 H1 q1 S1 s1 => er cls d B1 H1 q1 S1 (s0.trans s1)⟩
  subst er'
  obtain rfl := kV_of (show Dp X.K B1 x e from r1) ey
  refine ⟨G, B0, H0, B1, ρ, _, Qe, S1, q1, fun u v B2 H2 S2 s2 r2 ⟨d, ed, q2⟩ => ?_, fun cls d B2 H2 q2 S2 s2 => er cls d B2 H2 q2 S2 ((s0.trans s1).trans s2)⟩
  have s02 := (s0.trans s1).trans s2
  have t0 : hide G (upd H p (.dK [])) p = some (.dK []) := by rw [hide_out pG, upd_same]
  have t2 : H2 p = some (.dK []) := (hide_some (s2.hh _ _ (s1.hh _ _ t0))).2
  have b2 : B2 p = none := s2.nw _ _ (s1.nw _ _ (S.freeB hp) t0) (s1.hh _ _ t0)
  refine ⟨t2, [(y, v)], rfl, by show 1 ≤ 15; decide, ?_⟩
  refine ok (.k true [(y, d)]) (.ref p) B2 _ (S2.side b2 pG p0 aw) ⟨s02.bb, fun b w eb => ?_, s02.nw⟩ ⟨p, [(y, v)], rfl, by rw [hide_out pG]; exact upd_same, .cons (r2.dat ed) .nil, fun _ => ⟨b2, hide_free hp⟩⟩ q2
  rw [hide_upd pG, upd_ne (ne_of_none eb (hide_free hp))]
  exact s02.hh _ _ eb
/-! as words from the top -/
def popAllQ (t i k : Nat) (we : EW) (ρ : Rho) (E : DEnds) (ds0 ds : List D) : Prop := ∃ P : Nat → List D → List D → Prop, P 0 ds0 [] ∧
  (∀ j rest acc d, ds[j]? = some d → P j rest acc → k < ρ.length ∧ we (putA (wipeR (ρ.set i (some (.l true rest))) [k]) [k] [d]) (fun r => ∃ n z, r = .s (.int n) ∧ 0 ≤ n ∧ n < 2 ^ 62 ∧ rest[n.toNat]? = some z ∧ acc.length < 16777216 ∧ P (j + 1) (rest.eraseIdx n.toNat) (acc ++ [z])) (fun _ => False)) ∧
  ∀ rest acc, P ds.length rest acc → t < ρ.length ∧ E.nx ((ρ.set i (some (.l true rest))).set t (some (.l true acc)))
theorem u_popAll (t i k : Nat) (wi : IW) (we : EW) (ρ : Rho) (Y : DEnds) : wPopAll t i k wi we ρ Y = getQ i ρ fun r => ownQ r fun ds0 => wi ρ (fun ds => popAllQ t i k we ρ Y ds0 ds) (fun cls => Y.er cls ρ) := by
  unfold wPopAll getQ ownQ popAllQ
  exact propext ⟨fun ⟨n, h, q⟩ => ⟨_, h, n, rfl, q⟩, fun ⟨r, h, n, e, q⟩ => ⟨n, by rw [h, e], q⟩⟩
theorem u_insert (i : Nat) (wa wb : EW) (ρ : Rho) (Y : DEnds) : wInsert i wa wb ρ Y = getQ i ρ fun r => ownQ r fun ds => wa ρ (fun r => intQ r fun n => wb ρ (fun u => datQ u fun d => 0 ≤ n ∧ n < 2 ^ 62 ∧ ds.length < 16777216 ∧ setQ i ρ (.l true (ds.take n.toNat ++ [d] ++ ds.drop n.toNat)) Y.nx) (fun cls => Y.er cls ρ)) (fun cls => Y.er cls ρ) := by
  unfold wInsert getQ ownQ intQ datQ setQ
  refine propext ⟨fun ⟨n, h, q⟩ => ⟨_, h, n, rfl, ?_⟩, fun ⟨r, h, n, e, q⟩ => ⟨n, by rw [h, e], ?_⟩⟩
  · simpa only [get_lt h, true_and] using q
  · simpa only [get_lt h, true_and] using q
theorem u_disp1 (wk wv : EW) (ρ : Rho) (Q : R → Prop) (E : Value → Prop) : wDisp1 wk wv ρ Q E = wk ρ (fun r => keyQ r fun y => wv ρ (fun u => datQ u fun d => Q (.k true [(y, d)])) E) E := by
  unfold wDisp1
  have e : (fun r : R => ∃ e y, r = .s e ∧ ofK e = some y ∧ wv ρ (fun u => ∃ d, u.dat = some d ∧ Q (.k true [(y, d)])) E) = fun r => keyQ r fun y => wv ρ (fun u => datQ u fun d => Q (.k true [(y, d)])) E := rfl
  rw [e]
end DL

set_option Elab.async false
set_option linter.all false
set_option maxRecDepth 100000
set_option maxHeartbeats 4000000
/-! The data layer: x.index(y), x.index(y, from). -/
namespace DL
open PySem PySem.Spec PyProof.Rows L2
theorem index_from (l : Addr) (items : Array Value) (n : Nat) (dd : Option Addr) (sl : Array (Option Value)) (x : Value) (tk0 : Tok) (e : Value → Bool) (i j : Nat) (hj : j < items.size) (hij : i ≤ j) (few : (j : Int) < 2 ^ 63 - 1)
    (hit : e items[j] = true) (no : ∀ m (hm : m < items.size), i ≤ m → m < j → e items[m] = false) :
    Meets (Builtin.«list.index» ⟨[.ref l, x, .int (i : Int) tk0], []⟩)
      (fun A R s => s.heap.get? l = some { cls := .type "list", dict := dd, data := .seq items n, slots := sl } ∧ (∀ y, y ∈ items → SeqAt.EqAt A.in1 s y x (e y)) ∧ R (.ok (.ret (.int j s.toks))) { s with toks := s.toks + 1 }) := by
  intro prog w A R s h
  obtain ⟨hp, g, d, tk, os⟩ := s
  obtain ⟨hl, he, h⟩ := h
  have f1 := AutoSeq1.idx_int
  wp_walk using AutoSeq1.wpAny_loadPart' hl
  have a1 : ((fun b : Int => if b < 0 then max 0 (b + (items.size : Int)) else b) ((some (i : Int)).getD 0)) = ((i : Nat) : Int) := by simp; omega
  have a2 : ((fun b : Int => if b < 0 then max 0 (b + (items.size : Int)) else b) (Option.getD none (2 ^ 63 - 1))) = 2 ^ 63 - 1 := by
    simp
  rw [a1, a2]
  exact ⟨plainId_quiet MeetsSeq.plain_index_loop _, codeAny_builtin MeetsSeq.entry_index_loop (by
    rw [Around.under_plainId MeetsSeq.plain_index_loop _]
    exact SeqAt.index_loopAt l items n dd sl x e (2 ^ 63 - 1) j hj few hit _ i rfl hij no prog w A R _ ⟨hl, he, h⟩)⟩
section
variable {X : Cx}
/-- x.index(y) and x.index(y, from), y there, all flat -/
def rIndAny (K : Frag) : V → List V → Hp → VK → Prop := fun x xs H Q => ∃ (a : Addr) (ys : List V) (y : V) (i j : Nat) (z : V), x = V.ref a ∧ ((xs = [y] ∧ i = 0) ∨ xs = [y, .int (i : Int)]) ∧ SqL K H a ys ∧ flatV y = true ∧ ys.all flatV = true ∧ i ≤ j ∧ ys[j]? = some z ∧ eqV z y = true ∧
  (∀ (m : Nat) (z' : V), i ≤ m → m < j → ys[m]? = some z' → eqV z' y = false) ∧ Q (.int (j : Nat)) H
theorem mt_indAny : MtR X "list.index" (rIndAny X.K) := by
  intro pins s σ H x xs v us Q I rx rxs h
  obtain ⟨a, ys, y, i, j, z, rfl, hx, hs, fy, fys, hij, hz, hzj, hno, q⟩ := h
  rcases hx with ⟨rfl, rfl⟩ | rfl
  · exact mt_index pins s σ H _ _ v us Q I rx rxs ⟨a, ys, y, j, z, rfl, rfl, hs, fy, fys, hz, hzj, fun m z' h1 h2 => hno m z' (Nat.zero_le _) h1 h2, q⟩
  · cases rx
    obtain ⟨uy, ui, rfl, ry, ri⟩ := rxs.two
    obtain ⟨ti, rfl⟩ := ri
    obtain ⟨its, rv, ⟨⟨cls, dd, data, sl⟩, n, ho, hc, hdn, hd⟩, hlen⟩ := I.list hs
    simp only at hc hd
    subst hc hd
    obtain ⟨u, hu, ru⟩ := rv.get hz
    obtain ⟨jl, je⟩ := List.getElem?_eq_some_iff.mp hu
    have vl := rv.length
    have line := sizeLine_eq
    refine call_meets PySem.F.slot_list_index ⟨_, ho, rfl⟩ PySem.F.entry_list_index (PySem.F.args_list_index_3 _ _ _)
      (index_from a its.toArray n dd sl uy ti (eqU y) i j (by simpa using jl) hij (by omega) ?_ ?_) ⟨ho, fun w hw => mem_eqAt ry fy rv fys w (by simpa using hw), ⟨.int (j : Nat), H, I.tok _, ⟨_, rfl⟩, q⟩⟩
    · have e1 : its.toArray[j]'(by simpa using jl) = u := by simpa using je
      rw [e1, eqU_of ru (flat_at fys hz)]
      exact hzj
    · intro m hm him hmj
      have ml : m < its.length := by simpa using hm
      have my : m < ys.length := by omega
      have at_ : ys[m]? = some ys[m] := List.getElem?_eq_getElem my
      obtain ⟨u2, hu2, ru2⟩ := rv.get at_
      obtain ⟨_, me⟩ := List.getElem?_eq_some_iff.mp hu2
      have e1 : its.toArray[m] = u2 := by simpa using me
      rw [e1, eqU_of ru2 (flat_at fys at_)]
      exact hno m _ him hmj at_
end
def lstOf : R → Option (List D)
  | .l _ xs => some xs
  | .s (.list xs) => some xs
  | _ => none
/-- x.index(y), x.index(y, from): flat items, y there -/
def IndAt (ds : List D) (rs : List R) (Q : R → Prop) : Prop := ∃ (y z : D) (i j : Nat), ((rs = [.s y] ∧ i = 0) ∨ rs = [.s y, .s (.int (i : Int))]) ∧ flatD y = true ∧ ds.all flatD = true ∧ i ≤ j ∧ ds[j]? = some z ∧ PyData.eqv z y = true ∧
  (∀ (m : Nat) (z' : D), i ≤ m → m < j → ds[m]? = some z' → PyData.eqv z' y = false) ∧ Q (.s (.int (j : Int)))
def wInd (w : EW) (ws : AW) : EW := fun ρ Q E => w ρ (fun r => ∃ ds, lstOf r = some ds ∧ ws ρ (fun rs => IndAt ds rs Q) E) E
theorem pd_ind {X : Cx} {W : WX} {e : Expr} {w : EW} {ws : AW} (h : PE X e (tBM X.K "list" (rIndAny X.K) (TDe X.K W w) (TDa X.K W ws))) : PD X W e (wInd w ws) := pe_imp h fun σ H Q ⟨G, B0, H0, B, ρ, Qd, Qe, S, q, ok, er⟩ => by
  refine ⟨G, B0, H0, B, ρ, _, Qe, S, q, fun r x B1 H1 S1 s1 r1 ⟨ds, el, q1⟩ => ?_, er⟩
  have there : ∀ (B2 H2 : Hp), Stt X.K G B0 H0 B2 H2 σ ρ → Rs X.K G H B2 H2 x r → ∃ p xs, x = .ref p ∧ SqL X.K H2 p xs ∧ DpAll X.K B2 xs ds := fun B2 H2 S2 r2 => by
    match r, el, r2 with
    | .l o xs', el, r2 =>
      cases el
      obtain ⟨p, xs, e1, h1, h2, _⟩ := r2
      exact ⟨p, xs, e1, .inl (.inl (hide_some h1).2), h2⟩
    | .s (.list xs'), el, r2 =>
      cases el
      cases (show Dp X.K B2 x (.list _) from r2) with
      | lst h1 h2 => exact ⟨_, _, rfl, Same.sqL (S2.bh.trans (hide_le H2)) h1, h2⟩
  obtain ⟨p, xs, rfl, hq, _⟩ := there B1 H1 S1 r1
  refine ⟨.inl ⟨rfl, xs, hq⟩, G, B0, H0, B1, ρ, _, Qe, S1, q1, fun rs vs B2 H2 S2 s2 r2 _ q2 => ?_, fun cls d B2 H2 q2 S2 s2 => er cls d B2 H2 q2 S2 (s1.trans s2)⟩
  obtain ⟨y, z, i, j, hr, fy, fd, hij, hz, hzy, hno, q3⟩ := q2
  obtain ⟨p2, ys, e2, hq2, hd⟩ := there B2 H2 S2 (r1.step s2)
  cases e2
  obtain ⟨zv, k1, k2⟩ := hd.get hz
  have fin : ∀ (yv : V), Dp X.K B2 yv y → ((vs = [yv] ∧ i = 0) ∨ vs = [yv, .int (i : Int)]) → rIndAny X.K (.ref p) vs H2 Q := fun yv hy hv =>
    ⟨p, ys, yv, i, j, zv, rfl, hv, hq2, flatV_of hy fy, flatAll_of hd fd, hij, k1, by rw [eqV_of k2 hy (List.all_eq_true.mp fd z (List.mem_of_getElem? hz)) fy]; exact hzy, fun m z' m1 m2 m3 => by
      obtain ⟨d', f1, f2⟩ := hd.get' m3
      rw [eqV_of f2 hy (List.all_eq_true.mp fd d' (List.mem_of_getElem? f1)) fy]
      exact hno m d' m1 m2 f1, ok (.s (.int (j : Int))) (.int (j : Int)) B2 H2 S2 (s1.trans s2) (show Dp X.K B2 (.int (j : Int)) (.int (j : Int)) from .int _) q3⟩
  rcases hr with ⟨rfl, e0⟩ | rfl
  · obtain ⟨yv, rfl, h1⟩ := r2.one
    exact fin yv h1 (.inl ⟨rfl, e0⟩)
  · obtain ⟨yv, iv, rfl, h1, h2⟩ := r2.two
    cases h2.int
    exact fin yv h1 (.inr rfl)
def lstQ' (r : R) (Q : List D → Prop) : Prop := ∃ ds, lstOf r = some ds ∧ Q ds
theorem lstQ'_l (o : Bool) (ds : List D) (Q : List D → Prop) : lstQ' (.l o ds) Q = Q ds := propext ⟨fun ⟨_, e, h⟩ => by cases e; exact h, fun h => ⟨_, rfl, h⟩⟩
theorem lstQ'_L (ds : List D) (Q : List D → Prop) : lstQ' (.s (.list ds)) Q = Q ds := propext ⟨fun ⟨_, e, h⟩ => by cases e; exact h, fun h => ⟨_, rfl, h⟩⟩
theorem u_ind (w : EW) (ws : AW) (ρ : Rho) (Q : R → Prop) (E : Value → Prop) : wInd w ws ρ Q E = w ρ (fun r => lstQ' r fun ds => ws ρ (fun rs => IndAt ds rs Q) E) E := rfl
/-! list(x), x a list, a tuple or a dict -/
def fListB : FL := fun rs Q => fList rs Q ∨ ∃ r kvs, rs = [r] ∧ r.kv = some kvs ∧ Q (.l true (kvs.map fun p => kD p.1))
theorem DpAll.keys {K : Frag} {B : Hp} : ∀ {xs : List (Key × V)} {kvs : List (Key × D)}, KvP K B xs kvs → DpAll K B (xs.map fun kv => kV kv.1) (kvs.map fun p => kD p.1)
  | _, _, .nil => .nil
  | _, _, .cons (k := k) _ t => .cons (by cases k <;> constructor) (DpAll.keys t)
theorem c_listB {X : Cx} (hc : X.calm = true) : CallR X (.type "list") (liftL X.K fListB) := by
  intro pins s σ H xs us Q I rx hh
  obtain ⟨G, Hs, B, rs, Qd, c, ra, h | ⟨r, kvs, rfl, e1, q⟩, k⟩ := hh
  · exact c_list pins s σ H xs us Q I rx ⟨G, Hs, B, rs, Qd, c, ra, h, k⟩
  · obtain ⟨x, rfl, r1⟩ := ra.one
    obtain ⟨p, ys, rfl, h1, h2⟩ := r1.kv e1 c.bh
    exact call_listD hc pins s σ H _ us Q I rx ⟨p, ys, rfl, .inl h1, fun l hl => k.lst c hl (DpAll.keys h2) q⟩
theorem fListB_t (ds : List D) (Q : R → Prop) : fListB [.s (.tuple ds)] Q = Q (.l true ds) := by simp [fListB, fList, R.seq, kv_t]
theorem fListB_L (ds : List D) (Q : R → Prop) : fListB [.s (.list ds)] Q = Q (.l true ds) := by simp [fListB, fList, R.seq, kv_L]
theorem fListB_l (o : Bool) (ds : List D) (Q : R → Prop) : fListB [.l o ds] Q = Q (.l true ds) := by simp [fListB, fList, R.seq, kv_l]
theorem fListB_k (o : Bool) (kvs : List (Key × D)) (Q : R → Prop) : fListB [.k o kvs] Q = Q (.l true (kvs.map fun p => kD p.1)) := by simp [fListB, fList, seq_k, kv_k]
end DL

set_option Elab.async false
set_option linter.all false
set_option maxRecDepth 100000
set_option maxHeartbeats 4000000
namespace LK
open PySem PySem.Spec PyProof.Rows L2 DL
/-! ### places, scopes (printed by gen.py) -/
def top (i : Nat) : Stmt := PySem.Challenge.pw_heapsworn_k65_loops_judged_and_run.main.body.getD i (.Pass ⟨0, 0, 0, 0⟩)
abbrev s_is_int : Stmt := top 8
abbrev N_is_int : List Str := ["thing"]
abbrev P_is_int : List Str := ["thing"]
theorem sc_is_int : FnScope N_is_int P_is_int (defScope s_is_int) := ⟨rfl, rfl, rfl, by decide +kernel, rfl, by decide +kernel, by decide +kernel⟩
abbrev s_within : Stmt := top 9
abbrev N_within : List Str := ["thing", "low", "high"]
abbrev P_within : List Str := ["thing", "low", "high"]
theorem sc_within : FnScope N_within P_within (defScope s_within) := ⟨rfl, rfl, rfl, by decide +kernel, rfl, by decide +kernel, by decide +kernel⟩
abbrev s_is_row : Stmt := top 10
abbrev N_is_row : List Str := ["thing", "fewest", "most"]
abbrev P_is_row : List Str := ["thing", "fewest", "most"]
theorem sc_is_row : FnScope N_is_row P_is_row (defScope s_is_row) := ⟨rfl, rfl, rfl, by decide +kernel, rfl, by decide +kernel, by decide +kernel⟩
abbrev s_is_word : Stmt := top 11
abbrev N_is_word : List Str := ["thing", "words"]
abbrev P_is_word : List Str := ["thing", "words"]
theorem sc_is_word : FnScope N_is_word P_is_word (defScope s_is_word) := ⟨rfl, rfl, rfl, by decide +kernel, rfl, by decide +kernel, by decide +kernel⟩
abbrev s_is_many : Stmt := top 16
abbrev N_is_many : List Str := ["thing"]
abbrev P_is_many : List Str := ["thing"]
theorem sc_is_many : FnScope N_is_many P_is_many (defScope s_is_many) := ⟨rfl, rfl, rfl, by decide +kernel, rfl, by decide +kernel, by decide +kernel⟩
abbrev s_need_many : Stmt := top 17
abbrev N_need_many : List Str := ["many"]
abbrev P_need_many : List Str := ["many"]
theorem sc_need_many : FnScope N_need_many P_need_many (defScope s_need_many) := ⟨rfl, rfl, rfl, by decide +kernel, rfl, by decide +kernel, by decide +kernel⟩
abbrev s_is_cell : Stmt := top 18
abbrev N_is_cell : List Str := ["thing"]
abbrev P_is_cell : List Str := ["thing"]
theorem sc_is_cell : FnScope N_is_cell P_is_cell (defScope s_is_cell) := ⟨rfl, rfl, rfl, by decide +kernel, rfl, by decide +kernel, by decide +kernel⟩
abbrev s_are_cells : Stmt := top 19
abbrev N_are_cells : List Str := ["thing", "one", "other"]
abbrev P_are_cells : List Str := ["thing"]
theorem sc_are_cells : FnScope N_are_cells P_are_cells (defScope s_are_cells) := ⟨rfl, rfl, rfl, by decide +kernel, rfl, by decide +kernel, by decide +kernel⟩
abbrev s_is_state_of : Stmt := top 20
abbrev N_is_state_of : List Str := ["thing", "place"]
abbrev P_is_state_of : List Str := ["thing"]
theorem sc_is_state_of : FnScope N_is_state_of P_is_state_of (defScope s_is_state_of) := ⟨rfl, rfl, rfl, by decide +kernel, rfl, by decide +kernel, by decide +kernel⟩
abbrev s_places_of : Stmt := top 21
abbrev N_places_of : List Str := ["state", "found", "place", "following"]
abbrev P_places_of : List Str := ["state"]
theorem sc_places_of : FnScope N_places_of P_places_of (defScope s_places_of) := ⟨rfl, rfl, rfl, by decide +kernel, rfl, by decide +kernel, by decide +kernel⟩
abbrev s_state_from : Stmt := top 22
abbrev N_state_from : List Str := ["variables", "nexts"]
abbrev P_state_from : List Str := ["variables", "nexts"]
theorem sc_state_from : FnScope N_state_from P_state_from (defScope s_state_from) := ⟨rfl, rfl, rfl, by decide +kernel, rfl, by decide +kernel, by decide +kernel⟩
abbrev s_reached_by : Stmt := top 24
abbrev N_reached_by : List Str := ["nexts", "starts", "found", "place"]
abbrev P_reached_by : List Str := ["nexts", "starts"]
theorem sc_reached_by : FnScope N_reached_by P_reached_by (defScope s_reached_by) := ⟨rfl, rfl, rfl, by decide +kernel, rfl, by decide +kernel, by decide +kernel⟩
abbrev s_is_whole_of : Stmt := top 25
abbrev N_is_whole_of : List Str := ["state"]
abbrev P_is_whole_of : List Str := ["state"]
theorem sc_is_whole_of : FnScope N_is_whole_of P_is_whole_of (defScope s_is_whole_of) := ⟨rfl, rfl, rfl, by decide +kernel, rfl, by decide +kernel, by decide +kernel⟩
abbrev s_is_step_of : Stmt := top 28
abbrev N_is_step_of : List Str := ["many", "thing"]
abbrev P_is_step_of : List Str := ["many", "thing"]
theorem sc_is_step_of : FnScope N_is_step_of P_is_step_of (defScope s_is_step_of) := ⟨rfl, rfl, rfl, by decide +kernel, rfl, by decide +kernel, by decide +kernel⟩
abbrev s_is_condition_of : Stmt := top 29
abbrev N_is_condition_of : List Str := ["many", "thing"]
abbrev P_is_condition_of : List Str := ["many", "thing"]
theorem sc_is_condition_of : FnScope N_is_condition_of P_is_condition_of (defScope s_is_condition_of) := ⟨rfl, rfl, rfl, by decide +kernel, rfl, by decide +kernel, by decide +kernel⟩
abbrev s_condition_in : Stmt := top 30
abbrev N_condition_in : List Str := ["condition", "state", "places"]
abbrev P_condition_in : List Str := ["condition", "state"]
theorem sc_condition_in : FnScope N_condition_in P_condition_in (defScope s_condition_in) := ⟨rfl, rfl, rfl, by decide +kernel, rfl, by decide +kernel, by decide +kernel⟩
abbrev s_top_of : Stmt := top 31
abbrev N_top_of : List Str := ["state"]
abbrev P_top_of : List Str := ["state"]
theorem sc_top_of : FnScope N_top_of P_top_of (defScope s_top_of) := ⟨rfl, rfl, rfl, by decide +kernel, rfl, by decide +kernel, by decide +kernel⟩
abbrev s_step_in : Stmt := top 32
abbrev N_step_in : List Str := ["state", "step", "top", "places", "nexts", "word", "variable", "other", "found"]
abbrev P_step_in : List Str := ["state", "step", "top"]
theorem sc_step_in : FnScope N_step_in P_step_in (defScope s_step_in) := ⟨rfl, rfl, rfl, by decide +kernel, rfl, by decide +kernel, by decide +kernel⟩
abbrev s_is_whole_state : Stmt := top 33
abbrev N_is_whole_state : List Str := ["many", "thing"]
abbrev P_is_whole_state : List Str := ["many", "thing"]
theorem sc_is_whole_state : FnScope N_is_whole_state P_is_whole_state (defScope s_is_whole_state) := ⟨rfl, rfl, rfl, by decide +kernel, rfl, by decide +kernel, by decide +kernel⟩
abbrev s_is_branch : Stmt := top 37
abbrev N_is_branch : List Str := ["part"]
abbrev P_is_branch : List Str := ["part"]
theorem sc_is_branch : FnScope N_is_branch P_is_branch (defScope s_is_branch) := ⟨rfl, rfl, rfl, by decide +kernel, rfl, by decide +kernel, by decide +kernel⟩
abbrev s_size_of : Stmt := top 38
abbrev N_size_of : List Str := ["many", "thing", "deep", "total", "part", "more"]
abbrev P_size_of : List Str := ["many", "thing", "deep"]
theorem sc_size_of : FnScope N_size_of P_size_of (defScope s_size_of) := ⟨rfl, rfl, rfl, by decide +kernel, rfl, by decide +kernel, by decide +kernel⟩
abbrev s_branch_size : Stmt := top 39
abbrev N_branch_size : List Str := ["many", "thing", "deep", "first", "second"]
abbrev P_branch_size : List Str := ["many", "thing", "deep"]
theorem sc_branch_size : FnScope N_branch_size P_branch_size (defScope s_branch_size) := ⟨rfl, rfl, rfl, by decide +kernel, rfl, by decide +kernel, by decide +kernel⟩
abbrev s_is_program_of : Stmt := top 40
abbrev N_is_program_of : List Str := ["many", "thing"]
abbrev P_is_program_of : List Str := ["many", "thing"]
theorem sc_is_program_of : FnScope N_is_program_of P_is_program_of (defScope s_is_program_of) := ⟨rfl, rfl, rfl, by decide +kernel, rfl, by decide +kernel, by decide +kernel⟩
abbrev s_course_in : Stmt := top 42
abbrev N_course_in : List Str := ["program", "state", "top", "steps", "states", "waiting", "part", "chosen", "found"]
abbrev P_course_in : List Str := ["program", "state"]
theorem sc_course_in : FnScope N_course_in P_course_in (defScope s_course_in) := ⟨rfl, rfl, rfl, by decide +kernel, rfl, by decide +kernel, by decide +kernel⟩
abbrev s_outcome_in : Stmt := top 43
abbrev N_outcome_in : List Str := ["program", "state", "steps", "states", "word"]
abbrev P_outcome_in : List Str := ["program", "state"]
theorem sc_outcome_in : FnScope N_outcome_in P_outcome_in (defScope s_outcome_in) := ⟨rfl, rfl, rfl, by decide +kernel, rfl, by decide +kernel, by decide +kernel⟩
abbrev s_is_loop_of : Stmt := top 46
abbrev N_is_loop_of : List Str := ["many", "thing"]
abbrev P_is_loop_of : List Str := ["many", "thing"]
theorem sc_is_loop_of : FnScope N_is_loop_of P_is_loop_of (defScope s_is_loop_of) := ⟨rfl, rfl, rfl, by decide +kernel, rfl, by decide +kernel, by decide +kernel⟩
abbrev s_is_loop : Stmt := top 47
abbrev N_is_loop : List Str := ["many", "thing"]
abbrev P_is_loop : List Str := ["many", "thing"]
theorem sc_is_loop : FnScope N_is_loop P_is_loop (defScope s_is_loop) := ⟨rfl, rfl, rfl, by decide +kernel, rfl, by decide +kernel, by decide +kernel⟩
abbrev s_need_loop : Stmt := top 48
abbrev N_need_loop : List Str := ["many", "loop"]
abbrev P_need_loop : List Str := ["many", "loop"]
theorem sc_need_loop : FnScope N_need_loop P_need_loop (defScope s_need_loop) := ⟨rfl, rfl, rfl, by decide +kernel, rfl, by decide +kernel, by decide +kernel⟩
abbrev s_looped : Stmt := top 49
abbrev N_looped : List Str := ["loop", "state", "most", "turns", "outcome"]
abbrev P_looped : List Str := ["loop", "state", "most"]
theorem sc_looped : FnScope N_looped P_looped (defScope s_looped) := ⟨rfl, rfl, rfl, by decide +kernel, rfl, by decide +kernel, by decide +kernel⟩
abbrev s_run_loop : Stmt := top 50
abbrev N_run_loop : List Str := ["many", "loop", "state", "most"]
abbrev P_run_loop : List Str := ["many", "loop", "state", "most"]
theorem sc_run_loop : FnScope N_run_loop P_run_loop (defScope s_run_loop) := ⟨rfl, rfl, rfl, by decide +kernel, rfl, by decide +kernel, by decide +kernel⟩
abbrev s_law_deck : Stmt := top 52
abbrev N_law_deck : List Str := ["script", "cell"]
abbrev P_law_deck : List Str := ["script"]
theorem sc_law_deck : FnScope N_law_deck P_law_deck (defScope s_law_deck) := ⟨rfl, rfl, rfl, by decide +kernel, rfl, by decide +kernel, by decide +kernel⟩
abbrev s_law_pick : Stmt := top 53
abbrev N_law_pick : List Str := ["deck", "many", "cells", "cell", "found"]
abbrev P_law_pick : List Str := ["deck", "many"]
theorem sc_law_pick : FnScope N_law_pick P_law_pick (defScope s_law_pick) := ⟨rfl, rfl, rfl, by decide +kernel, rfl, by decide +kernel, by decide +kernel⟩
abbrev s_law_same : Stmt := top 54
abbrev N_law_same : List Str := ["told", "due", "waiting", "one", "two", "k"]
abbrev P_law_same : List Str := ["told", "due"]
theorem sc_law_same : FnScope N_law_same P_law_same (defScope s_law_same) := ⟨rfl, rfl, rfl, by decide +kernel, rfl, by decide +kernel, by decide +kernel⟩
abbrev s_law_places : Stmt := top 55
abbrev N_law_places : List Str := ["state", "found", "place", "following"]
abbrev P_law_places : List Str := ["state"]
theorem sc_law_places : FnScope N_law_places P_law_places (defScope s_law_places) := ⟨rfl, rfl, rfl, by decide +kernel, rfl, by decide +kernel, by decide +kernel⟩
abbrev s_law_state : Stmt := top 56
abbrev N_law_state : List Str := ["deck", "many", "most", "step", "shift", "names", "k", "count", "order", "cells", "kind", "following", "variables", "spot"]
abbrev P_law_state : List Str := ["deck", "many", "most"]
theorem sc_law_state : FnScope N_law_state P_law_state (defScope s_law_state) := ⟨rfl, rfl, rfl, by decide +kernel, rfl, by decide +kernel, by decide +kernel⟩
abbrev s_law_whole : Stmt := top 57
abbrev N_law_whole : List Str := ["state", "cells", "found", "place", "pair"]
abbrev P_law_whole : List Str := ["state"]
theorem sc_law_whole : FnScope N_law_whole P_law_whole (defScope s_law_whole) := ⟨rfl, rfl, rfl, by decide +kernel, rfl, by decide +kernel, by decide +kernel⟩
abbrev s_law_whole_state : Stmt := top 58
abbrev N_law_whole_state : List Str := ["deck", "many", "most"]
abbrev P_law_whole_state : List Str := ["deck", "many", "most"]
theorem sc_law_whole_state : FnScope N_law_whole_state P_law_whole_state (defScope s_law_whole_state) := ⟨rfl, rfl, rfl, by decide +kernel, rfl, by decide +kernel, by decide +kernel⟩
abbrev s_law_step : Stmt := top 59
abbrev N_law_step : List Str := ["deck", "many", "word", "first"]
abbrev P_law_step : List Str := ["deck", "many"]
theorem sc_law_step : FnScope N_law_step P_law_step (defScope s_law_step) := ⟨rfl, rfl, rfl, by decide +kernel, rfl, by decide +kernel, by decide +kernel⟩
abbrev s_law_condition : Stmt := top 60
abbrev N_law_condition : List Str := ["deck", "many"]
abbrev P_law_condition : List Str := ["deck", "many"]
theorem sc_law_condition : FnScope N_law_condition P_law_condition (defScope s_law_condition) := ⟨rfl, rfl, rfl, by decide +kernel, rfl, by decide +kernel, by decide +kernel⟩
abbrev s_law_size : Stmt := top 61
abbrev N_law_size : List Str := ["program", "part"]
abbrev P_law_size : List Str := ["program"]
theorem sc_law_size : FnScope N_law_size P_law_size (defScope s_law_size) := ⟨rfl, rfl, rfl, by decide +kernel, rfl, by decide +kernel, by decide +kernel⟩
abbrev s_law_program : Stmt := top 62
abbrev N_law_program : List Str := ["deck", "many", "most", "deep", "found", "left", "first", "second"]
abbrev P_law_program : List Str := ["deck", "many", "most", "deep"]
theorem sc_law_program : FnScope N_law_program P_law_program (defScope s_law_program) := ⟨rfl, rfl, rfl, by decide +kernel, rfl, by decide +kernel, by decide +kernel⟩
abbrev s_law_rise : Stmt := top 63
abbrev N_law_rise : List Str := ["program", "t", "part"]
abbrev P_law_rise : List Str := ["program", "t"]
theorem sc_law_rise : FnScope N_law_rise P_law_rise (defScope s_law_rise) := ⟨rfl, rfl, rfl, by decide +kernel, rfl, by decide +kernel, by decide +kernel⟩
abbrev s_law_light_program : Stmt := top 64
abbrev N_law_light_program : List Str := ["deck", "many", "most", "t", "program"]
abbrev P_law_light_program : List Str := ["deck", "many", "most", "t"]
theorem sc_law_light_program : FnScope N_law_light_program P_law_light_program (defScope s_law_light_program) := ⟨rfl, rfl, rfl, by decide +kernel, rfl, by decide +kernel, by decide +kernel⟩
abbrev s_law_told_loops : Stmt := top 65
abbrev N_law_told_loops : List Str := ["v", "w", "go", "loops"]
abbrev P_law_told_loops : List Str := ["v", "w"]
theorem sc_law_told_loops : FnScope N_law_told_loops P_law_told_loops (defScope s_law_told_loops) := ⟨rfl, rfl, rfl, by decide +kernel, rfl, by decide +kernel, by decide +kernel⟩
abbrev s_law_told_loop : Stmt := top 66
abbrev N_law_told_loop : List Str := ["deck", "many", "v", "kind"]
abbrev P_law_told_loop : List Str := ["deck", "many"]
theorem sc_law_told_loop : FnScope N_law_told_loop P_law_told_loop (defScope s_law_told_loop) := ⟨rfl, rfl, rfl, by decide +kernel, rfl, by decide +kernel, by decide +kernel⟩
abbrev s_law_reached : Stmt := top 67
abbrev N_law_reached : List Str := ["variables", "cells", "found", "place"]
abbrev P_law_reached : List Str := ["variables", "cells"]
theorem sc_law_reached : FnScope N_law_reached P_law_reached (defScope s_law_reached) := ⟨rfl, rfl, rfl, by decide +kernel, rfl, by decide +kernel, by decide +kernel⟩
abbrev s_law_do : Stmt := top 68
abbrev N_law_do : List Str := ["variables", "cells", "step", "top", "places", "word", "first", "last"]
abbrev P_law_do : List Str := ["variables", "cells", "step", "top"]
theorem sc_law_do : FnScope N_law_do P_law_do (defScope s_law_do) := ⟨rfl, rfl, rfl, by decide +kernel, rfl, by decide +kernel, by decide +kernel⟩
abbrev s_law_told_condition : Stmt := top 69
abbrev N_law_told_condition : List Str := ["variables", "condition", "places"]
abbrev P_law_told_condition : List Str := ["variables", "condition"]
theorem sc_law_told_condition : FnScope N_law_told_condition P_law_told_condition (defScope s_law_told_condition) := ⟨rfl, rfl, rfl, by decide +kernel, rfl, by decide +kernel, by decide +kernel⟩
abbrev s_law_run : Stmt := top 70
abbrev N_law_run : List Str := ["program", "state", "variables", "cells", "top", "todo", "steps", "states", "part", "word"]
abbrev P_law_run : List Str := ["program", "state"]
theorem sc_law_run : FnScope N_law_run P_law_run (defScope s_law_run) := ⟨rfl, rfl, rfl, by decide +kernel, rfl, by decide +kernel, by decide +kernel⟩
abbrev s_law_outcome : Stmt := top 71
abbrev N_law_outcome : List Str := ["program", "state", "word", "steps", "states"]
abbrev P_law_outcome : List Str := ["program", "state"]
theorem sc_law_outcome : FnScope N_law_outcome P_law_outcome (defScope s_law_outcome) := ⟨rfl, rfl, rfl, by decide +kernel, rfl, by decide +kernel, by decide +kernel⟩
abbrev s_law_loop_run : Stmt := top 72
abbrev N_law_loop_run : List Str := ["loop", "state", "most", "cells", "turn", "end"]
abbrev P_law_loop_run : List Str := ["loop", "state", "most", "cells"]
theorem sc_law_loop_run : FnScope N_law_loop_run P_law_loop_run (defScope s_law_loop_run) := ⟨rfl, rfl, rfl, by decide +kernel, rfl, by decide +kernel, by decide +kernel⟩
abbrev s_law_grown : Stmt := top 73
abbrev N_law_grown : List Str := ["deck", "count", "far", "put", "taken", "push", "pull", "cells", "k", "state", "most"]
abbrev P_law_grown : List Str := ["deck"]
theorem sc_law_grown : FnScope N_law_grown P_law_grown (defScope s_law_grown) := ⟨rfl, rfl, rfl, by decide +kernel, rfl, by decide +kernel, by decide +kernel⟩
abbrev s_law_right_run : Stmt := top 74
abbrev N_law_right_run : List Str := ["many", "loop", "state", "most", "due", "told"]
abbrev P_law_right_run : List Str := ["many", "loop", "state", "most"]
theorem sc_law_right_run : FnScope N_law_right_run P_law_right_run (defScope s_law_right_run) := ⟨rfl, rfl, rfl, by decide +kernel, rfl, by decide +kernel, by decide +kernel⟩
abbrev s_law_refused : Stmt := top 75
abbrev N_law_refused : List Str := ["many", "loop", "state", "most", "word"]
abbrev P_law_refused : List Str := ["many", "loop", "state", "most"]
theorem sc_law_refused : FnScope N_law_refused P_law_refused (defScope s_law_refused) := ⟨rfl, rfl, rfl, by decide +kernel, rfl, by decide +kernel, by decide +kernel⟩
abbrev s_law_bad_many : Stmt := top 76
abbrev N_law_bad_many : List Str := ["many", "word"]
abbrev P_law_bad_many : List Str := ["many"]
theorem sc_law_bad_many : FnScope N_law_bad_many P_law_bad_many (defScope s_law_bad_many) := ⟨rfl, rfl, rfl, by decide +kernel, rfl, by decide +kernel, by decide +kernel⟩
abbrev s_law_none : Stmt := top 77
abbrev N_law_none : List Str := ["many", "loop", "test", "body", "found", "deep", "k", "wide"]
abbrev P_law_none : List Str := ["many", "loop"]
theorem sc_law_none : FnScope N_law_none P_law_none (defScope s_law_none) := ⟨rfl, rfl, rfl, by decide +kernel, rfl, by decide +kernel, by decide +kernel⟩
abbrev s_law_judged : Stmt := top 78
abbrev N_law_judged : List Str := ["many", "loop", "test", "deep", "k", "wide", "good", "one"]
abbrev P_law_judged : List Str := ["many", "loop"]
theorem sc_law_judged : FnScope N_law_judged P_law_judged (defScope s_law_judged) := ⟨rfl, rfl, rfl, by decide +kernel, rfl, by decide +kernel, by decide +kernel⟩
abbrev s_law : Stmt := top 79
abbrev N_law : List Str := ["script", "deck", "empty", "turn", "many", "loop", "most", "state", "loose", "words", "bad", "size", "k"]
abbrev P_law : List Str := ["script"]
theorem sc_law : FnScope N_law P_law (defScope s_law) := ⟨rfl, rfl, rfl, by decide +kernel, rfl, by decide +kernel, by decide +kernel⟩
/-- the addresses -/
structure Ad where
  c_HeapError : Addr
  c_BadMany : Addr
  c_BadState : Addr
  c_BadLoop : Addr
  c_BadMost : Addr
  c_TooGreat : Addr
  f_is_int : Addr
  d_is_int : FuncData
  f_within : Addr
  d_within : FuncData
  f_is_row : Addr
  d_is_row : FuncData
  f_is_word : Addr
  d_is_word : FuncData
  f_is_many : Addr
  d_is_many : FuncData
  f_need_many : Addr
  d_need_many : FuncData
  f_is_cell : Addr
  d_is_cell : FuncData
  f_are_cells : Addr
  d_are_cells : FuncData
  f_is_state_of : Addr
  d_is_state_of : FuncData
  f_places_of : Addr
  d_places_of : FuncData
  f_state_from : Addr
  d_state_from : FuncData
  f_reached_by : Addr
  d_reached_by : FuncData
  f_is_whole_of : Addr
  d_is_whole_of : FuncData
  f_is_step_of : Addr
  d_is_step_of : FuncData
  f_is_condition_of : Addr
  d_is_condition_of : FuncData
  f_condition_in : Addr
  d_condition_in : FuncData
  f_top_of : Addr
  d_top_of : FuncData
  f_step_in : Addr
  d_step_in : FuncData
  f_is_whole_state : Addr
  d_is_whole_state : FuncData
  f_is_branch : Addr
  d_is_branch : FuncData
  f_size_of : Addr
  d_size_of : FuncData
  f_branch_size : Addr
  d_branch_size : FuncData
  f_is_program_of : Addr
  d_is_program_of : FuncData
  f_course_in : Addr
  d_course_in : FuncData
  f_outcome_in : Addr
  d_outcome_in : FuncData
  f_is_loop_of : Addr
  d_is_loop_of : FuncData
  f_is_loop : Addr
  d_is_loop : FuncData
  f_need_loop : Addr
  d_need_loop : FuncData
  f_looped : Addr
  d_looped : FuncData
  f_run_loop : Addr
  d_run_loop : FuncData
  f_law_deck : Addr
  d_law_deck : FuncData
  f_law_pick : Addr
  d_law_pick : FuncData
  f_law_same : Addr
  d_law_same : FuncData
  f_law_places : Addr
  d_law_places : FuncData
  f_law_state : Addr
  d_law_state : FuncData
  f_law_whole : Addr
  d_law_whole : FuncData
  f_law_whole_state : Addr
  d_law_whole_state : FuncData
  f_law_step : Addr
  d_law_step : FuncData
  f_law_condition : Addr
  d_law_condition : FuncData
  f_law_size : Addr
  d_law_size : FuncData
  f_law_program : Addr
  d_law_program : FuncData
  f_law_rise : Addr
  d_law_rise : FuncData
  f_law_light_program : Addr
  d_law_light_program : FuncData
  f_law_told_loops : Addr
  d_law_told_loops : FuncData
  f_law_told_loop : Addr
  d_law_told_loop : FuncData
  f_law_reached : Addr
  d_law_reached : FuncData
  f_law_do : Addr
  d_law_do : FuncData
  f_law_told_condition : Addr
  d_law_told_condition : FuncData
  f_law_run : Addr
  d_law_run : FuncData
  f_law_outcome : Addr
  d_law_outcome : FuncData
  f_law_loop_run : Addr
  d_law_loop_run : FuncData
  f_law_grown : Addr
  d_law_grown : FuncData
  f_law_right_run : Addr
  d_law_right_run : FuncData
  f_law_refused : Addr
  d_law_refused : FuncData
  f_law_bad_many : Addr
  d_law_bad_many : FuncData
  f_law_none : Addr
  d_law_none : FuncData
  f_law_judged : Addr
  d_law_judged : FuncData
  f_law : Addr
  d_law : FuncData
  a_WORDS : Addr
/-- what the top has written -/
structure Txt (K : Frag) (mg : Str → Option Value) (cl : Ad) : Prop where
  g_HeapError : mg "HeapError" = some (.ref cl.c_HeapError)
  x_HeapError : PySem.W.excIn K cl.c_HeapError [.type "ValueError", .type "Exception", .type "BaseException", .type "object"] "ValueError.__new__" = true
  k_HeapError : PySem.W.keepIn K (.ref cl.c_HeapError) = true
  s_HeapError : PySem.W.subIn K (.ref cl.c_HeapError) (.type "BaseException") = some true
  t_HeapError : PySem.W.typeIn K (.ref cl.c_HeapError) = some (.type "type")
  e_HeapError_BadMany : PySem.W.exmOne K (.ref cl.c_HeapError) (.ref cl.c_BadMany) = some false
  e_HeapError_BadState : PySem.W.exmOne K (.ref cl.c_HeapError) (.ref cl.c_BadState) = some false
  e_HeapError_BadLoop : PySem.W.exmOne K (.ref cl.c_HeapError) (.ref cl.c_BadLoop) = some false
  e_HeapError_BadMost : PySem.W.exmOne K (.ref cl.c_HeapError) (.ref cl.c_BadMost) = some false
  e_HeapError_TooGreat : PySem.W.exmOne K (.ref cl.c_HeapError) (.ref cl.c_TooGreat) = some false
  g_BadMany : mg "BadMany" = some (.ref cl.c_BadMany)
  x_BadMany : PySem.W.excIn K cl.c_BadMany [.type "ValueError", .type "Exception", .type "BaseException", .type "object"] "ValueError.__new__" = true
  k_BadMany : PySem.W.keepIn K (.ref cl.c_BadMany) = true
  s_BadMany : PySem.W.subIn K (.ref cl.c_BadMany) (.type "BaseException") = some true
  t_BadMany : PySem.W.typeIn K (.ref cl.c_BadMany) = some (.type "type")
  e_BadMany_BadMany : PySem.W.exmOne K (.ref cl.c_BadMany) (.ref cl.c_BadMany) = some true
  e_BadMany_BadState : PySem.W.exmOne K (.ref cl.c_BadMany) (.ref cl.c_BadState) = some false
  e_BadMany_BadLoop : PySem.W.exmOne K (.ref cl.c_BadMany) (.ref cl.c_BadLoop) = some false
  e_BadMany_BadMost : PySem.W.exmOne K (.ref cl.c_BadMany) (.ref cl.c_BadMost) = some false
  e_BadMany_TooGreat : PySem.W.exmOne K (.ref cl.c_BadMany) (.ref cl.c_TooGreat) = some false
  g_BadState : mg "BadState" = some (.ref cl.c_BadState)
  x_BadState : PySem.W.excIn K cl.c_BadState [.type "ValueError", .type "Exception", .type "BaseException", .type "object"] "ValueError.__new__" = true
  k_BadState : PySem.W.keepIn K (.ref cl.c_BadState) = true
  s_BadState : PySem.W.subIn K (.ref cl.c_BadState) (.type "BaseException") = some true
  t_BadState : PySem.W.typeIn K (.ref cl.c_BadState) = some (.type "type")
  e_BadState_BadMany : PySem.W.exmOne K (.ref cl.c_BadState) (.ref cl.c_BadMany) = some false
  e_BadState_BadState : PySem.W.exmOne K (.ref cl.c_BadState) (.ref cl.c_BadState) = some true
  e_BadState_BadLoop : PySem.W.exmOne K (.ref cl.c_BadState) (.ref cl.c_BadLoop) = some false
  e_BadState_BadMost : PySem.W.exmOne K (.ref cl.c_BadState) (.ref cl.c_BadMost) = some false
  e_BadState_TooGreat : PySem.W.exmOne K (.ref cl.c_BadState) (.ref cl.c_TooGreat) = some false
  g_BadLoop : mg "BadLoop" = some (.ref cl.c_BadLoop)
  x_BadLoop : PySem.W.excIn K cl.c_BadLoop [.type "ValueError", .type "Exception", .type "BaseException", .type "object"] "ValueError.__new__" = true
  k_BadLoop : PySem.W.keepIn K (.ref cl.c_BadLoop) = true
  s_BadLoop : PySem.W.subIn K (.ref cl.c_BadLoop) (.type "BaseException") = some true
  t_BadLoop : PySem.W.typeIn K (.ref cl.c_BadLoop) = some (.type "type")
  e_BadLoop_BadMany : PySem.W.exmOne K (.ref cl.c_BadLoop) (.ref cl.c_BadMany) = some false
  e_BadLoop_BadState : PySem.W.exmOne K (.ref cl.c_BadLoop) (.ref cl.c_BadState) = some false
  e_BadLoop_BadLoop : PySem.W.exmOne K (.ref cl.c_BadLoop) (.ref cl.c_BadLoop) = some true
  e_BadLoop_BadMost : PySem.W.exmOne K (.ref cl.c_BadLoop) (.ref cl.c_BadMost) = some false
  e_BadLoop_TooGreat : PySem.W.exmOne K (.ref cl.c_BadLoop) (.ref cl.c_TooGreat) = some false
  g_BadMost : mg "BadMost" = some (.ref cl.c_BadMost)
  x_BadMost : PySem.W.excIn K cl.c_BadMost [.type "ValueError", .type "Exception", .type "BaseException", .type "object"] "ValueError.__new__" = true
  k_BadMost : PySem.W.keepIn K (.ref cl.c_BadMost) = true
  s_BadMost : PySem.W.subIn K (.ref cl.c_BadMost) (.type "BaseException") = some true
  t_BadMost : PySem.W.typeIn K (.ref cl.c_BadMost) = some (.type "type")
  e_BadMost_BadMany : PySem.W.exmOne K (.ref cl.c_BadMost) (.ref cl.c_BadMany) = some false
  e_BadMost_BadState : PySem.W.exmOne K (.ref cl.c_BadMost) (.ref cl.c_BadState) = some false
  e_BadMost_BadLoop : PySem.W.exmOne K (.ref cl.c_BadMost) (.ref cl.c_BadLoop) = some false
  e_BadMost_BadMost : PySem.W.exmOne K (.ref cl.c_BadMost) (.ref cl.c_BadMost) = some true
  e_BadMost_TooGreat : PySem.W.exmOne K (.ref cl.c_BadMost) (.ref cl.c_TooGreat) = some false
  g_TooGreat : mg "TooGreat" = some (.ref cl.c_TooGreat)
  x_TooGreat : PySem.W.excIn K cl.c_TooGreat [.type "ValueError", .type "Exception", .type "BaseException", .type "object"] "ValueError.__new__" = true
  k_TooGreat : PySem.W.keepIn K (.ref cl.c_TooGreat) = true
  s_TooGreat : PySem.W.subIn K (.ref cl.c_TooGreat) (.type "BaseException") = some true
  t_TooGreat : PySem.W.typeIn K (.ref cl.c_TooGreat) = some (.type "type")
  e_TooGreat_BadMany : PySem.W.exmOne K (.ref cl.c_TooGreat) (.ref cl.c_BadMany) = some false
  e_TooGreat_BadState : PySem.W.exmOne K (.ref cl.c_TooGreat) (.ref cl.c_BadState) = some false
  e_TooGreat_BadLoop : PySem.W.exmOne K (.ref cl.c_TooGreat) (.ref cl.c_BadLoop) = some false
  e_TooGreat_BadMost : PySem.W.exmOne K (.ref cl.c_TooGreat) (.ref cl.c_BadMost) = some false
  e_TooGreat_TooGreat : PySem.W.exmOne K (.ref cl.c_TooGreat) (.ref cl.c_TooGreat) = some true
  F_is_int : Fun K "is_int" "is_int" s_is_int cl.f_is_int cl.d_is_int
  m_is_int : mg "is_int" = some (.ref cl.f_is_int)
  b_is_int : Binds K cl.d_is_int P_is_int []
  F_within : Fun K "within" "within" s_within cl.f_within cl.d_within
  m_within : mg "within" = some (.ref cl.f_within)
  b_within : Binds K cl.d_within P_within []
  F_is_row : Fun K "is_row" "is_row" s_is_row cl.f_is_row cl.d_is_row
  m_is_row : mg "is_row" = some (.ref cl.f_is_row)
  b_is_row : Binds K cl.d_is_row P_is_row []
  F_is_word : Fun K "is_word" "is_word" s_is_word cl.f_is_word cl.d_is_word
  m_is_word : mg "is_word" = some (.ref cl.f_is_word)
  b_is_word : Binds K cl.d_is_word P_is_word []
  F_is_many : Fun K "is_many" "is_many" s_is_many cl.f_is_many cl.d_is_many
  m_is_many : mg "is_many" = some (.ref cl.f_is_many)
  b_is_many : Binds K cl.d_is_many P_is_many []
  F_need_many : Fun K "need_many" "need_many" s_need_many cl.f_need_many cl.d_need_many
  m_need_many : mg "need_many" = some (.ref cl.f_need_many)
  b_need_many : Binds K cl.d_need_many P_need_many []
  F_is_cell : Fun K "is_cell" "is_cell" s_is_cell cl.f_is_cell cl.d_is_cell
  m_is_cell : mg "is_cell" = some (.ref cl.f_is_cell)
  b_is_cell : Binds K cl.d_is_cell P_is_cell []
  F_are_cells : Fun K "are_cells" "are_cells" s_are_cells cl.f_are_cells cl.d_are_cells
  m_are_cells : mg "are_cells" = some (.ref cl.f_are_cells)
  b_are_cells : Binds K cl.d_are_cells P_are_cells []
  F_is_state_of : Fun K "is_state_of" "is_state_of" s_is_state_of cl.f_is_state_of cl.d_is_state_of
  m_is_state_of : mg "is_state_of" = some (.ref cl.f_is_state_of)
  b_is_state_of : Binds K cl.d_is_state_of P_is_state_of []
  F_places_of : Fun K "places_of" "places_of" s_places_of cl.f_places_of cl.d_places_of
  m_places_of : mg "places_of" = some (.ref cl.f_places_of)
  b_places_of : Binds K cl.d_places_of P_places_of []
  F_state_from : Fun K "state_from" "state_from" s_state_from cl.f_state_from cl.d_state_from
  m_state_from : mg "state_from" = some (.ref cl.f_state_from)
  b_state_from : Binds K cl.d_state_from P_state_from []
  F_reached_by : Fun K "reached_by" "reached_by" s_reached_by cl.f_reached_by cl.d_reached_by
  m_reached_by : mg "reached_by" = some (.ref cl.f_reached_by)
  b_reached_by : Binds K cl.d_reached_by P_reached_by []
  F_is_whole_of : Fun K "is_whole_of" "is_whole_of" s_is_whole_of cl.f_is_whole_of cl.d_is_whole_of
  m_is_whole_of : mg "is_whole_of" = some (.ref cl.f_is_whole_of)
  b_is_whole_of : Binds K cl.d_is_whole_of P_is_whole_of []
  F_is_step_of : Fun K "is_step_of" "is_step_of" s_is_step_of cl.f_is_step_of cl.d_is_step_of
  m_is_step_of : mg "is_step_of" = some (.ref cl.f_is_step_of)
  b_is_step_of : Binds K cl.d_is_step_of P_is_step_of []
  F_is_condition_of : Fun K "is_condition_of" "is_condition_of" s_is_condition_of cl.f_is_condition_of cl.d_is_condition_of
  m_is_condition_of : mg "is_condition_of" = some (.ref cl.f_is_condition_of)
  b_is_condition_of : Binds K cl.d_is_condition_of P_is_condition_of []
  F_condition_in : Fun K "condition_in" "condition_in" s_condition_in cl.f_condition_in cl.d_condition_in
  m_condition_in : mg "condition_in" = some (.ref cl.f_condition_in)
  b_condition_in : Binds K cl.d_condition_in P_condition_in []
  F_top_of : Fun K "top_of" "top_of" s_top_of cl.f_top_of cl.d_top_of
  m_top_of : mg "top_of" = some (.ref cl.f_top_of)
  b_top_of : Binds K cl.d_top_of P_top_of []
  F_step_in : Fun K "step_in" "step_in" s_step_in cl.f_step_in cl.d_step_in
  m_step_in : mg "step_in" = some (.ref cl.f_step_in)
  b_step_in : Binds K cl.d_step_in P_step_in []
  F_is_whole_state : Fun K "is_whole_state" "is_whole_state" s_is_whole_state cl.f_is_whole_state cl.d_is_whole_state
  m_is_whole_state : mg "is_whole_state" = some (.ref cl.f_is_whole_state)
  b_is_whole_state : Binds K cl.d_is_whole_state P_is_whole_state []
  F_is_branch : Fun K "is_branch" "is_branch" s_is_branch cl.f_is_branch cl.d_is_branch
  m_is_branch : mg "is_branch" = some (.ref cl.f_is_branch)
  b_is_branch : Binds K cl.d_is_branch P_is_branch []
  F_size_of : Fun K "size_of" "size_of" s_size_of cl.f_size_of cl.d_size_of
  m_size_of : mg "size_of" = some (.ref cl.f_size_of)
  b_size_of : Binds K cl.d_size_of P_size_of []
  F_branch_size : Fun K "branch_size" "branch_size" s_branch_size cl.f_branch_size cl.d_branch_size
  m_branch_size : mg "branch_size" = some (.ref cl.f_branch_size)
  b_branch_size : Binds K cl.d_branch_size P_branch_size []
  F_is_program_of : Fun K "is_program_of" "is_program_of" s_is_program_of cl.f_is_program_of cl.d_is_program_of
  m_is_program_of : mg "is_program_of" = some (.ref cl.f_is_program_of)
  b_is_program_of : Binds K cl.d_is_program_of P_is_program_of []
  F_course_in : Fun K "course_in" "course_in" s_course_in cl.f_course_in cl.d_course_in
  m_course_in : mg "course_in" = some (.ref cl.f_course_in)
  b_course_in : Binds K cl.d_course_in P_course_in []
  F_outcome_in : Fun K "outcome_in" "outcome_in" s_outcome_in cl.f_outcome_in cl.d_outcome_in
  m_outcome_in : mg "outcome_in" = some (.ref cl.f_outcome_in)
  b_outcome_in : Binds K cl.d_outcome_in P_outcome_in []
  F_is_loop_of : Fun K "is_loop_of" "is_loop_of" s_is_loop_of cl.f_is_loop_of cl.d_is_loop_of
  m_is_loop_of : mg "is_loop_of" = some (.ref cl.f_is_loop_of)
  b_is_loop_of : Binds K cl.d_is_loop_of P_is_loop_of []
  F_is_loop : Fun K "is_loop" "is_loop" s_is_loop cl.f_is_loop cl.d_is_loop
  m_is_loop : mg "is_loop" = some (.ref cl.f_is_loop)
  b_is_loop : Binds K cl.d_is_loop P_is_loop []
  bk_is_loop : BindsK K cl.d_is_loop P_is_loop
  F_need_loop : Fun K "need_loop" "need_loop" s_need_loop cl.f_need_loop cl.d_need_loop
  m_need_loop : mg "need_loop" = some (.ref cl.f_need_loop)
  b_need_loop : Binds K cl.d_need_loop P_need_loop []
  F_looped : Fun K "looped" "looped" s_looped cl.f_looped cl.d_looped
  m_looped : mg "looped" = some (.ref cl.f_looped)
  b_looped : Binds K cl.d_looped P_looped []
  F_run_loop : Fun K "run_loop" "run_loop" s_run_loop cl.f_run_loop cl.d_run_loop
  m_run_loop : mg "run_loop" = some (.ref cl.f_run_loop)
  b_run_loop : Binds K cl.d_run_loop P_run_loop []
  bk_run_loop : BindsK K cl.d_run_loop P_run_loop
  F_law_deck : Fun K "_law_deck" "_law_deck" s_law_deck cl.f_law_deck cl.d_law_deck
  m_law_deck : mg "_law_deck" = some (.ref cl.f_law_deck)
  b_law_deck : Binds K cl.d_law_deck P_law_deck []
  F_law_pick : Fun K "_law_pick" "_law_pick" s_law_pick cl.f_law_pick cl.d_law_pick
  m_law_pick : mg "_law_pick" = some (.ref cl.f_law_pick)
  b_law_pick : Binds K cl.d_law_pick P_law_pick []
  F_law_same : Fun K "_law_same" "_law_same" s_law_same cl.f_law_same cl.d_law_same
  m_law_same : mg "_law_same" = some (.ref cl.f_law_same)
  b_law_same : Binds K cl.d_law_same P_law_same []
  F_law_places : Fun K "_law_places" "_law_places" s_law_places cl.f_law_places cl.d_law_places
  m_law_places : mg "_law_places" = some (.ref cl.f_law_places)
  b_law_places : Binds K cl.d_law_places P_law_places []
  F_law_state : Fun K "_law_state" "_law_state" s_law_state cl.f_law_state cl.d_law_state
  m_law_state : mg "_law_state" = some (.ref cl.f_law_state)
  b_law_state : Binds K cl.d_law_state P_law_state []
  F_law_whole : Fun K "_law_whole" "_law_whole" s_law_whole cl.f_law_whole cl.d_law_whole
  m_law_whole : mg "_law_whole" = some (.ref cl.f_law_whole)
  b_law_whole : Binds K cl.d_law_whole P_law_whole []
  F_law_whole_state : Fun K "_law_whole_state" "_law_whole_state" s_law_whole_state cl.f_law_whole_state cl.d_law_whole_state
  m_law_whole_state : mg "_law_whole_state" = some (.ref cl.f_law_whole_state)
  b_law_whole_state : Binds K cl.d_law_whole_state P_law_whole_state []
  F_law_step : Fun K "_law_step" "_law_step" s_law_step cl.f_law_step cl.d_law_step
  m_law_step : mg "_law_step" = some (.ref cl.f_law_step)
  b_law_step : Binds K cl.d_law_step P_law_step []
  F_law_condition : Fun K "_law_condition" "_law_condition" s_law_condition cl.f_law_condition cl.d_law_condition
  m_law_condition : mg "_law_condition" = some (.ref cl.f_law_condition)
  b_law_condition : Binds K cl.d_law_condition P_law_condition []
  F_law_size : Fun K "_law_size" "_law_size" s_law_size cl.f_law_size cl.d_law_size
  m_law_size : mg "_law_size" = some (.ref cl.f_law_size)
  b_law_size : Binds K cl.d_law_size P_law_size []
  F_law_program : Fun K "_law_program" "_law_program" s_law_program cl.f_law_program cl.d_law_program
  m_law_program : mg "_law_program" = some (.ref cl.f_law_program)
  b_law_program : Binds K cl.d_law_program P_law_program []
  F_law_rise : Fun K "_law_rise" "_law_rise" s_law_rise cl.f_law_rise cl.d_law_rise
  m_law_rise : mg "_law_rise" = some (.ref cl.f_law_rise)
  b_law_rise : Binds K cl.d_law_rise P_law_rise []
  F_law_light_program : Fun K "_law_light_program" "_law_light_program" s_law_light_program cl.f_law_light_program cl.d_law_light_program
  m_law_light_program : mg "_law_light_program" = some (.ref cl.f_law_light_program)
  b_law_light_program : Binds K cl.d_law_light_program P_law_light_program []
  F_law_told_loops : Fun K "_law_told_loops" "_law_told_loops" s_law_told_loops cl.f_law_told_loops cl.d_law_told_loops
  m_law_told_loops : mg "_law_told_loops" = some (.ref cl.f_law_told_loops)
  b_law_told_loops : Binds K cl.d_law_told_loops P_law_told_loops []
  F_law_told_loop : Fun K "_law_told_loop" "_law_told_loop" s_law_told_loop cl.f_law_told_loop cl.d_law_told_loop
  m_law_told_loop : mg "_law_told_loop" = some (.ref cl.f_law_told_loop)
  b_law_told_loop : Binds K cl.d_law_told_loop P_law_told_loop []
  F_law_reached : Fun K "_law_reached" "_law_reached" s_law_reached cl.f_law_reached cl.d_law_reached
  m_law_reached : mg "_law_reached" = some (.ref cl.f_law_reached)
  b_law_reached : Binds K cl.d_law_reached P_law_reached []
  F_law_do : Fun K "_law_do" "_law_do" s_law_do cl.f_law_do cl.d_law_do
  m_law_do : mg "_law_do" = some (.ref cl.f_law_do)
  b_law_do : Binds K cl.d_law_do P_law_do []
  F_law_told_condition : Fun K "_law_told_condition" "_law_told_condition" s_law_told_condition cl.f_law_told_condition cl.d_law_told_condition
  m_law_told_condition : mg "_law_told_condition" = some (.ref cl.f_law_told_condition)
  b_law_told_condition : Binds K cl.d_law_told_condition P_law_told_condition []
  F_law_run : Fun K "_law_run" "_law_run" s_law_run cl.f_law_run cl.d_law_run
  m_law_run : mg "_law_run" = some (.ref cl.f_law_run)
  b_law_run : Binds K cl.d_law_run P_law_run []
  F_law_outcome : Fun K "_law_outcome" "_law_outcome" s_law_outcome cl.f_law_outcome cl.d_law_outcome
  m_law_outcome : mg "_law_outcome" = some (.ref cl.f_law_outcome)
  b_law_outcome : Binds K cl.d_law_outcome P_law_outcome []
  F_law_loop_run : Fun K "_law_loop_run" "_law_loop_run" s_law_loop_run cl.f_law_loop_run cl.d_law_loop_run
  m_law_loop_run : mg "_law_loop_run" = some (.ref cl.f_law_loop_run)
  b_law_loop_run : Binds K cl.d_law_loop_run P_law_loop_run []
  F_law_grown : Fun K "_law_grown" "_law_grown" s_law_grown cl.f_law_grown cl.d_law_grown
  m_law_grown : mg "_law_grown" = some (.ref cl.f_law_grown)
  b_law_grown : Binds K cl.d_law_grown P_law_grown []
  F_law_right_run : Fun K "_law_right_run" "_law_right_run" s_law_right_run cl.f_law_right_run cl.d_law_right_run
  m_law_right_run : mg "_law_right_run" = some (.ref cl.f_law_right_run)
  b_law_right_run : Binds K cl.d_law_right_run P_law_right_run []
  F_law_refused : Fun K "_law_refused" "_law_refused" s_law_refused cl.f_law_refused cl.d_law_refused
  m_law_refused : mg "_law_refused" = some (.ref cl.f_law_refused)
  b_law_refused : Binds K cl.d_law_refused P_law_refused []
  F_law_bad_many : Fun K "_law_bad_many" "_law_bad_many" s_law_bad_many cl.f_law_bad_many cl.d_law_bad_many
  m_law_bad_many : mg "_law_bad_many" = some (.ref cl.f_law_bad_many)
  b_law_bad_many : Binds K cl.d_law_bad_many P_law_bad_many []
  F_law_none : Fun K "_law_none" "_law_none" s_law_none cl.f_law_none cl.d_law_none
  m_law_none : mg "_law_none" = some (.ref cl.f_law_none)
  b_law_none : Binds K cl.d_law_none P_law_none []
  F_law_judged : Fun K "_law_judged" "_law_judged" s_law_judged cl.f_law_judged cl.d_law_judged
  m_law_judged : mg "_law_judged" = some (.ref cl.f_law_judged)
  b_law_judged : Binds K cl.d_law_judged P_law_judged []
  F_law : Fun K "law" "law" s_law cl.f_law cl.d_law
  m_law : mg "law" = some (.ref cl.f_law)
  b_law : Binds K cl.d_law P_law []
  n_all : mg "all" = none
  n_bool : mg "bool" = none
  n_dict : mg "dict" = none
  n_int : mg "int" = none
  n_isinstance : mg "isinstance" = none
  n_len : mg "len" = none
  n_list : mg "list" = none
  n_max : mg "max" = none
  n_min : mg "min" = none
  n_range : mg "range" = none
  n_set : mg "set" = none
  n_sorted : mg "sorted" = none
  n_str : mg "str" = none
  n_sum : mg "sum" = none
  n_tuple : mg "tuple" = none
  n_zip : mg "zip" = none
  v_DEEPEST : ∃ t, mg "DEEPEST" = some (.int 4 t)
  v_LAST_PLACE : ∃ t, mg "LAST_PLACE" = some (.int 1000000 t)
  v_MOST_CELLS : ∃ t, mg "MOST_CELLS" = some (.int 150 t)
  v_MOST_PARTS : ∃ t, mg "MOST_PARTS" = some (.int 24 t)
  v_MOST_TURNS : ∃ t, mg "MOST_TURNS" = some (.int 200 t)
  v_MOST_VARIABLES : ∃ t, mg "MOST_VARIABLES" = some (.int 4 t)
  v_WORDS : mg "WORDS" = some (.ref cl.a_WORDS)
  d_WORDS : ∀ B, DL.Dp K B (.ref cl.a_WORDS) (.tuple [.str "set", .str "follow", .str "put", .str "new", .str "free"])
section
variable {P : Program} {wd : World} {K : Frag} {mg : Str → Option Value} {base : Heap} {cl : Ad}
def w_is_int (K : Frag) (cl : Ad) : SW :=
  (wRet (wAndV (wIsi isI (wVar 0)) (wNotV (wIsi isB (wVar 0)))))
theorem ok_is_int (T : Txt K mg cl) {k : Nat} {c : Ct} (hlen : ∀ rs Q E, c rs Q E → rs.length = P_is_int.length)
    (hw : ∀ rs Q E, c rs Q E → w_is_int K cl (rho N_is_int.length rs) { nx := fun _ => Q (.s .none), rt := Q, er := fun cls _ => E cls }) :
    FnOk P wd K mg base (L2.CX P wd) (k + 1) cl.f_is_int cl.d_is_int P_is_int (spD K c) :=
  fnD T.F_is_int sc_is_int hlen (fun cdv A outer s H E hr => by
  have tk := takes_of (X := cxOf (L2.CX P wd) P wd K mg base N_is_int "is_int" (defScope s_is_int) cl.f_is_int cdv A outer s H E) rfl rfl rfl rfl
  exact (pds_one (pds_ret (pd_and (pd_isi (pe_callB call_isi (by rfl) T.n_isinstance (by decide +kernel) (pa_cons (pd_var (pv 0)) (pa_cons (pe_bltn (by rfl) T.n_int (by decide +kernel) rfl) pa_nil))) kit_int) (pd_one (pd_not (pd_isi (pe_callB call_isi (by rfl) T.n_isinstance (by decide +kernel) (pa_cons (pd_var (pv 0)) (pa_cons (pe_bltn (by rfl) T.n_bool (by decide +kernel) rfl) pa_nil))) kit_bool))))))) hw
def w_within (K : Frag) (cl : Ad) (c_is_int : Ct) : SW :=
  (wRet (wAndV (wCall c_is_int (wCons (wVar 0) wNil)) (wChain fLe fLe (wVar 1) (wVar 0) (wVar 2))))
theorem ok_within (T : Txt K mg cl) {k : Nat} {c : Ct} {j_is_int : Nat} {c_is_int : Ct} (G_is_int : FnOk P wd K mg base (L2.CX P wd) j_is_int cl.f_is_int cl.d_is_int P_is_int (spD K c_is_int)) (h_is_int : j_is_int ≤ k) (hlen : ∀ rs Q E, c rs Q E → rs.length = P_within.length)
    (hw : ∀ rs Q E, c rs Q E → w_within K cl c_is_int (rho N_within.length rs) { nx := fun _ => Q (.s .none), rt := Q, er := fun cls _ => E cls }) :
    FnOk P wd K mg base (L2.CX P wd) (k + 1) cl.f_within cl.d_within P_within (spD K c) :=
  fnD T.F_within sc_within hlen (fun cdv A outer s H E hr => by
  have tk := takes_of (X := cxOf (L2.CX P wd) P wd K mg base N_within "within" (defScope s_within) cl.f_within cdv A outer s H E) rfl rfl rfl rfl
  exact (pds_one (pds_ret (pd_and (pd_call (pe_callS G_is_int (hr.mono h_is_int) (by rfl) T.m_is_int T.F_is_int.kp T.b_is_int (fun σ => passAt tk σ) (pda_cons (pd_var (pv 0)) pda_nil))) (pd_one (pd_chain (pe_chain o_le o_le (pd_var (pv 1)) (pd_var (pv 0)) (pd_var (pv 2))))))))) hw
def w_is_row (K : Frag) (cl : Ad) : SW :=
  (wRet (wAndV (wIsi isT (wVar 0)) (wChain fLe fLe (wVar 1) (wCall1 fLen (wCons (wVar 0) wNil)) (wVar 2))))
theorem ok_is_row (T : Txt K mg cl) {k : Nat} {c : Ct} (hlen : ∀ rs Q E, c rs Q E → rs.length = P_is_row.length)
    (hw : ∀ rs Q E, c rs Q E → w_is_row K cl (rho N_is_row.length rs) { nx := fun _ => Q (.s .none), rt := Q, er := fun cls _ => E cls }) :
    FnOk P wd K mg base (L2.CX P wd) (k + 1) cl.f_is_row cl.d_is_row P_is_row (spD K c) :=
  fnD T.F_is_row sc_is_row hlen (fun cdv A outer s H E hr => by
  have tk := takes_of (X := cxOf (L2.CX P wd) P wd K mg base N_is_row "is_row" (defScope s_is_row) cl.f_is_row cdv A outer s H E) rfl rfl rfl rfl
  exact (pds_one (pds_ret (pd_and (pd_isi (pe_callB call_isi (by rfl) T.n_isinstance (by decide +kernel) (pa_cons (pd_var (pv 0)) (pa_cons (pe_bltn (by rfl) T.n_tuple (by decide +kernel) rfl) pa_nil))) kit_tuple) (pd_one (pd_chain (pe_chain o_le o_le (pd_var (pv 1)) (call_core (t := fun _ _ _ => True) (pe_callB c_len (by rfl) T.n_len (by decide +kernel) (pda_cons (pd_var (pv 0)) pda_nil))) (pd_var (pv 2))))))))) hw
def w_is_word (K : Frag) (cl : Ad) : SW :=
  (wRet (wAndV (wIsi isS (wVar 0)) (wOp (fIn false) (wVar 0) (wVar 1))))
theorem ok_is_word (T : Txt K mg cl) {k : Nat} {c : Ct} (hlen : ∀ rs Q E, c rs Q E → rs.length = P_is_word.length)
    (hw : ∀ rs Q E, c rs Q E → w_is_word K cl (rho N_is_word.length rs) { nx := fun _ => Q (.s .none), rt := Q, er := fun cls _ => E cls }) :
    FnOk P wd K mg base (L2.CX P wd) (k + 1) cl.f_is_word cl.d_is_word P_is_word (spD K c) :=
  fnD T.F_is_word sc_is_word hlen (fun cdv A outer s H E hr => by
  have tk := takes_of (X := cxOf (L2.CX P wd) P wd K mg base N_is_word "is_word" (defScope s_is_word) cl.f_is_word cdv A outer s H E) rfl rfl rfl rfl
  exact (pds_one (pds_ret (pd_and (pd_isi (pe_callB call_isi (by rfl) T.n_isinstance (by decide +kernel) (pa_cons (pd_var (pv 0)) (pa_cons (pe_bltn (by rfl) T.n_str (by decide +kernel) rfl) pa_nil))) kit_str) (pd_one (pd_cmp (o_in hr.units) (pd_var (pv 0)) (pd_var (pv 1)) (by rfl))))))) hw
def w_is_many (K : Frag) (cl : Ad) (c_within : Ct) : SW :=
  (wRet (wCall c_within (wCons (wVar 0) (wCons (wC (.s (.int 0))) (wCons (wC (.s (.int 4))) wNil)))))
theorem ok_is_many (T : Txt K mg cl) {k : Nat} {c : Ct} {j_within : Nat} {c_within : Ct} (G_within : FnOk P wd K mg base (L2.CX P wd) j_within cl.f_within cl.d_within P_within (spD K c_within)) (h_within : j_within ≤ k) (hlen : ∀ rs Q E, c rs Q E → rs.length = P_is_many.length)
    (hw : ∀ rs Q E, c rs Q E → w_is_many K cl c_within (rho N_is_many.length rs) { nx := fun _ => Q (.s .none), rt := Q, er := fun cls _ => E cls }) :
    FnOk P wd K mg base (L2.CX P wd) (k + 1) cl.f_is_many cl.d_is_many P_is_many (spD K c) :=
  fnD T.F_is_many sc_is_many hlen (fun cdv A outer s H E hr => by
  have tk := takes_of (X := cxOf (L2.CX P wd) P wd K mg base N_is_many "is_many" (defScope s_is_many) cl.f_is_many cdv A outer s H E) rfl rfl rfl rfl
  exact (pds_one (pds_ret (pd_call (pe_callS G_within (hr.mono h_within) (by rfl) T.m_within T.F_within.kp T.b_within (fun σ => passAt tk σ) (pda_cons (pd_var (pv 0)) (pda_cons pd_int (pda_cons (pd_const (v := .int 4) (d := .int 4) (pe_glob (v := .int 4) rfl T.v_MOST_VARIABLES.choose_spec ⟨_, rfl⟩) (fun _ => .int _)) pda_nil)))))))) hw
def w_need_many (K : Frag) (cl : Ad) (c_is_many : Ct) : SW :=
  (wIfS (wNotT (wTst (wCall c_is_many (wCons (wVar 0) wNil))))
  (wRaise (.ref cl.c_BadMany))
  wNext)
theorem ok_need_many (T : Txt K mg cl) {k : Nat} {c : Ct} {j_is_many : Nat} {c_is_many : Ct} (G_is_many : FnOk P wd K mg base (L2.CX P wd) j_is_many cl.f_is_many cl.d_is_many P_is_many (spD K c_is_many)) (h_is_many : j_is_many ≤ k) (hlen : ∀ rs Q E, c rs Q E → rs.length = P_need_many.length)
    (hw : ∀ rs Q E, c rs Q E → w_need_many K cl c_is_many (rho N_need_many.length rs) { nx := fun _ => Q (.s .none), rt := Q, er := fun cls _ => E cls }) :
    FnOk P wd K mg base (L2.CX P wd) (k + 1) cl.f_need_many cl.d_need_many P_need_many (spD K c) :=
  fnD T.F_need_many sc_need_many hlen (fun cdv A outer s H E hr => by
  have tk := takes_of (X := cxOf (L2.CX P wd) P wd K mg base N_need_many "need_many" (defScope s_need_many) cl.f_need_many cdv A outer s H E) rfl rfl rfl rfl
  exact (pds_one (pds_if (pdt_not (pdt_val (pd_call (pe_callS G_is_many (hr.mono h_is_many) (by rfl) T.m_is_many T.F_is_many.kp T.b_is_many (fun σ => passAt tk σ) (pda_cons (pd_var (pv 0)) pda_nil)))))
  (pds_one (pds_raise tk (pmk_own PySem.F.excBase_ValueError T.x_BadMany T.g_BadMany T.k_BadMany (raises_own T.s_BadMany T.t_BadMany) (by rfl)) rfl))
  pds_nil))) hw
def w_is_cell (K : Frag) (cl : Ad) (c_within c_is_row : Ct) : SW :=
  (wRet (wAndV (wCall c_is_row (wCons (wVar 0) (wCons (wC (.s (.int 2))) (wCons (wC (.s (.int 2))) wNil)))) (wAndV (wCall c_within (wCons (wOp fIx (wVar 0) (wC (.s (.int 0)))) (wCons (wC (.s (.int 1))) (wCons (wC (.s (.int 1000000))) wNil)))) (wCall c_within (wCons (wOp fIx (wVar 0) (wC (.s (.int 1)))) (wCons (wC (.s (.int 0))) (wCons (wC (.s (.int 1000000))) wNil)))))))
theorem ok_is_cell (T : Txt K mg cl) {k : Nat} {c : Ct} {j_within : Nat} {c_within : Ct} (G_within : FnOk P wd K mg base (L2.CX P wd) j_within cl.f_within cl.d_within P_within (spD K c_within)) (h_within : j_within ≤ k) {j_is_row : Nat} {c_is_row : Ct} (G_is_row : FnOk P wd K mg base (L2.CX P wd) j_is_row cl.f_is_row cl.d_is_row P_is_row (spD K c_is_row)) (h_is_row : j_is_row ≤ k) (hlen : ∀ rs Q E, c rs Q E → rs.length = P_is_cell.length)
    (hw : ∀ rs Q E, c rs Q E → w_is_cell K cl c_within c_is_row (rho N_is_cell.length rs) { nx := fun _ => Q (.s .none), rt := Q, er := fun cls _ => E cls }) :
    FnOk P wd K mg base (L2.CX P wd) (k + 1) cl.f_is_cell cl.d_is_cell P_is_cell (spD K c) :=
  fnD T.F_is_cell sc_is_cell hlen (fun cdv A outer s H E hr => by
  have tk := takes_of (X := cxOf (L2.CX P wd) P wd K mg base N_is_cell "is_cell" (defScope s_is_cell) cl.f_is_cell cdv A outer s H E) rfl rfl rfl rfl
  exact (pds_one (pds_ret (pd_and (pd_call (pe_callS G_is_row (hr.mono h_is_row) (by rfl) T.m_is_row T.F_is_row.kp T.b_is_row (fun σ => passAt tk σ) (pda_cons (pd_var (pv 0)) (pda_cons pd_int (pda_cons pd_int pda_nil))))) (pd_and (pd_call (pe_callS G_within (hr.mono h_within) (by rfl) T.m_within T.F_within.kp T.b_within (fun σ => passAt tk σ) (pda_cons (pd_ix (o_ix hr.units) (pd_var (pv 0)) pd_int (fun _ _ => rfl)) (pda_cons pd_int (pda_cons (pd_const (v := .int 1000000) (d := .int 1000000) (pe_glob (v := .int 1000000) rfl T.v_LAST_PLACE.choose_spec ⟨_, rfl⟩) (fun _ => .int _)) pda_nil))))) (pd_one (pd_call (pe_callS G_within (hr.mono h_within) (by rfl) T.m_within T.F_within.kp T.b_within (fun σ => passAt tk σ) (pda_cons (pd_ix (o_ix hr.units) (pd_var (pv 0)) pd_int (fun _ _ => rfl)) (pda_cons pd_int (pda_cons (pd_const (v := .int 1000000) (d := .int 1000000) (pe_glob (v := .int 1000000) rfl T.v_LAST_PLACE.choose_spec ⟨_, rfl⟩) (fun _ => .int _)) pda_nil))))))))))) hw
def w_are_cells (K : Frag) (cl : Ad) (c_is_row c_is_cell : Ct) : SW :=
  (wSeq (wIfS (wOrT (wNotT (wTst (wCall c_is_row (wCons (wVar 0) (wCons (wC (.s (.int 0))) (wCons (wC (.s (.int 150))) wNil)))))) (wNotT (wTst (wCall1 fAll (wCons (wLc (wSeqC (wVar 0)) false [1] [1] wYes (wFrz (wCall c_is_cell (wCons (wVar 1) wNil)))) wNil)))))
  (wRet (wC (.s (.bool false))))
  wNext)
  (wRet (wCall1 fAll (wCons (wLc (wZip (wCons (wVar 0) (wCons (wFrz (wSl (wVar 0) (wOSome (wC (.s (.int 1)))) wONone)) wNil))) true [1, 2] [1, 2] wYes (wOp fLt (wOp fIx (wVar 1) (wC (.s (.int 0)))) (wOp fIx (wVar 2) (wC (.s (.int 0)))))) wNil))))
theorem ok_are_cells (T : Txt K mg cl) {k : Nat} {c : Ct} {j_is_row : Nat} {c_is_row : Ct} (G_is_row : FnOk P wd K mg base (L2.CX P wd) j_is_row cl.f_is_row cl.d_is_row P_is_row (spD K c_is_row)) (h_is_row : j_is_row ≤ k) {j_is_cell : Nat} {c_is_cell : Ct} (G_is_cell : FnOk P wd K mg base (L2.CX P wd) j_is_cell cl.f_is_cell cl.d_is_cell P_is_cell (spD K c_is_cell)) (h_is_cell : j_is_cell ≤ k) (hlen : ∀ rs Q E, c rs Q E → rs.length = P_are_cells.length)
    (hw : ∀ rs Q E, c rs Q E → w_are_cells K cl c_is_row c_is_cell (rho N_are_cells.length rs) { nx := fun _ => Q (.s .none), rt := Q, er := fun cls _ => E cls }) :
    FnOk P wd K mg base (L2.CX P wd) (k + 1) cl.f_are_cells cl.d_are_cells P_are_cells (spD K c) :=
  fnD T.F_are_cells sc_are_cells hlen (fun cdv A outer s H E hr => by
  have tk := takes_of (X := cxOf (L2.CX P wd) P wd K mg base N_are_cells "are_cells" (defScope s_are_cells) cl.f_are_cells cdv A outer s H E) rfl rfl rfl rfl
  exact (pds_cons (pds_if (pdt_w (pdw_or (pdt_not (pdt_val (pd_call (pe_callS G_is_row (hr.mono h_is_row) (by rfl) T.m_is_row T.F_is_row.kp T.b_is_row (fun σ => passAt tk σ) (pda_cons (pd_var (pv 0)) (pda_cons pd_int (pda_cons (pd_const (v := .int 150) (d := .int 150) (pe_glob (v := .int 150) rfl T.v_MOST_CELLS.choose_spec ⟨_, rfl⟩) (fun _ => .int _)) pda_nil))))))) (pdw_or1 (pdt_not (pdt_val (call_core (t := fun _ _ _ => True) (pe_callB (c_all rfl) (by rfl) T.n_all (by decide +kernel) (pda_cons (pd_lc (tup := false) (is := [1]) (pe_lc (own := [("one", 1)]) (g := gC K false [1]) rfl sc_are_cells.nd (pic_seq (pd_var (pv 0))) (blkOk_by (own := [("one", 1)]) (N := N_are_cells) (sc := defScope s_are_cells) (by decide +kernel)) (fun _ _ _ _ _ => (pg_name (i := 1) sc_are_cells.nd rfl (by first | exact Or.inl rfl | exact Or.inr rfl))) (fun _ _ _ _ _ => pdts_nil) (fun _ _ _ _ _ => (pd_frz (pd_call (pe_callS G_is_cell (hr.mono h_is_cell) (by rfl) T.m_is_cell T.F_is_cell.kp T.b_is_cell (fun σ => passAt takes0 σ) (pda_cons (pd_var (pv 1)) pda_nil)))))) (by decide) (by first | exact Or.inl rfl | exact Or.inr ⟨_, rfl⟩)) pda_nil))))))))
  (pds_one (pds_ret pd_bl))
  pds_nil)
  (pds_one (pds_ret (call_core (t := fun _ _ _ => True) (pe_callB (c_all rfl) (by rfl) T.n_all (by decide +kernel) (pda_cons (pd_lc (tup := true) (is := [1, 2]) (pe_lc (own := [("one", 1), ("other", 2)]) (g := gC K true [1, 2]) rfl sc_are_cells.nd (pic_zip (pi_zipN (by rfl) T.n_zip (pda_cons (pd_var (pv 0)) (pda_cons (pd_frz (pd_sl (pe_slice o_sl (pd_var (pv 0)) (pdo_some pd_int) pdo_none))) pda_nil)))) (blkOk_by (own := [("one", 1), ("other", 2)]) (N := N_are_cells) (sc := defScope s_are_cells) (by decide +kernel)) (fun _ _ _ _ _ => (pg_tup rfl (pgs_cons (pg_name (i := 1) sc_are_cells.nd rfl (by first | exact Or.inl rfl | exact Or.inr rfl)) (pgs_cons (pg_name (i := 2) sc_are_cells.nd rfl (by first | exact Or.inl rfl | exact Or.inr rfl)) pgs_nil)))) (fun _ _ _ _ _ => pdts_nil) (fun _ _ _ _ _ => (pd_cmp (o_lt hr.units0) (pd_ix (o_ix hr.units) (pd_var (pv 1)) pd_int (fun _ _ => rfl)) (pd_ix (o_ix hr.units) (pd_var (pv 2)) pd_int (fun _ _ => rfl)) (nomark _)))) (by decide) (by first | exact Or.inl rfl | exact Or.inr ⟨_, rfl⟩)) pda_nil))))))) hw
def w_is_state_of (K : Frag) (cl : Ad) (c_within c_is_row c_are_cells : Ct) : SW :=
  (wSeq (wIfS (wOrT (wNotT (wTst (wCall c_is_row (wCons (wVar 0) (wCons (wC (.s (.int 2))) (wCons (wC (.s (.int 2))) wNil)))))) (wNotT (wTst (wCall c_is_row (wCons (wOp fIx (wVar 0) (wC (.s (.int 0)))) (wCons (wC (.s (.int 0))) (wCons (wC (.s (.int 4))) wNil)))))))
  (wRet (wC (.s (.bool false))))
  wNext)
  (wRet (wAndV (wCall1 fAll (wCons (wLc (wSeqC (wOp fIx (wVar 0) (wC (.s (.int 0))))) false [1] [1] wYes (wFrz (wCall c_within (wCons (wVar 1) (wCons (wC (.s (.int 0))) (wCons (wC (.s (.int 1000000))) wNil)))))) wNil)) (wCall c_are_cells (wCons (wOp fIx (wVar 0) (wC (.s (.int 1)))) wNil)))))
theorem ok_is_state_of (T : Txt K mg cl) {k : Nat} {c : Ct} {j_within : Nat} {c_within : Ct} (G_within : FnOk P wd K mg base (L2.CX P wd) j_within cl.f_within cl.d_within P_within (spD K c_within)) (h_within : j_within ≤ k) {j_is_row : Nat} {c_is_row : Ct} (G_is_row : FnOk P wd K mg base (L2.CX P wd) j_is_row cl.f_is_row cl.d_is_row P_is_row (spD K c_is_row)) (h_is_row : j_is_row ≤ k) {j_are_cells : Nat} {c_are_cells : Ct} (G_are_cells : FnOk P wd K mg base (L2.CX P wd) j_are_cells cl.f_are_cells cl.d_are_cells P_are_cells (spD K c_are_cells)) (h_are_cells : j_are_cells ≤ k) (hlen : ∀ rs Q E, c rs Q E → rs.length = P_is_state_of.length)
    (hw : ∀ rs Q E, c rs Q E → w_is_state_of K cl c_within c_is_row c_are_cells (rho N_is_state_of.length rs) { nx := fun _ => Q (.s .none), rt := Q, er := fun cls _ => E cls }) :
    FnOk P wd K mg base (L2.CX P wd) (k + 1) cl.f_is_state_of cl.d_is_state_of P_is_state_of (spD K c) :=
  fnD T.F_is_state_of sc_is_state_of hlen (fun cdv A outer s H E hr => by
  have tk := takes_of (X := cxOf (L2.CX P wd) P wd K mg base N_is_state_of "is_state_of" (defScope s_is_state_of) cl.f_is_state_of cdv A outer s H E) rfl rfl rfl rfl
  exact (pds_cons (pds_if (pdt_w (pdw_or (pdt_not (pdt_val (pd_call (pe_callS G_is_row (hr.mono h_is_row) (by rfl) T.m_is_row T.F_is_row.kp T.b_is_row (fun σ => passAt tk σ) (pda_cons (pd_var (pv 0)) (pda_cons pd_int (pda_cons pd_int pda_nil))))))) (pdw_or1 (pdt_not (pdt_val (pd_call (pe_callS G_is_row (hr.mono h_is_row) (by rfl) T.m_is_row T.F_is_row.kp T.b_is_row (fun σ => passAt tk σ) (pda_cons (pd_ix (o_ix hr.units) (pd_var (pv 0)) pd_int (fun _ _ => rfl)) (pda_cons pd_int (pda_cons (pd_const (v := .int 4) (d := .int 4) (pe_glob (v := .int 4) rfl T.v_MOST_VARIABLES.choose_spec ⟨_, rfl⟩) (fun _ => .int _)) pda_nil))))))))))
  (pds_one (pds_ret pd_bl))
  pds_nil)
  (pds_one (pds_ret (pd_and (call_core (t := fun _ _ _ => True) (pe_callB (c_all rfl) (by rfl) T.n_all (by decide +kernel) (pda_cons (pd_lc (tup := false) (is := [1]) (pe_lc (own := [("place", 1)]) (g := gC K false [1]) rfl sc_is_state_of.nd (pic_seq (pd_ix (o_ix hr.units) (pd_var (pv 0)) pd_int (fun _ _ => rfl))) (blkOk_by (own := [("place", 1)]) (N := N_is_state_of) (sc := defScope s_is_state_of) (by decide +kernel)) (fun _ _ _ _ _ => (pg_name (i := 1) sc_is_state_of.nd rfl (by first | exact Or.inl rfl | exact Or.inr rfl))) (fun _ _ _ _ _ => pdts_nil) (fun _ _ _ _ _ => (pd_frz (pd_call (pe_callS G_within (hr.mono h_within) (by rfl) T.m_within T.F_within.kp T.b_within (fun σ => passAt takes0 σ) (pda_cons (pd_var (pv 1)) (pda_cons pd_int (pda_cons (pd_const (v := .int 1000000) (d := .int 1000000) (pe_glob (v := .int 1000000) rfl T.v_LAST_PLACE.choose_spec ⟨_, rfl⟩) (fun _ => .int _)) pda_nil)))))))) (by decide) (by first | exact Or.inl rfl | exact Or.inr ⟨_, rfl⟩)) pda_nil))) (pd_one (pd_call (pe_callS G_are_cells (hr.mono h_are_cells) (by rfl) T.m_are_cells T.F_are_cells.kp T.b_are_cells (fun σ => passAt tk σ) (pda_cons (pd_ix (o_ix hr.units) (pd_var (pv 0)) pd_int (fun _ _ => rfl)) pda_nil))))))))) hw
def w_places_of_b1 (K : Frag) (cl : Ad) : SW :=
  (wExt 1 (wLst (wCons (wVar 2) (wCons (wVar 3) wNil))))
def w_places_of (K : Frag) (cl : Ad) : SW :=
  (wSeq (wAsg 1 (wCall1 fList (wCons (wOp fIx (wVar 0) (wC (.s (.int 0)))) wNil)))
  (wSeq (wFor (wSeqF (wOp fIx (wVar 0) (wC (.s (.int 1))))) (gwTup 2 (gwCons (gwName 2) (gwCons (gwName 3) gwNil))) (w_places_of_b1 K cl))
  (wRet (wSortSc (wSeqC (wVar 1)) false [2] [2] (wTst (wOp fGt (wVar 2) (wC (.s (.int 0))))) (wVar 2)))))
theorem ok_places_of (T : Txt K mg cl) {k : Nat} {c : Ct} (hlen : ∀ rs Q E, c rs Q E → rs.length = P_places_of.length)
    (hw : ∀ rs Q E, c rs Q E → w_places_of K cl (rho N_places_of.length rs) { nx := fun _ => Q (.s .none), rt := Q, er := fun cls _ => E cls }) :
    FnOk P wd K mg base (L2.CX P wd) (k + 1) cl.f_places_of cl.d_places_of P_places_of (spD K c) :=
  fnD T.F_places_of sc_places_of hlen (fun cdv A outer s H E hr => by
  have tk := takes_of (X := cxOf (L2.CX P wd) P wd K mg base N_places_of "places_of" (defScope s_places_of) cl.f_places_of cdv A outer s H E) rfl rfl rfl rfl
  exact (pds_cons (pds_set (ps_set (i := 1) sc_places_of.nd rfl (by first | exact Or.inl rfl | exact Or.inr rfl) (call_core (t := fun _ _ _ => True) (pe_callTy c_list (by rfl) T.n_list (by decide +kernel) (pda_cons (pd_ix (o_ix hr.units) (pd_var (pv 0)) pd_int (fun _ _ => rfl)) pda_nil)))))
  (pds_cons (pds_for (ps_for (passes_of rfl) rfl (pif_seq (pd_ix (o_ix hr.units) (pd_var (pv 0)) pd_int (fun _ _ => rfl))) (pgd_tup (pg_tup rfl (pgds_cons (pgs_cons (pgd_name (pg_name (i := 2) sc_places_of.nd rfl (by first | exact Or.inl rfl | exact Or.inr rfl))) (pgds_cons (pgs_cons (pgd_name (pg_name (i := 3) sc_places_of.nd rfl (by first | exact Or.inl rfl | exact Or.inr rfl))) pgds_nil)))))) (pds_one (pds_ext (i := 1) (ps_expr (pe_bm PySem.F.plainAttrs_list PySem.F.slot_list_extend PySem.F.type_list_extend mt_extB (pv 1) (pa_cons (pd_lst (pda_cons (pd_var (pv 2)) (pda_cons (pd_var (pv 3)) pda_nil))) pa_nil)))))))
  (pds_one (pds_ret (pd_sortSc (tup := false) (is := [2]) (pe_callB (cr_setAny rfl) (by rfl) T.n_sorted (by decide +kernel) (pa_cons (pe_scI (own := [("place", 2)]) (g := gC K false [2]) rfl sc_places_of.nd (pic_seq (pd_var (pv 1))) (blkOk_by (own := [("place", 2)]) (N := N_places_of) (sc := defScope s_places_of) (by decide +kernel)) (fun _ _ _ _ _ => (pg_name (i := 2) sc_places_of.nd rfl (by first | exact Or.inl rfl | exact Or.inr rfl))) (fun _ _ _ _ _ => (pdts_one (pdt_cmp o_gt (pd_var (pv 2)) pd_int (nomark _)))) (fun _ _ _ _ _ => (pd_var (pv 2)))) pa_nil)) (by decide) (by first | exact Or.inl rfl | exact Or.inr ⟨_, rfl⟩))))))) hw
def w_state_from (K : Frag) (cl : Ad) : SW :=
  (wRet (wTup (wCons (wCall1 fTuple (wCons (wVar 0) wNil)) (wCons (wCall1 fTuple (wCons (wSortIt (wVar 1)) wNil)) wNil))))
theorem ok_state_from (T : Txt K mg cl) {k : Nat} {c : Ct} (hlen : ∀ rs Q E, c rs Q E → rs.length = P_state_from.length)
    (hw : ∀ rs Q E, c rs Q E → w_state_from K cl (rho N_state_from.length rs) { nx := fun _ => Q (.s .none), rt := Q, er := fun cls _ => E cls }) :
    FnOk P wd K mg base (L2.CX P wd) (k + 1) cl.f_state_from cl.d_state_from P_state_from (spD K c) :=
  fnD T.F_state_from sc_state_from hlen (fun cdv A outer s H E hr => by
  have tk := takes_of (X := cxOf (L2.CX P wd) P wd K mg base N_state_from "state_from" (defScope s_state_from) cl.f_state_from cdv A outer s H E) rfl rfl rfl rfl
  exact (pds_one (pds_ret (pd_tup (pda_cons (call_core (t := fun _ _ _ => True) (pe_callTy c_tuple (by rfl) T.n_tuple (by decide +kernel) (pda_cons (pd_var (pv 0)) pda_nil))) (pda_cons (call_core (t := fun _ _ _ => True) (pe_callTy c_tuple (by rfl) T.n_tuple (by decide +kernel) (pda_cons (pd_sortIt (pe_callB (c_sortIt rfl hr.units) (by rfl) T.n_sorted (by decide +kernel) (pa_cons (pe_bm0 PySem.F.plainAttrs_dict PySem.F.slot_dict_items PySem.F.type_dict_items mt_itemsK (pd_var (pv 1))) pa_nil))) pda_nil))) pda_nil)))))) hw
def w_reached_by_b1 (K : Frag) (cl : Ad) : SW :=
  (wSeq (wSetIx 2 (wC (.s (.bool true))) (wVar 3))
  (wAsg 3 (wOp fIx (wVar 0) (wVar 3))))
def w_reached_by_b2 (K : Frag) (cl : Ad) : SW :=
  (wWhile (wAndT (wTst (wOp (fIn false) (wVar 3) (wVar 0))) (wTst (wOp (fIn true) (wVar 3) (wVar 2)))) (w_reached_by_b1 K cl))
def w_reached_by (K : Frag) (cl : Ad) : SW :=
  (wSeq (wAsg 2 wDNew)
  (wSeq (wFor (wSeqF (wVar 1)) (gwName 3) (w_reached_by_b2 K cl))
  (wRetS 2)))
theorem ok_reached_by (T : Txt K mg cl) {k : Nat} {c : Ct} (hlen : ∀ rs Q E, c rs Q E → rs.length = P_reached_by.length)
    (hw : ∀ rs Q E, c rs Q E → w_reached_by K cl (rho N_reached_by.length rs) { nx := fun _ => Q (.s .none), rt := Q, er := fun cls _ => E cls }) :
    FnOk P wd K mg base (L2.CX P wd) (k + 1) cl.f_reached_by cl.d_reached_by P_reached_by (spD K c) :=
  fnD T.F_reached_by sc_reached_by hlen (fun cdv A outer s H E hr => by
  have tk := takes_of (X := cxOf (L2.CX P wd) P wd K mg base N_reached_by "reached_by" (defScope s_reached_by) cl.f_reached_by cdv A outer s H E) rfl rfl rfl rfl
  exact (pds_cons (pds_set (ps_set (i := 2) sc_reached_by.nd rfl (by first | exact Or.inl rfl | exact Or.inr rfl) (pd_dnew pe_dnewK)))
  (pds_cons (pds_for (ps_for (passes_of rfl) rfl (pif_seq (pd_var (pv 1))) (pgd_name (pg_name (i := 3) sc_reached_by.nd rfl (by first | exact Or.inl rfl | exact Or.inr rfl))) (pds_one (pds_while (passes_of rfl) (pdt_w (pdw_and (pdt_cmp (o_in hr.units) (pd_var (pv 3)) (pd_var (pv 0)) (by rfl)) (pdw_and1 (pdt_cmp (o_notIn hr.units) (pd_var (pv 3)) (pd_var (pv 2)) (by rfl))))) (pds_cons (pds_setIx (i := 2) (ps_asg pd_bl (pg_sub (pv 2) (pd_var (pv 3)) (set_both hr.units))))
  (pds_one (pds_set (ps_set (i := 3) sc_reached_by.nd rfl (by first | exact Or.inl rfl | exact Or.inr rfl) (pd_ix (o_ix hr.units) (pd_var (pv 0)) (pd_var (pv 3)) (fun _ _ => rfl))))))))))
  (pds_one (pds_retS (i := 2) (ps_ret (pv 2))))))) hw
def w_is_whole_of (K : Frag) (cl : Ad) (c_reached_by : Ct) : SW :=
  (wRet (wOp fEq (wCall1 fLen (wCons (wCall c_reached_by (wCons (wFrz (wCall1 fDict (wCons (wOp fIx (wVar 0) (wC (.s (.int 1)))) wNil))) (wCons (wOp fIx (wVar 0) (wC (.s (.int 0)))) wNil))) wNil)) (wCall1 fLen (wCons (wOp fIx (wVar 0) (wC (.s (.int 1)))) wNil))))
theorem ok_is_whole_of (T : Txt K mg cl) {k : Nat} {c : Ct} {j_reached_by : Nat} {c_reached_by : Ct} (G_reached_by : FnOk P wd K mg base (L2.CX P wd) j_reached_by cl.f_reached_by cl.d_reached_by P_reached_by (spD K c_reached_by)) (h_reached_by : j_reached_by ≤ k) (hlen : ∀ rs Q E, c rs Q E → rs.length = P_is_whole_of.length)
    (hw : ∀ rs Q E, c rs Q E → w_is_whole_of K cl c_reached_by (rho N_is_whole_of.length rs) { nx := fun _ => Q (.s .none), rt := Q, er := fun cls _ => E cls }) :
    FnOk P wd K mg base (L2.CX P wd) (k + 1) cl.f_is_whole_of cl.d_is_whole_of P_is_whole_of (spD K c) :=
  fnD T.F_is_whole_of sc_is_whole_of hlen (fun cdv A outer s H E hr => by
  have tk := takes_of (X := cxOf (L2.CX P wd) P wd K mg base N_is_whole_of "is_whole_of" (defScope s_is_whole_of) cl.f_is_whole_of cdv A outer s H E) rfl rfl rfl rfl
  exact (pds_one (pds_ret (pd_cmp (o_eq hr.units) (call_core (t := fun _ _ _ => True) (pe_callB c_len (by rfl) T.n_len (by decide +kernel) (pda_cons (pd_call (pe_callS G_reached_by (hr.mono h_reached_by) (by rfl) T.m_reached_by T.F_reached_by.kp T.b_reached_by (fun σ => passAt tk σ) (pda_cons (pd_frz (call_core (t := fun _ _ _ => True) (pe_callTy (c_dict rfl) (by rfl) T.n_dict (by decide +kernel) (pda_cons (pd_ix (o_ix hr.units) (pd_var (pv 0)) pd_int (fun _ _ => rfl)) pda_nil)))) (pda_cons (pd_ix (o_ix hr.units) (pd_var (pv 0)) pd_int (fun _ _ => rfl)) pda_nil)))) pda_nil))) (call_core (t := fun _ _ _ => True) (pe_callB c_len (by rfl) T.n_len (by decide +kernel) (pda_cons (pd_ix (o_ix hr.units) (pd_var (pv 0)) pd_int (fun _ _ => rfl)) pda_nil))) (nomark _))))) hw
def w_is_step_of (K : Frag) (cl : Ad) (c_within c_is_row c_is_word : Ct) : SW :=
  (wSeq (wIfS (wOrT (wNotT (wTst (wCall c_is_row (wCons (wVar 1) (wCons (wC (.s (.int 2))) (wCons (wC (.s (.int 3))) wNil)))))) (wOrT (wNotT (wTst (wCall c_is_word (wCons (wOp fIx (wVar 1) (wC (.s (.int 0)))) (wCons (wC (.s (.tuple [.str "set", .str "follow", .str "put", .str "new", .str "free"]))) wNil))))) (wNotT (wTst (wCall c_within (wCons (wOp fIx (wVar 1) (wC (.s (.int 1)))) (wCons (wC (.s (.int 0))) (wCons (wFrz (wOp fSub (wVar 0) (wC (.s (.int 1))))) wNil))))))))
  (wRet (wC (.s (.bool false))))
  wNext)
  (wSeq (wIfS (wTst (wOp (fIn false) (wOp fIx (wVar 1) (wC (.s (.int 0)))) (wTup (wCons (wC (.s (.str "new"))) (wCons (wC (.s (.str "free"))) wNil)))))
  (wRet (wOp fEq (wCall1 fLen (wCons (wVar 1) wNil)) (wC (.s (.int 2)))))
  wNext)
  (wRet (wAndV (wOp fEq (wCall1 fLen (wCons (wVar 1) wNil)) (wC (.s (.int 3)))) (wCall c_within (wCons (wOp fIx (wVar 1) (wC (.s (.int 2)))) (wCons (wIf (wTst (wOp fEq (wOp fIx (wVar 1) (wC (.s (.int 0)))) (wC (.s (.str "follow"))))) (wC (.s (.int 0))) (wUn fNeg (wC (.s (.int 1))))) (wCons (wFrz (wOp fSub (wVar 0) (wC (.s (.int 1))))) wNil))))))))
theorem ok_is_step_of (T : Txt K mg cl) {k : Nat} {c : Ct} {j_within : Nat} {c_within : Ct} (G_within : FnOk P wd K mg base (L2.CX P wd) j_within cl.f_within cl.d_within P_within (spD K c_within)) (h_within : j_within ≤ k) {j_is_row : Nat} {c_is_row : Ct} (G_is_row : FnOk P wd K mg base (L2.CX P wd) j_is_row cl.f_is_row cl.d_is_row P_is_row (spD K c_is_row)) (h_is_row : j_is_row ≤ k) {j_is_word : Nat} {c_is_word : Ct} (G_is_word : FnOk P wd K mg base (L2.CX P wd) j_is_word cl.f_is_word cl.d_is_word P_is_word (spD K c_is_word)) (h_is_word : j_is_word ≤ k) (hlen : ∀ rs Q E, c rs Q E → rs.length = P_is_step_of.length)
    (hw : ∀ rs Q E, c rs Q E → w_is_step_of K cl c_within c_is_row c_is_word (rho N_is_step_of.length rs) { nx := fun _ => Q (.s .none), rt := Q, er := fun cls _ => E cls }) :
    FnOk P wd K mg base (L2.CX P wd) (k + 1) cl.f_is_step_of cl.d_is_step_of P_is_step_of (spD K c) :=
  fnD T.F_is_step_of sc_is_step_of hlen (fun cdv A outer s H E hr => by
  have tk := takes_of (X := cxOf (L2.CX P wd) P wd K mg base N_is_step_of "is_step_of" (defScope s_is_step_of) cl.f_is_step_of cdv A outer s H E) rfl rfl rfl rfl
  exact (pds_cons (pds_if (pdt_w (pdw_or (pdt_not (pdt_val (pd_call (pe_callS G_is_row (hr.mono h_is_row) (by rfl) T.m_is_row T.F_is_row.kp T.b_is_row (fun σ => passAt tk σ) (pda_cons (pd_var (pv 1)) (pda_cons pd_int (pda_cons pd_int pda_nil))))))) (pdw_or (pdt_not (pdt_val (pd_call (pe_callS G_is_word (hr.mono h_is_word) (by rfl) T.m_is_word T.F_is_word.kp T.b_is_word (fun σ => passAt tk σ) (pda_cons (pd_ix (o_ix hr.units) (pd_var (pv 1)) pd_int (fun _ _ => rfl)) (pda_cons (pd_const (v := .ref cl.a_WORDS) (d := .tuple [.str "set", .str "follow", .str "put", .str "new", .str "free"]) (pe_glob (v := .ref cl.a_WORDS) rfl T.v_WORDS rfl) (fun B => T.d_WORDS B)) pda_nil)))))) (pdw_or1 (pdt_not (pdt_val (pd_call (pe_callS G_within (hr.mono h_within) (by rfl) T.m_within T.F_within.kp T.b_within (fun σ => passAt tk σ) (pda_cons (pd_ix (o_ix hr.units) (pd_var (pv 1)) pd_int (fun _ _ => rfl)) (pda_cons pd_int (pda_cons (pd_frz (pd_op o_sub (pd_var (pv 0)) pd_int)) pda_nil)))))))))))
  (pds_one (pds_ret pd_bl))
  pds_nil)
  (pds_cons (pds_if (pdt_cmp (o_in hr.units) (pd_ix (o_ix hr.units) (pd_var (pv 1)) pd_int (fun _ _ => rfl)) (pd_tup (pda_cons pd_str (pda_cons pd_str pda_nil))) (by rfl))
  (pds_one (pds_ret (pd_cmp (o_eq hr.units) (call_core (t := fun _ _ _ => True) (pe_callB c_len (by rfl) T.n_len (by decide +kernel) (pda_cons (pd_var (pv 1)) pda_nil))) pd_int (nomark _))))
  pds_nil)
  (pds_one (pds_ret (pd_and (pd_cmp (o_eq hr.units) (call_core (t := fun _ _ _ => True) (pe_callB c_len (by rfl) T.n_len (by decide +kernel) (pda_cons (pd_var (pv 1)) pda_nil))) pd_int (nomark _)) (pd_one (pd_call (pe_callS G_within (hr.mono h_within) (by rfl) T.m_within T.F_within.kp T.b_within (fun σ => passAt tk σ) (pda_cons (pd_ix (o_ix hr.units) (pd_var (pv 1)) pd_int (fun _ _ => rfl)) (pda_cons (pd_if (pdt_cmp (o_eq hr.units) (pd_ix (o_ix hr.units) (pd_var (pv 1)) pd_int (fun _ _ => rfl)) pd_str (nomark _)) pd_int (pd_un o_neg pd_int)) (pda_cons (pd_frz (pd_op o_sub (pd_var (pv 0)) pd_int)) pda_nil)))))))))))) hw
def w_is_condition_of (K : Frag) (cl : Ad) (c_within c_is_row c_is_word : Ct) : SW :=
  (wSeq (wIfS (wOrT (wNotT (wTst (wCall c_is_row (wCons (wVar 1) (wCons (wC (.s (.int 3))) (wCons (wC (.s (.int 3))) wNil)))))) (wNotT (wTst (wCall c_is_word (wCons (wOp fIx (wVar 1) (wC (.s (.int 0)))) (wCons (wTup (wCons (wC (.s (.str "same"))) (wCons (wC (.s (.str "unlike"))) wNil))) wNil))))))
  (wRet (wC (.s (.bool false))))
  wNext)
  (wRet (wAndV (wCall c_within (wCons (wOp fIx (wVar 1) (wC (.s (.int 1)))) (wCons (wUn fNeg (wC (.s (.int 1)))) (wCons (wFrz (wOp fSub (wVar 0) (wC (.s (.int 1))))) wNil)))) (wCall c_within (wCons (wOp fIx (wVar 1) (wC (.s (.int 2)))) (wCons (wUn fNeg (wC (.s (.int 1)))) (wCons (wFrz (wOp fSub (wVar 0) (wC (.s (.int 1))))) wNil)))))))
theorem ok_is_condition_of (T : Txt K mg cl) {k : Nat} {c : Ct} {j_within : Nat} {c_within : Ct} (G_within : FnOk P wd K mg base (L2.CX P wd) j_within cl.f_within cl.d_within P_within (spD K c_within)) (h_within : j_within ≤ k) {j_is_row : Nat} {c_is_row : Ct} (G_is_row : FnOk P wd K mg base (L2.CX P wd) j_is_row cl.f_is_row cl.d_is_row P_is_row (spD K c_is_row)) (h_is_row : j_is_row ≤ k) {j_is_word : Nat} {c_is_word : Ct} (G_is_word : FnOk P wd K mg base (L2.CX P wd) j_is_word cl.f_is_word cl.d_is_word P_is_word (spD K c_is_word)) (h_is_word : j_is_word ≤ k) (hlen : ∀ rs Q E, c rs Q E → rs.length = P_is_condition_of.length)
    (hw : ∀ rs Q E, c rs Q E → w_is_condition_of K cl c_within c_is_row c_is_word (rho N_is_condition_of.length rs) { nx := fun _ => Q (.s .none), rt := Q, er := fun cls _ => E cls }) :
    FnOk P wd K mg base (L2.CX P wd) (k + 1) cl.f_is_condition_of cl.d_is_condition_of P_is_condition_of (spD K c) :=
  fnD T.F_is_condition_of sc_is_condition_of hlen (fun cdv A outer s H E hr => by
  have tk := takes_of (X := cxOf (L2.CX P wd) P wd K mg base N_is_condition_of "is_condition_of" (defScope s_is_condition_of) cl.f_is_condition_of cdv A outer s H E) rfl rfl rfl rfl
  exact (pds_cons (pds_if (pdt_w (pdw_or (pdt_not (pdt_val (pd_call (pe_callS G_is_row (hr.mono h_is_row) (by rfl) T.m_is_row T.F_is_row.kp T.b_is_row (fun σ => passAt tk σ) (pda_cons (pd_var (pv 1)) (pda_cons pd_int (pda_cons pd_int pda_nil))))))) (pdw_or1 (pdt_not (pdt_val (pd_call (pe_callS G_is_word (hr.mono h_is_word) (by rfl) T.m_is_word T.F_is_word.kp T.b_is_word (fun σ => passAt tk σ) (pda_cons (pd_ix (o_ix hr.units) (pd_var (pv 1)) pd_int (fun _ _ => rfl)) (pda_cons (pd_tup (pda_cons pd_str (pda_cons pd_str pda_nil))) pda_nil)))))))))
  (pds_one (pds_ret pd_bl))
  pds_nil)
  (pds_one (pds_ret (pd_and (pd_call (pe_callS G_within (hr.mono h_within) (by rfl) T.m_within T.F_within.kp T.b_within (fun σ => passAt tk σ) (pda_cons (pd_ix (o_ix hr.units) (pd_var (pv 1)) pd_int (fun _ _ => rfl)) (pda_cons (pd_un o_neg pd_int) (pda_cons (pd_frz (pd_op o_sub (pd_var (pv 0)) pd_int)) pda_nil))))) (pd_one (pd_call (pe_callS G_within (hr.mono h_within) (by rfl) T.m_within T.F_within.kp T.b_within (fun σ => passAt tk σ) (pda_cons (pd_ix (o_ix hr.units) (pd_var (pv 1)) pd_int (fun _ _ => rfl)) (pda_cons (pd_un o_neg pd_int) (pda_cons (pd_frz (pd_op o_sub (pd_var (pv 0)) pd_int)) pda_nil))))))))))) hw
def w_condition_in (K : Frag) (cl : Ad) : SW :=
  (wSeq (wAsg 2 (wOp fAdd (wOp fIx (wVar 1) (wC (.s (.int 0)))) (wTup (wCons (wC (.s (.int 0))) wNil))))
  (wRet (wOp fEq (wOp fEq (wOp fIx (wVar 2) (wOp fIx (wVar 0) (wC (.s (.int 1))))) (wOp fIx (wVar 2) (wOp fIx (wVar 0) (wC (.s (.int 2)))))) (wOp fEq (wOp fIx (wVar 0) (wC (.s (.int 0)))) (wC (.s (.str "same")))))))
theorem ok_condition_in (T : Txt K mg cl) {k : Nat} {c : Ct} (hlen : ∀ rs Q E, c rs Q E → rs.length = P_condition_in.length)
    (hw : ∀ rs Q E, c rs Q E → w_condition_in K cl (rho N_condition_in.length rs) { nx := fun _ => Q (.s .none), rt := Q, er := fun cls _ => E cls }) :
    FnOk P wd K mg base (L2.CX P wd) (k + 1) cl.f_condition_in cl.d_condition_in P_condition_in (spD K c) :=
  fnD T.F_condition_in sc_condition_in hlen (fun cdv A outer s H E hr => by
  have tk := takes_of (X := cxOf (L2.CX P wd) P wd K mg base N_condition_in "condition_in" (defScope s_condition_in) cl.f_condition_in cdv A outer s H E) rfl rfl rfl rfl
  exact (pds_cons (pds_set (ps_set (i := 2) sc_condition_in.nd rfl (by first | exact Or.inl rfl | exact Or.inr rfl) (pd_op o_add (pd_ix (o_ix hr.units) (pd_var (pv 1)) pd_int (fun _ _ => rfl)) (pd_tup (pda_cons pd_int pda_nil)))))
  (pds_one (pds_ret (pd_cmp (o_eq hr.units) (pd_cmp (o_eq hr.units) (pd_ix (o_ix hr.units) (pd_var (pv 2)) (pd_ix (o_ix hr.units) (pd_var (pv 0)) pd_int (fun _ _ => rfl)) (fun _ _ => rfl)) (pd_ix (o_ix hr.units) (pd_var (pv 2)) (pd_ix (o_ix hr.units) (pd_var (pv 0)) pd_int (fun _ _ => rfl)) (fun _ _ => rfl)) (nomark _)) (pd_cmp (o_eq hr.units) (pd_ix (o_ix hr.units) (pd_var (pv 0)) pd_int (fun _ _ => rfl)) pd_str (nomark _)) (nomark _)))))) hw
def w_top_of (K : Frag) (cl : Ad) (c_places_of : Ct) : SW :=
  (wRet (wCall1 fMax1 (wCons (wOp fAdd (wLst (wCons (wC (.s (.int 0))) wNil)) (wCall c_places_of (wCons (wVar 0) wNil))) wNil)))
theorem ok_top_of (T : Txt K mg cl) {k : Nat} {c : Ct} {j_places_of : Nat} {c_places_of : Ct} (G_places_of : FnOk P wd K mg base (L2.CX P wd) j_places_of cl.f_places_of cl.d_places_of P_places_of (spD K c_places_of)) (h_places_of : j_places_of ≤ k) (hlen : ∀ rs Q E, c rs Q E → rs.length = P_top_of.length)
    (hw : ∀ rs Q E, c rs Q E → w_top_of K cl c_places_of (rho N_top_of.length rs) { nx := fun _ => Q (.s .none), rt := Q, er := fun cls _ => E cls }) :
    FnOk P wd K mg base (L2.CX P wd) (k + 1) cl.f_top_of cl.d_top_of P_top_of (spD K c) :=
  fnD T.F_top_of sc_top_of hlen (fun cdv A outer s H E hr => by
  have tk := takes_of (X := cxOf (L2.CX P wd) P wd K mg base N_top_of "top_of" (defScope s_top_of) cl.f_top_of cdv A outer s H E) rfl rfl rfl rfl
  exact (pds_one (pds_ret (call_core (t := fun _ _ _ => True) (pe_callB (c_max1 rfl) (by rfl) T.n_max (by decide +kernel) (pda_cons (pd_op o_add (pd_lst (pda_cons pd_int pda_nil)) (pd_call (pe_callS G_places_of (hr.mono h_places_of) (by rfl) T.m_places_of T.F_places_of.kp T.b_places_of (fun σ => passAt tk σ) (pda_cons (pd_var (pv 0)) pda_nil)))) pda_nil)))))) hw
def w_step_in_t1 (K : Frag) (cl : Ad) (c_state_from c_is_whole_of : Ct) : SW :=
  (wSetIx 3 (wVar 2) (wVar 6))
def w_step_in_t2 (K : Frag) (cl : Ad) (c_state_from c_is_whole_of : Ct) : SW :=
  (wSeq (wSetIx 4 (wC (.s (.int 0))) (wVar 2))
  (w_step_in_t1 K cl c_state_from c_is_whole_of))
def w_step_in_t3 (K : Frag) (cl : Ad) (c_state_from c_is_whole_of : Ct) : SW :=
  (wRet (wIf (wTst (wCall c_is_whole_of (wCons (wVar 8) wNil))) (wTup (wCons (wC (.s (.str "end"))) (wCons (wVar 8) (wCons (wVar 2) wNil)))) (wTup (wCons (wC (.s (.str "leak"))) wNil))))
def w_step_in_t4 (K : Frag) (cl : Ad) (c_state_from c_is_whole_of : Ct) : SW :=
  (wSeq (wAsg 8 (wCall c_state_from (wCons (wFrz (wSl (wVar 3) wONone (wOSome (wUn fNeg (wC (.s (.int 1))))))) (wCons (wVar 4) wNil))))
  (w_step_in_t3 K cl c_state_from c_is_whole_of))
def w_step_in_t5 (K : Frag) (cl : Ad) (c_state_from c_is_whole_of : Ct) : SW :=
  (wSeq (wIfS (wTst (wOp fEq (wVar 5) (wC (.s (.str "set")))))
  (wSetIx 3 (wOp fIx (wVar 3) (wVar 7)) (wVar 6))
  (wIfS (wTst (wOp fEq (wVar 5) (wC (.s (.str "follow")))))
  (wSetIx 3 (wOp fIx (wVar 4) (wOp fIx (wVar 3) (wVar 7))) (wVar 6))
  (wIfS (wTst (wOp fEq (wVar 5) (wC (.s (.str "put")))))
  (wSetIx 4 (wOp fIx (wVar 3) (wVar 7)) (wOp fIx (wVar 3) (wVar 6)))
  (wIfS (wTst (wOp fEq (wVar 5) (wC (.s (.str "free")))))
  (wDPop 4 (wOp fIx (wVar 3) (wVar 6)))
  (wSeq (wAug 2 (fun i j => i + j) (wC (.s (.int 1))))
  (w_step_in_t2 K cl c_state_from c_is_whole_of))))))
  (w_step_in_t4 K cl c_state_from c_is_whole_of))
def w_step_in_t6 (K : Frag) (cl : Ad) (c_state_from c_is_whole_of : Ct) : SW :=
  (wSeq (wIfS (wAndT (wTst (wOp (fIn false) (wVar 5) (wTup (wCons (wC (.s (.str "follow"))) (wCons (wC (.s (.str "put"))) (wCons (wC (.s (.str "free"))) wNil)))))) (wTst (wOp (fIn true) (wOp fIx (wVar 3) (wIf (wTst (wOp fEq (wVar 5) (wC (.s (.str "follow"))))) (wVar 7) (wVar 6))) (wVar 4))))
  (wRet (wTup (wCons (wC (.s (.str "wrong"))) wNil)))
  wNext)
  (w_step_in_t5 K cl c_state_from c_is_whole_of))
def w_step_in_t7 (K : Frag) (cl : Ad) (c_state_from c_is_whole_of : Ct) : SW :=
  (wSeq (wParN [5, 6, 7] (wCons (wOp fIx (wVar 1) (wC (.s (.int 0)))) (wCons (wOp fIx (wVar 1) (wC (.s (.int 1)))) (wCons (wOp fIx (wVar 1) (wUn fNeg (wC (.s (.int 1))))) wNil))))
  (w_step_in_t6 K cl c_state_from c_is_whole_of))
def w_step_in (K : Frag) (cl : Ad) (c_state_from c_is_whole_of : Ct) : SW :=
  (wSeq (wPar 3 4 (wOp fAdd (wCall1 fList (wCons (wOp fIx (wVar 0) (wC (.s (.int 0)))) wNil)) (wLst (wCons (wC (.s (.int 0))) wNil))) (wCall1 fDict (wCons (wOp fIx (wVar 0) (wC (.s (.int 1)))) wNil)))
  (w_step_in_t7 K cl c_state_from c_is_whole_of))
theorem ok_step_in (T : Txt K mg cl) {k : Nat} {c : Ct} {j_state_from : Nat} {c_state_from : Ct} (G_state_from : FnOk P wd K mg base (L2.CX P wd) j_state_from cl.f_state_from cl.d_state_from P_state_from (spD K c_state_from)) (h_state_from : j_state_from ≤ k) {j_is_whole_of : Nat} {c_is_whole_of : Ct} (G_is_whole_of : FnOk P wd K mg base (L2.CX P wd) j_is_whole_of cl.f_is_whole_of cl.d_is_whole_of P_is_whole_of (spD K c_is_whole_of)) (h_is_whole_of : j_is_whole_of ≤ k) (hlen : ∀ rs Q E, c rs Q E → rs.length = P_step_in.length)
    (hw : ∀ rs Q E, c rs Q E → w_step_in K cl c_state_from c_is_whole_of (rho N_step_in.length rs) { nx := fun _ => Q (.s .none), rt := Q, er := fun cls _ => E cls }) :
    FnOk P wd K mg base (L2.CX P wd) (k + 1) cl.f_step_in cl.d_step_in P_step_in (spD K c) :=
  fnD T.F_step_in sc_step_in hlen (fun cdv A outer s H E hr => by
  have tk := takes_of (X := cxOf (L2.CX P wd) P wd K mg base N_step_in "step_in" (defScope s_step_in) cl.f_step_in cdv A outer s H E) rfl rfl rfl rfl
  exact (pds_cons (pds_par (i := 3) (j := 4) (ps_par rfl sc_step_in.nd rfl rfl (by decide) rfl rfl (pda_cons (pd_op o_add (call_core (t := fun _ _ _ => True) (pe_callTy c_list (by rfl) T.n_list (by decide +kernel) (pda_cons (pd_ix (o_ix hr.units) (pd_var (pv 0)) pd_int (fun _ _ => rfl)) pda_nil))) (pd_lst (pda_cons pd_int pda_nil))) (pda_cons (call_core (t := fun _ _ _ => True) (pe_callTy (c_dict rfl) (by rfl) T.n_dict (by decide +kernel) (pda_cons (pd_ix (o_ix hr.units) (pd_var (pv 0)) pd_int (fun _ _ => rfl)) pda_nil))) pda_nil)) (by rfl)))
  (pds_cons (pds_par3 (i := 5) (j := 6) (l := 7) (ps_par3 rfl sc_step_in.nd rfl rfl rfl (by decide) (by decide) (by decide) rfl rfl rfl (pda_cons (pd_ix (o_ix hr.units) (pd_var (pv 1)) pd_int (fun _ _ => rfl)) (pda_cons (pd_ix (o_ix hr.units) (pd_var (pv 1)) pd_int (fun _ _ => rfl)) (pda_cons (pd_ix (o_ix hr.units) (pd_var (pv 1)) (pd_un o_neg pd_int) (fun _ _ => rfl)) pda_nil))) (by rfl)))
  (pds_cons (pds_if (pdt_w (pdw_and (pdt_cmp (o_in hr.units) (pd_var (pv 5)) (pd_tup (pda_cons pd_str (pda_cons pd_str (pda_cons pd_str pda_nil)))) (by rfl)) (pdw_and1 (pdt_cmp (o_notIn hr.units) (pd_ix (o_ix hr.units) (pd_var (pv 3)) (pd_if (pdt_cmp (o_eq hr.units) (pd_var (pv 5)) pd_str (nomark _)) (pd_var (pv 7)) (pd_var (pv 6))) (fun _ _ => rfl)) (pd_var (pv 4)) (by rfl)))))
  (pds_one (pds_ret (pd_tup (pda_cons pd_str pda_nil))))
  pds_nil)
  (pds_cons (pds_if (pdt_cmp (o_eq hr.units) (pd_var (pv 5)) pd_str (nomark _))
  (pds_one (pds_setIx (i := 3) (ps_asg (pd_ix (o_ix hr.units) (pd_var (pv 3)) (pd_var (pv 7)) (fun _ _ => rfl)) (pg_sub (pv 3) (pd_var (pv 6)) (set_both hr.units)))))
  (pds_one (pds_if (pdt_cmp (o_eq hr.units) (pd_var (pv 5)) pd_str (nomark _))
  (pds_one (pds_setIx (i := 3) (ps_asg (pd_ix (o_ix hr.units) (pd_var (pv 4)) (pd_ix (o_ix hr.units) (pd_var (pv 3)) (pd_var (pv 7)) (fun _ _ => rfl)) (fun _ _ => rfl)) (pg_sub (pv 3) (pd_var (pv 6)) (set_both hr.units)))))
  (pds_one (pds_if (pdt_cmp (o_eq hr.units) (pd_var (pv 5)) pd_str (nomark _))
  (pds_one (pds_setIx (i := 4) (ps_asg (pd_ix (o_ix hr.units) (pd_var (pv 3)) (pd_var (pv 7)) (fun _ _ => rfl)) (pg_sub (pv 4) (pd_ix (o_ix hr.units) (pd_var (pv 3)) (pd_var (pv 6)) (fun _ _ => rfl)) (set_both hr.units)))))
  (pds_one (pds_if (pdt_cmp (o_eq hr.units) (pd_var (pv 5)) pd_str (nomark _))
  (pds_one (pds_dpop (i := 4) (ps_expr (pe_dpop1 (pv 4) (pd_ix (o_ix hr.units) (pd_var (pv 3)) (pd_var (pv 6)) (fun _ _ => rfl)) ⟨rfl, rfl, rfl, rfl⟩))))
  (pds_cons (pds_aug (g := (fun i j => i + j)) (ps_aug (i := 2) sc_step_in.nd rfl (by first | exact Or.inl rfl | exact Or.inr rfl) pd_int ip_add))
  (pds_cons (pds_setIx (i := 4) (ps_asg pd_int (pg_sub (pv 4) (pd_var (pv 2)) (set_both hr.units))))
  (pds_one (pds_setIx (i := 3) (ps_asg (pd_var (pv 2)) (pg_sub (pv 3) (pd_var (pv 6)) (set_both hr.units))))))))))))))
  (pds_cons (pds_set (ps_set (i := 8) sc_step_in.nd rfl (by first | exact Or.inl rfl | exact Or.inr rfl) (pd_call (pe_callS G_state_from (hr.mono h_state_from) (by rfl) T.m_state_from T.F_state_from.kp T.b_state_from (fun σ => passAt tk σ) (pda_cons (pd_frz (pd_sl (pe_slice o_sl (pd_var (pv 3)) pdo_none (pdo_some (pd_un o_neg pd_int))))) (pda_cons (pd_var (pv 4)) pda_nil))))))
  (pds_one (pds_ret (pd_if (pdt_val (pd_call (pe_callS G_is_whole_of (hr.mono h_is_whole_of) (by rfl) T.m_is_whole_of T.F_is_whole_of.kp T.b_is_whole_of (fun σ => passAt tk σ) (pda_cons (pd_var (pv 8)) pda_nil)))) (pd_tup (pda_cons pd_str (pda_cons (pd_var (pv 8)) (pda_cons (pd_var (pv 2)) pda_nil)))) (pd_tup (pda_cons pd_str pda_nil))))))))))) hw
def w_is_whole_state (K : Frag) (cl : Ad) (c_is_state_of c_is_whole_of : Ct) : SW :=
  (wRet (wAndV (wCall c_is_state_of (wCons (wVar 1) wNil)) (wAndV (wOp fEq (wCall1 fLen (wCons (wOp fIx (wVar 1) (wC (.s (.int 0)))) wNil)) (wVar 0)) (wCall c_is_whole_of (wCons (wVar 1) wNil)))))
theorem ok_is_whole_state (T : Txt K mg cl) {k : Nat} {c : Ct} {j_is_state_of : Nat} {c_is_state_of : Ct} (G_is_state_of : FnOk P wd K mg base (L2.CX P wd) j_is_state_of cl.f_is_state_of cl.d_is_state_of P_is_state_of (spD K c_is_state_of)) (h_is_state_of : j_is_state_of ≤ k) {j_is_whole_of : Nat} {c_is_whole_of : Ct} (G_is_whole_of : FnOk P wd K mg base (L2.CX P wd) j_is_whole_of cl.f_is_whole_of cl.d_is_whole_of P_is_whole_of (spD K c_is_whole_of)) (h_is_whole_of : j_is_whole_of ≤ k) (hlen : ∀ rs Q E, c rs Q E → rs.length = P_is_whole_state.length)
    (hw : ∀ rs Q E, c rs Q E → w_is_whole_state K cl c_is_state_of c_is_whole_of (rho N_is_whole_state.length rs) { nx := fun _ => Q (.s .none), rt := Q, er := fun cls _ => E cls }) :
    FnOk P wd K mg base (L2.CX P wd) (k + 1) cl.f_is_whole_state cl.d_is_whole_state P_is_whole_state (spD K c) :=
  fnD T.F_is_whole_state sc_is_whole_state hlen (fun cdv A outer s H E hr => by
  have tk := takes_of (X := cxOf (L2.CX P wd) P wd K mg base N_is_whole_state "is_whole_state" (defScope s_is_whole_state) cl.f_is_whole_state cdv A outer s H E) rfl rfl rfl rfl
  exact (pds_one (pds_ret (pd_and (pd_call (pe_callS G_is_state_of (hr.mono h_is_state_of) (by rfl) T.m_is_state_of T.F_is_state_of.kp T.b_is_state_of (fun σ => passAt tk σ) (pda_cons (pd_var (pv 1)) pda_nil))) (pd_and (pd_cmp (o_eq hr.units) (call_core (t := fun _ _ _ => True) (pe_callB c_len (by rfl) T.n_len (by decide +kernel) (pda_cons (pd_ix (o_ix hr.units) (pd_var (pv 1)) pd_int (fun _ _ => rfl)) pda_nil))) (pd_var (pv 0)) (nomark _)) (pd_one (pd_call (pe_callS G_is_whole_of (hr.mono h_is_whole_of) (by rfl) T.m_is_whole_of T.F_is_whole_of.kp T.b_is_whole_of (fun σ => passAt tk σ) (pda_cons (pd_var (pv 1)) pda_nil))))))))) hw
def w_is_branch (K : Frag) (cl : Ad) : SW :=
  (wRet (wOp fEq (wOp fIx (wVar 0) (wC (.s (.int 0)))) (wC (.s (.str "if")))))
theorem ok_is_branch (T : Txt K mg cl) {k : Nat} {c : Ct} (hlen : ∀ rs Q E, c rs Q E → rs.length = P_is_branch.length)
    (hw : ∀ rs Q E, c rs Q E → w_is_branch K cl (rho N_is_branch.length rs) { nx := fun _ => Q (.s .none), rt := Q, er := fun cls _ => E cls }) :
    FnOk P wd K mg base (L2.CX P wd) (k + 1) cl.f_is_branch cl.d_is_branch P_is_branch (spD K c) :=
  fnD T.F_is_branch sc_is_branch hlen (fun cdv A outer s H E hr => by
  have tk := takes_of (X := cxOf (L2.CX P wd) P wd K mg base N_is_branch "is_branch" (defScope s_is_branch) cl.f_is_branch cdv A outer s H E) rfl rfl rfl rfl
  exact (pds_one (pds_ret (pd_cmp (o_eq hr.units) (pd_ix (o_ix hr.units) (pd_var (pv 0)) pd_int (fun _ _ => rfl)) pd_str (nomark _))))) hw
def w_size_of_b1 (K : Frag) (cl : Ad) (c_is_row c_is_step_of c_branch_size : Ct) : SW :=
  (wSeq (wAsg 5 (wIf (wTst (wCall c_is_step_of (wCons (wVar 0) (wCons (wVar 4) wNil)))) (wC (.s (.int 1))) (wCall c_branch_size (wCons (wVar 0) (wCons (wVar 4) (wCons (wVar 2) wNil))))))
  (wSeq (wIfS (wOrT (wTst (wOp (fIs false) (wVar 5) (wC (.s .none)))) (wTst (wOp fGt (wOp fAdd (wVar 3) (wVar 5)) (wC (.s (.int 24))))))
  (wRet (wC (.s .none)))
  wNext)
  (wAug 3 (fun i j => i + j) (wVar 5))))
def w_size_of (K : Frag) (cl : Ad) (c_is_row c_is_step_of c_branch_size : Ct) : SW :=
  (wSeq (wIfS (wNotT (wTst (wCall c_is_row (wCons (wVar 1) (wCons (wC (.s (.int 0))) (wCons (wC (.s (.int 24))) wNil))))))
  (wRet (wC (.s .none)))
  wNext)
  (wSeq (wAsg 3 (wC (.s (.int 0))))
  (wSeq (wFor (wSeqF (wVar 1)) (gwName 4) (w_size_of_b1 K cl c_is_row c_is_step_of c_branch_size))
  (wRetS 3))))
theorem ok_size_of (T : Txt K mg cl) {k : Nat} {c : Ct} {j_is_row : Nat} {c_is_row : Ct} (G_is_row : FnOk P wd K mg base (L2.CX P wd) j_is_row cl.f_is_row cl.d_is_row P_is_row (spD K c_is_row)) (h_is_row : j_is_row ≤ k) {j_is_step_of : Nat} {c_is_step_of : Ct} (G_is_step_of : FnOk P wd K mg base (L2.CX P wd) j_is_step_of cl.f_is_step_of cl.d_is_step_of P_is_step_of (spD K c_is_step_of)) (h_is_step_of : j_is_step_of ≤ k) {j_branch_size : Nat} {c_branch_size : Ct} (G_branch_size : FnOk P wd K mg base (L2.CX P wd) j_branch_size cl.f_branch_size cl.d_branch_size P_branch_size (spD K c_branch_size)) (h_branch_size : j_branch_size ≤ k) (hlen : ∀ rs Q E, c rs Q E → rs.length = P_size_of.length)
    (hw : ∀ rs Q E, c rs Q E → w_size_of K cl c_is_row c_is_step_of c_branch_size (rho N_size_of.length rs) { nx := fun _ => Q (.s .none), rt := Q, er := fun cls _ => E cls }) :
    FnOk P wd K mg base (L2.CX P wd) (k + 1) cl.f_size_of cl.d_size_of P_size_of (spD K c) :=
  fnD T.F_size_of sc_size_of hlen (fun cdv A outer s H E hr => by
  have tk := takes_of (X := cxOf (L2.CX P wd) P wd K mg base N_size_of "size_of" (defScope s_size_of) cl.f_size_of cdv A outer s H E) rfl rfl rfl rfl
  exact (pds_cons (pds_if (pdt_not (pdt_val (pd_call (pe_callS G_is_row (hr.mono h_is_row) (by rfl) T.m_is_row T.F_is_row.kp T.b_is_row (fun σ => passAt tk σ) (pda_cons (pd_var (pv 1)) (pda_cons pd_int (pda_cons (pd_const (v := .int 24) (d := .int 24) (pe_glob (v := .int 24) rfl T.v_MOST_PARTS.choose_spec ⟨_, rfl⟩) (fun _ => .int _)) pda_nil)))))))
  (pds_one (pds_ret pd_non))
  pds_nil)
  (pds_cons (pds_set (ps_set (i := 3) sc_size_of.nd rfl (by first | exact Or.inl rfl | exact Or.inr rfl) pd_int))
  (pds_cons (pds_for (ps_for (passes_of rfl) rfl (pif_seq (pd_var (pv 1))) (pgd_name (pg_name (i := 4) sc_size_of.nd rfl (by first | exact Or.inl rfl | exact Or.inr rfl))) (pds_cons (pds_set (ps_set (i := 5) sc_size_of.nd rfl (by first | exact Or.inl rfl | exact Or.inr rfl) (pd_if (pdt_val (pd_call (pe_callS G_is_step_of (hr.mono h_is_step_of) (by rfl) T.m_is_step_of T.F_is_step_of.kp T.b_is_step_of (fun σ => passAt tk σ) (pda_cons (pd_var (pv 0)) (pda_cons (pd_var (pv 4)) pda_nil))))) pd_int (pd_call (pe_callS G_branch_size (hr.mono h_branch_size) (by rfl) T.m_branch_size T.F_branch_size.kp T.b_branch_size (fun σ => passAt tk σ) (pda_cons (pd_var (pv 0)) (pda_cons (pd_var (pv 4)) (pda_cons (pd_var (pv 2)) pda_nil))))))))
  (pds_cons (pds_if (pdt_w (pdw_or (pdt_cmp o_is (pd_var (pv 5)) pd_non (nomark _)) (pdw_or1 (pdt_cmp o_gt (pd_op o_add (pd_var (pv 3)) (pd_var (pv 5))) (pd_const (v := .int 24) (d := .int 24) (pe_glob (v := .int 24) rfl T.v_MOST_PARTS.choose_spec ⟨_, rfl⟩) (fun _ => .int _)) (nomark _)))))
  (pds_one (pds_ret pd_non))
  pds_nil)
  (pds_one (pds_aug (g := (fun i j => i + j)) (ps_aug (i := 3) sc_size_of.nd rfl (by first | exact Or.inl rfl | exact Or.inr rfl) (pd_var (pv 5)) ip_add)))))))
  (pds_one (pds_retS (i := 3) (ps_ret (pv 3)))))))) hw
def w_branch_size (K : Frag) (cl : Ad) (c_is_row c_is_word c_is_condition_of c_size_of : Ct) : SW :=
  (wSeq (wIfS (wOrT (wTst (wOp fEq (wVar 2) (wC (.s (.int 0))))) (wOrT (wNotT (wTst (wCall c_is_row (wCons (wVar 1) (wCons (wC (.s (.int 4))) (wCons (wC (.s (.int 4))) wNil)))))) (wOrT (wNotT (wTst (wCall c_is_word (wCons (wOp fIx (wVar 1) (wC (.s (.int 0)))) (wCons (wTup (wCons (wC (.s (.str "if"))) wNil)) wNil))))) (wNotT (wTst (wCall c_is_condition_of (wCons (wVar 0) (wCons (wOp fIx (wVar 1) (wC (.s (.int 1)))) wNil))))))))
  (wRet (wC (.s .none)))
  wNext)
  (wSeq (wPar 3 4 (wCall c_size_of (wCons (wVar 0) (wCons (wOp fIx (wVar 1) (wC (.s (.int 2)))) (wCons (wFrz (wOp fSub (wVar 2) (wC (.s (.int 1))))) wNil)))) (wCall c_size_of (wCons (wVar 0) (wCons (wOp fIx (wVar 1) (wC (.s (.int 3)))) (wCons (wFrz (wOp fSub (wVar 2) (wC (.s (.int 1))))) wNil)))))
  (wRet (wIf (wOrT (wTst (wOp (fIs false) (wVar 3) (wC (.s .none)))) (wTst (wOp (fIs false) (wVar 4) (wC (.s .none))))) (wC (.s .none)) (wOp fAdd (wOp fAdd (wC (.s (.int 1))) (wVar 3)) (wVar 4))))))
theorem ok_branch_size (T : Txt K mg cl) {k : Nat} {c : Ct} {j_is_row : Nat} {c_is_row : Ct} (G_is_row : FnOk P wd K mg base (L2.CX P wd) j_is_row cl.f_is_row cl.d_is_row P_is_row (spD K c_is_row)) (h_is_row : j_is_row ≤ k) {j_is_word : Nat} {c_is_word : Ct} (G_is_word : FnOk P wd K mg base (L2.CX P wd) j_is_word cl.f_is_word cl.d_is_word P_is_word (spD K c_is_word)) (h_is_word : j_is_word ≤ k) {j_is_condition_of : Nat} {c_is_condition_of : Ct} (G_is_condition_of : FnOk P wd K mg base (L2.CX P wd) j_is_condition_of cl.f_is_condition_of cl.d_is_condition_of P_is_condition_of (spD K c_is_condition_of)) (h_is_condition_of : j_is_condition_of ≤ k) {j_size_of : Nat} {c_size_of : Ct} (G_size_of : FnOk P wd K mg base (L2.CX P wd) j_size_of cl.f_size_of cl.d_size_of P_size_of (spD K c_size_of)) (h_size_of : j_size_of ≤ k) (hlen : ∀ rs Q E, c rs Q E → rs.length = P_branch_size.length)
    (hw : ∀ rs Q E, c rs Q E → w_branch_size K cl c_is_row c_is_word c_is_condition_of c_size_of (rho N_branch_size.length rs) { nx := fun _ => Q (.s .none), rt := Q, er := fun cls _ => E cls }) :
    FnOk P wd K mg base (L2.CX P wd) (k + 1) cl.f_branch_size cl.d_branch_size P_branch_size (spD K c) :=
  fnD T.F_branch_size sc_branch_size hlen (fun cdv A outer s H E hr => by
  have tk := takes_of (X := cxOf (L2.CX P wd) P wd K mg base N_branch_size "branch_size" (defScope s_branch_size) cl.f_branch_size cdv A outer s H E) rfl rfl rfl rfl
  exact (pds_cons (pds_if (pdt_w (pdw_or (pdt_cmp (o_eq hr.units) (pd_var (pv 2)) pd_int (nomark _)) (pdw_or (pdt_not (pdt_val (pd_call (pe_callS G_is_row (hr.mono h_is_row) (by rfl) T.m_is_row T.F_is_row.kp T.b_is_row (fun σ => passAt tk σ) (pda_cons (pd_var (pv 1)) (pda_cons pd_int (pda_cons pd_int pda_nil))))))) (pdw_or (pdt_not (pdt_val (pd_call (pe_callS G_is_word (hr.mono h_is_word) (by rfl) T.m_is_word T.F_is_word.kp T.b_is_word (fun σ => passAt tk σ) (pda_cons (pd_ix (o_ix hr.units) (pd_var (pv 1)) pd_int (fun _ _ => rfl)) (pda_cons (pd_tup (pda_cons pd_str pda_nil)) pda_nil)))))) (pdw_or1 (pdt_not (pdt_val (pd_call (pe_callS G_is_condition_of (hr.mono h_is_condition_of) (by rfl) T.m_is_condition_of T.F_is_condition_of.kp T.b_is_condition_of (fun σ => passAt tk σ) (pda_cons (pd_var (pv 0)) (pda_cons (pd_ix (o_ix hr.units) (pd_var (pv 1)) pd_int (fun _ _ => rfl)) pda_nil)))))))))))
  (pds_one (pds_ret pd_non))
  pds_nil)
  (pds_cons (pds_par (i := 3) (j := 4) (ps_par rfl sc_branch_size.nd rfl rfl (by decide) rfl rfl (pda_cons (pd_call (pe_callS G_size_of (hr.mono h_size_of) (by rfl) T.m_size_of T.F_size_of.kp T.b_size_of (fun σ => passAt tk σ) (pda_cons (pd_var (pv 0)) (pda_cons (pd_ix (o_ix hr.units) (pd_var (pv 1)) pd_int (fun _ _ => rfl)) (pda_cons (pd_frz (pd_op o_sub (pd_var (pv 2)) pd_int)) pda_nil))))) (pda_cons (pd_call (pe_callS G_size_of (hr.mono h_size_of) (by rfl) T.m_size_of T.F_size_of.kp T.b_size_of (fun σ => passAt tk σ) (pda_cons (pd_var (pv 0)) (pda_cons (pd_ix (o_ix hr.units) (pd_var (pv 1)) pd_int (fun _ _ => rfl)) (pda_cons (pd_frz (pd_op o_sub (pd_var (pv 2)) pd_int)) pda_nil))))) pda_nil)) (by rfl)))
  (pds_one (pds_ret (pd_if (pdt_w (pdw_or (pdt_cmp o_is (pd_var (pv 3)) pd_non (nomark _)) (pdw_or1 (pdt_cmp o_is (pd_var (pv 4)) pd_non (nomark _))))) pd_non (pd_op o_add (pd_op o_add pd_int (pd_var (pv 3))) (pd_var (pv 4))))))))) hw
def w_is_program_of (K : Frag) (cl : Ad) (c_size_of : Ct) : SW :=
  (wRet (wOp (fIs true) (wCall c_size_of (wCons (wVar 0) (wCons (wVar 1) (wCons (wC (.s (.int 4))) wNil)))) (wC (.s .none))))
theorem ok_is_program_of (T : Txt K mg cl) {k : Nat} {c : Ct} {j_size_of : Nat} {c_size_of : Ct} (G_size_of : FnOk P wd K mg base (L2.CX P wd) j_size_of cl.f_size_of cl.d_size_of P_size_of (spD K c_size_of)) (h_size_of : j_size_of ≤ k) (hlen : ∀ rs Q E, c rs Q E → rs.length = P_is_program_of.length)
    (hw : ∀ rs Q E, c rs Q E → w_is_program_of K cl c_size_of (rho N_is_program_of.length rs) { nx := fun _ => Q (.s .none), rt := Q, er := fun cls _ => E cls }) :
    FnOk P wd K mg base (L2.CX P wd) (k + 1) cl.f_is_program_of cl.d_is_program_of P_is_program_of (spD K c) :=
  fnD T.F_is_program_of sc_is_program_of hlen (fun cdv A outer s H E hr => by
  have tk := takes_of (X := cxOf (L2.CX P wd) P wd K mg base N_is_program_of "is_program_of" (defScope s_is_program_of) cl.f_is_program_of cdv A outer s H E) rfl rfl rfl rfl
  exact (pds_one (pds_ret (pd_cmp o_isNot (pd_call (pe_callS G_size_of (hr.mono h_size_of) (by rfl) T.m_size_of T.F_size_of.kp T.b_size_of (fun σ => passAt tk σ) (pda_cons (pd_var (pv 0)) (pda_cons (pd_var (pv 1)) (pda_cons (pd_const (v := .int 4) (d := .int 4) (pe_glob (v := .int 4) rfl T.v_DEEPEST.choose_spec ⟨_, rfl⟩) (fun _ => .int _)) pda_nil))))) pd_non (nomark _))))) hw
def w_course_in_t1 (K : Frag) (cl : Ad) (c_condition_in c_top_of c_step_in c_is_branch : Ct) : SW :=
  (wExt 5 (wRev (wVar 7)))
def w_course_in_t2 (K : Frag) (cl : Ad) (c_condition_in c_top_of c_step_in c_is_branch : Ct) : SW :=
  (wAsg 2 (wOp fIx (wVar 8) (wC (.s (.int 2)))))
def w_course_in_t3 (K : Frag) (cl : Ad) (c_condition_in c_top_of c_step_in c_is_branch : Ct) : SW :=
  (wSeq (wAppend 4 (wOp fIx (wVar 8) (wC (.s (.int 1)))))
  (w_course_in_t2 K cl c_condition_in c_top_of c_step_in c_is_branch))
def w_course_in_t4 (K : Frag) (cl : Ad) (c_condition_in c_top_of c_step_in c_is_branch : Ct) : SW :=
  (wSeq (wIfS (wTst (wOp fNe (wOp fIx (wVar 8) (wC (.s (.int 0)))) (wC (.s (.str "end")))))
  (wFrzS 4 (wFrzS 3 (wRet (wTup (wCons (wVar 3) (wCons (wVar 4) (wCons (wOp fIx (wVar 8) (wC (.s (.int 0)))) wNil)))))))
  wNext)
  (w_course_in_t3 K cl c_condition_in c_top_of c_step_in c_is_branch))
def w_course_in_t5 (K : Frag) (cl : Ad) (c_condition_in c_top_of c_step_in c_is_branch : Ct) : SW :=
  (wSeq (wAsg 8 (wCall c_step_in (wCons (wOp fIx (wVar 4) (wUn fNeg (wC (.s (.int 1))))) (wCons (wVar 6) (wCons (wVar 2) wNil)))))
  (w_course_in_t4 K cl c_condition_in c_top_of c_step_in c_is_branch))
def w_course_in_t6 (K : Frag) (cl : Ad) (c_condition_in c_top_of c_step_in c_is_branch : Ct) : SW :=
  (wIfS (wTst (wCall c_is_branch (wCons (wVar 6) wNil)))
  (wSeq (wAsg 7 (wIf (wTst (wCall c_condition_in (wCons (wOp fIx (wVar 6) (wC (.s (.int 1)))) (wCons (wOp fIx (wVar 4) (wUn fNeg (wC (.s (.int 1))))) wNil)))) (wOp fIx (wVar 6) (wC (.s (.int 2)))) (wOp fIx (wVar 6) (wC (.s (.int 3))))))
  (w_course_in_t1 K cl c_condition_in c_top_of c_step_in c_is_branch))
  (wSeq (wAppend 3 (wVar 6))
  (w_course_in_t5 K cl c_condition_in c_top_of c_step_in c_is_branch)))
def w_course_in_b7 (K : Frag) (cl : Ad) (c_condition_in c_top_of c_step_in c_is_branch : Ct) : SW :=
  (wSeq (wPop 5 (gwName 6))
  (w_course_in_t6 K cl c_condition_in c_top_of c_step_in c_is_branch))
def w_course_in_t8 (K : Frag) (cl : Ad) (c_condition_in c_top_of c_step_in c_is_branch : Ct) : SW :=
  (wFrzS 4 (wFrzS 3 (wRet (wTup (wCons (wVar 3) (wCons (wVar 4) (wCons (wC (.s (.str "end"))) wNil)))))))
def w_course_in_t9 (K : Frag) (cl : Ad) (c_condition_in c_top_of c_step_in c_is_branch : Ct) : SW :=
  (wSeq (wWhile (wTst (wOp fNe (wVar 5) (wLst wNil))) (w_course_in_b7 K cl c_condition_in c_top_of c_step_in c_is_branch))
  (w_course_in_t8 K cl c_condition_in c_top_of c_step_in c_is_branch))
def w_course_in (K : Frag) (cl : Ad) (c_condition_in c_top_of c_step_in c_is_branch : Ct) : SW :=
  (wSeq (wParN [2, 3, 4, 5] (wCons (wCall c_top_of (wCons (wVar 1) wNil)) (wCons (wLst wNil) (wCons (wLst (wCons (wVar 1) wNil)) (wCons (wCall1 fList (wCons (wRev (wVar 0)) wNil)) wNil)))))
  (w_course_in_t9 K cl c_condition_in c_top_of c_step_in c_is_branch))
theorem ok_course_in (T : Txt K mg cl) {k : Nat} {c : Ct} {j_condition_in : Nat} {c_condition_in : Ct} (G_condition_in : FnOk P wd K mg base (L2.CX P wd) j_condition_in cl.f_condition_in cl.d_condition_in P_condition_in (spD K c_condition_in)) (h_condition_in : j_condition_in ≤ k) {j_top_of : Nat} {c_top_of : Ct} (G_top_of : FnOk P wd K mg base (L2.CX P wd) j_top_of cl.f_top_of cl.d_top_of P_top_of (spD K c_top_of)) (h_top_of : j_top_of ≤ k) {j_step_in : Nat} {c_step_in : Ct} (G_step_in : FnOk P wd K mg base (L2.CX P wd) j_step_in cl.f_step_in cl.d_step_in P_step_in (spD K c_step_in)) (h_step_in : j_step_in ≤ k) {j_is_branch : Nat} {c_is_branch : Ct} (G_is_branch : FnOk P wd K mg base (L2.CX P wd) j_is_branch cl.f_is_branch cl.d_is_branch P_is_branch (spD K c_is_branch)) (h_is_branch : j_is_branch ≤ k) (hlen : ∀ rs Q E, c rs Q E → rs.length = P_course_in.length)
    (hw : ∀ rs Q E, c rs Q E → w_course_in K cl c_condition_in c_top_of c_step_in c_is_branch (rho N_course_in.length rs) { nx := fun _ => Q (.s .none), rt := Q, er := fun cls _ => E cls }) :
    FnOk P wd K mg base (L2.CX P wd) (k + 1) cl.f_course_in cl.d_course_in P_course_in (spD K c) :=
  fnD T.F_course_in sc_course_in hlen (fun cdv A outer s H E hr => by
  have tk := takes_of (X := cxOf (L2.CX P wd) P wd K mg base N_course_in "course_in" (defScope s_course_in) cl.f_course_in cdv A outer s H E) rfl rfl rfl rfl
  exact (pds_cons (pds_parT (is := [2, 3, 4, 5]) (by decide) (ps_asg (peN_tup (pda_cons (pd_call (pe_callS G_top_of (hr.mono h_top_of) (by rfl) T.m_top_of T.F_top_of.kp T.b_top_of (fun σ => passAt tk σ) (pda_cons (pd_var (pv 1)) pda_nil))) (pda_cons (pd_lst pda_nil) (pda_cons (pd_lst (pda_cons (pd_var (pv 1)) pda_nil)) (pda_cons (call_core (t := fun _ _ _ => True) (pe_callTy c_list (by rfl) T.n_list (by decide +kernel) (pda_cons (pd_rev (peN_rev (pd_var (pv 0)))) pda_nil))) pda_nil))))) (pg_tup rfl (pgs_cons (pg_name (i := 2) sc_course_in.nd rfl (by first | exact Or.inl rfl | exact Or.inr rfl)) (pgs_cons (pg_name (i := 3) sc_course_in.nd rfl (by first | exact Or.inl rfl | exact Or.inr rfl)) (pgs_cons (pg_name (i := 4) sc_course_in.nd rfl (by first | exact Or.inl rfl | exact Or.inr rfl)) (pgs_cons (pg_name (i := 5) sc_course_in.nd rfl (by first | exact Or.inl rfl | exact Or.inr rfl)) pgs_nil)))))))
  (pds_cons (pds_while (passes_of rfl) (pdt_cmp (o_ne hr.units) (pd_var (pv 5)) (pd_lst pda_nil) (nomark _)) (pds_cons (pds_pop (i := 5) (ps_asg (pe_bm0 PySem.F.plainAttrs_list PySem.F.slot_list_pop PySem.F.type_list_pop mt_pop (pv 5)) (pgd_name (pg_name (i := 6) sc_course_in.nd rfl (by first | exact Or.inl rfl | exact Or.inr rfl)))))
  (pds_one (pds_if (pdt_val (pd_call (pe_callS G_is_branch (hr.mono h_is_branch) (by rfl) T.m_is_branch T.F_is_branch.kp T.b_is_branch (fun σ => passAt tk σ) (pda_cons (pd_var (pv 6)) pda_nil))))
  (pds_cons (pds_set (ps_set (i := 7) sc_course_in.nd rfl (by first | exact Or.inl rfl | exact Or.inr rfl) (pd_if (pdt_val (pd_call (pe_callS G_condition_in (hr.mono h_condition_in) (by rfl) T.m_condition_in T.F_condition_in.kp T.b_condition_in (fun σ => passAt tk σ) (pda_cons (pd_ix (o_ix hr.units) (pd_var (pv 6)) pd_int (fun _ _ => rfl)) (pda_cons (pd_ix (o_ix hr.units) (pd_var (pv 4)) (pd_un o_neg pd_int) (fun _ _ => rfl)) pda_nil))))) (pd_ix (o_ix hr.units) (pd_var (pv 6)) pd_int (fun _ _ => rfl)) (pd_ix (o_ix hr.units) (pd_var (pv 6)) pd_int (fun _ _ => rfl)))))
  (pds_one (pds_ext (i := 5) (ps_expr (pe_bm PySem.F.plainAttrs_list PySem.F.slot_list_extend PySem.F.type_list_extend mt_extB (pv 5) (pa_cons (pd_rev (peN_rev (pd_var (pv 7)))) pa_nil))))))
  (pds_cons (pds_append (i := 3) (ps_expr (pe_bm PySem.F.plainAttrs_list PySem.F.slot_list_append PySem.F.type_list_append mt_append (pv 3) (pa_cons (pd_var (pv 6)) pa_nil))))
  (pds_cons (pds_set (ps_set (i := 8) sc_course_in.nd rfl (by first | exact Or.inl rfl | exact Or.inr rfl) (pd_call (pe_callS G_step_in (hr.mono h_step_in) (by rfl) T.m_step_in T.F_step_in.kp T.b_step_in (fun σ => passAt tk σ) (pda_cons (pd_ix (o_ix hr.units) (pd_var (pv 4)) (pd_un o_neg pd_int) (fun _ _ => rfl)) (pda_cons (pd_var (pv 6)) (pda_cons (pd_var (pv 2)) pda_nil)))))))
  (pds_cons (pds_if (pdt_cmp (o_ne hr.units) (pd_ix (o_ix hr.units) (pd_var (pv 8)) pd_int (fun _ _ => rfl)) pd_str (nomark _))
  (pds_one (pds_frz (i := 4) (pds_frz (i := 3) (pds_ret (pd_tup (pda_cons (pd_var (pv 3)) (pda_cons (pd_var (pv 4)) (pda_cons (pd_ix (o_ix hr.units) (pd_var (pv 8)) pd_int (fun _ _ => rfl)) pda_nil))))))))
  pds_nil)
  (pds_cons (pds_append (i := 4) (ps_expr (pe_bm PySem.F.plainAttrs_list PySem.F.slot_list_append PySem.F.type_list_append mt_append (pv 4) (pa_cons (pd_ix (o_ix hr.units) (pd_var (pv 8)) pd_int (fun _ _ => rfl)) pa_nil))))
  (pds_one (pds_set (ps_set (i := 2) sc_course_in.nd rfl (by first | exact Or.inl rfl | exact Or.inr rfl) (pd_ix (o_ix hr.units) (pd_var (pv 8)) pd_int (fun _ _ => rfl)))))))))))))
  (pds_one (pds_frz (i := 4) (pds_frz (i := 3) (pds_ret (pd_tup (pda_cons (pd_var (pv 3)) (pda_cons (pd_var (pv 4)) (pda_cons pd_str pda_nil))))))))))) hw
def w_outcome_in (K : Frag) (cl : Ad) (c_course_in : Ct) : SW :=
  (wSeq (wAsgT (wFrz (wCall c_course_in (wCons (wVar 0) (wCons (wVar 1) wNil)))) (gwTup 3 (gwCons (gwName 2) (gwCons (gwName 3) (gwCons (gwName 4) gwNil)))))
  (wRet (wIf (wTst (wOp fEq (wVar 4) (wC (.s (.str "end"))))) (wTup (wCons (wVar 4) (wCons (wOp fIx (wVar 3) (wUn fNeg (wC (.s (.int 1))))) wNil))) (wTup (wCons (wVar 4) (wCons (wFrz (wOp fSub (wCall1 fLen (wCons (wVar 2) wNil)) (wC (.s (.int 1))))) wNil))))))
theorem ok_outcome_in (T : Txt K mg cl) {k : Nat} {c : Ct} {j_course_in : Nat} {c_course_in : Ct} (G_course_in : FnOk P wd K mg base (L2.CX P wd) j_course_in cl.f_course_in cl.d_course_in P_course_in (spD K c_course_in)) (h_course_in : j_course_in ≤ k) (hlen : ∀ rs Q E, c rs Q E → rs.length = P_outcome_in.length)
    (hw : ∀ rs Q E, c rs Q E → w_outcome_in K cl c_course_in (rho N_outcome_in.length rs) { nx := fun _ => Q (.s .none), rt := Q, er := fun cls _ => E cls }) :
    FnOk P wd K mg base (L2.CX P wd) (k + 1) cl.f_outcome_in cl.d_outcome_in P_outcome_in (spD K c) :=
  fnD T.F_outcome_in sc_outcome_in hlen (fun cdv A outer s H E hr => by
  have tk := takes_of (X := cxOf (L2.CX P wd) P wd K mg base N_outcome_in "outcome_in" (defScope s_outcome_in) cl.f_outcome_in cdv A outer s H E) rfl rfl rfl rfl
  exact (pds_cons (pds_asgT (ps_asg (pd_frz (pd_call (pe_callS G_course_in (hr.mono h_course_in) (by rfl) T.m_course_in T.F_course_in.kp T.b_course_in (fun σ => passAt tk σ) (pda_cons (pd_var (pv 0)) (pda_cons (pd_var (pv 1)) pda_nil))))) (pgd_tup (pg_tup rfl (pgds_cons (pgs_cons (pgd_name (pg_name (i := 2) sc_outcome_in.nd rfl (by first | exact Or.inl rfl | exact Or.inr rfl))) (pgds_cons (pgs_cons (pgd_name (pg_name (i := 3) sc_outcome_in.nd rfl (by first | exact Or.inl rfl | exact Or.inr rfl))) (pgds_cons (pgs_cons (pgd_name (pg_name (i := 4) sc_outcome_in.nd rfl (by first | exact Or.inl rfl | exact Or.inr rfl))) pgds_nil))))))))))
  (pds_one (pds_ret (pd_if (pdt_cmp (o_eq hr.units) (pd_var (pv 4)) pd_str (nomark _)) (pd_tup (pda_cons (pd_var (pv 4)) (pda_cons (pd_ix (o_ix hr.units) (pd_var (pv 3)) (pd_un o_neg pd_int) (fun _ _ => rfl)) pda_nil))) (pd_tup (pda_cons (pd_var (pv 4)) (pda_cons (pd_frz (pd_op o_sub (call_core (t := fun _ _ _ => True) (pe_callB c_len (by rfl) T.n_len (by decide +kernel) (pda_cons (pd_var (pv 2)) pda_nil))) pd_int)) pda_nil)))))))) hw
def w_is_loop_of (K : Frag) (cl : Ad) (c_is_row c_is_condition_of c_is_program_of : Ct) : SW :=
  (wRet (wAndV (wCall c_is_row (wCons (wVar 1) (wCons (wC (.s (.int 2))) (wCons (wC (.s (.int 2))) wNil)))) (wAndV (wCall c_is_condition_of (wCons (wVar 0) (wCons (wOp fIx (wVar 1) (wC (.s (.int 0)))) wNil))) (wCall c_is_program_of (wCons (wVar 0) (wCons (wOp fIx (wVar 1) (wC (.s (.int 1)))) wNil))))))
theorem ok_is_loop_of (T : Txt K mg cl) {k : Nat} {c : Ct} {j_is_row : Nat} {c_is_row : Ct} (G_is_row : FnOk P wd K mg base (L2.CX P wd) j_is_row cl.f_is_row cl.d_is_row P_is_row (spD K c_is_row)) (h_is_row : j_is_row ≤ k) {j_is_condition_of : Nat} {c_is_condition_of : Ct} (G_is_condition_of : FnOk P wd K mg base (L2.CX P wd) j_is_condition_of cl.f_is_condition_of cl.d_is_condition_of P_is_condition_of (spD K c_is_condition_of)) (h_is_condition_of : j_is_condition_of ≤ k) {j_is_program_of : Nat} {c_is_program_of : Ct} (G_is_program_of : FnOk P wd K mg base (L2.CX P wd) j_is_program_of cl.f_is_program_of cl.d_is_program_of P_is_program_of (spD K c_is_program_of)) (h_is_program_of : j_is_program_of ≤ k) (hlen : ∀ rs Q E, c rs Q E → rs.length = P_is_loop_of.length)
    (hw : ∀ rs Q E, c rs Q E → w_is_loop_of K cl c_is_row c_is_condition_of c_is_program_of (rho N_is_loop_of.length rs) { nx := fun _ => Q (.s .none), rt := Q, er := fun cls _ => E cls }) :
    FnOk P wd K mg base (L2.CX P wd) (k + 1) cl.f_is_loop_of cl.d_is_loop_of P_is_loop_of (spD K c) :=
  fnD T.F_is_loop_of sc_is_loop_of hlen (fun cdv A outer s H E hr => by
  have tk := takes_of (X := cxOf (L2.CX P wd) P wd K mg base N_is_loop_of "is_loop_of" (defScope s_is_loop_of) cl.f_is_loop_of cdv A outer s H E) rfl rfl rfl rfl
  exact (pds_one (pds_ret (pd_and (pd_call (pe_callS G_is_row (hr.mono h_is_row) (by rfl) T.m_is_row T.F_is_row.kp T.b_is_row (fun σ => passAt tk σ) (pda_cons (pd_var (pv 1)) (pda_cons pd_int (pda_cons pd_int pda_nil))))) (pd_and (pd_call (pe_callS G_is_condition_of (hr.mono h_is_condition_of) (by rfl) T.m_is_condition_of T.F_is_condition_of.kp T.b_is_condition_of (fun σ => passAt tk σ) (pda_cons (pd_var (pv 0)) (pda_cons (pd_ix (o_ix hr.units) (pd_var (pv 1)) pd_int (fun _ _ => rfl)) pda_nil)))) (pd_one (pd_call (pe_callS G_is_program_of (hr.mono h_is_program_of) (by rfl) T.m_is_program_of T.F_is_program_of.kp T.b_is_program_of (fun σ => passAt tk σ) (pda_cons (pd_var (pv 0)) (pda_cons (pd_ix (o_ix hr.units) (pd_var (pv 1)) pd_int (fun _ _ => rfl)) pda_nil)))))))))) hw
def w_is_loop (K : Frag) (cl : Ad) (c_need_many c_is_loop_of : Ct) : SW :=
  (wSeq (wExpr (wCall c_need_many (wCons (wVar 0) wNil)))
  (wRet (wCall c_is_loop_of (wCons (wVar 0) (wCons (wVar 1) wNil)))))
theorem ok_is_loop (T : Txt K mg cl) {k : Nat} {c : Ct} {j_need_many : Nat} {c_need_many : Ct} (G_need_many : FnOk P wd K mg base (L2.CX P wd) j_need_many cl.f_need_many cl.d_need_many P_need_many (spD K c_need_many)) (h_need_many : j_need_many ≤ k) {j_is_loop_of : Nat} {c_is_loop_of : Ct} (G_is_loop_of : FnOk P wd K mg base (L2.CX P wd) j_is_loop_of cl.f_is_loop_of cl.d_is_loop_of P_is_loop_of (spD K c_is_loop_of)) (h_is_loop_of : j_is_loop_of ≤ k) (hlen : ∀ rs Q E, c rs Q E → rs.length = P_is_loop.length)
    (hw : ∀ rs Q E, c rs Q E → w_is_loop K cl c_need_many c_is_loop_of (rho N_is_loop.length rs) { nx := fun _ => Q (.s .none), rt := Q, er := fun cls _ => E cls }) :
    FnOk P wd K mg base (L2.CX P wd) (k + 1) cl.f_is_loop cl.d_is_loop P_is_loop (spD K c) :=
  fnD T.F_is_loop sc_is_loop hlen (fun cdv A outer s H E hr => by
  have tk := takes_of (X := cxOf (L2.CX P wd) P wd K mg base N_is_loop "is_loop" (defScope s_is_loop) cl.f_is_loop cdv A outer s H E) rfl rfl rfl rfl
  exact (pds_cons (pds_expr (ps_expr (pd_call (pe_callS G_need_many (hr.mono h_need_many) (by rfl) T.m_need_many T.F_need_many.kp T.b_need_many (fun σ => passAt tk σ) (pda_cons (pd_var (pv 0)) pda_nil)))))
  (pds_one (pds_ret (pd_call (pe_callS G_is_loop_of (hr.mono h_is_loop_of) (by rfl) T.m_is_loop_of T.F_is_loop_of.kp T.b_is_loop_of (fun σ => passAt tk σ) (pda_cons (pd_var (pv 0)) (pda_cons (pd_var (pv 1)) pda_nil)))))))) hw
def w_need_loop (K : Frag) (cl : Ad) (c_need_many c_is_loop_of : Ct) : SW :=
  (wSeq (wExpr (wCall c_need_many (wCons (wVar 0) wNil)))
  (wIfS (wNotT (wTst (wCall c_is_loop_of (wCons (wVar 0) (wCons (wVar 1) wNil)))))
  (wRaise (.ref cl.c_BadLoop))
  wNext))
theorem ok_need_loop (T : Txt K mg cl) {k : Nat} {c : Ct} {j_need_many : Nat} {c_need_many : Ct} (G_need_many : FnOk P wd K mg base (L2.CX P wd) j_need_many cl.f_need_many cl.d_need_many P_need_many (spD K c_need_many)) (h_need_many : j_need_many ≤ k) {j_is_loop_of : Nat} {c_is_loop_of : Ct} (G_is_loop_of : FnOk P wd K mg base (L2.CX P wd) j_is_loop_of cl.f_is_loop_of cl.d_is_loop_of P_is_loop_of (spD K c_is_loop_of)) (h_is_loop_of : j_is_loop_of ≤ k) (hlen : ∀ rs Q E, c rs Q E → rs.length = P_need_loop.length)
    (hw : ∀ rs Q E, c rs Q E → w_need_loop K cl c_need_many c_is_loop_of (rho N_need_loop.length rs) { nx := fun _ => Q (.s .none), rt := Q, er := fun cls _ => E cls }) :
    FnOk P wd K mg base (L2.CX P wd) (k + 1) cl.f_need_loop cl.d_need_loop P_need_loop (spD K c) :=
  fnD T.F_need_loop sc_need_loop hlen (fun cdv A outer s H E hr => by
  have tk := takes_of (X := cxOf (L2.CX P wd) P wd K mg base N_need_loop "need_loop" (defScope s_need_loop) cl.f_need_loop cdv A outer s H E) rfl rfl rfl rfl
  exact (pds_cons (pds_expr (ps_expr (pd_call (pe_callS G_need_many (hr.mono h_need_many) (by rfl) T.m_need_many T.F_need_many.kp T.b_need_many (fun σ => passAt tk σ) (pda_cons (pd_var (pv 0)) pda_nil)))))
  (pds_one (pds_if (pdt_not (pdt_val (pd_call (pe_callS G_is_loop_of (hr.mono h_is_loop_of) (by rfl) T.m_is_loop_of T.F_is_loop_of.kp T.b_is_loop_of (fun σ => passAt tk σ) (pda_cons (pd_var (pv 0)) (pda_cons (pd_var (pv 1)) pda_nil))))))
  (pds_one (pds_raise tk (pmk_own PySem.F.excBase_ValueError T.x_BadLoop T.g_BadLoop T.k_BadLoop (raises_own T.s_BadLoop T.t_BadLoop) (by rfl)) rfl))
  pds_nil)))) hw
def w_looped_t1 (K : Frag) (cl : Ad) (c_condition_in c_outcome_in : Ct) : SW :=
  (wIfS (wTst (wOp fGt (wCall1 fLen (wCons (wOp fIx (wVar 1) (wC (.s (.int 1)))) wNil)) (wC (.s (.int 150)))))
  (wRaise (.ref cl.c_TooGreat))
  wNext)
def w_looped_t2 (K : Frag) (cl : Ad) (c_condition_in c_outcome_in : Ct) : SW :=
  (wSeq (wAsg 1 (wOp fIx (wVar 4) (wC (.s (.int 1)))))
  (w_looped_t1 K cl c_condition_in c_outcome_in))
def w_looped_t3 (K : Frag) (cl : Ad) (c_condition_in c_outcome_in : Ct) : SW :=
  (wSeq (wIfS (wTst (wOp fNe (wOp fIx (wVar 4) (wC (.s (.int 0)))) (wC (.s (.str "end")))))
  (wRet (wTup (wCons (wOp fIx (wVar 4) (wC (.s (.int 0)))) (wCons (wVar 1) (wCons (wVar 3) wNil)))))
  wNext)
  (w_looped_t2 K cl c_condition_in c_outcome_in))
def w_looped_t4 (K : Frag) (cl : Ad) (c_condition_in c_outcome_in : Ct) : SW :=
  (wSeq (wAug 3 (fun i j => i + j) (wC (.s (.int 1))))
  (w_looped_t3 K cl c_condition_in c_outcome_in))
def w_looped_t5 (K : Frag) (cl : Ad) (c_condition_in c_outcome_in : Ct) : SW :=
  (wSeq (wAsg 4 (wCall c_outcome_in (wCons (wOp fIx (wVar 0) (wC (.s (.int 1)))) (wCons (wVar 1) wNil))))
  (w_looped_t4 K cl c_condition_in c_outcome_in))
def w_looped_b6 (K : Frag) (cl : Ad) (c_condition_in c_outcome_in : Ct) : SW :=
  (wSeq (wIfS (wTst (wOp fEq (wVar 3) (wVar 2)))
  (wRet (wTup (wCons (wC (.s (.str "long"))) (wCons (wVar 1) (wCons (wVar 3) wNil)))))
  wNext)
  (w_looped_t5 K cl c_condition_in c_outcome_in))
def w_looped_t7 (K : Frag) (cl : Ad) (c_condition_in c_outcome_in : Ct) : SW :=
  (wRet (wTup (wCons (wC (.s (.str "end"))) (wCons (wVar 1) (wCons (wVar 3) wNil)))))
def w_looped_t8 (K : Frag) (cl : Ad) (c_condition_in c_outcome_in : Ct) : SW :=
  (wSeq (wWhile (wTst (wCall c_condition_in (wCons (wOp fIx (wVar 0) (wC (.s (.int 0)))) (wCons (wVar 1) wNil)))) (w_looped_b6 K cl c_condition_in c_outcome_in))
  (w_looped_t7 K cl c_condition_in c_outcome_in))
def w_looped (K : Frag) (cl : Ad) (c_condition_in c_outcome_in : Ct) : SW :=
  (wSeq (wAsg 3 (wC (.s (.int 0))))
  (w_looped_t8 K cl c_condition_in c_outcome_in))
theorem ok_looped (T : Txt K mg cl) {k : Nat} {c : Ct} {j_condition_in : Nat} {c_condition_in : Ct} (G_condition_in : FnOk P wd K mg base (L2.CX P wd) j_condition_in cl.f_condition_in cl.d_condition_in P_condition_in (spD K c_condition_in)) (h_condition_in : j_condition_in ≤ k) {j_outcome_in : Nat} {c_outcome_in : Ct} (G_outcome_in : FnOk P wd K mg base (L2.CX P wd) j_outcome_in cl.f_outcome_in cl.d_outcome_in P_outcome_in (spD K c_outcome_in)) (h_outcome_in : j_outcome_in ≤ k) (hlen : ∀ rs Q E, c rs Q E → rs.length = P_looped.length)
    (hw : ∀ rs Q E, c rs Q E → w_looped K cl c_condition_in c_outcome_in (rho N_looped.length rs) { nx := fun _ => Q (.s .none), rt := Q, er := fun cls _ => E cls }) :
    FnOk P wd K mg base (L2.CX P wd) (k + 1) cl.f_looped cl.d_looped P_looped (spD K c) :=
  fnD T.F_looped sc_looped hlen (fun cdv A outer s H E hr => by
  have tk := takes_of (X := cxOf (L2.CX P wd) P wd K mg base N_looped "looped" (defScope s_looped) cl.f_looped cdv A outer s H E) rfl rfl rfl rfl
  exact (pds_cons (pds_set (ps_set (i := 3) sc_looped.nd rfl (by first | exact Or.inl rfl | exact Or.inr rfl) pd_int))
  (pds_cons (pds_while (passes_of rfl) (pdt_val (pd_call (pe_callS G_condition_in (hr.mono h_condition_in) (by rfl) T.m_condition_in T.F_condition_in.kp T.b_condition_in (fun σ => passAt tk σ) (pda_cons (pd_ix (o_ix hr.units) (pd_var (pv 0)) pd_int (fun _ _ => rfl)) (pda_cons (pd_var (pv 1)) pda_nil))))) (pds_cons (pds_if (pdt_cmp (o_eq hr.units) (pd_var (pv 3)) (pd_var (pv 2)) (nomark _))
  (pds_one (pds_ret (pd_tup (pda_cons pd_str (pda_cons (pd_var (pv 1)) (pda_cons (pd_var (pv 3)) pda_nil))))))
  pds_nil)
  (pds_cons (pds_set (ps_set (i := 4) sc_looped.nd rfl (by first | exact Or.inl rfl | exact Or.inr rfl) (pd_call (pe_callS G_outcome_in (hr.mono h_outcome_in) (by rfl) T.m_outcome_in T.F_outcome_in.kp T.b_outcome_in (fun σ => passAt tk σ) (pda_cons (pd_ix (o_ix hr.units) (pd_var (pv 0)) pd_int (fun _ _ => rfl)) (pda_cons (pd_var (pv 1)) pda_nil))))))
  (pds_cons (pds_aug (g := (fun i j => i + j)) (ps_aug (i := 3) sc_looped.nd rfl (by first | exact Or.inl rfl | exact Or.inr rfl) pd_int ip_add))
  (pds_cons (pds_if (pdt_cmp (o_ne hr.units) (pd_ix (o_ix hr.units) (pd_var (pv 4)) pd_int (fun _ _ => rfl)) pd_str (nomark _))
  (pds_one (pds_ret (pd_tup (pda_cons (pd_ix (o_ix hr.units) (pd_var (pv 4)) pd_int (fun _ _ => rfl)) (pda_cons (pd_var (pv 1)) (pda_cons (pd_var (pv 3)) pda_nil))))))
  pds_nil)
  (pds_cons (pds_set (ps_set (i := 1) sc_looped.nd rfl (by first | exact Or.inl rfl | exact Or.inr rfl) (pd_ix (o_ix hr.units) (pd_var (pv 4)) pd_int (fun _ _ => rfl))))
  (pds_one (pds_if (pdt_cmp o_gt (call_core (t := fun _ _ _ => True) (pe_callB c_len (by rfl) T.n_len (by decide +kernel) (pda_cons (pd_ix (o_ix hr.units) (pd_var (pv 1)) pd_int (fun _ _ => rfl)) pda_nil))) (pd_const (v := .int 150) (d := .int 150) (pe_glob (v := .int 150) rfl T.v_MOST_CELLS.choose_spec ⟨_, rfl⟩) (fun _ => .int _)) (nomark _))
  (pds_one (pds_raise tk (pmk_own PySem.F.excBase_ValueError T.x_TooGreat T.g_TooGreat T.k_TooGreat (raises_own T.s_TooGreat T.t_TooGreat) (by rfl)) rfl))
  pds_nil))))))))
  (pds_one (pds_ret (pd_tup (pda_cons pd_str (pda_cons (pd_var (pv 1)) (pda_cons (pd_var (pv 3)) pda_nil))))))))) hw
def w_run_loop (K : Frag) (cl : Ad) (c_within c_is_whole_state c_need_loop c_looped : Ct) : SW :=
  (wSeq (wExpr (wCall c_need_loop (wCons (wVar 0) (wCons (wVar 1) wNil))))
  (wSeq (wIfS (wNotT (wTst (wCall c_is_whole_state (wCons (wVar 0) (wCons (wVar 2) wNil)))))
  (wRaise (.ref cl.c_BadState))
  wNext)
  (wSeq (wIfS (wNotT (wTst (wCall c_within (wCons (wVar 3) (wCons (wC (.s (.int 0))) (wCons (wC (.s (.int 200))) wNil))))))
  (wRaise (.ref cl.c_BadMost))
  wNext)
  (wRet (wCall c_looped (wCons (wVar 1) (wCons (wVar 2) (wCons (wVar 3) wNil))))))))
theorem ok_run_loop (T : Txt K mg cl) {k : Nat} {c : Ct} {j_within : Nat} {c_within : Ct} (G_within : FnOk P wd K mg base (L2.CX P wd) j_within cl.f_within cl.d_within P_within (spD K c_within)) (h_within : j_within ≤ k) {j_is_whole_state : Nat} {c_is_whole_state : Ct} (G_is_whole_state : FnOk P wd K mg base (L2.CX P wd) j_is_whole_state cl.f_is_whole_state cl.d_is_whole_state P_is_whole_state (spD K c_is_whole_state)) (h_is_whole_state : j_is_whole_state ≤ k) {j_need_loop : Nat} {c_need_loop : Ct} (G_need_loop : FnOk P wd K mg base (L2.CX P wd) j_need_loop cl.f_need_loop cl.d_need_loop P_need_loop (spD K c_need_loop)) (h_need_loop : j_need_loop ≤ k) {j_looped : Nat} {c_looped : Ct} (G_looped : FnOk P wd K mg base (L2.CX P wd) j_looped cl.f_looped cl.d_looped P_looped (spD K c_looped)) (h_looped : j_looped ≤ k) (hlen : ∀ rs Q E, c rs Q E → rs.length = P_run_loop.length)
    (hw : ∀ rs Q E, c rs Q E → w_run_loop K cl c_within c_is_whole_state c_need_loop c_looped (rho N_run_loop.length rs) { nx := fun _ => Q (.s .none), rt := Q, er := fun cls _ => E cls }) :
    FnOk P wd K mg base (L2.CX P wd) (k + 1) cl.f_run_loop cl.d_run_loop P_run_loop (spD K c) :=
  fnD T.F_run_loop sc_run_loop hlen (fun cdv A outer s H E hr => by
  have tk := takes_of (X := cxOf (L2.CX P wd) P wd K mg base N_run_loop "run_loop" (defScope s_run_loop) cl.f_run_loop cdv A outer s H E) rfl rfl rfl rfl
  exact (pds_cons (pds_expr (ps_expr (pd_call (pe_callS G_need_loop (hr.mono h_need_loop) (by rfl) T.m_need_loop T.F_need_loop.kp T.b_need_loop (fun σ => passAt tk σ) (pda_cons (pd_var (pv 0)) (pda_cons (pd_var (pv 1)) pda_nil))))))
  (pds_cons (pds_if (pdt_not (pdt_val (pd_call (pe_callS G_is_whole_state (hr.mono h_is_whole_state) (by rfl) T.m_is_whole_state T.F_is_whole_state.kp T.b_is_whole_state (fun σ => passAt tk σ) (pda_cons (pd_var (pv 0)) (pda_cons (pd_var (pv 2)) pda_nil))))))
  (pds_one (pds_raise tk (pmk_own PySem.F.excBase_ValueError T.x_BadState T.g_BadState T.k_BadState (raises_own T.s_BadState T.t_BadState) (by rfl)) rfl))
  pds_nil)
  (pds_cons (pds_if (pdt_not (pdt_val (pd_call (pe_callS G_within (hr.mono h_within) (by rfl) T.m_within T.F_within.kp T.b_within (fun σ => passAt tk σ) (pda_cons (pd_var (pv 3)) (pda_cons pd_int (pda_cons (pd_const (v := .int 200) (d := .int 200) (pe_glob (v := .int 200) rfl T.v_MOST_TURNS.choose_spec ⟨_, rfl⟩) (fun _ => .int _)) pda_nil)))))))
  (pds_one (pds_raise tk (pmk_own PySem.F.excBase_ValueError T.x_BadMost T.g_BadMost T.k_BadMost (raises_own T.s_BadMost T.t_BadMost) (by rfl)) rfl))
  pds_nil)
  (pds_one (pds_ret (pd_call (pe_callS G_looped (hr.mono h_looped) (by rfl) T.m_looped T.F_looped.kp T.b_looped (fun σ => passAt tk σ) (pda_cons (pd_var (pv 1)) (pda_cons (pd_var (pv 2)) (pda_cons (pd_var (pv 3)) pda_nil))))))))))) hw
def w_law_same_b1 (K : Frag) (cl : Ad) : SW :=
  (wSeq (wPop 2 (gwTup 2 (gwCons (gwName 3) (gwCons (gwName 4) gwNil))))
  (wIfS (wTst (wIsi isT (wVar 4)))
  (wSeq (wIfS (wOrT (wNotT (wTst (wIsi isT (wVar 3)))) (wTst (wOp fNe (wCall1 fLen (wCons (wVar 3) wNil)) (wCall1 fLen (wCons (wVar 4) wNil)))))
  (wRet (wC (.s (.bool false))))
  wNext)
  (wExt 2 (wLc (wRange1 (wCons (wCall1 fLen (wCons (wVar 4) wNil)) wNil)) false [5] [5] wYes (wTup (wCons (wOp fIx (wVar 3) (wVar 5)) (wCons (wOp fIx (wVar 4) (wVar 5)) wNil))))))
  (wIfS (wTst (wOp (fIs false) (wVar 4) (wC (.s .none))))
  (wIfS (wTst (wOp (fIs true) (wVar 3) (wC (.s .none))))
  (wRet (wC (.s (.bool false))))
  wNext)
  (wIfS (wTst (wIsi isB (wVar 4)))
  (wIfS (wOrT (wNotT (wTst (wIsi isB (wVar 3)))) (wTst (wOp fNe (wVar 3) (wVar 4))))
  (wRet (wC (.s (.bool false))))
  wNext)
  (wIfS (wTst (wIsi isS (wVar 4)))
  (wIfS (wOrT (wNotT (wTst (wIsi isS (wVar 3)))) (wTst (wOp fNe (wVar 3) (wVar 4))))
  (wRet (wC (.s (.bool false))))
  wNext)
  (wIfS (wOrT (wNotT (wTst (wIsi isI (wVar 3)))) (wOrT (wTst (wIsi isB (wVar 3))) (wTst (wOp fNe (wVar 3) (wVar 4)))))
  (wRet (wC (.s (.bool false))))
  wNext))))))
def w_law_same (K : Frag) (cl : Ad) : SW :=
  (wSeq (wAsg 2 (wLst (wCons (wTup (wCons (wVar 0) (wCons (wVar 1) wNil))) wNil)))
  (wSeq (wWhile (wTst (wOp fNe (wVar 2) (wLst wNil))) (w_law_same_b1 K cl))
  (wRet (wC (.s (.bool true))))))
theorem ok_law_same (T : Txt K mg cl) {k : Nat} {c : Ct} (hlen : ∀ rs Q E, c rs Q E → rs.length = P_law_same.length)
    (hw : ∀ rs Q E, c rs Q E → w_law_same K cl (rho N_law_same.length rs) { nx := fun _ => Q (.s .none), rt := Q, er := fun cls _ => E cls }) :
    FnOk P wd K mg base (L2.CX P wd) (k + 1) cl.f_law_same cl.d_law_same P_law_same (spD K c) :=
  fnD T.F_law_same sc_law_same hlen (fun cdv A outer s H E hr => by
  have tk := takes_of (X := cxOf (L2.CX P wd) P wd K mg base N_law_same "_law_same" (defScope s_law_same) cl.f_law_same cdv A outer s H E) rfl rfl rfl rfl
  exact (pds_cons (pds_set (ps_set (i := 2) sc_law_same.nd rfl (by first | exact Or.inl rfl | exact Or.inr rfl) (pd_lst (pda_cons (pd_tup (pda_cons (pd_var (pv 0)) (pda_cons (pd_var (pv 1)) pda_nil))) pda_nil))))
  (pds_cons (pds_while (passes_of rfl) (pdt_cmp (o_ne hr.units) (pd_var (pv 2)) (pd_lst pda_nil) (nomark _)) (pds_cons (pds_pop (i := 2) (ps_asg (pe_bm0 PySem.F.plainAttrs_list PySem.F.slot_list_pop PySem.F.type_list_pop mt_pop (pv 2)) (pgd_tup (pg_tup rfl (pgds_cons (pgs_cons (pgd_name (pg_name (i := 3) sc_law_same.nd rfl (by first | exact Or.inl rfl | exact Or.inr rfl))) (pgds_cons (pgs_cons (pgd_name (pg_name (i := 4) sc_law_same.nd rfl (by first | exact Or.inl rfl | exact Or.inr rfl))) pgds_nil))))))))
  (pds_one (pds_if (pdt_val (pd_isi (pe_callB call_isi (by rfl) T.n_isinstance (by decide +kernel) (pa_cons (pd_var (pv 4)) (pa_cons (pe_bltn (by rfl) T.n_tuple (by decide +kernel) rfl) pa_nil))) kit_tuple))
  (pds_cons (pds_if (pdt_w (pdw_or (pdt_not (pdt_val (pd_isi (pe_callB call_isi (by rfl) T.n_isinstance (by decide +kernel) (pa_cons (pd_var (pv 3)) (pa_cons (pe_bltn (by rfl) T.n_tuple (by decide +kernel) rfl) pa_nil))) kit_tuple))) (pdw_or1 (pdt_cmp (o_ne hr.units) (call_core (t := fun _ _ _ => True) (pe_callB c_len (by rfl) T.n_len (by decide +kernel) (pda_cons (pd_var (pv 3)) pda_nil))) (call_core (t := fun _ _ _ => True) (pe_callB c_len (by rfl) T.n_len (by decide +kernel) (pda_cons (pd_var (pv 4)) pda_nil))) (nomark _)))))
  (pds_one (pds_ret pd_bl))
  pds_nil)
  (pds_one (pds_ext (i := 2) (ps_expr (pe_bm PySem.F.plainAttrs_list PySem.F.slot_list_extend PySem.F.type_list_extend mt_extB (pv 2) (pa_cons (pd_lc (tup := false) (is := [5]) (pe_lc (own := [("k", 5)]) (g := gC K false [5]) rfl sc_law_same.nd (pic_range1 (pi_range1 (by rfl) T.n_range (pda_cons (call_core (t := fun _ _ _ => True) (pe_callB c_len (by rfl) T.n_len (by decide +kernel) (pda_cons (pd_var (pv 4)) pda_nil))) pda_nil))) (blkOk_by (own := [("k", 5)]) (N := N_law_same) (sc := defScope s_law_same) (by decide +kernel)) (fun _ _ _ _ _ => (pg_name (i := 5) sc_law_same.nd rfl (by first | exact Or.inl rfl | exact Or.inr rfl))) (fun _ _ _ _ _ => pdts_nil) (fun _ _ _ _ _ => (pd_tup (pda_cons (pd_ix (o_ix hr.units) (pd_var (pv 3)) (pd_var (pv 5)) (fun _ _ => rfl)) (pda_cons (pd_ix (o_ix hr.units) (pd_var (pv 4)) (pd_var (pv 5)) (fun _ _ => rfl)) pda_nil))))) (by decide) (by first | exact Or.inl rfl | exact Or.inr ⟨_, rfl⟩)) pa_nil))))))
  (pds_one (pds_if (pdt_cmp o_is (pd_var (pv 4)) pd_non (nomark _))
  (pds_one (pds_if (pdt_cmp o_isNot (pd_var (pv 3)) pd_non (nomark _))
  (pds_one (pds_ret pd_bl))
  pds_nil))
  (pds_one (pds_if (pdt_val (pd_isi (pe_callB call_isi (by rfl) T.n_isinstance (by decide +kernel) (pa_cons (pd_var (pv 4)) (pa_cons (pe_bltn (by rfl) T.n_bool (by decide +kernel) rfl) pa_nil))) kit_bool))
  (pds_one (pds_if (pdt_w (pdw_or (pdt_not (pdt_val (pd_isi (pe_callB call_isi (by rfl) T.n_isinstance (by decide +kernel) (pa_cons (pd_var (pv 3)) (pa_cons (pe_bltn (by rfl) T.n_bool (by decide +kernel) rfl) pa_nil))) kit_bool))) (pdw_or1 (pdt_cmp (o_ne hr.units) (pd_var (pv 3)) (pd_var (pv 4)) (nomark _)))))
  (pds_one (pds_ret pd_bl))
  pds_nil))
  (pds_one (pds_if (pdt_val (pd_isi (pe_callB call_isi (by rfl) T.n_isinstance (by decide +kernel) (pa_cons (pd_var (pv 4)) (pa_cons (pe_bltn (by rfl) T.n_str (by decide +kernel) rfl) pa_nil))) kit_str))
  (pds_one (pds_if (pdt_w (pdw_or (pdt_not (pdt_val (pd_isi (pe_callB call_isi (by rfl) T.n_isinstance (by decide +kernel) (pa_cons (pd_var (pv 3)) (pa_cons (pe_bltn (by rfl) T.n_str (by decide +kernel) rfl) pa_nil))) kit_str))) (pdw_or1 (pdt_cmp (o_ne hr.units) (pd_var (pv 3)) (pd_var (pv 4)) (nomark _)))))
  (pds_one (pds_ret pd_bl))
  pds_nil))
  (pds_one (pds_if (pdt_w (pdw_or (pdt_not (pdt_val (pd_isi (pe_callB call_isi (by rfl) T.n_isinstance (by decide +kernel) (pa_cons (pd_var (pv 3)) (pa_cons (pe_bltn (by rfl) T.n_int (by decide +kernel) rfl) pa_nil))) kit_int))) (pdw_or (pdt_val (pd_isi (pe_callB call_isi (by rfl) T.n_isinstance (by decide +kernel) (pa_cons (pd_var (pv 3)) (pa_cons (pe_bltn (by rfl) T.n_bool (by decide +kernel) rfl) pa_nil))) kit_bool)) (pdw_or1 (pdt_cmp (o_ne hr.units) (pd_var (pv 3)) (pd_var (pv 4)) (nomark _))))))
  (pds_one (pds_ret pd_bl))
  pds_nil))))))))))))
  (pds_one (pds_ret pd_bl))))) hw
def w_law_places_b1 (K : Frag) (cl : Ad) : SW :=
  (wExt 1 (wLst (wCons (wVar 2) (wCons (wVar 3) wNil))))
def w_law_places (K : Frag) (cl : Ad) : SW :=
  (wSeq (wAsg 1 (wCall1 fList (wCons (wOp fIx (wVar 0) (wC (.s (.int 0)))) wNil)))
  (wSeq (wFor (wSeqF (wOp fIx (wVar 0) (wC (.s (.int 1))))) (gwTup 2 (gwCons (gwName 2) (gwCons (gwName 3) gwNil))) (w_law_places_b1 K cl))
  (wRet (wLc (wSeqC (wSortSet (wVar 1))) false [2] [2] (wTst (wOp fGt (wVar 2) (wC (.s (.int 0))))) (wVar 2)))))
theorem ok_law_places (T : Txt K mg cl) {k : Nat} {c : Ct} (hlen : ∀ rs Q E, c rs Q E → rs.length = P_law_places.length)
    (hw : ∀ rs Q E, c rs Q E → w_law_places K cl (rho N_law_places.length rs) { nx := fun _ => Q (.s .none), rt := Q, er := fun cls _ => E cls }) :
    FnOk P wd K mg base (L2.CX P wd) (k + 1) cl.f_law_places cl.d_law_places P_law_places (spD K c) :=
  fnD T.F_law_places sc_law_places hlen (fun cdv A outer s H E hr => by
  have tk := takes_of (X := cxOf (L2.CX P wd) P wd K mg base N_law_places "_law_places" (defScope s_law_places) cl.f_law_places cdv A outer s H E) rfl rfl rfl rfl
  exact (pds_cons (pds_set (ps_set (i := 1) sc_law_places.nd rfl (by first | exact Or.inl rfl | exact Or.inr rfl) (call_core (t := fun _ _ _ => True) (pe_callTy c_list (by rfl) T.n_list (by decide +kernel) (pda_cons (pd_ix (o_ix hr.units) (pd_var (pv 0)) pd_int (fun _ _ => rfl)) pda_nil)))))
  (pds_cons (pds_for (ps_for (passes_of rfl) rfl (pif_seq (pd_ix (o_ix hr.units) (pd_var (pv 0)) pd_int (fun _ _ => rfl))) (pgd_tup (pg_tup rfl (pgds_cons (pgs_cons (pgd_name (pg_name (i := 2) sc_law_places.nd rfl (by first | exact Or.inl rfl | exact Or.inr rfl))) (pgds_cons (pgs_cons (pgd_name (pg_name (i := 3) sc_law_places.nd rfl (by first | exact Or.inl rfl | exact Or.inr rfl))) pgds_nil)))))) (pds_one (pds_ext (i := 1) (ps_expr (pe_bm PySem.F.plainAttrs_list PySem.F.slot_list_extend PySem.F.type_list_extend mt_extB (pv 1) (pa_cons (pd_lst (pda_cons (pd_var (pv 2)) (pda_cons (pd_var (pv 3)) pda_nil))) pa_nil)))))))
  (pds_one (pds_ret (pd_lc (tup := false) (is := [2]) (pe_lc (own := [("place", 2)]) (g := gC K false [2]) rfl sc_law_places.nd (pic_seq (pd_sortSet (pe_callB (cr_setAny rfl) (by rfl) T.n_sorted (by decide +kernel) (pa_cons (pe_callTy (c_setL rfl) (by rfl) T.n_set (by decide +kernel) (pa_cons (pd_var (pv 1)) pa_nil)) pa_nil)))) (blkOk_by (own := [("place", 2)]) (N := N_law_places) (sc := defScope s_law_places) (by decide +kernel)) (fun _ _ _ _ _ => (pg_name (i := 2) sc_law_places.nd rfl (by first | exact Or.inl rfl | exact Or.inr rfl))) (fun _ _ _ _ _ => (pdts_one (pdt_cmp o_gt (pd_var (pv 2)) pd_int (nomark _)))) (fun _ _ _ _ _ => (pd_var (pv 2)))) (by decide) (by first | exact Or.inl rfl | exact Or.inr ⟨_, rfl⟩))))))) hw
def w_law_state_t1 (K : Frag) (cl : Ad) (c_law_pick : Ct) : SW :=
  (wAppend 9 (wTup (wCons (wOp fIx (wVar 8) (wVar 6)) (wCons (wVar 11) wNil))))
def w_law_state_t2 (K : Frag) (cl : Ad) (c_law_pick : Ct) : SW :=
  (wSeq (wAsg 11 (wIf (wTst (wOp fEq (wVar 10) (wC (.s (.int 0))))) (wOp fIx (wVar 5) (wCall c_law_pick (wCons (wVar 0) (wCons (wFrz (wOp fAdd (wVar 7) (wC (.s (.int 2))))) wNil)))) (wIf (wTst (wOp fEq (wVar 10) (wC (.s (.int 1))))) (wC (.s (.int 0))) (wOp fIx (wVar 5) (wOp fAdd (wVar 6) (wC (.s (.int 1))))))))
  (w_law_state_t1 K cl c_law_pick))
def w_law_state_b3 (K : Frag) (cl : Ad) (c_law_pick : Ct) : SW :=
  (wSeq (wAsg 10 (wCall c_law_pick (wCons (wVar 0) (wCons (wC (.s (.int 4))) wNil))))
  (w_law_state_t2 K cl c_law_pick))
def w_law_state_t4 (K : Frag) (cl : Ad) (c_law_pick : Ct) : SW :=
  (wAppend 12 (wIf (wTst (wOp fEq (wVar 10) (wC (.s (.int 1))))) (wC (.s (.int 0))) (wIf (wTst (wOp fEq (wVar 10) (wC (.s (.int 2))))) (wOp fIx (wVar 5) (wOp fAdd (wVar 7) (wCall c_law_pick (wCons (wVar 0) (wCons (wC (.s (.int 2))) wNil))))) (wOp fIx (wVar 5) (wVar 13)))))
def w_law_state_t5 (K : Frag) (cl : Ad) (c_law_pick : Ct) : SW :=
  (wSeq (wAsg 13 (wIf (wOrT (wTst (wOp fEq (wVar 10) (wC (.s (.int 0))))) (wTst (wOp fEq (wVar 7) (wC (.s (.int 0)))))) (wC (.s (.int 0))) (wCall c_law_pick (wCons (wVar 0) (wCons (wVar 7) wNil)))))
  (w_law_state_t4 K cl c_law_pick))
def w_law_state_b6 (K : Frag) (cl : Ad) (c_law_pick : Ct) : SW :=
  (wSeq (wAsg 10 (wCall c_law_pick (wCons (wVar 0) (wCons (wC (.s (.int 5))) wNil))))
  (w_law_state_t5 K cl c_law_pick))
def w_law_state_t7 (K : Frag) (cl : Ad) (c_law_pick : Ct) : SW :=
  (wRet (wTup (wCons (wCall1 fTuple (wCons (wVar 12) wNil)) (wCons (wCall1 fTuple (wCons (wCall1 fSorted (wCons (wVar 9) wNil)) wNil)) wNil))))
def w_law_state_t8 (K : Frag) (cl : Ad) (c_law_pick : Ct) : SW :=
  (wSeq (wFor (wRange1 (wCons (wVar 1) wNil)) (gwName 6) (w_law_state_b6 K cl c_law_pick))
  (w_law_state_t7 K cl c_law_pick))
def w_law_state_t9 (K : Frag) (cl : Ad) (c_law_pick : Ct) : SW :=
  (wSeq (wAsg 12 (wLst wNil))
  (w_law_state_t8 K cl c_law_pick))
def w_law_state_t10 (K : Frag) (cl : Ad) (c_law_pick : Ct) : SW :=
  (wSeq (wFor (wRange1 (wCons (wVar 7) wNil)) (gwName 6) (w_law_state_b3 K cl c_law_pick))
  (w_law_state_t9 K cl c_law_pick))
def w_law_state_t11 (K : Frag) (cl : Ad) (c_law_pick : Ct) : SW :=
  (wSeq (wAsg 9 (wLst wNil))
  (w_law_state_t10 K cl c_law_pick))
def w_law_state_t12 (K : Frag) (cl : Ad) (c_law_pick : Ct) : SW :=
  (wSeq (wAsg 8 (wSl (wVar 5) wONone (wOSome (wVar 7))))
  (w_law_state_t11 K cl c_law_pick))
def w_law_state_t13 (K : Frag) (cl : Ad) (c_law_pick : Ct) : SW :=
  (wSeq (wAsg 7 (wCall c_law_pick (wCons (wVar 0) (wCons (wFrz (wOp fAdd (wVar 2) (wC (.s (.int 1))))) wNil))))
  (w_law_state_t12 K cl c_law_pick))
def w_law_state_t14 (K : Frag) (cl : Ad) (c_law_pick : Ct) : SW :=
  (wSeq (wAsg 5 (wLc (wRange1 (wCons (wOp fAdd (wVar 2) (wC (.s (.int 3)))) wNil)) false [6] [6] wYes (wFrz (wOp fAdd (wOp fAdd (wVar 4) (wC (.s (.int 1)))) (wOp fMul (wVar 3) (wVar 6))))))
  (w_law_state_t13 K cl c_law_pick))
def w_law_state (K : Frag) (cl : Ad) (c_law_pick : Ct) : SW :=
  (wSeq (wParN [3, 4] (wCons (wOp fAdd (wC (.s (.int 1))) (wCall c_law_pick (wCons (wVar 0) (wCons (wC (.s (.int 9))) wNil)))) (wCons (wCall c_law_pick (wCons (wVar 0) (wCons (wC (.s (.int 5))) wNil))) wNil)))
  (w_law_state_t14 K cl c_law_pick))
theorem ok_law_state (T : Txt K mg cl) {k : Nat} {c : Ct} {j_law_pick : Nat} {c_law_pick : Ct} (G_law_pick : FnOk P wd K mg base (L2.CX P wd) j_law_pick cl.f_law_pick cl.d_law_pick P_law_pick (spD K c_law_pick)) (h_law_pick : j_law_pick ≤ k) (hlen : ∀ rs Q E, c rs Q E → rs.length = P_law_state.length)
    (hw : ∀ rs Q E, c rs Q E → w_law_state K cl c_law_pick (rho N_law_state.length rs) { nx := fun _ => Q (.s .none), rt := Q, er := fun cls _ => E cls }) :
    FnOk P wd K mg base (L2.CX P wd) (k + 1) cl.f_law_state cl.d_law_state P_law_state (spD K c) :=
  fnD T.F_law_state sc_law_state hlen (fun cdv A outer s H E hr => by
  have tk := takes_of (X := cxOf (L2.CX P wd) P wd K mg base N_law_state "_law_state" (defScope s_law_state) cl.f_law_state cdv A outer s H E) rfl rfl rfl rfl
  exact (pds_cons (pds_parT (is := [3, 4]) (by decide) (ps_asg (peN_tup (pda_cons (pd_op o_add pd_int (pd_call (pe_callS G_law_pick (hr.mono h_law_pick) (by rfl) T.m_law_pick T.F_law_pick.kp T.b_law_pick (fun σ => passAt tk σ) (pda_cons (pd_var (pv 0)) (pda_cons pd_int pda_nil))))) (pda_cons (pd_call (pe_callS G_law_pick (hr.mono h_law_pick) (by rfl) T.m_law_pick T.F_law_pick.kp T.b_law_pick (fun σ => passAt tk σ) (pda_cons (pd_var (pv 0)) (pda_cons pd_int pda_nil)))) pda_nil))) (pg_tup rfl (pgs_cons (pg_name (i := 3) sc_law_state.nd rfl (by first | exact Or.inl rfl | exact Or.inr rfl)) (pgs_cons (pg_name (i := 4) sc_law_state.nd rfl (by first | exact Or.inl rfl | exact Or.inr rfl)) pgs_nil)))))
  (pds_cons (pds_setLc (tup := false) (is := [6]) (ps_setLc (i := 5) (own := [("k", 6)]) (g := gC K false [6]) rfl sc_law_state.nd rfl rfl (sw_true rfl rfl rfl (by decide +kernel)) (pic_range1 (pi_range1 (by rfl) T.n_range (pda_cons (pd_op o_add (pd_var (pv 2)) pd_int) pda_nil))) (blkOk_by (own := [("k", 6)]) (N := N_law_state) (sc := defScope s_law_state) (by decide +kernel)) (fun _ _ _ _ _ => (pg_name (i := 6) sc_law_state.nd rfl (by first | exact Or.inl rfl | exact Or.inr rfl))) (fun _ _ _ _ _ => pdts_nil) (fun _ _ _ _ _ => (pd_frz (pd_op o_add (pd_op o_add (pd_var (pv 4)) pd_int) (pd_op o_mul (pd_var (pv 3)) (pd_var (pv 6))))))) (by decide) (by first | exact Or.inl rfl | exact Or.inr ⟨_, rfl⟩))
  (pds_cons (pds_set (ps_set (i := 7) sc_law_state.nd rfl (by first | exact Or.inl rfl | exact Or.inr rfl) (pd_call (pe_callS G_law_pick (hr.mono h_law_pick) (by rfl) T.m_law_pick T.F_law_pick.kp T.b_law_pick (fun σ => passAt tk σ) (pda_cons (pd_var (pv 0)) (pda_cons (pd_frz (pd_op o_add (pd_var (pv 2)) pd_int)) pda_nil))))))
  (pds_cons (pds_set (ps_set (i := 8) sc_law_state.nd rfl (by first | exact Or.inl rfl | exact Or.inr rfl) (pd_sl (pe_slice o_sl (pd_var (pv 5)) pdo_none (pdo_some (pd_var (pv 7)))))))
  (pds_cons (pds_set (ps_set (i := 9) sc_law_state.nd rfl (by first | exact Or.inl rfl | exact Or.inr rfl) (pd_lst pda_nil)))
  (pds_cons (pds_for (ps_for (passes_of rfl) rfl (pif_range1 (pi_range1 (by rfl) T.n_range (pda_cons (pd_var (pv 7)) pda_nil))) (pgd_name (pg_name (i := 6) sc_law_state.nd rfl (by first | exact Or.inl rfl | exact Or.inr rfl))) (pds_cons (pds_set (ps_set (i := 10) sc_law_state.nd rfl (by first | exact Or.inl rfl | exact Or.inr rfl) (pd_call (pe_callS G_law_pick (hr.mono h_law_pick) (by rfl) T.m_law_pick T.F_law_pick.kp T.b_law_pick (fun σ => passAt tk σ) (pda_cons (pd_var (pv 0)) (pda_cons pd_int pda_nil))))))
  (pds_cons (pds_set (ps_set (i := 11) sc_law_state.nd rfl (by first | exact Or.inl rfl | exact Or.inr rfl) (pd_if (pdt_cmp (o_eq hr.units) (pd_var (pv 10)) pd_int (nomark _)) (pd_ix (o_ix hr.units) (pd_var (pv 5)) (pd_call (pe_callS G_law_pick (hr.mono h_law_pick) (by rfl) T.m_law_pick T.F_law_pick.kp T.b_law_pick (fun σ => passAt tk σ) (pda_cons (pd_var (pv 0)) (pda_cons (pd_frz (pd_op o_add (pd_var (pv 7)) pd_int)) pda_nil)))) (fun _ _ => rfl)) (pd_if (pdt_cmp (o_eq hr.units) (pd_var (pv 10)) pd_int (nomark _)) pd_int (pd_ix (o_ix hr.units) (pd_var (pv 5)) (pd_op o_add (pd_var (pv 6)) pd_int) (fun _ _ => rfl))))))
  (pds_one (pds_append (i := 9) (ps_expr (pe_bm PySem.F.plainAttrs_list PySem.F.slot_list_append PySem.F.type_list_append mt_append (pv 9) (pa_cons (pd_tup (pda_cons (pd_ix (o_ix hr.units) (pd_var (pv 8)) (pd_var (pv 6)) (fun _ _ => rfl)) (pda_cons (pd_var (pv 11)) pda_nil))) pa_nil)))))))))
  (pds_cons (pds_set (ps_set (i := 12) sc_law_state.nd rfl (by first | exact Or.inl rfl | exact Or.inr rfl) (pd_lst pda_nil)))
  (pds_cons (pds_for (ps_for (passes_of rfl) rfl (pif_range1 (pi_range1 (by rfl) T.n_range (pda_cons (pd_var (pv 1)) pda_nil))) (pgd_name (pg_name (i := 6) sc_law_state.nd rfl (by first | exact Or.inl rfl | exact Or.inr rfl))) (pds_cons (pds_set (ps_set (i := 10) sc_law_state.nd rfl (by first | exact Or.inl rfl | exact Or.inr rfl) (pd_call (pe_callS G_law_pick (hr.mono h_law_pick) (by rfl) T.m_law_pick T.F_law_pick.kp T.b_law_pick (fun σ => passAt tk σ) (pda_cons (pd_var (pv 0)) (pda_cons pd_int pda_nil))))))
  (pds_cons (pds_set (ps_set (i := 13) sc_law_state.nd rfl (by first | exact Or.inl rfl | exact Or.inr rfl) (pd_if (pdt_w (pdw_or (pdt_cmp (o_eq hr.units) (pd_var (pv 10)) pd_int (nomark _)) (pdw_or1 (pdt_cmp (o_eq hr.units) (pd_var (pv 7)) pd_int (nomark _))))) pd_int (pd_call (pe_callS G_law_pick (hr.mono h_law_pick) (by rfl) T.m_law_pick T.F_law_pick.kp T.b_law_pick (fun σ => passAt tk σ) (pda_cons (pd_var (pv 0)) (pda_cons (pd_var (pv 7)) pda_nil)))))))
  (pds_one (pds_append (i := 12) (ps_expr (pe_bm PySem.F.plainAttrs_list PySem.F.slot_list_append PySem.F.type_list_append mt_append (pv 12) (pa_cons (pd_if (pdt_cmp (o_eq hr.units) (pd_var (pv 10)) pd_int (nomark _)) pd_int (pd_if (pdt_cmp (o_eq hr.units) (pd_var (pv 10)) pd_int (nomark _)) (pd_ix (o_ix hr.units) (pd_var (pv 5)) (pd_op o_add (pd_var (pv 7)) (pd_call (pe_callS G_law_pick (hr.mono h_law_pick) (by rfl) T.m_law_pick T.F_law_pick.kp T.b_law_pick (fun σ => passAt tk σ) (pda_cons (pd_var (pv 0)) (pda_cons pd_int pda_nil))))) (fun _ _ => rfl)) (pd_ix (o_ix hr.units) (pd_var (pv 5)) (pd_var (pv 13)) (fun _ _ => rfl)))) pa_nil)))))))))
  (pds_one (pds_ret (pd_tup (pda_cons (call_core (t := fun _ _ _ => True) (pe_callTy c_tuple (by rfl) T.n_tuple (by decide +kernel) (pda_cons (pd_var (pv 12)) pda_nil))) (pda_cons (call_core (t := fun _ _ _ => True) (pe_callTy c_tuple (by rfl) T.n_tuple (by decide +kernel) (pda_cons (call_core (t := fun _ _ _ => True) (pe_callB (c_sorted hr.units) (by rfl) T.n_sorted (by decide +kernel) (pda_cons (pd_var (pv 9)) pda_nil))) pda_nil))) pda_nil)))))))))))))) hw
def w_law_whole_b1 (K : Frag) (cl : Ad) : SW :=
  (wSeq (wAppend 2 (wVar 3))
  (wAsg 3 (wOp fIx (wVar 1) (wVar 3))))
def w_law_whole_b2 (K : Frag) (cl : Ad) : SW :=
  (wWhile (wAndT (wTst (wOp (fIn false) (wVar 3) (wVar 1))) (wTst (wOp (fIn true) (wVar 3) (wVar 2)))) (w_law_whole_b1 K cl))
def w_law_whole (K : Frag) (cl : Ad) : SW :=
  (wSeq (wParN [1, 2] (wCons (wCall1 fDict (wCons (wOp fIx (wVar 0) (wC (.s (.int 1)))) wNil)) (wCons (wLst wNil) wNil)))
  (wSeq (wFor (wSeqF (wOp fIx (wVar 0) (wC (.s (.int 0))))) (gwName 3) (w_law_whole_b2 K cl))
  (wRet (wTup (wCons (wOp fIx (wVar 0) (wC (.s (.int 0)))) (wCons (wCall1 fTuple (wCons (wLc (wSeqC (wOp fIx (wVar 0) (wC (.s (.int 1))))) false [4] [4] (wTst (wOp (fIn false) (wOp fIx (wVar 4) (wC (.s (.int 0)))) (wVar 2))) (wVar 4)) wNil)) wNil))))))
theorem ok_law_whole (T : Txt K mg cl) {k : Nat} {c : Ct} (hlen : ∀ rs Q E, c rs Q E → rs.length = P_law_whole.length)
    (hw : ∀ rs Q E, c rs Q E → w_law_whole K cl (rho N_law_whole.length rs) { nx := fun _ => Q (.s .none), rt := Q, er := fun cls _ => E cls }) :
    FnOk P wd K mg base (L2.CX P wd) (k + 1) cl.f_law_whole cl.d_law_whole P_law_whole (spD K c) :=
  fnD T.F_law_whole sc_law_whole hlen (fun cdv A outer s H E hr => by
  have tk := takes_of (X := cxOf (L2.CX P wd) P wd K mg base N_law_whole "_law_whole" (defScope s_law_whole) cl.f_law_whole cdv A outer s H E) rfl rfl rfl rfl
  exact (pds_cons (pds_parT (is := [1, 2]) (by decide) (ps_asg (peN_tup (pda_cons (call_core (t := fun _ _ _ => True) (pe_callTy (c_dict rfl) (by rfl) T.n_dict (by decide +kernel) (pda_cons (pd_ix (o_ix hr.units) (pd_var (pv 0)) pd_int (fun _ _ => rfl)) pda_nil))) (pda_cons (pd_lst pda_nil) pda_nil))) (pg_tup rfl (pgs_cons (pg_name (i := 1) sc_law_whole.nd rfl (by first | exact Or.inl rfl | exact Or.inr rfl)) (pgs_cons (pg_name (i := 2) sc_law_whole.nd rfl (by first | exact Or.inl rfl | exact Or.inr rfl)) pgs_nil)))))
  (pds_cons (pds_for (ps_for (passes_of rfl) rfl (pif_seq (pd_ix (o_ix hr.units) (pd_var (pv 0)) pd_int (fun _ _ => rfl))) (pgd_name (pg_name (i := 3) sc_law_whole.nd rfl (by first | exact Or.inl rfl | exact Or.inr rfl))) (pds_one (pds_while (passes_of rfl) (pdt_w (pdw_and (pdt_cmp (o_in hr.units) (pd_var (pv 3)) (pd_var (pv 1)) (by rfl)) (pdw_and1 (pdt_cmp (o_notIn hr.units) (pd_var (pv 3)) (pd_var (pv 2)) (by rfl))))) (pds_cons (pds_append (i := 2) (ps_expr (pe_bm PySem.F.plainAttrs_list PySem.F.slot_list_append PySem.F.type_list_append mt_append (pv 2) (pa_cons (pd_var (pv 3)) pa_nil))))
  (pds_one (pds_set (ps_set (i := 3) sc_law_whole.nd rfl (by first | exact Or.inl rfl | exact Or.inr rfl) (pd_ix (o_ix hr.units) (pd_var (pv 1)) (pd_var (pv 3)) (fun _ _ => rfl))))))))))
  (pds_one (pds_ret (pd_tup (pda_cons (pd_ix (o_ix hr.units) (pd_var (pv 0)) pd_int (fun _ _ => rfl)) (pda_cons (call_core (t := fun _ _ _ => True) (pe_callTy c_tuple (by rfl) T.n_tuple (by decide +kernel) (pda_cons (pd_lc (tup := false) (is := [4]) (pe_lc (own := [("pair", 4)]) (g := gC K false [4]) rfl sc_law_whole.nd (pic_seq (pd_ix (o_ix hr.units) (pd_var (pv 0)) pd_int (fun _ _ => rfl))) (blkOk_by (own := [("pair", 4)]) (N := N_law_whole) (sc := defScope s_law_whole) (by decide +kernel)) (fun _ _ _ _ _ => (pg_name (i := 4) sc_law_whole.nd rfl (by first | exact Or.inl rfl | exact Or.inr rfl))) (fun _ _ _ _ _ => (pdts_one (pdt_cmp (o_in hr.units) (pd_ix (o_ix hr.units) (pd_var (pv 4)) pd_int (fun _ _ => rfl)) (pd_var (pv 2)) (by rfl)))) (fun _ _ _ _ _ => (pd_var (pv 4)))) (by decide) (by first | exact Or.inl rfl | exact Or.inr ⟨_, rfl⟩)) pda_nil))) pda_nil)))))))) hw
def w_law_whole_state (K : Frag) (cl : Ad) (c_law_state c_law_whole : Ct) : SW :=
  (wRet (wCall c_law_whole (wCons (wFrz (wCall c_law_state (wCons (wVar 0) (wCons (wVar 1) (wCons (wVar 2) wNil))))) wNil)))
theorem ok_law_whole_state (T : Txt K mg cl) {k : Nat} {c : Ct} {j_law_state : Nat} {c_law_state : Ct} (G_law_state : FnOk P wd K mg base (L2.CX P wd) j_law_state cl.f_law_state cl.d_law_state P_law_state (spD K c_law_state)) (h_law_state : j_law_state ≤ k) {j_law_whole : Nat} {c_law_whole : Ct} (G_law_whole : FnOk P wd K mg base (L2.CX P wd) j_law_whole cl.f_law_whole cl.d_law_whole P_law_whole (spD K c_law_whole)) (h_law_whole : j_law_whole ≤ k) (hlen : ∀ rs Q E, c rs Q E → rs.length = P_law_whole_state.length)
    (hw : ∀ rs Q E, c rs Q E → w_law_whole_state K cl c_law_state c_law_whole (rho N_law_whole_state.length rs) { nx := fun _ => Q (.s .none), rt := Q, er := fun cls _ => E cls }) :
    FnOk P wd K mg base (L2.CX P wd) (k + 1) cl.f_law_whole_state cl.d_law_whole_state P_law_whole_state (spD K c) :=
  fnD T.F_law_whole_state sc_law_whole_state hlen (fun cdv A outer s H E hr => by
  have tk := takes_of (X := cxOf (L2.CX P wd) P wd K mg base N_law_whole_state "_law_whole_state" (defScope s_law_whole_state) cl.f_law_whole_state cdv A outer s H E) rfl rfl rfl rfl
  exact (pds_one (pds_ret (pd_call (pe_callS G_law_whole (hr.mono h_law_whole) (by rfl) T.m_law_whole T.F_law_whole.kp T.b_law_whole (fun σ => passAt tk σ) (pda_cons (pd_frz (pd_call (pe_callS G_law_state (hr.mono h_law_state) (by rfl) T.m_law_state T.F_law_state.kp T.b_law_state (fun σ => passAt tk σ) (pda_cons (pd_var (pv 0)) (pda_cons (pd_var (pv 1)) (pda_cons (pd_var (pv 2)) pda_nil)))))) pda_nil)))))) hw
def w_law_step (K : Frag) (cl : Ad) (c_law_pick : Ct) : SW :=
  (wSeq (wAsg 2 (wOp fIx (wLst (wCons (wC (.s (.str "set"))) (wCons (wC (.s (.str "follow"))) (wCons (wC (.s (.str "put"))) (wCons (wC (.s (.str "new"))) (wCons (wC (.s (.str "free"))) (wCons (wC (.s (.str "follow"))) (wCons (wC (.s (.str "put"))) (wCons (wC (.s (.str "new"))) wNil))))))))) (wCall c_law_pick (wCons (wVar 0) (wCons (wC (.s (.int 8))) wNil)))))
  (wSeq (wAsg 3 (wCall c_law_pick (wCons (wVar 0) (wCons (wVar 1) wNil))))
  (wSeq (wIfS (wTst (wOp (fIn false) (wVar 2) (wTup (wCons (wC (.s (.str "new"))) (wCons (wC (.s (.str "free"))) wNil)))))
  (wRet (wTup (wCons (wVar 2) (wCons (wVar 3) wNil))))
  wNext)
  (wRet (wTup (wCons (wVar 2) (wCons (wVar 3) (wCons (wIf (wTst (wOp fEq (wVar 2) (wC (.s (.str "follow"))))) (wCall c_law_pick (wCons (wVar 0) (wCons (wVar 1) wNil))) (wOp fSub (wCall c_law_pick (wCons (wVar 0) (wCons (wFrz (wOp fAdd (wVar 1) (wC (.s (.int 1))))) wNil))) (wC (.s (.int 1))))) wNil))))))))
theorem ok_law_step (T : Txt K mg cl) {k : Nat} {c : Ct} {j_law_pick : Nat} {c_law_pick : Ct} (G_law_pick : FnOk P wd K mg base (L2.CX P wd) j_law_pick cl.f_law_pick cl.d_law_pick P_law_pick (spD K c_law_pick)) (h_law_pick : j_law_pick ≤ k) (hlen : ∀ rs Q E, c rs Q E → rs.length = P_law_step.length)
    (hw : ∀ rs Q E, c rs Q E → w_law_step K cl c_law_pick (rho N_law_step.length rs) { nx := fun _ => Q (.s .none), rt := Q, er := fun cls _ => E cls }) :
    FnOk P wd K mg base (L2.CX P wd) (k + 1) cl.f_law_step cl.d_law_step P_law_step (spD K c) :=
  fnD T.F_law_step sc_law_step hlen (fun cdv A outer s H E hr => by
  have tk := takes_of (X := cxOf (L2.CX P wd) P wd K mg base N_law_step "_law_step" (defScope s_law_step) cl.f_law_step cdv A outer s H E) rfl rfl rfl rfl
  exact (pds_cons (pds_set (ps_set (i := 2) sc_law_step.nd rfl (by first | exact Or.inl rfl | exact Or.inr rfl) (pd_ix (o_ix hr.units) (pd_lst (pda_cons pd_str (pda_cons pd_str (pda_cons pd_str (pda_cons pd_str (pda_cons pd_str (pda_cons pd_str (pda_cons pd_str (pda_cons pd_str pda_nil))))))))) (pd_call (pe_callS G_law_pick (hr.mono h_law_pick) (by rfl) T.m_law_pick T.F_law_pick.kp T.b_law_pick (fun σ => passAt tk σ) (pda_cons (pd_var (pv 0)) (pda_cons pd_int pda_nil)))) (fun _ _ => rfl))))
  (pds_cons (pds_set (ps_set (i := 3) sc_law_step.nd rfl (by first | exact Or.inl rfl | exact Or.inr rfl) (pd_call (pe_callS G_law_pick (hr.mono h_law_pick) (by rfl) T.m_law_pick T.F_law_pick.kp T.b_law_pick (fun σ => passAt tk σ) (pda_cons (pd_var (pv 0)) (pda_cons (pd_var (pv 1)) pda_nil))))))
  (pds_cons (pds_if (pdt_cmp (o_in hr.units) (pd_var (pv 2)) (pd_tup (pda_cons pd_str (pda_cons pd_str pda_nil))) (by rfl))
  (pds_one (pds_ret (pd_tup (pda_cons (pd_var (pv 2)) (pda_cons (pd_var (pv 3)) pda_nil)))))
  pds_nil)
  (pds_one (pds_ret (pd_tup (pda_cons (pd_var (pv 2)) (pda_cons (pd_var (pv 3)) (pda_cons (pd_if (pdt_cmp (o_eq hr.units) (pd_var (pv 2)) pd_str (nomark _)) (pd_call (pe_callS G_law_pick (hr.mono h_law_pick) (by rfl) T.m_law_pick T.F_law_pick.kp T.b_law_pick (fun σ => passAt tk σ) (pda_cons (pd_var (pv 0)) (pda_cons (pd_var (pv 1)) pda_nil)))) (pd_op o_sub (pd_call (pe_callS G_law_pick (hr.mono h_law_pick) (by rfl) T.m_law_pick T.F_law_pick.kp T.b_law_pick (fun σ => passAt tk σ) (pda_cons (pd_var (pv 0)) (pda_cons (pd_frz (pd_op o_add (pd_var (pv 1)) pd_int)) pda_nil)))) pd_int)) pda_nil)))))))))) hw
def w_law_condition (K : Frag) (cl : Ad) (c_law_pick : Ct) : SW :=
  (wRet (wTup (wCons (wOp fIx (wLst (wCons (wC (.s (.str "same"))) (wCons (wC (.s (.str "unlike"))) wNil))) (wCall c_law_pick (wCons (wVar 0) (wCons (wC (.s (.int 2))) wNil)))) (wCons (wFrz (wOp fSub (wCall c_law_pick (wCons (wVar 0) (wCons (wFrz (wOp fAdd (wVar 1) (wC (.s (.int 1))))) wNil))) (wC (.s (.int 1))))) (wCons (wFrz (wOp fSub (wCall c_law_pick (wCons (wVar 0) (wCons (wFrz (wOp fAdd (wVar 1) (wC (.s (.int 1))))) wNil))) (wC (.s (.int 1))))) wNil)))))
theorem ok_law_condition (T : Txt K mg cl) {k : Nat} {c : Ct} {j_law_pick : Nat} {c_law_pick : Ct} (G_law_pick : FnOk P wd K mg base (L2.CX P wd) j_law_pick cl.f_law_pick cl.d_law_pick P_law_pick (spD K c_law_pick)) (h_law_pick : j_law_pick ≤ k) (hlen : ∀ rs Q E, c rs Q E → rs.length = P_law_condition.length)
    (hw : ∀ rs Q E, c rs Q E → w_law_condition K cl c_law_pick (rho N_law_condition.length rs) { nx := fun _ => Q (.s .none), rt := Q, er := fun cls _ => E cls }) :
    FnOk P wd K mg base (L2.CX P wd) (k + 1) cl.f_law_condition cl.d_law_condition P_law_condition (spD K c) :=
  fnD T.F_law_condition sc_law_condition hlen (fun cdv A outer s H E hr => by
  have tk := takes_of (X := cxOf (L2.CX P wd) P wd K mg base N_law_condition "_law_condition" (defScope s_law_condition) cl.f_law_condition cdv A outer s H E) rfl rfl rfl rfl
  exact (pds_one (pds_ret (pd_tup (pda_cons (pd_ix (o_ix hr.units) (pd_lst (pda_cons pd_str (pda_cons pd_str pda_nil))) (pd_call (pe_callS G_law_pick (hr.mono h_law_pick) (by rfl) T.m_law_pick T.F_law_pick.kp T.b_law_pick (fun σ => passAt tk σ) (pda_cons (pd_var (pv 0)) (pda_cons pd_int pda_nil)))) (fun _ _ => rfl)) (pda_cons (pd_frz (pd_op o_sub (pd_call (pe_callS G_law_pick (hr.mono h_law_pick) (by rfl) T.m_law_pick T.F_law_pick.kp T.b_law_pick (fun σ => passAt tk σ) (pda_cons (pd_var (pv 0)) (pda_cons (pd_frz (pd_op o_add (pd_var (pv 1)) pd_int)) pda_nil)))) pd_int)) (pda_cons (pd_frz (pd_op o_sub (pd_call (pe_callS G_law_pick (hr.mono h_law_pick) (by rfl) T.m_law_pick T.F_law_pick.kp T.b_law_pick (fun σ => passAt tk σ) (pda_cons (pd_var (pv 0)) (pda_cons (pd_frz (pd_op o_add (pd_var (pv 1)) pd_int)) pda_nil)))) pd_int)) pda_nil))))))) hw
def w_law_size (K : Frag) (cl : Ad) (c_law_size : Ct) : SW :=
  (wRet (wCall1 fSum (wCons (wLc (wSeqC (wVar 0)) false [1] [1] wYes (wFrz (wOp fAdd (wC (.s (.int 1))) (wIf (wTst (wOp fEq (wOp fIx (wVar 1) (wC (.s (.int 0)))) (wC (.s (.str "if"))))) (wOp fAdd (wCall c_law_size (wCons (wOp fIx (wVar 1) (wC (.s (.int 2)))) wNil)) (wCall c_law_size (wCons (wOp fIx (wVar 1) (wC (.s (.int 3)))) wNil))) (wC (.s (.int 0))))))) wNil)))
theorem ok_law_size (T : Txt K mg cl) {k : Nat} {c : Ct} {j_law_size : Nat} {c_law_size : Ct} (G_law_size : FnOk P wd K mg base (L2.CX P wd) j_law_size cl.f_law_size cl.d_law_size P_law_size (spD K c_law_size)) (h_law_size : j_law_size ≤ k) (hlen : ∀ rs Q E, c rs Q E → rs.length = P_law_size.length)
    (hw : ∀ rs Q E, c rs Q E → w_law_size K cl c_law_size (rho N_law_size.length rs) { nx := fun _ => Q (.s .none), rt := Q, er := fun cls _ => E cls }) :
    FnOk P wd K mg base (L2.CX P wd) (k + 1) cl.f_law_size cl.d_law_size P_law_size (spD K c) :=
  fnD T.F_law_size sc_law_size hlen (fun cdv A outer s H E hr => by
  have tk := takes_of (X := cxOf (L2.CX P wd) P wd K mg base N_law_size "_law_size" (defScope s_law_size) cl.f_law_size cdv A outer s H E) rfl rfl rfl rfl
  exact (pds_one (pds_ret (call_core (t := fun _ _ _ => True) (pe_callB (c_sum rfl) (by rfl) T.n_sum (by decide +kernel) (pda_cons (pd_lc (tup := false) (is := [1]) (pe_lc (own := [("part", 1)]) (g := gC K false [1]) rfl sc_law_size.nd (pic_seq (pd_var (pv 0))) (blkOk_by (own := [("part", 1)]) (N := N_law_size) (sc := defScope s_law_size) (by decide +kernel)) (fun _ _ _ _ _ => (pg_name (i := 1) sc_law_size.nd rfl (by first | exact Or.inl rfl | exact Or.inr rfl))) (fun _ _ _ _ _ => pdts_nil) (fun _ _ _ _ _ => (pd_frz (pd_op o_add pd_int (pd_if (pdt_cmp (o_eq hr.units) (pd_ix (o_ix hr.units) (pd_var (pv 1)) pd_int (fun _ _ => rfl)) pd_str (nomark _)) (pd_op o_add (pd_call (pe_callS G_law_size (hr.mono h_law_size) (by rfl) T.m_law_size T.F_law_size.kp T.b_law_size (fun σ => passAt takes0 σ) (pda_cons (pd_ix (o_ix hr.units) (pd_var (pv 1)) pd_int (fun _ _ => rfl)) pda_nil))) (pd_call (pe_callS G_law_size (hr.mono h_law_size) (by rfl) T.m_law_size T.F_law_size.kp T.b_law_size (fun σ => passAt takes0 σ) (pda_cons (pd_ix (o_ix hr.units) (pd_var (pv 1)) pd_int (fun _ _ => rfl)) pda_nil)))) pd_int))))) (by decide) (by first | exact Or.inl rfl | exact Or.inr ⟨_, rfl⟩)) pda_nil)))))) hw
def w_law_program_b1 (K : Frag) (cl : Ad) (c_law_pick c_law_step c_law_condition c_law_size c_law_program : Ct) : SW :=
  (wIfS (wAndT (wTst (wOp fGt (wVar 3) (wC (.s (.int 0))))) (wAndT (wTst (wOp fGt (wVar 5) (wC (.s (.int 1))))) (wTst (wOp fEq (wCall c_law_pick (wCons (wVar 0) (wCons (wC (.s (.int 4))) wNil))) (wC (.s (.int 0)))))))
  (wSeq (wAsg 6 (wCall c_law_program (wCons (wVar 0) (wCons (wVar 1) (wCons (wFrz (wOp fDiv (wOp fSub (wVar 5) (wC (.s (.int 1)))) (wC (.s (.int 2))))) (wCons (wFrz (wOp fSub (wVar 3) (wC (.s (.int 1))))) wNil))))))
  (wSeq (wAsg 7 (wCall c_law_program (wCons (wVar 0) (wCons (wVar 1) (wCons (wFrz (wOp fDiv (wOp fSub (wVar 5) (wC (.s (.int 1)))) (wC (.s (.int 2))))) (wCons (wFrz (wOp fSub (wVar 3) (wC (.s (.int 1))))) wNil))))))
  (wSeq (wAppend 4 (wTup (wCons (wC (.s (.str "if"))) (wCons (wFrz (wCall c_law_condition (wCons (wVar 0) (wCons (wVar 1) wNil)))) (wCons (wVar 6) (wCons (wVar 7) wNil))))))
  (wAsg 5 (wOp fSub (wOp fSub (wOp fSub (wVar 5) (wC (.s (.int 1)))) (wCall c_law_size (wCons (wVar 6) wNil))) (wCall c_law_size (wCons (wVar 7) wNil)))))))
  (wSeq (wAppend 4 (wFrz (wCall c_law_step (wCons (wVar 0) (wCons (wVar 1) wNil)))))
  (wAsg 5 (wOp fSub (wVar 5) (wC (.s (.int 1)))))))
def w_law_program (K : Frag) (cl : Ad) (c_law_pick c_law_step c_law_condition c_law_size c_law_program : Ct) : SW :=
  (wSeq (wPar 4 5 (wLst wNil) (wCall c_law_pick (wCons (wVar 0) (wCons (wFrz (wOp fAdd (wVar 2) (wC (.s (.int 1))))) wNil))))
  (wSeq (wWhile (wTst (wOp fGt (wVar 5) (wC (.s (.int 0))))) (w_law_program_b1 K cl c_law_pick c_law_step c_law_condition c_law_size c_law_program))
  (wRet (wCall1 fTuple (wCons (wVar 4) wNil)))))
theorem ok_law_program (T : Txt K mg cl) {k : Nat} {c : Ct} {j_law_pick : Nat} {c_law_pick : Ct} (G_law_pick : FnOk P wd K mg base (L2.CX P wd) j_law_pick cl.f_law_pick cl.d_law_pick P_law_pick (spD K c_law_pick)) (h_law_pick : j_law_pick ≤ k) {j_law_step : Nat} {c_law_step : Ct} (G_law_step : FnOk P wd K mg base (L2.CX P wd) j_law_step cl.f_law_step cl.d_law_step P_law_step (spD K c_law_step)) (h_law_step : j_law_step ≤ k) {j_law_condition : Nat} {c_law_condition : Ct} (G_law_condition : FnOk P wd K mg base (L2.CX P wd) j_law_condition cl.f_law_condition cl.d_law_condition P_law_condition (spD K c_law_condition)) (h_law_condition : j_law_condition ≤ k) {j_law_size : Nat} {c_law_size : Ct} (G_law_size : FnOk P wd K mg base (L2.CX P wd) j_law_size cl.f_law_size cl.d_law_size P_law_size (spD K c_law_size)) (h_law_size : j_law_size ≤ k) {j_law_program : Nat} {c_law_program : Ct} (G_law_program : FnOk P wd K mg base (L2.CX P wd) j_law_program cl.f_law_program cl.d_law_program P_law_program (spD K c_law_program)) (h_law_program : j_law_program ≤ k) (hlen : ∀ rs Q E, c rs Q E → rs.length = P_law_program.length)
    (hw : ∀ rs Q E, c rs Q E → w_law_program K cl c_law_pick c_law_step c_law_condition c_law_size c_law_program (rho N_law_program.length rs) { nx := fun _ => Q (.s .none), rt := Q, er := fun cls _ => E cls }) :
    FnOk P wd K mg base (L2.CX P wd) (k + 1) cl.f_law_program cl.d_law_program P_law_program (spD K c) :=
  fnD T.F_law_program sc_law_program hlen (fun cdv A outer s H E hr => by
  have tk := takes_of (X := cxOf (L2.CX P wd) P wd K mg base N_law_program "_law_program" (defScope s_law_program) cl.f_law_program cdv A outer s H E) rfl rfl rfl rfl
  exact (pds_cons (pds_par (i := 4) (j := 5) (ps_par rfl sc_law_program.nd rfl rfl (by decide) rfl rfl (pda_cons (pd_lst pda_nil) (pda_cons (pd_call (pe_callS G_law_pick (hr.mono h_law_pick) (by rfl) T.m_law_pick T.F_law_pick.kp T.b_law_pick (fun σ => passAt tk σ) (pda_cons (pd_var (pv 0)) (pda_cons (pd_frz (pd_op o_add (pd_var (pv 2)) pd_int)) pda_nil)))) pda_nil)) (by rfl)))
  (pds_cons (pds_while (passes_of rfl) (pdt_cmp o_gt (pd_var (pv 5)) pd_int (nomark _)) (pds_one (pds_if (pdt_w (pdw_and (pdt_cmp o_gt (pd_var (pv 3)) pd_int (nomark _)) (pdw_and (pdt_cmp o_gt (pd_var (pv 5)) pd_int (nomark _)) (pdw_and1 (pdt_cmp (o_eq hr.units) (pd_call (pe_callS G_law_pick (hr.mono h_law_pick) (by rfl) T.m_law_pick T.F_law_pick.kp T.b_law_pick (fun σ => passAt tk σ) (pda_cons (pd_var (pv 0)) (pda_cons pd_int pda_nil)))) pd_int (nomark _))))))
  (pds_cons (pds_set (ps_set (i := 6) sc_law_program.nd rfl (by first | exact Or.inl rfl | exact Or.inr rfl) (pd_call (pe_callS G_law_program (hr.mono h_law_program) (by rfl) T.m_law_program T.F_law_program.kp T.b_law_program (fun σ => passAt tk σ) (pda_cons (pd_var (pv 0)) (pda_cons (pd_var (pv 1)) (pda_cons (pd_frz (pd_op o_div (pd_op o_sub (pd_var (pv 5)) pd_int) pd_int)) (pda_cons (pd_frz (pd_op o_sub (pd_var (pv 3)) pd_int)) pda_nil))))))))
  (pds_cons (pds_set (ps_set (i := 7) sc_law_program.nd rfl (by first | exact Or.inl rfl | exact Or.inr rfl) (pd_call (pe_callS G_law_program (hr.mono h_law_program) (by rfl) T.m_law_program T.F_law_program.kp T.b_law_program (fun σ => passAt tk σ) (pda_cons (pd_var (pv 0)) (pda_cons (pd_var (pv 1)) (pda_cons (pd_frz (pd_op o_div (pd_op o_sub (pd_var (pv 5)) pd_int) pd_int)) (pda_cons (pd_frz (pd_op o_sub (pd_var (pv 3)) pd_int)) pda_nil))))))))
  (pds_cons (pds_append (i := 4) (ps_expr (pe_bm PySem.F.plainAttrs_list PySem.F.slot_list_append PySem.F.type_list_append mt_append (pv 4) (pa_cons (pd_tup (pda_cons pd_str (pda_cons (pd_frz (pd_call (pe_callS G_law_condition (hr.mono h_law_condition) (by rfl) T.m_law_condition T.F_law_condition.kp T.b_law_condition (fun σ => passAt tk σ) (pda_cons (pd_var (pv 0)) (pda_cons (pd_var (pv 1)) pda_nil))))) (pda_cons (pd_var (pv 6)) (pda_cons (pd_var (pv 7)) pda_nil))))) pa_nil))))
  (pds_one (pds_set (ps_set (i := 5) sc_law_program.nd rfl (by first | exact Or.inl rfl | exact Or.inr rfl) (pd_op o_sub (pd_op o_sub (pd_op o_sub (pd_var (pv 5)) pd_int) (pd_call (pe_callS G_law_size (hr.mono h_law_size) (by rfl) T.m_law_size T.F_law_size.kp T.b_law_size (fun σ => passAt tk σ) (pda_cons (pd_var (pv 6)) pda_nil)))) (pd_call (pe_callS G_law_size (hr.mono h_law_size) (by rfl) T.m_law_size T.F_law_size.kp T.b_law_size (fun σ => passAt tk σ) (pda_cons (pd_var (pv 7)) pda_nil))))))))))
  (pds_cons (pds_append (i := 4) (ps_expr (pe_bm PySem.F.plainAttrs_list PySem.F.slot_list_append PySem.F.type_list_append mt_append (pv 4) (pa_cons (pd_frz (pd_call (pe_callS G_law_step (hr.mono h_law_step) (by rfl) T.m_law_step T.F_law_step.kp T.b_law_step (fun σ => passAt tk σ) (pda_cons (pd_var (pv 0)) (pda_cons (pd_var (pv 1)) pda_nil))))) pa_nil))))
  (pds_one (pds_set (ps_set (i := 5) sc_law_program.nd rfl (by first | exact Or.inl rfl | exact Or.inr rfl) (pd_op o_sub (pd_var (pv 5)) pd_int))))))))
  (pds_one (pds_ret (call_core (t := fun _ _ _ => True) (pe_callTy c_tuple (by rfl) T.n_tuple (by decide +kernel) (pda_cons (pd_var (pv 4)) pda_nil)))))))) hw
def w_law_rise_b1 (K : Frag) (cl : Ad) (c_law_rise : Ct) : SW :=
  (wIfS (wTst (wOp fEq (wOp fIx (wVar 2) (wC (.s (.int 0)))) (wC (.s (.str "if")))))
  (wAsg 1 (wCall1 fMax2 (wCons (wCall c_law_rise (wCons (wOp fIx (wVar 2) (wC (.s (.int 2)))) (wCons (wVar 1) wNil))) (wCons (wCall c_law_rise (wCons (wOp fIx (wVar 2) (wC (.s (.int 3)))) (wCons (wVar 1) wNil))) wNil))))
  (wIfS (wTst (wOp fEq (wOp fIx (wVar 2) (wC (.s (.int 0)))) (wC (.s (.str "follow")))))
  (wAsg 1 (wOp fAdd (wVar 1) (wC (.s (.int 1)))))
  (wIfS (wTst (wOp (fIn false) (wOp fIx (wVar 2) (wC (.s (.int 0)))) (wTup (wCons (wC (.s (.str "put"))) (wCons (wC (.s (.str "free"))) wNil)))))
  (wAsg 1 (wCall1 fMax2 (wCons (wVar 1) (wCons (wC (.s (.int 2))) wNil))))
  wNext)))
def w_law_rise (K : Frag) (cl : Ad) (c_law_rise : Ct) : SW :=
  (wSeq (wFor (wSeqF (wFrz (wRev (wVar 0)))) (gwName 2) (w_law_rise_b1 K cl c_law_rise))
  (wRetS 1))
theorem ok_law_rise (T : Txt K mg cl) {k : Nat} {c : Ct} {j_law_rise : Nat} {c_law_rise : Ct} (G_law_rise : FnOk P wd K mg base (L2.CX P wd) j_law_rise cl.f_law_rise cl.d_law_rise P_law_rise (spD K c_law_rise)) (h_law_rise : j_law_rise ≤ k) (hlen : ∀ rs Q E, c rs Q E → rs.length = P_law_rise.length)
    (hw : ∀ rs Q E, c rs Q E → w_law_rise K cl c_law_rise (rho N_law_rise.length rs) { nx := fun _ => Q (.s .none), rt := Q, er := fun cls _ => E cls }) :
    FnOk P wd K mg base (L2.CX P wd) (k + 1) cl.f_law_rise cl.d_law_rise P_law_rise (spD K c) :=
  fnD T.F_law_rise sc_law_rise hlen (fun cdv A outer s H E hr => by
  have tk := takes_of (X := cxOf (L2.CX P wd) P wd K mg base N_law_rise "_law_rise" (defScope s_law_rise) cl.f_law_rise cdv A outer s H E) rfl rfl rfl rfl
  exact (pds_cons (pds_for (ps_for (passes_of rfl) rfl (pif_seq (pd_frz (pd_rev (peN_rev (pd_var (pv 0)))))) (pgd_name (pg_name (i := 2) sc_law_rise.nd rfl (by first | exact Or.inl rfl | exact Or.inr rfl))) (pds_one (pds_if (pdt_cmp (o_eq hr.units) (pd_ix (o_ix hr.units) (pd_var (pv 2)) pd_int (fun _ _ => rfl)) pd_str (nomark _))
  (pds_one (pds_set (ps_set (i := 1) sc_law_rise.nd rfl (by first | exact Or.inl rfl | exact Or.inr rfl) (call_core (t := fun _ _ _ => True) (pe_callB (c_max2 rfl) (by rfl) T.n_max (by decide +kernel) (pda_cons (pd_call (pe_callS G_law_rise (hr.mono h_law_rise) (by rfl) T.m_law_rise T.F_law_rise.kp T.b_law_rise (fun σ => passAt tk σ) (pda_cons (pd_ix (o_ix hr.units) (pd_var (pv 2)) pd_int (fun _ _ => rfl)) (pda_cons (pd_var (pv 1)) pda_nil)))) (pda_cons (pd_call (pe_callS G_law_rise (hr.mono h_law_rise) (by rfl) T.m_law_rise T.F_law_rise.kp T.b_law_rise (fun σ => passAt tk σ) (pda_cons (pd_ix (o_ix hr.units) (pd_var (pv 2)) pd_int (fun _ _ => rfl)) (pda_cons (pd_var (pv 1)) pda_nil)))) pda_nil)))))))
  (pds_one (pds_if (pdt_cmp (o_eq hr.units) (pd_ix (o_ix hr.units) (pd_var (pv 2)) pd_int (fun _ _ => rfl)) pd_str (nomark _))
  (pds_one (pds_set (ps_set (i := 1) sc_law_rise.nd rfl (by first | exact Or.inl rfl | exact Or.inr rfl) (pd_op o_add (pd_var (pv 1)) pd_int))))
  (pds_one (pds_if (pdt_cmp (o_in hr.units) (pd_ix (o_ix hr.units) (pd_var (pv 2)) pd_int (fun _ _ => rfl)) (pd_tup (pda_cons pd_str (pda_cons pd_str pda_nil))) (by rfl))
  (pds_one (pds_set (ps_set (i := 1) sc_law_rise.nd rfl (by first | exact Or.inl rfl | exact Or.inr rfl) (call_core (t := fun _ _ _ => True) (pe_callB (c_max2 rfl) (by rfl) T.n_max (by decide +kernel) (pda_cons (pd_var (pv 1)) (pda_cons pd_int pda_nil)))))))
  pds_nil))))))))
  (pds_one (pds_retS (i := 1) (ps_ret (pv 1)))))) hw
def w_law_light_program_b1 (K : Frag) (cl : Ad) (c_law_program c_law_rise : Ct) : SW :=
  (wAsg 4 (wSl (wVar 4) (wOSome (wC (.s (.int 1)))) wONone))
def w_law_light_program (K : Frag) (cl : Ad) (c_law_program c_law_rise : Ct) : SW :=
  (wSeq (wAsg 4 (wCall c_law_program (wCons (wVar 0) (wCons (wVar 1) (wCons (wVar 2) (wCons (wC (.s (.int 2))) wNil))))))
  (wSeq (wWhile (wAndT (wTst (wOp fGt (wVar 1) (wC (.s (.int 1))))) (wTst (wOp fGt (wCall c_law_rise (wCons (wVar 4) (wCons (wVar 3) wNil))) (wC (.s (.int 3)))))) (w_law_light_program_b1 K cl c_law_program c_law_rise))
  (wRetS 4)))
theorem ok_law_light_program (T : Txt K mg cl) {k : Nat} {c : Ct} {j_law_program : Nat} {c_law_program : Ct} (G_law_program : FnOk P wd K mg base (L2.CX P wd) j_law_program cl.f_law_program cl.d_law_program P_law_program (spD K c_law_program)) (h_law_program : j_law_program ≤ k) {j_law_rise : Nat} {c_law_rise : Ct} (G_law_rise : FnOk P wd K mg base (L2.CX P wd) j_law_rise cl.f_law_rise cl.d_law_rise P_law_rise (spD K c_law_rise)) (h_law_rise : j_law_rise ≤ k) (hlen : ∀ rs Q E, c rs Q E → rs.length = P_law_light_program.length)
    (hw : ∀ rs Q E, c rs Q E → w_law_light_program K cl c_law_program c_law_rise (rho N_law_light_program.length rs) { nx := fun _ => Q (.s .none), rt := Q, er := fun cls _ => E cls }) :
    FnOk P wd K mg base (L2.CX P wd) (k + 1) cl.f_law_light_program cl.d_law_light_program P_law_light_program (spD K c) :=
  fnD T.F_law_light_program sc_law_light_program hlen (fun cdv A outer s H E hr => by
  have tk := takes_of (X := cxOf (L2.CX P wd) P wd K mg base N_law_light_program "_law_light_program" (defScope s_law_light_program) cl.f_law_light_program cdv A outer s H E) rfl rfl rfl rfl
  exact (pds_cons (pds_set (ps_set (i := 4) sc_law_light_program.nd rfl (by first | exact Or.inl rfl | exact Or.inr rfl) (pd_call (pe_callS G_law_program (hr.mono h_law_program) (by rfl) T.m_law_program T.F_law_program.kp T.b_law_program (fun σ => passAt tk σ) (pda_cons (pd_var (pv 0)) (pda_cons (pd_var (pv 1)) (pda_cons (pd_var (pv 2)) (pda_cons pd_int pda_nil))))))))
  (pds_cons (pds_while (passes_of rfl) (pdt_w (pdw_and (pdt_cmp o_gt (pd_var (pv 1)) pd_int (nomark _)) (pdw_and1 (pdt_cmp o_gt (pd_call (pe_callS G_law_rise (hr.mono h_law_rise) (by rfl) T.m_law_rise T.F_law_rise.kp T.b_law_rise (fun σ => passAt tk σ) (pda_cons (pd_var (pv 4)) (pda_cons (pd_var (pv 3)) pda_nil)))) pd_int (nomark _))))) (pds_one (pds_set (ps_set (i := 4) sc_law_light_program.nd rfl (by first | exact Or.inl rfl | exact Or.inr rfl) (pd_sl (pe_slice o_sl (pd_var (pv 4)) (pdo_some pd_int) pdo_none))))))
  (pds_one (pds_retS (i := 4) (ps_ret (pv 4))))))) hw
def w_law_told_loops (K : Frag) (cl : Ad) : SW :=
  (wSeq (wAsg 2 (wTup (wCons (wTup (wCons (wC (.s (.str "follow"))) (wCons (wVar 1) (wCons (wVar 1) wNil)))) wNil)))
  (wSeq (wAsg 3 (wLst (wCons (wTup (wCons (wTup (wCons (wC (.s (.str "unlike"))) (wCons (wVar 1) (wCons (wUn fNeg (wC (.s (.int 1)))) wNil)))) (wCons (wVar 2) wNil))) (wCons (wTup (wCons (wTup (wCons (wC (.s (.str "unlike"))) (wCons (wVar 0) (wCons (wUn fNeg (wC (.s (.int 1)))) wNil)))) (wCons (wTup (wCons (wTup (wCons (wC (.s (.str "follow"))) (wCons (wVar 1) (wCons (wVar 0) wNil)))) (wCons (wTup (wCons (wC (.s (.str "free"))) (wCons (wVar 0) wNil))) (wCons (wTup (wCons (wC (.s (.str "set"))) (wCons (wVar 0) (wCons (wVar 1) wNil)))) wNil)))) wNil))) wNil))))
  (wSeq (wExt 3 (wLst (wCons (wTup (wCons (wTup (wCons (wC (.s (.str "unlike"))) (wCons (wVar 1) (wCons (wVar 0) wNil)))) (wCons (wVar 2) wNil))) (wCons (wTup (wCons (wTup (wCons (wC (.s (.str "unlike"))) (wCons (wVar 0) (wCons (wUn fNeg (wC (.s (.int 1)))) wNil)))) (wCons (wTup (wCons (wTup (wCons (wC (.s (.str "free"))) (wCons (wVar 0) wNil))) (wCons (wTup (wCons (wC (.s (.str "set"))) (wCons (wVar 0) (wCons (wUn fNeg (wC (.s (.int 1)))) wNil)))) wNil))) wNil))) wNil))))
  (wRet (wOp fAdd (wVar 3) (wLst (wCons (wTup (wCons (wTup (wCons (wC (.s (.str "same"))) (wCons (wVar 0) (wCons (wUn fNeg (wC (.s (.int 1)))) wNil)))) (wCons (wTup (wCons (wTup (wCons (wC (.s (.str "new"))) (wCons (wVar 0) wNil))) wNil)) wNil))) (wCons (wTup (wCons (wTup (wCons (wC (.s (.str "same"))) (wCons (wVar 0) (wCons (wVar 1) wNil)))) (wCons (wTup (wCons (wTup (wCons (wC (.s (.str "new"))) (wCons (wVar 1) wNil))) (wCons (wTup (wCons (wC (.s (.str "put"))) (wCons (wVar 1) (wCons (wVar 0) wNil)))) wNil))) wNil))) wNil))))))))
theorem ok_law_told_loops (T : Txt K mg cl) {k : Nat} {c : Ct} (hlen : ∀ rs Q E, c rs Q E → rs.length = P_law_told_loops.length)
    (hw : ∀ rs Q E, c rs Q E → w_law_told_loops K cl (rho N_law_told_loops.length rs) { nx := fun _ => Q (.s .none), rt := Q, er := fun cls _ => E cls }) :
    FnOk P wd K mg base (L2.CX P wd) (k + 1) cl.f_law_told_loops cl.d_law_told_loops P_law_told_loops (spD K c) :=
  fnD T.F_law_told_loops sc_law_told_loops hlen (fun cdv A outer s H E hr => by
  have tk := takes_of (X := cxOf (L2.CX P wd) P wd K mg base N_law_told_loops "_law_told_loops" (defScope s_law_told_loops) cl.f_law_told_loops cdv A outer s H E) rfl rfl rfl rfl
  exact (pds_cons (pds_set (ps_set (i := 2) sc_law_told_loops.nd rfl (by first | exact Or.inl rfl | exact Or.inr rfl) (pd_tup (pda_cons (pd_tup (pda_cons pd_str (pda_cons (pd_var (pv 1)) (pda_cons (pd_var (pv 1)) pda_nil)))) pda_nil))))
  (pds_cons (pds_set (ps_set (i := 3) sc_law_told_loops.nd rfl (by first | exact Or.inl rfl | exact Or.inr rfl) (pd_lst (pda_cons (pd_tup (pda_cons (pd_tup (pda_cons pd_str (pda_cons (pd_var (pv 1)) (pda_cons (pd_un o_neg pd_int) pda_nil)))) (pda_cons (pd_var (pv 2)) pda_nil))) (pda_cons (pd_tup (pda_cons (pd_tup (pda_cons pd_str (pda_cons (pd_var (pv 0)) (pda_cons (pd_un o_neg pd_int) pda_nil)))) (pda_cons (pd_tup (pda_cons (pd_tup (pda_cons pd_str (pda_cons (pd_var (pv 1)) (pda_cons (pd_var (pv 0)) pda_nil)))) (pda_cons (pd_tup (pda_cons pd_str (pda_cons (pd_var (pv 0)) pda_nil))) (pda_cons (pd_tup (pda_cons pd_str (pda_cons (pd_var (pv 0)) (pda_cons (pd_var (pv 1)) pda_nil)))) pda_nil)))) pda_nil))) pda_nil)))))
  (pds_cons (pds_ext (i := 3) (ps_expr (pe_bm PySem.F.plainAttrs_list PySem.F.slot_list_extend PySem.F.type_list_extend mt_extB (pv 3) (pa_cons (pd_lst (pda_cons (pd_tup (pda_cons (pd_tup (pda_cons pd_str (pda_cons (pd_var (pv 1)) (pda_cons (pd_var (pv 0)) pda_nil)))) (pda_cons (pd_var (pv 2)) pda_nil))) (pda_cons (pd_tup (pda_cons (pd_tup (pda_cons pd_str (pda_cons (pd_var (pv 0)) (pda_cons (pd_un o_neg pd_int) pda_nil)))) (pda_cons (pd_tup (pda_cons (pd_tup (pda_cons pd_str (pda_cons (pd_var (pv 0)) pda_nil))) (pda_cons (pd_tup (pda_cons pd_str (pda_cons (pd_var (pv 0)) (pda_cons (pd_un o_neg pd_int) pda_nil)))) pda_nil))) pda_nil))) pda_nil))) pa_nil))))
  (pds_one (pds_ret (pd_op o_add (pd_var (pv 3)) (pd_lst (pda_cons (pd_tup (pda_cons (pd_tup (pda_cons pd_str (pda_cons (pd_var (pv 0)) (pda_cons (pd_un o_neg pd_int) pda_nil)))) (pda_cons (pd_tup (pda_cons (pd_tup (pda_cons pd_str (pda_cons (pd_var (pv 0)) pda_nil))) pda_nil)) pda_nil))) (pda_cons (pd_tup (pda_cons (pd_tup (pda_cons pd_str (pda_cons (pd_var (pv 0)) (pda_cons (pd_var (pv 1)) pda_nil)))) (pda_cons (pd_tup (pda_cons (pd_tup (pda_cons pd_str (pda_cons (pd_var (pv 1)) pda_nil))) (pda_cons (pd_tup (pda_cons pd_str (pda_cons (pd_var (pv 1)) (pda_cons (pd_var (pv 0)) pda_nil)))) pda_nil))) pda_nil))) pda_nil)))))))))) hw
def w_law_told_loop (K : Frag) (cl : Ad) (c_law_pick c_law_condition c_law_light_program c_law_told_loops : Ct) : SW :=
  (wSeq (wAsg 2 (wCall c_law_pick (wCons (wVar 0) (wCons (wVar 1) wNil))))
  (wSeq (wAsg 3 (wCall c_law_pick (wCons (wVar 0) (wCons (wC (.s (.int 10))) wNil))))
  (wSeq (wIfS (wTst (wOp fLt (wVar 3) (wC (.s (.int 6)))))
  (wRet (wOp fIx (wCall c_law_told_loops (wCons (wVar 2) (wCons (wFrz (wOp fMod (wCall1 fIntOf (wCons (wOp fAdd (wVar 2) (wC (.s (.int 1)))) wNil)) (wVar 1))) wNil))) (wVar 3)))
  wNext)
  (wRet (wTup (wCons (wFrz (wCall c_law_condition (wCons (wVar 0) (wCons (wVar 1) wNil)))) (wCons (wFrz (wCall c_law_light_program (wCons (wVar 0) (wCons (wVar 1) (wCons (wC (.s (.int 3))) (wCons (wC (.s (.int 2))) wNil)))))) wNil)))))))
theorem ok_law_told_loop (T : Txt K mg cl) {k : Nat} {c : Ct} {j_law_pick : Nat} {c_law_pick : Ct} (G_law_pick : FnOk P wd K mg base (L2.CX P wd) j_law_pick cl.f_law_pick cl.d_law_pick P_law_pick (spD K c_law_pick)) (h_law_pick : j_law_pick ≤ k) {j_law_condition : Nat} {c_law_condition : Ct} (G_law_condition : FnOk P wd K mg base (L2.CX P wd) j_law_condition cl.f_law_condition cl.d_law_condition P_law_condition (spD K c_law_condition)) (h_law_condition : j_law_condition ≤ k) {j_law_light_program : Nat} {c_law_light_program : Ct} (G_law_light_program : FnOk P wd K mg base (L2.CX P wd) j_law_light_program cl.f_law_light_program cl.d_law_light_program P_law_light_program (spD K c_law_light_program)) (h_law_light_program : j_law_light_program ≤ k) {j_law_told_loops : Nat} {c_law_told_loops : Ct} (G_law_told_loops : FnOk P wd K mg base (L2.CX P wd) j_law_told_loops cl.f_law_told_loops cl.d_law_told_loops P_law_told_loops (spD K c_law_told_loops)) (h_law_told_loops : j_law_told_loops ≤ k) (hlen : ∀ rs Q E, c rs Q E → rs.length = P_law_told_loop.length)
    (hw : ∀ rs Q E, c rs Q E → w_law_told_loop K cl c_law_pick c_law_condition c_law_light_program c_law_told_loops (rho N_law_told_loop.length rs) { nx := fun _ => Q (.s .none), rt := Q, er := fun cls _ => E cls }) :
    FnOk P wd K mg base (L2.CX P wd) (k + 1) cl.f_law_told_loop cl.d_law_told_loop P_law_told_loop (spD K c) :=
  fnD T.F_law_told_loop sc_law_told_loop hlen (fun cdv A outer s H E hr => by
  have tk := takes_of (X := cxOf (L2.CX P wd) P wd K mg base N_law_told_loop "_law_told_loop" (defScope s_law_told_loop) cl.f_law_told_loop cdv A outer s H E) rfl rfl rfl rfl
  exact (pds_cons (pds_set (ps_set (i := 2) sc_law_told_loop.nd rfl (by first | exact Or.inl rfl | exact Or.inr rfl) (pd_call (pe_callS G_law_pick (hr.mono h_law_pick) (by rfl) T.m_law_pick T.F_law_pick.kp T.b_law_pick (fun σ => passAt tk σ) (pda_cons (pd_var (pv 0)) (pda_cons (pd_var (pv 1)) pda_nil))))))
  (pds_cons (pds_set (ps_set (i := 3) sc_law_told_loop.nd rfl (by first | exact Or.inl rfl | exact Or.inr rfl) (pd_call (pe_callS G_law_pick (hr.mono h_law_pick) (by rfl) T.m_law_pick T.F_law_pick.kp T.b_law_pick (fun σ => passAt tk σ) (pda_cons (pd_var (pv 0)) (pda_cons pd_int pda_nil))))))
  (pds_cons (pds_if (pdt_cmp (o_lt hr.units0) (pd_var (pv 3)) pd_int (nomark _))
  (pds_one (pds_ret (pd_ix (o_ix hr.units) (pd_call (pe_callS G_law_told_loops (hr.mono h_law_told_loops) (by rfl) T.m_law_told_loops T.F_law_told_loops.kp T.b_law_told_loops (fun σ => passAt tk σ) (pda_cons (pd_var (pv 2)) (pda_cons (pd_frz (pd_op o_mod (call_core (t := fun _ _ _ => True) (pe_callTy c_int (by rfl) T.n_int (by decide +kernel) (pda_cons (pd_op o_add (pd_var (pv 2)) pd_int) pda_nil))) (pd_var (pv 1)))) pda_nil)))) (pd_var (pv 3)) (fun _ _ => rfl))))
  pds_nil)
  (pds_one (pds_ret (pd_tup (pda_cons (pd_frz (pd_call (pe_callS G_law_condition (hr.mono h_law_condition) (by rfl) T.m_law_condition T.F_law_condition.kp T.b_law_condition (fun σ => passAt tk σ) (pda_cons (pd_var (pv 0)) (pda_cons (pd_var (pv 1)) pda_nil))))) (pda_cons (pd_frz (pd_call (pe_callS G_law_light_program (hr.mono h_law_light_program) (by rfl) T.m_law_light_program T.F_law_light_program.kp T.b_law_light_program (fun σ => passAt tk σ) (pda_cons (pd_var (pv 0)) (pda_cons (pd_var (pv 1)) (pda_cons pd_int (pda_cons pd_int pda_nil))))))) pda_nil))))))))) hw
def w_law_reached_b1 (K : Frag) (cl : Ad) : SW :=
  (wSeq (wAppend 2 (wVar 3))
  (wAsg 3 (wOp fIx (wVar 1) (wVar 3))))
def w_law_reached_b2 (K : Frag) (cl : Ad) : SW :=
  (wWhile (wAndT (wTst (wOp (fIn false) (wVar 3) (wVar 1))) (wTst (wOp (fIn true) (wVar 3) (wVar 2)))) (w_law_reached_b1 K cl))
def w_law_reached (K : Frag) (cl : Ad) : SW :=
  (wSeq (wAsg 2 (wLst wNil))
  (wSeq (wFor (wSeqF (wVar 0)) (gwName 3) (w_law_reached_b2 K cl))
  (wRetS 2)))
theorem ok_law_reached (T : Txt K mg cl) {k : Nat} {c : Ct} (hlen : ∀ rs Q E, c rs Q E → rs.length = P_law_reached.length)
    (hw : ∀ rs Q E, c rs Q E → w_law_reached K cl (rho N_law_reached.length rs) { nx := fun _ => Q (.s .none), rt := Q, er := fun cls _ => E cls }) :
    FnOk P wd K mg base (L2.CX P wd) (k + 1) cl.f_law_reached cl.d_law_reached P_law_reached (spD K c) :=
  fnD T.F_law_reached sc_law_reached hlen (fun cdv A outer s H E hr => by
  have tk := takes_of (X := cxOf (L2.CX P wd) P wd K mg base N_law_reached "_law_reached" (defScope s_law_reached) cl.f_law_reached cdv A outer s H E) rfl rfl rfl rfl
  exact (pds_cons (pds_set (ps_set (i := 2) sc_law_reached.nd rfl (by first | exact Or.inl rfl | exact Or.inr rfl) (pd_lst pda_nil)))
  (pds_cons (pds_for (ps_for (passes_of rfl) rfl (pif_seq (pd_var (pv 0))) (pgd_name (pg_name (i := 3) sc_law_reached.nd rfl (by first | exact Or.inl rfl | exact Or.inr rfl))) (pds_one (pds_while (passes_of rfl) (pdt_w (pdw_and (pdt_cmp (o_in hr.units) (pd_var (pv 3)) (pd_var (pv 1)) (by rfl)) (pdw_and1 (pdt_cmp (o_notIn hr.units) (pd_var (pv 3)) (pd_var (pv 2)) (by rfl))))) (pds_cons (pds_append (i := 2) (ps_expr (pe_bm PySem.F.plainAttrs_list PySem.F.slot_list_append PySem.F.type_list_append mt_append (pv 2) (pa_cons (pd_var (pv 3)) pa_nil))))
  (pds_one (pds_set (ps_set (i := 3) sc_law_reached.nd rfl (by first | exact Or.inl rfl | exact Or.inr rfl) (pd_ix (o_ix hr.units) (pd_var (pv 1)) (pd_var (pv 3)) (fun _ _ => rfl))))))))))
  (pds_one (pds_retS (i := 2) (ps_ret (pv 2))))))) hw
def w_law_do_t1 (K : Frag) (cl : Ad) (c_law_reached : Ct) : SW :=
  (wSetIx 4 (wVar 3) (wVar 6))
def w_law_do_t2 (K : Frag) (cl : Ad) (c_law_reached : Ct) : SW :=
  (wSeq (wSetIx 1 (wC (.s (.int 0))) (wVar 3))
  (w_law_do_t1 K cl c_law_reached))
def w_law_do_t3 (K : Frag) (cl : Ad) (c_law_reached : Ct) : SW :=
  (wFrzS 3 (wFrzS 1 (wRet (wTup (wCons (wIf (wTst (wOp fEq (wCall1 fLen (wCons (wCall c_law_reached (wCons (wVar 0) (wCons (wVar 1) wNil))) wNil)) (wCall1 fLen (wCons (wVar 1) wNil)))) (wC (.s (.str "end"))) (wC (.s (.str "leak")))) (wCons (wVar 0) (wCons (wVar 1) (wCons (wVar 3) wNil))))))))
def w_law_do_t4 (K : Frag) (cl : Ad) (c_law_reached : Ct) : SW :=
  (wSeq (wAsg 0 (wCall1 fTuple (wCons (wSl (wVar 4) wONone (wOSome (wUn fNeg (wC (.s (.int 1)))))) wNil)))
  (w_law_do_t3 K cl c_law_reached))
def w_law_do_t5 (K : Frag) (cl : Ad) (c_law_reached : Ct) : SW :=
  (wSeq (wIfS (wTst (wOp fEq (wVar 5) (wC (.s (.str "set")))))
  (wSetIx 4 (wOp fIx (wVar 4) (wVar 7)) (wVar 6))
  (wIfS (wTst (wOp fEq (wVar 5) (wC (.s (.str "follow")))))
  (wSetIx 4 (wOp fIx (wVar 1) (wOp fIx (wVar 4) (wVar 7))) (wVar 6))
  (wIfS (wTst (wOp fEq (wVar 5) (wC (.s (.str "put")))))
  (wSetIx 1 (wOp fIx (wVar 4) (wVar 7)) (wOp fIx (wVar 4) (wVar 6)))
  (wIfS (wTst (wOp fEq (wVar 5) (wC (.s (.str "free")))))
  (wDPop 1 (wOp fIx (wVar 4) (wVar 6)))
  (wSeq (wAsg 3 (wOp fAdd (wVar 3) (wC (.s (.int 1)))))
  (w_law_do_t2 K cl c_law_reached))))))
  (w_law_do_t4 K cl c_law_reached))
def w_law_do_t6 (K : Frag) (cl : Ad) (c_law_reached : Ct) : SW :=
  (wSeq (wIfS (wOrT (wAndT (wTst (wOp (fIn false) (wVar 5) (wTup (wCons (wC (.s (.str "put"))) (wCons (wC (.s (.str "free"))) wNil))))) (wTst (wOp (fIn true) (wOp fIx (wVar 4) (wVar 6)) (wVar 1)))) (wAndT (wTst (wOp fEq (wVar 5) (wC (.s (.str "follow"))))) (wTst (wOp (fIn true) (wOp fIx (wVar 4) (wVar 7)) (wVar 1)))))
  (wFrzS 3 (wFrzS 1 (wRet (wTup (wCons (wC (.s (.str "wrong"))) (wCons (wVar 0) (wCons (wVar 1) (wCons (wVar 3) wNil))))))))
  wNext)
  (w_law_do_t5 K cl c_law_reached))
def w_law_do_t7 (K : Frag) (cl : Ad) (c_law_reached : Ct) : SW :=
  (wSeq (wParN [5, 6, 7] (wCons (wOp fIx (wVar 2) (wC (.s (.int 0)))) (wCons (wOp fIx (wVar 2) (wC (.s (.int 1)))) (wCons (wOp fIx (wVar 2) (wUn fNeg (wC (.s (.int 1))))) wNil))))
  (w_law_do_t6 K cl c_law_reached))
def w_law_do (K : Frag) (cl : Ad) (c_law_reached : Ct) : SW :=
  (wSeq (wPar 4 1 (wOp fAdd (wCall1 fList (wCons (wVar 0) wNil)) (wLst (wCons (wC (.s (.int 0))) wNil))) (wCall1 fDict (wCons (wVar 1) wNil)))
  (w_law_do_t7 K cl c_law_reached))
theorem ok_law_do (T : Txt K mg cl) {k : Nat} {c : Ct} {j_law_reached : Nat} {c_law_reached : Ct} (G_law_reached : FnOk P wd K mg base (L2.CX P wd) j_law_reached cl.f_law_reached cl.d_law_reached P_law_reached (spD K c_law_reached)) (h_law_reached : j_law_reached ≤ k) (hlen : ∀ rs Q E, c rs Q E → rs.length = P_law_do.length)
    (hw : ∀ rs Q E, c rs Q E → w_law_do K cl c_law_reached (rho N_law_do.length rs) { nx := fun _ => Q (.s .none), rt := Q, er := fun cls _ => E cls }) :
    FnOk P wd K mg base (L2.CX P wd) (k + 1) cl.f_law_do cl.d_law_do P_law_do (spD K c) :=
  fnD T.F_law_do sc_law_do hlen (fun cdv A outer s H E hr => by
  have tk := takes_of (X := cxOf (L2.CX P wd) P wd K mg base N_law_do "_law_do" (defScope s_law_do) cl.f_law_do cdv A outer s H E) rfl rfl rfl rfl
  exact (pds_cons (pds_par (i := 4) (j := 1) (ps_par rfl sc_law_do.nd rfl rfl (by decide) rfl rfl (pda_cons (pd_op o_add (call_core (t := fun _ _ _ => True) (pe_callTy c_list (by rfl) T.n_list (by decide +kernel) (pda_cons (pd_var (pv 0)) pda_nil))) (pd_lst (pda_cons pd_int pda_nil))) (pda_cons (call_core (t := fun _ _ _ => True) (pe_callTy (c_dict rfl) (by rfl) T.n_dict (by decide +kernel) (pda_cons (pd_var (pv 1)) pda_nil))) pda_nil)) (by rfl)))
  (pds_cons (pds_par3 (i := 5) (j := 6) (l := 7) (ps_par3 rfl sc_law_do.nd rfl rfl rfl (by decide) (by decide) (by decide) rfl rfl rfl (pda_cons (pd_ix (o_ix hr.units) (pd_var (pv 2)) pd_int (fun _ _ => rfl)) (pda_cons (pd_ix (o_ix hr.units) (pd_var (pv 2)) pd_int (fun _ _ => rfl)) (pda_cons (pd_ix (o_ix hr.units) (pd_var (pv 2)) (pd_un o_neg pd_int) (fun _ _ => rfl)) pda_nil))) (by rfl)))
  (pds_cons (pds_if (pdt_w (pdw_or (pdt_w (pdw_and (pdt_cmp (o_in hr.units) (pd_var (pv 5)) (pd_tup (pda_cons pd_str (pda_cons pd_str pda_nil))) (by rfl)) (pdw_and1 (pdt_cmp (o_notIn hr.units) (pd_ix (o_ix hr.units) (pd_var (pv 4)) (pd_var (pv 6)) (fun _ _ => rfl)) (pd_var (pv 1)) (by rfl))))) (pdw_or1 (pdt_w (pdw_and (pdt_cmp (o_eq hr.units) (pd_var (pv 5)) pd_str (nomark _)) (pdw_and1 (pdt_cmp (o_notIn hr.units) (pd_ix (o_ix hr.units) (pd_var (pv 4)) (pd_var (pv 7)) (fun _ _ => rfl)) (pd_var (pv 1)) (by rfl))))))))
  (pds_one (pds_frz (i := 3) (pds_frz (i := 1) (pds_ret (pd_tup (pda_cons pd_str (pda_cons (pd_var (pv 0)) (pda_cons (pd_var (pv 1)) (pda_cons (pd_var (pv 3)) pda_nil)))))))))
  pds_nil)
  (pds_cons (pds_if (pdt_cmp (o_eq hr.units) (pd_var (pv 5)) pd_str (nomark _))
  (pds_one (pds_setIx (i := 4) (ps_asg (pd_ix (o_ix hr.units) (pd_var (pv 4)) (pd_var (pv 7)) (fun _ _ => rfl)) (pg_sub (pv 4) (pd_var (pv 6)) (set_both hr.units)))))
  (pds_one (pds_if (pdt_cmp (o_eq hr.units) (pd_var (pv 5)) pd_str (nomark _))
  (pds_one (pds_setIx (i := 4) (ps_asg (pd_ix (o_ix hr.units) (pd_var (pv 1)) (pd_ix (o_ix hr.units) (pd_var (pv 4)) (pd_var (pv 7)) (fun _ _ => rfl)) (fun _ _ => rfl)) (pg_sub (pv 4) (pd_var (pv 6)) (set_both hr.units)))))
  (pds_one (pds_if (pdt_cmp (o_eq hr.units) (pd_var (pv 5)) pd_str (nomark _))
  (pds_one (pds_setIx (i := 1) (ps_asg (pd_ix (o_ix hr.units) (pd_var (pv 4)) (pd_var (pv 7)) (fun _ _ => rfl)) (pg_sub (pv 1) (pd_ix (o_ix hr.units) (pd_var (pv 4)) (pd_var (pv 6)) (fun _ _ => rfl)) (set_both hr.units)))))
  (pds_one (pds_if (pdt_cmp (o_eq hr.units) (pd_var (pv 5)) pd_str (nomark _))
  (pds_one (pds_dpop (i := 1) (ps_expr (pe_dpop1 (pv 1) (pd_ix (o_ix hr.units) (pd_var (pv 4)) (pd_var (pv 6)) (fun _ _ => rfl)) ⟨rfl, rfl, rfl, rfl⟩))))
  (pds_cons (pds_set (ps_set (i := 3) sc_law_do.nd rfl (by first | exact Or.inl rfl | exact Or.inr rfl) (pd_op o_add (pd_var (pv 3)) pd_int)))
  (pds_cons (pds_setIx (i := 1) (ps_asg pd_int (pg_sub (pv 1) (pd_var (pv 3)) (set_both hr.units))))
  (pds_one (pds_setIx (i := 4) (ps_asg (pd_var (pv 3)) (pg_sub (pv 4) (pd_var (pv 6)) (set_both hr.units))))))))))))))
  (pds_cons (pds_set (ps_set (i := 0) sc_law_do.nd rfl (by first | exact Or.inl rfl | exact Or.inr rfl) (call_core (t := fun _ _ _ => True) (pe_callTy c_tuple (by rfl) T.n_tuple (by decide +kernel) (pda_cons (pd_sl (pe_slice o_sl (pd_var (pv 4)) pdo_none (pdo_some (pd_un o_neg pd_int)))) pda_nil)))))
  (pds_one (pds_frz (i := 3) (pds_frz (i := 1) (pds_ret (pd_tup (pda_cons (pd_if (pdt_cmp (o_eq hr.units) (call_core (t := fun _ _ _ => True) (pe_callB c_len (by rfl) T.n_len (by decide +kernel) (pda_cons (pd_call (pe_callS G_law_reached (hr.mono h_law_reached) (by rfl) T.m_law_reached T.F_law_reached.kp T.b_law_reached (fun σ => passAt tk σ) (pda_cons (pd_var (pv 0)) (pda_cons (pd_var (pv 1)) pda_nil)))) pda_nil))) (call_core (t := fun _ _ _ => True) (pe_callB c_len (by rfl) T.n_len (by decide +kernel) (pda_cons (pd_var (pv 1)) pda_nil))) (nomark _)) pd_str pd_str) (pda_cons (pd_var (pv 0)) (pda_cons (pd_var (pv 1)) (pda_cons (pd_var (pv 3)) pda_nil))))))))))))))) hw
def w_law_told_condition (K : Frag) (cl : Ad) : SW :=
  (wSeq (wAsg 2 (wOp fAdd (wVar 0) (wTup (wCons (wC (.s (.int 0))) wNil))))
  (wRet (wOp fEq (wOp fEq (wOp fIx (wVar 2) (wOp fIx (wVar 1) (wC (.s (.int 1))))) (wOp fIx (wVar 2) (wOp fIx (wVar 1) (wC (.s (.int 2)))))) (wOp fEq (wOp fIx (wVar 1) (wC (.s (.int 0)))) (wC (.s (.str "same")))))))
theorem ok_law_told_condition (T : Txt K mg cl) {k : Nat} {c : Ct} (hlen : ∀ rs Q E, c rs Q E → rs.length = P_law_told_condition.length)
    (hw : ∀ rs Q E, c rs Q E → w_law_told_condition K cl (rho N_law_told_condition.length rs) { nx := fun _ => Q (.s .none), rt := Q, er := fun cls _ => E cls }) :
    FnOk P wd K mg base (L2.CX P wd) (k + 1) cl.f_law_told_condition cl.d_law_told_condition P_law_told_condition (spD K c) :=
  fnD T.F_law_told_condition sc_law_told_condition hlen (fun cdv A outer s H E hr => by
  have tk := takes_of (X := cxOf (L2.CX P wd) P wd K mg base N_law_told_condition "_law_told_condition" (defScope s_law_told_condition) cl.f_law_told_condition cdv A outer s H E) rfl rfl rfl rfl
  exact (pds_cons (pds_set (ps_set (i := 2) sc_law_told_condition.nd rfl (by first | exact Or.inl rfl | exact Or.inr rfl) (pd_op o_add (pd_var (pv 0)) (pd_tup (pda_cons pd_int pda_nil)))))
  (pds_one (pds_ret (pd_cmp (o_eq hr.units) (pd_cmp (o_eq hr.units) (pd_ix (o_ix hr.units) (pd_var (pv 2)) (pd_ix (o_ix hr.units) (pd_var (pv 1)) pd_int (fun _ _ => rfl)) (fun _ _ => rfl)) (pd_ix (o_ix hr.units) (pd_var (pv 2)) (pd_ix (o_ix hr.units) (pd_var (pv 1)) pd_int (fun _ _ => rfl)) (fun _ _ => rfl)) (nomark _)) (pd_cmp (o_eq hr.units) (pd_ix (o_ix hr.units) (pd_var (pv 1)) pd_int (fun _ _ => rfl)) pd_str (nomark _)) (nomark _)))))) hw
def w_law_run_t1 (K : Frag) (cl : Ad) (c_law_places c_law_do c_law_told_condition : Ct) : SW :=
  (wAppend 7 (wTup (wCons (wVar 2) (wCons (wCall1 fTuple (wCons (wSortIt (wVar 3)) wNil)) wNil))))
def w_law_run_t2 (K : Frag) (cl : Ad) (c_law_places c_law_do c_law_told_condition : Ct) : SW :=
  (wSeq (wIfS (wTst (wOp fNe (wVar 9) (wC (.s (.str "end")))))
  (wFrzS 7 (wFrzS 6 (wRet (wTup (wCons (wVar 9) (wCons (wVar 6) (wCons (wVar 7) wNil)))))))
  wNext)
  (w_law_run_t1 K cl c_law_places c_law_do c_law_told_condition))
def w_law_run_t3 (K : Frag) (cl : Ad) (c_law_places c_law_do c_law_told_condition : Ct) : SW :=
  (wSeq (wAsgT (wFrz (wCall c_law_do (wCons (wVar 2) (wCons (wVar 3) (wCons (wVar 8) (wCons (wVar 4) wNil)))))) (gwTup 4 (gwCons (gwName 9) (gwCons (gwName 2) (gwCons (gwName 3) (gwCons (gwName 4) gwNil))))))
  (w_law_run_t2 K cl c_law_places c_law_do c_law_told_condition))
def w_law_run_t4 (K : Frag) (cl : Ad) (c_law_places c_law_do c_law_told_condition : Ct) : SW :=
  (wIfS (wTst (wOp fEq (wOp fIx (wVar 8) (wC (.s (.int 0)))) (wC (.s (.str "if")))))
  (wExt 5 (wRev (wIf (wTst (wCall c_law_told_condition (wCons (wVar 2) (wCons (wOp fIx (wVar 8) (wC (.s (.int 1)))) wNil)))) (wOp fIx (wVar 8) (wC (.s (.int 2)))) (wOp fIx (wVar 8) (wC (.s (.int 3)))))))
  (wSeq (wAppend 6 (wVar 8))
  (w_law_run_t3 K cl c_law_places c_law_do c_law_told_condition)))
def w_law_run_b5 (K : Frag) (cl : Ad) (c_law_places c_law_do c_law_told_condition : Ct) : SW :=
  (wSeq (wPop 5 (gwName 8))
  (w_law_run_t4 K cl c_law_places c_law_do c_law_told_condition))
def w_law_run_t6 (K : Frag) (cl : Ad) (c_law_places c_law_do c_law_told_condition : Ct) : SW :=
  (wFrzS 7 (wFrzS 6 (wRet (wTup (wCons (wC (.s (.str "end"))) (wCons (wVar 6) (wCons (wVar 7) wNil)))))))
def w_law_run_t7 (K : Frag) (cl : Ad) (c_law_places c_law_do c_law_told_condition : Ct) : SW :=
  (wSeq (wWhile (wTst (wOp fNe (wVar 5) (wLst wNil))) (w_law_run_b5 K cl c_law_places c_law_do c_law_told_condition))
  (w_law_run_t6 K cl c_law_places c_law_do c_law_told_condition))
def w_law_run_t8 (K : Frag) (cl : Ad) (c_law_places c_law_do c_law_told_condition : Ct) : SW :=
  (wSeq (wParN [4, 5, 6, 7] (wCons (wCall1 fMax1 (wCons (wOp fAdd (wLst (wCons (wC (.s (.int 0))) wNil)) (wCall c_law_places (wCons (wVar 1) wNil))) wNil)) (wCons (wCall1 fList (wCons (wRev (wVar 0)) wNil)) (wCons (wLst wNil) (wCons (wLst (wCons (wVar 1) wNil)) wNil)))))
  (w_law_run_t7 K cl c_law_places c_law_do c_law_told_condition))
def w_law_run (K : Frag) (cl : Ad) (c_law_places c_law_do c_law_told_condition : Ct) : SW :=
  (wSeq (wPar 2 3 (wOp fIx (wVar 1) (wC (.s (.int 0)))) (wCall1 fDict (wCons (wOp fIx (wVar 1) (wC (.s (.int 1)))) wNil)))
  (w_law_run_t8 K cl c_law_places c_law_do c_law_told_condition))
theorem ok_law_run (T : Txt K mg cl) {k : Nat} {c : Ct} {j_law_places : Nat} {c_law_places : Ct} (G_law_places : FnOk P wd K mg base (L2.CX P wd) j_law_places cl.f_law_places cl.d_law_places P_law_places (spD K c_law_places)) (h_law_places : j_law_places ≤ k) {j_law_do : Nat} {c_law_do : Ct} (G_law_do : FnOk P wd K mg base (L2.CX P wd) j_law_do cl.f_law_do cl.d_law_do P_law_do (spD K c_law_do)) (h_law_do : j_law_do ≤ k) {j_law_told_condition : Nat} {c_law_told_condition : Ct} (G_law_told_condition : FnOk P wd K mg base (L2.CX P wd) j_law_told_condition cl.f_law_told_condition cl.d_law_told_condition P_law_told_condition (spD K c_law_told_condition)) (h_law_told_condition : j_law_told_condition ≤ k) (hlen : ∀ rs Q E, c rs Q E → rs.length = P_law_run.length)
    (hw : ∀ rs Q E, c rs Q E → w_law_run K cl c_law_places c_law_do c_law_told_condition (rho N_law_run.length rs) { nx := fun _ => Q (.s .none), rt := Q, er := fun cls _ => E cls }) :
    FnOk P wd K mg base (L2.CX P wd) (k + 1) cl.f_law_run cl.d_law_run P_law_run (spD K c) :=
  fnD T.F_law_run sc_law_run hlen (fun cdv A outer s H E hr => by
  have tk := takes_of (X := cxOf (L2.CX P wd) P wd K mg base N_law_run "_law_run" (defScope s_law_run) cl.f_law_run cdv A outer s H E) rfl rfl rfl rfl
  exact (pds_cons (pds_par (i := 2) (j := 3) (ps_par rfl sc_law_run.nd rfl rfl (by decide) rfl rfl (pda_cons (pd_ix (o_ix hr.units) (pd_var (pv 1)) pd_int (fun _ _ => rfl)) (pda_cons (call_core (t := fun _ _ _ => True) (pe_callTy (c_dict rfl) (by rfl) T.n_dict (by decide +kernel) (pda_cons (pd_ix (o_ix hr.units) (pd_var (pv 1)) pd_int (fun _ _ => rfl)) pda_nil))) pda_nil)) (by rfl)))
  (pds_cons (pds_parT (is := [4, 5, 6, 7]) (by decide) (ps_asg (peN_tup (pda_cons (call_core (t := fun _ _ _ => True) (pe_callB (c_max1 rfl) (by rfl) T.n_max (by decide +kernel) (pda_cons (pd_op o_add (pd_lst (pda_cons pd_int pda_nil)) (pd_call (pe_callS G_law_places (hr.mono h_law_places) (by rfl) T.m_law_places T.F_law_places.kp T.b_law_places (fun σ => passAt tk σ) (pda_cons (pd_var (pv 1)) pda_nil)))) pda_nil))) (pda_cons (call_core (t := fun _ _ _ => True) (pe_callTy c_list (by rfl) T.n_list (by decide +kernel) (pda_cons (pd_rev (peN_rev (pd_var (pv 0)))) pda_nil))) (pda_cons (pd_lst pda_nil) (pda_cons (pd_lst (pda_cons (pd_var (pv 1)) pda_nil)) pda_nil))))) (pg_tup rfl (pgs_cons (pg_name (i := 4) sc_law_run.nd rfl (by first | exact Or.inl rfl | exact Or.inr rfl)) (pgs_cons (pg_name (i := 5) sc_law_run.nd rfl (by first | exact Or.inl rfl | exact Or.inr rfl)) (pgs_cons (pg_name (i := 6) sc_law_run.nd rfl (by first | exact Or.inl rfl | exact Or.inr rfl)) (pgs_cons (pg_name (i := 7) sc_law_run.nd rfl (by first | exact Or.inl rfl | exact Or.inr rfl)) pgs_nil)))))))
  (pds_cons (pds_while (passes_of rfl) (pdt_cmp (o_ne hr.units) (pd_var (pv 5)) (pd_lst pda_nil) (nomark _)) (pds_cons (pds_pop (i := 5) (ps_asg (pe_bm0 PySem.F.plainAttrs_list PySem.F.slot_list_pop PySem.F.type_list_pop mt_pop (pv 5)) (pgd_name (pg_name (i := 8) sc_law_run.nd rfl (by first | exact Or.inl rfl | exact Or.inr rfl)))))
  (pds_one (pds_if (pdt_cmp (o_eq hr.units) (pd_ix (o_ix hr.units) (pd_var (pv 8)) pd_int (fun _ _ => rfl)) pd_str (nomark _))
  (pds_one (pds_ext (i := 5) (ps_expr (pe_bm PySem.F.plainAttrs_list PySem.F.slot_list_extend PySem.F.type_list_extend mt_extB (pv 5) (pa_cons (pd_rev (peN_rev (pd_if (pdt_val (pd_call (pe_callS G_law_told_condition (hr.mono h_law_told_condition) (by rfl) T.m_law_told_condition T.F_law_told_condition.kp T.b_law_told_condition (fun σ => passAt tk σ) (pda_cons (pd_var (pv 2)) (pda_cons (pd_ix (o_ix hr.units) (pd_var (pv 8)) pd_int (fun _ _ => rfl)) pda_nil))))) (pd_ix (o_ix hr.units) (pd_var (pv 8)) pd_int (fun _ _ => rfl)) (pd_ix (o_ix hr.units) (pd_var (pv 8)) pd_int (fun _ _ => rfl))))) pa_nil)))))
  (pds_cons (pds_append (i := 6) (ps_expr (pe_bm PySem.F.plainAttrs_list PySem.F.slot_list_append PySem.F.type_list_append mt_append (pv 6) (pa_cons (pd_var (pv 8)) pa_nil))))
  (pds_cons (pds_asgT (ps_asg (pd_frz (pd_call (pe_callS G_law_do (hr.mono h_law_do) (by rfl) T.m_law_do T.F_law_do.kp T.b_law_do (fun σ => passAt tk σ) (pda_cons (pd_var (pv 2)) (pda_cons (pd_var (pv 3)) (pda_cons (pd_var (pv 8)) (pda_cons (pd_var (pv 4)) pda_nil))))))) (pgd_tup (pg_tup rfl (pgds_cons (pgs_cons (pgd_name (pg_name (i := 9) sc_law_run.nd rfl (by first | exact Or.inl rfl | exact Or.inr rfl))) (pgds_cons (pgs_cons (pgd_name (pg_name (i := 2) sc_law_run.nd rfl (by first | exact Or.inl rfl | exact Or.inr rfl))) (pgds_cons (pgs_cons (pgd_name (pg_name (i := 3) sc_law_run.nd rfl (by first | exact Or.inl rfl | exact Or.inr rfl))) (pgds_cons (pgs_cons (pgd_name (pg_name (i := 4) sc_law_run.nd rfl (by first | exact Or.inl rfl | exact Or.inr rfl))) pgds_nil))))))))))))
  (pds_cons (pds_if (pdt_cmp (o_ne hr.units) (pd_var (pv 9)) pd_str (nomark _))
  (pds_one (pds_frz (i := 7) (pds_frz (i := 6) (pds_ret (pd_tup (pda_cons (pd_var (pv 9)) (pda_cons (pd_var (pv 6)) (pda_cons (pd_var (pv 7)) pda_nil))))))))
  pds_nil)
  (pds_one (pds_append (i := 7) (ps_expr (pe_bm PySem.F.plainAttrs_list PySem.F.slot_list_append PySem.F.type_list_append mt_append (pv 7) (pa_cons (pd_tup (pda_cons (pd_var (pv 2)) (pda_cons (call_core (t := fun _ _ _ => True) (pe_callTy c_tuple (by rfl) T.n_tuple (by decide +kernel) (pda_cons (pd_sortIt (pe_callB (c_sortIt rfl hr.units) (by rfl) T.n_sorted (by decide +kernel) (pa_cons (pe_bm0 PySem.F.plainAttrs_dict PySem.F.slot_dict_items PySem.F.type_dict_items mt_itemsK (pd_var (pv 3))) pa_nil))) pda_nil))) pda_nil))) pa_nil))))))))))))
  (pds_one (pds_frz (i := 7) (pds_frz (i := 6) (pds_ret (pd_tup (pda_cons pd_str (pda_cons (pd_var (pv 6)) (pda_cons (pd_var (pv 7)) pda_nil)))))))))))) hw
def w_law_outcome (K : Frag) (cl : Ad) (c_law_run : Ct) : SW :=
  (wSeq (wAsgT (wFrz (wCall c_law_run (wCons (wVar 0) (wCons (wVar 1) wNil)))) (gwTup 3 (gwCons (gwName 2) (gwCons (gwName 3) (gwCons (gwName 4) gwNil)))))
  (wRet (wIf (wTst (wOp fEq (wVar 2) (wC (.s (.str "end"))))) (wTup (wCons (wC (.s (.str "end"))) (wCons (wOp fIx (wVar 4) (wUn fNeg (wC (.s (.int 1))))) wNil))) (wTup (wCons (wVar 2) (wCons (wFrz (wOp fSub (wCall1 fLen (wCons (wVar 3) wNil)) (wC (.s (.int 1))))) wNil))))))
theorem ok_law_outcome (T : Txt K mg cl) {k : Nat} {c : Ct} {j_law_run : Nat} {c_law_run : Ct} (G_law_run : FnOk P wd K mg base (L2.CX P wd) j_law_run cl.f_law_run cl.d_law_run P_law_run (spD K c_law_run)) (h_law_run : j_law_run ≤ k) (hlen : ∀ rs Q E, c rs Q E → rs.length = P_law_outcome.length)
    (hw : ∀ rs Q E, c rs Q E → w_law_outcome K cl c_law_run (rho N_law_outcome.length rs) { nx := fun _ => Q (.s .none), rt := Q, er := fun cls _ => E cls }) :
    FnOk P wd K mg base (L2.CX P wd) (k + 1) cl.f_law_outcome cl.d_law_outcome P_law_outcome (spD K c) :=
  fnD T.F_law_outcome sc_law_outcome hlen (fun cdv A outer s H E hr => by
  have tk := takes_of (X := cxOf (L2.CX P wd) P wd K mg base N_law_outcome "_law_outcome" (defScope s_law_outcome) cl.f_law_outcome cdv A outer s H E) rfl rfl rfl rfl
  exact (pds_cons (pds_asgT (ps_asg (pd_frz (pd_call (pe_callS G_law_run (hr.mono h_law_run) (by rfl) T.m_law_run T.F_law_run.kp T.b_law_run (fun σ => passAt tk σ) (pda_cons (pd_var (pv 0)) (pda_cons (pd_var (pv 1)) pda_nil))))) (pgd_tup (pg_tup rfl (pgds_cons (pgs_cons (pgd_name (pg_name (i := 2) sc_law_outcome.nd rfl (by first | exact Or.inl rfl | exact Or.inr rfl))) (pgds_cons (pgs_cons (pgd_name (pg_name (i := 3) sc_law_outcome.nd rfl (by first | exact Or.inl rfl | exact Or.inr rfl))) (pgds_cons (pgs_cons (pgd_name (pg_name (i := 4) sc_law_outcome.nd rfl (by first | exact Or.inl rfl | exact Or.inr rfl))) pgds_nil))))))))))
  (pds_one (pds_ret (pd_if (pdt_cmp (o_eq hr.units) (pd_var (pv 2)) pd_str (nomark _)) (pd_tup (pda_cons pd_str (pda_cons (pd_ix (o_ix hr.units) (pd_var (pv 4)) (pd_un o_neg pd_int) (fun _ _ => rfl)) pda_nil))) (pd_tup (pda_cons (pd_var (pv 2)) (pda_cons (pd_frz (pd_op o_sub (call_core (t := fun _ _ _ => True) (pe_callB c_len (by rfl) T.n_len (by decide +kernel) (pda_cons (pd_var (pv 3)) pda_nil))) pd_int)) pda_nil)))))))) hw
def w_law_loop_run_t1 (K : Frag) (cl : Ad) (c_law_told_condition c_law_outcome : Ct) : SW :=
  (wIfS (wTst (wOp fGt (wCall1 fLen (wCons (wOp fIx (wVar 1) (wC (.s (.int 1)))) wNil)) (wVar 3)))
  (wRet (wC (.s .none)))
  wNext)
def w_law_loop_run_t2 (K : Frag) (cl : Ad) (c_law_told_condition c_law_outcome : Ct) : SW :=
  (wSeq (wAsg 1 (wOp fIx (wVar 5) (wC (.s (.int 1)))))
  (w_law_loop_run_t1 K cl c_law_told_condition c_law_outcome))
def w_law_loop_run_t3 (K : Frag) (cl : Ad) (c_law_told_condition c_law_outcome : Ct) : SW :=
  (wSeq (wIfS (wTst (wOp fNe (wOp fIx (wVar 5) (wC (.s (.int 0)))) (wC (.s (.str "end")))))
  (wRet (wTup (wCons (wOp fIx (wVar 5) (wC (.s (.int 0)))) (wCons (wVar 1) (wCons (wFrz (wOp fAdd (wVar 4) (wC (.s (.int 1))))) wNil)))))
  wNext)
  (w_law_loop_run_t2 K cl c_law_told_condition c_law_outcome))
def w_law_loop_run_t4 (K : Frag) (cl : Ad) (c_law_told_condition c_law_outcome : Ct) : SW :=
  (wSeq (wAsg 5 (wCall c_law_outcome (wCons (wOp fIx (wVar 0) (wC (.s (.int 1)))) (wCons (wVar 1) wNil))))
  (w_law_loop_run_t3 K cl c_law_told_condition c_law_outcome))
def w_law_loop_run_t5 (K : Frag) (cl : Ad) (c_law_told_condition c_law_outcome : Ct) : SW :=
  (wSeq (wIfS (wTst (wOp fEq (wVar 4) (wVar 2)))
  wBreak
  wNext)
  (w_law_loop_run_t4 K cl c_law_told_condition c_law_outcome))
def w_law_loop_run_b6 (K : Frag) (cl : Ad) (c_law_told_condition c_law_outcome : Ct) : SW :=
  (wSeq (wIfS (wNotT (wTst (wCall c_law_told_condition (wCons (wOp fIx (wVar 1) (wC (.s (.int 0)))) (wCons (wOp fIx (wVar 0) (wC (.s (.int 0)))) wNil)))))
  (wRet (wTup (wCons (wC (.s (.str "end"))) (wCons (wVar 1) (wCons (wVar 4) wNil)))))
  wNext)
  (w_law_loop_run_t5 K cl c_law_told_condition c_law_outcome))
def w_law_loop_run_t7 (K : Frag) (cl : Ad) (c_law_told_condition c_law_outcome : Ct) : SW :=
  (wRet (wTup (wCons (wC (.s (.str "long"))) (wCons (wVar 1) (wCons (wVar 2) wNil)))))
def w_law_loop_run (K : Frag) (cl : Ad) (c_law_told_condition c_law_outcome : Ct) : SW :=
  (wSeq (wFor (wRange1 (wCons (wOp fAdd (wVar 2) (wC (.s (.int 1)))) wNil)) (gwName 4) (w_law_loop_run_b6 K cl c_law_told_condition c_law_outcome))
  (w_law_loop_run_t7 K cl c_law_told_condition c_law_outcome))
theorem ok_law_loop_run (T : Txt K mg cl) {k : Nat} {c : Ct} {j_law_told_condition : Nat} {c_law_told_condition : Ct} (G_law_told_condition : FnOk P wd K mg base (L2.CX P wd) j_law_told_condition cl.f_law_told_condition cl.d_law_told_condition P_law_told_condition (spD K c_law_told_condition)) (h_law_told_condition : j_law_told_condition ≤ k) {j_law_outcome : Nat} {c_law_outcome : Ct} (G_law_outcome : FnOk P wd K mg base (L2.CX P wd) j_law_outcome cl.f_law_outcome cl.d_law_outcome P_law_outcome (spD K c_law_outcome)) (h_law_outcome : j_law_outcome ≤ k) (hlen : ∀ rs Q E, c rs Q E → rs.length = P_law_loop_run.length)
    (hw : ∀ rs Q E, c rs Q E → w_law_loop_run K cl c_law_told_condition c_law_outcome (rho N_law_loop_run.length rs) { nx := fun _ => Q (.s .none), rt := Q, er := fun cls _ => E cls }) :
    FnOk P wd K mg base (L2.CX P wd) (k + 1) cl.f_law_loop_run cl.d_law_loop_run P_law_loop_run (spD K c) :=
  fnD T.F_law_loop_run sc_law_loop_run hlen (fun cdv A outer s H E hr => by
  have tk := takes_of (X := cxOf (L2.CX P wd) P wd K mg base N_law_loop_run "_law_loop_run" (defScope s_law_loop_run) cl.f_law_loop_run cdv A outer s H E) rfl rfl rfl rfl
  exact (pds_cons (pds_for (ps_for (passes_of rfl) rfl (pif_range1 (pi_range1 (by rfl) T.n_range (pda_cons (pd_op o_add (pd_var (pv 2)) pd_int) pda_nil))) (pgd_name (pg_name (i := 4) sc_law_loop_run.nd rfl (by first | exact Or.inl rfl | exact Or.inr rfl))) (pds_cons (pds_if (pdt_not (pdt_val (pd_call (pe_callS G_law_told_condition (hr.mono h_law_told_condition) (by rfl) T.m_law_told_condition T.F_law_told_condition.kp T.b_law_told_condition (fun σ => passAt tk σ) (pda_cons (pd_ix (o_ix hr.units) (pd_var (pv 1)) pd_int (fun _ _ => rfl)) (pda_cons (pd_ix (o_ix hr.units) (pd_var (pv 0)) pd_int (fun _ _ => rfl)) pda_nil))))))
  (pds_one (pds_ret (pd_tup (pda_cons pd_str (pda_cons (pd_var (pv 1)) (pda_cons (pd_var (pv 4)) pda_nil))))))
  pds_nil)
  (pds_cons (pds_if (pdt_cmp (o_eq hr.units) (pd_var (pv 4)) (pd_var (pv 2)) (nomark _))
  (pds_one pds_break)
  pds_nil)
  (pds_cons (pds_set (ps_set (i := 5) sc_law_loop_run.nd rfl (by first | exact Or.inl rfl | exact Or.inr rfl) (pd_call (pe_callS G_law_outcome (hr.mono h_law_outcome) (by rfl) T.m_law_outcome T.F_law_outcome.kp T.b_law_outcome (fun σ => passAt tk σ) (pda_cons (pd_ix (o_ix hr.units) (pd_var (pv 0)) pd_int (fun _ _ => rfl)) (pda_cons (pd_var (pv 1)) pda_nil))))))
  (pds_cons (pds_if (pdt_cmp (o_ne hr.units) (pd_ix (o_ix hr.units) (pd_var (pv 5)) pd_int (fun _ _ => rfl)) pd_str (nomark _))
  (pds_one (pds_ret (pd_tup (pda_cons (pd_ix (o_ix hr.units) (pd_var (pv 5)) pd_int (fun _ _ => rfl)) (pda_cons (pd_var (pv 1)) (pda_cons (pd_frz (pd_op o_add (pd_var (pv 4)) pd_int)) pda_nil))))))
  pds_nil)
  (pds_cons (pds_set (ps_set (i := 1) sc_law_loop_run.nd rfl (by first | exact Or.inl rfl | exact Or.inr rfl) (pd_ix (o_ix hr.units) (pd_var (pv 5)) pd_int (fun _ _ => rfl))))
  (pds_one (pds_if (pdt_cmp o_gt (call_core (t := fun _ _ _ => True) (pe_callB c_len (by rfl) T.n_len (by decide +kernel) (pda_cons (pd_ix (o_ix hr.units) (pd_var (pv 1)) pd_int (fun _ _ => rfl)) pda_nil))) (pd_var (pv 3)) (nomark _))
  (pds_one (pds_ret pd_non))
  pds_nil)))))))))
  (pds_one (pds_ret (pd_tup (pda_cons pd_str (pda_cons (pd_var (pv 1)) (pda_cons (pd_var (pv 2)) pda_nil)))))))) hw
def w_law_grown_t1 (K : Frag) (cl : Ad) (c_law_pick : Ct) : SW :=
  (wFrzS 10 (wRet (wTup (wCons (wTup (wCons (wTup (wCons (wC (.s (.str "same"))) (wCons (wC (.s (.int 1))) (wCons (wC (.s (.int 1))) wNil)))) (wCons (wFrz (wOp fAdd (wOp fMul (wVar 5) (wVar 3)) (wOp fMul (wVar 6) (wVar 4)))) wNil))) (wCons (wVar 9) (wCons (wVar 10) wNil))))))
def w_law_grown_t2 (K : Frag) (cl : Ad) (c_law_pick : Ct) : SW :=
  (wSeq (wIfS (wAndT (wTst (wOp fGt (wVar 3) (wVar 4))) (wTst (wOp fGt (wCall c_law_pick (wCons (wVar 0) (wCons (wC (.s (.int 3))) wNil))) (wC (.s (.int 0))))))
  (wAsg 10 (wOp fAdd (wOp fDiv (wOp fSub (wC (.s (.int 150))) (wVar 1)) (wOp fSub (wVar 3) (wVar 4))) (wCall c_law_pick (wCons (wVar 0) (wCons (wC (.s (.int 2))) wNil)))))
  wNext)
  (w_law_grown_t1 K cl c_law_pick))
def w_law_grown_t3 (K : Frag) (cl : Ad) (c_law_pick : Ct) : SW :=
  (wSeq (wAsg 10 (wCall c_law_pick (wCons (wVar 0) (wCons (wC (.s (.int 9))) wNil))))
  (w_law_grown_t2 K cl c_law_pick))
def w_law_grown_t4 (K : Frag) (cl : Ad) (c_law_pick : Ct) : SW :=
  (wSeq (wAsg 9 (wTup (wCons (wTup (wCons (wFrz (wOp fAdd (wVar 2) (wC (.s (.int 1))))) (wCons (wOp fIx (wLst (wCons (wC (.s (.int 0))) (wCons (wFrz (wOp fAdd (wVar 2) (wVar 1))) wNil))) (wCall c_law_pick (wCons (wVar 0) (wCons (wC (.s (.int 2))) wNil)))) wNil))) (wCons (wCall1 fTuple (wCons (wVar 7) wNil)) wNil))))
  (w_law_grown_t3 K cl c_law_pick))
def w_law_grown_t5 (K : Frag) (cl : Ad) (c_law_pick : Ct) : SW :=
  (wSeq (wAsg 7 (wOp fAdd (wLc (wRange2 (wCons (wC (.s (.int 1))) (wCons (wVar 1) wNil))) false [8] [8] wYes (wTup (wCons (wFrz (wOp fAdd (wVar 2) (wVar 8))) (wCons (wFrz (wOp fAdd (wOp fAdd (wVar 2) (wVar 8)) (wC (.s (.int 1))))) wNil)))) (wLst (wCons (wTup (wCons (wFrz (wOp fAdd (wVar 2) (wVar 1))) (wCons (wC (.s (.int 0))) wNil))) wNil))))
  (w_law_grown_t4 K cl c_law_pick))
def w_law_grown_t6 (K : Frag) (cl : Ad) (c_law_pick : Ct) : SW :=
  (wSeq (wAsg 6 (wTup (wCons (wTup (wCons (wC (.s (.str "follow"))) (wCons (wC (.s (.int 1))) (wCons (wC (.s (.int 0))) wNil)))) (wCons (wTup (wCons (wC (.s (.str "free"))) (wCons (wC (.s (.int 0))) wNil))) (wCons (wTup (wCons (wC (.s (.str "set"))) (wCons (wC (.s (.int 0))) (wCons (wC (.s (.int 1))) wNil)))) wNil)))))
  (w_law_grown_t5 K cl c_law_pick))
def w_law_grown_t7 (K : Frag) (cl : Ad) (c_law_pick : Ct) : SW :=
  (wSeq (wAsg 5 (wTup (wCons (wTup (wCons (wC (.s (.str "new"))) (wCons (wC (.s (.int 1))) wNil))) (wCons (wTup (wCons (wC (.s (.str "put"))) (wCons (wC (.s (.int 1))) (wCons (wC (.s (.int 0))) wNil)))) (wCons (wTup (wCons (wC (.s (.str "set"))) (wCons (wC (.s (.int 0))) (wCons (wC (.s (.int 1))) wNil)))) wNil)))))
  (w_law_grown_t6 K cl c_law_pick))
def w_law_grown_t8 (K : Frag) (cl : Ad) (c_law_pick : Ct) : SW :=
  (wSeq (wPar 3 4 (wOp fAdd (wC (.s (.int 1))) (wCall c_law_pick (wCons (wVar 0) (wCons (wC (.s (.int 4))) wNil)))) (wCall c_law_pick (wCons (wVar 0) (wCons (wC (.s (.int 3))) wNil))))
  (w_law_grown_t7 K cl c_law_pick))
def w_law_grown (K : Frag) (cl : Ad) (c_law_pick : Ct) : SW :=
  (wSeq (wParN [1, 2] (wCons (wOp fSub (wC (.s (.int 150))) (wCall c_law_pick (wCons (wVar 0) (wCons (wC (.s (.int 12))) wNil)))) (wCons (wOp fIx (wLst (wCons (wC (.s (.int 0))) (wCons (wC (.s (.int 999840))) wNil))) (wCall c_law_pick (wCons (wVar 0) (wCons (wC (.s (.int 2))) wNil)))) wNil)))
  (w_law_grown_t8 K cl c_law_pick))
theorem ok_law_grown (T : Txt K mg cl) {k : Nat} {c : Ct} {j_law_pick : Nat} {c_law_pick : Ct} (G_law_pick : FnOk P wd K mg base (L2.CX P wd) j_law_pick cl.f_law_pick cl.d_law_pick P_law_pick (spD K c_law_pick)) (h_law_pick : j_law_pick ≤ k) (hlen : ∀ rs Q E, c rs Q E → rs.length = P_law_grown.length)
    (hw : ∀ rs Q E, c rs Q E → w_law_grown K cl c_law_pick (rho N_law_grown.length rs) { nx := fun _ => Q (.s .none), rt := Q, er := fun cls _ => E cls }) :
    FnOk P wd K mg base (L2.CX P wd) (k + 1) cl.f_law_grown cl.d_law_grown P_law_grown (spD K c) :=
  fnD T.F_law_grown sc_law_grown hlen (fun cdv A outer s H E hr => by
  have tk := takes_of (X := cxOf (L2.CX P wd) P wd K mg base N_law_grown "_law_grown" (defScope s_law_grown) cl.f_law_grown cdv A outer s H E) rfl rfl rfl rfl
  exact (pds_cons (pds_parT (is := [1, 2]) (by decide) (ps_asg (peN_tup (pda_cons (pd_op o_sub pd_int (pd_call (pe_callS G_law_pick (hr.mono h_law_pick) (by rfl) T.m_law_pick T.F_law_pick.kp T.b_law_pick (fun σ => passAt tk σ) (pda_cons (pd_var (pv 0)) (pda_cons pd_int pda_nil))))) (pda_cons (pd_ix (o_ix hr.units) (pd_lst (pda_cons pd_int (pda_cons pd_int pda_nil))) (pd_call (pe_callS G_law_pick (hr.mono h_law_pick) (by rfl) T.m_law_pick T.F_law_pick.kp T.b_law_pick (fun σ => passAt tk σ) (pda_cons (pd_var (pv 0)) (pda_cons pd_int pda_nil)))) (fun _ _ => rfl)) pda_nil))) (pg_tup rfl (pgs_cons (pg_name (i := 1) sc_law_grown.nd rfl (by first | exact Or.inl rfl | exact Or.inr rfl)) (pgs_cons (pg_name (i := 2) sc_law_grown.nd rfl (by first | exact Or.inl rfl | exact Or.inr rfl)) pgs_nil)))))
  (pds_cons (pds_par (i := 3) (j := 4) (ps_par rfl sc_law_grown.nd rfl rfl (by decide) rfl rfl (pda_cons (pd_op o_add pd_int (pd_call (pe_callS G_law_pick (hr.mono h_law_pick) (by rfl) T.m_law_pick T.F_law_pick.kp T.b_law_pick (fun σ => passAt tk σ) (pda_cons (pd_var (pv 0)) (pda_cons pd_int pda_nil))))) (pda_cons (pd_call (pe_callS G_law_pick (hr.mono h_law_pick) (by rfl) T.m_law_pick T.F_law_pick.kp T.b_law_pick (fun σ => passAt tk σ) (pda_cons (pd_var (pv 0)) (pda_cons pd_int pda_nil)))) pda_nil)) (by rfl)))
  (pds_cons (pds_set (ps_set (i := 5) sc_law_grown.nd rfl (by first | exact Or.inl rfl | exact Or.inr rfl) (pd_tup (pda_cons (pd_tup (pda_cons pd_str (pda_cons pd_int pda_nil))) (pda_cons (pd_tup (pda_cons pd_str (pda_cons pd_int (pda_cons pd_int pda_nil)))) (pda_cons (pd_tup (pda_cons pd_str (pda_cons pd_int (pda_cons pd_int pda_nil)))) pda_nil))))))
  (pds_cons (pds_set (ps_set (i := 6) sc_law_grown.nd rfl (by first | exact Or.inl rfl | exact Or.inr rfl) (pd_tup (pda_cons (pd_tup (pda_cons pd_str (pda_cons pd_int (pda_cons pd_int pda_nil)))) (pda_cons (pd_tup (pda_cons pd_str (pda_cons pd_int pda_nil))) (pda_cons (pd_tup (pda_cons pd_str (pda_cons pd_int (pda_cons pd_int pda_nil)))) pda_nil))))))
  (pds_cons (pds_set (ps_set (i := 7) sc_law_grown.nd rfl (by first | exact Or.inl rfl | exact Or.inr rfl) (pd_op o_add (pd_lc (tup := false) (is := [8]) (pe_lc (own := [("k", 8)]) (g := gC K false [8]) rfl sc_law_grown.nd (pic_range2 (pi_range2 (by rfl) T.n_range (pda_cons pd_int (pda_cons (pd_var (pv 1)) pda_nil)))) (blkOk_by (own := [("k", 8)]) (N := N_law_grown) (sc := defScope s_law_grown) (by decide +kernel)) (fun _ _ _ _ _ => (pg_name (i := 8) sc_law_grown.nd rfl (by first | exact Or.inl rfl | exact Or.inr rfl))) (fun _ _ _ _ _ => pdts_nil) (fun _ _ _ _ _ => (pd_tup (pda_cons (pd_frz (pd_op o_add (pd_var (pv 2)) (pd_var (pv 8)))) (pda_cons (pd_frz (pd_op o_add (pd_op o_add (pd_var (pv 2)) (pd_var (pv 8))) pd_int)) pda_nil))))) (by decide) (by first | exact Or.inl rfl | exact Or.inr ⟨_, rfl⟩)) (pd_lst (pda_cons (pd_tup (pda_cons (pd_frz (pd_op o_add (pd_var (pv 2)) (pd_var (pv 1)))) (pda_cons pd_int pda_nil))) pda_nil)))))
  (pds_cons (pds_set (ps_set (i := 9) sc_law_grown.nd rfl (by first | exact Or.inl rfl | exact Or.inr rfl) (pd_tup (pda_cons (pd_tup (pda_cons (pd_frz (pd_op o_add (pd_var (pv 2)) pd_int)) (pda_cons (pd_ix (o_ix hr.units) (pd_lst (pda_cons pd_int (pda_cons (pd_frz (pd_op o_add (pd_var (pv 2)) (pd_var (pv 1)))) pda_nil))) (pd_call (pe_callS G_law_pick (hr.mono h_law_pick) (by rfl) T.m_law_pick T.F_law_pick.kp T.b_law_pick (fun σ => passAt tk σ) (pda_cons (pd_var (pv 0)) (pda_cons pd_int pda_nil)))) (fun _ _ => rfl)) pda_nil))) (pda_cons (call_core (t := fun _ _ _ => True) (pe_callTy c_tuple (by rfl) T.n_tuple (by decide +kernel) (pda_cons (pd_var (pv 7)) pda_nil))) pda_nil)))))
  (pds_cons (pds_set (ps_set (i := 10) sc_law_grown.nd rfl (by first | exact Or.inl rfl | exact Or.inr rfl) (pd_call (pe_callS G_law_pick (hr.mono h_law_pick) (by rfl) T.m_law_pick T.F_law_pick.kp T.b_law_pick (fun σ => passAt tk σ) (pda_cons (pd_var (pv 0)) (pda_cons pd_int pda_nil))))))
  (pds_cons (pds_if (pdt_w (pdw_and (pdt_cmp o_gt (pd_var (pv 3)) (pd_var (pv 4)) (nomark _)) (pdw_and1 (pdt_cmp o_gt (pd_call (pe_callS G_law_pick (hr.mono h_law_pick) (by rfl) T.m_law_pick T.F_law_pick.kp T.b_law_pick (fun σ => passAt tk σ) (pda_cons (pd_var (pv 0)) (pda_cons pd_int pda_nil)))) pd_int (nomark _)))))
  (pds_one (pds_set (ps_set (i := 10) sc_law_grown.nd rfl (by first | exact Or.inl rfl | exact Or.inr rfl) (pd_op o_add (pd_op o_div (pd_op o_sub pd_int (pd_var (pv 1))) (pd_op o_sub (pd_var (pv 3)) (pd_var (pv 4)))) (pd_call (pe_callS G_law_pick (hr.mono h_law_pick) (by rfl) T.m_law_pick T.F_law_pick.kp T.b_law_pick (fun σ => passAt tk σ) (pda_cons (pd_var (pv 0)) (pda_cons pd_int pda_nil))))))))
  pds_nil)
  (pds_one (pds_frz (i := 10) (pds_ret (pd_tup (pda_cons (pd_tup (pda_cons (pd_tup (pda_cons pd_str (pda_cons pd_int (pda_cons pd_int pda_nil)))) (pda_cons (pd_frz (pd_op o_add (pd_op o_mul (pd_var (pv 5)) (pd_var (pv 3))) (pd_op o_mul (pd_var (pv 6)) (pd_var (pv 4))))) pda_nil))) (pda_cons (pd_var (pv 9)) (pda_cons (pd_var (pv 10)) pda_nil)))))))))))))))) hw
def w_law_right_run (K : Frag) (cl : Ad) (c_run_loop c_law_same c_law_loop_run : Ct) : SW :=
  (wSeq (wPar 4 5 (wCall c_law_loop_run (wCons (wVar 1) (wCons (wVar 2) (wCons (wVar 3) (wCons (wC (.s (.int 150))) wNil))))) (wC (.s .none)))
  (wSeq (wTry K (wAsg 5 (wCall c_run_loop (wCons (wVar 0) (wCons (wVar 1) (wCons (wVar 2) (wCons (wVar 3) wNil)))))) [(.ref cl.c_TooGreat, (wAsg 5 (wC (.s .none))))])
  (wRet (wIf (wTst (wOp (fIs false) (wVar 4) (wC (.s .none)))) (wOp (fIs false) (wVar 5) (wC (.s .none))) (wCall c_law_same (wCons (wVar 5) (wCons (wVar 4) wNil)))))))
theorem ok_law_right_run (T : Txt K mg cl) {k : Nat} {c : Ct} {j_run_loop : Nat} {c_run_loop : Ct} (G_run_loop : FnOk P wd K mg base (L2.CX P wd) j_run_loop cl.f_run_loop cl.d_run_loop P_run_loop (spD K c_run_loop)) (h_run_loop : j_run_loop ≤ k) {j_law_same : Nat} {c_law_same : Ct} (G_law_same : FnOk P wd K mg base (L2.CX P wd) j_law_same cl.f_law_same cl.d_law_same P_law_same (spD K c_law_same)) (h_law_same : j_law_same ≤ k) {j_law_loop_run : Nat} {c_law_loop_run : Ct} (G_law_loop_run : FnOk P wd K mg base (L2.CX P wd) j_law_loop_run cl.f_law_loop_run cl.d_law_loop_run P_law_loop_run (spD K c_law_loop_run)) (h_law_loop_run : j_law_loop_run ≤ k) (hlen : ∀ rs Q E, c rs Q E → rs.length = P_law_right_run.length)
    (hw : ∀ rs Q E, c rs Q E → w_law_right_run K cl c_run_loop c_law_same c_law_loop_run (rho N_law_right_run.length rs) { nx := fun _ => Q (.s .none), rt := Q, er := fun cls _ => E cls }) :
    FnOk P wd K mg base (L2.CX P wd) (k + 1) cl.f_law_right_run cl.d_law_right_run P_law_right_run (spD K c) :=
  fnD T.F_law_right_run sc_law_right_run hlen (fun cdv A outer s H E hr => by
  have tk := takes_of (X := cxOf (L2.CX P wd) P wd K mg base N_law_right_run "_law_right_run" (defScope s_law_right_run) cl.f_law_right_run cdv A outer s H E) rfl rfl rfl rfl
  exact (pds_cons (pds_par (i := 4) (j := 5) (ps_par rfl sc_law_right_run.nd rfl rfl (by decide) rfl rfl (pda_cons (pd_call (pe_callS G_law_loop_run (hr.mono h_law_loop_run) (by rfl) T.m_law_loop_run T.F_law_loop_run.kp T.b_law_loop_run (fun σ => passAt tk σ) (pda_cons (pd_var (pv 1)) (pda_cons (pd_var (pv 2)) (pda_cons (pd_var (pv 3)) (pda_cons pd_int pda_nil)))))) (pda_cons pd_non pda_nil)) (by rfl)))
  (pds_cons (pds_try (hs := [(.ref cl.c_TooGreat, (wAsg 5 (wC (.s .none))))]) rfl rfl tk (fun W' pn xe tk' _ => (pds_one (pds_set (ps_set (i := 5) sc_law_right_run.nd rfl (by first | exact Or.inl rfl | exact Or.inr rfl) (pd_call (pe_callS G_run_loop (hr.mono h_run_loop) (by rfl) T.m_run_loop T.F_run_loop.kp T.b_run_loop (fun σ => passAt tk' σ) (pda_cons (pd_var (pv 0)) (pda_cons (pd_var (pv 1)) (pda_cons (pd_var (pv 2)) (pda_cons (pd_var (pv 3)) pda_nil)))))))))) (HdsOk.cons (ts := fun _ _ _ => TDs K W0 (wAsg 5 (wC (.s .none)))) ⟨rfl, by decide, .inl T.g_TooGreat⟩ (fun _ _ _ _ _ _ _ => (pds_one (pds_set (ps_set (i := 5) sc_law_right_run.nd rfl (by first | exact Or.inl rfl | exact Or.inr rfl) pd_non)))) HdsOk.nil))
  (pds_one (pds_ret (pd_if (pdt_cmp o_is (pd_var (pv 4)) pd_non (nomark _)) (pd_cmp o_is (pd_var (pv 5)) pd_non (nomark _)) (pd_call (pe_callS G_law_same (hr.mono h_law_same) (by rfl) T.m_law_same T.F_law_same.kp T.b_law_same (fun σ => passAt tk σ) (pda_cons (pd_var (pv 5)) (pda_cons (pd_var (pv 4)) pda_nil)))))))))) hw
def w_law_refused (K : Frag) (cl : Ad) (c_run_loop : Ct) : SW :=
  (wSeq (wAsg 4 (wC (.s (.str "none"))))
  (wSeq (wTry K (wExpr (wCall c_run_loop (wCons (wVar 0) (wCons (wVar 1) (wCons (wVar 2) (wCons (wVar 3) wNil)))))) [(.ref cl.c_BadMany, (wAsg 4 (wC (.s (.str "many"))))), (.ref cl.c_BadLoop, (wAsg 4 (wC (.s (.str "loop"))))), (.ref cl.c_BadState, (wAsg 4 (wC (.s (.str "state"))))), (.ref cl.c_BadMost, (wAsg 4 (wC (.s (.str "most")))))])
  (wRetS 4)))
theorem ok_law_refused (T : Txt K mg cl) {k : Nat} {c : Ct} {j_run_loop : Nat} {c_run_loop : Ct} (G_run_loop : FnOk P wd K mg base (L2.CX P wd) j_run_loop cl.f_run_loop cl.d_run_loop P_run_loop (spD K c_run_loop)) (h_run_loop : j_run_loop ≤ k) (hlen : ∀ rs Q E, c rs Q E → rs.length = P_law_refused.length)
    (hw : ∀ rs Q E, c rs Q E → w_law_refused K cl c_run_loop (rho N_law_refused.length rs) { nx := fun _ => Q (.s .none), rt := Q, er := fun cls _ => E cls }) :
    FnOk P wd K mg base (L2.CX P wd) (k + 1) cl.f_law_refused cl.d_law_refused P_law_refused (spD K c) :=
  fnD T.F_law_refused sc_law_refused hlen (fun cdv A outer s H E hr => by
  have tk := takes_of (X := cxOf (L2.CX P wd) P wd K mg base N_law_refused "_law_refused" (defScope s_law_refused) cl.f_law_refused cdv A outer s H E) rfl rfl rfl rfl
  exact (pds_cons (pds_set (ps_set (i := 4) sc_law_refused.nd rfl (by first | exact Or.inl rfl | exact Or.inr rfl) pd_str))
  (pds_cons (pds_try (hs := [(.ref cl.c_BadMany, (wAsg 4 (wC (.s (.str "many"))))), (.ref cl.c_BadLoop, (wAsg 4 (wC (.s (.str "loop"))))), (.ref cl.c_BadState, (wAsg 4 (wC (.s (.str "state"))))), (.ref cl.c_BadMost, (wAsg 4 (wC (.s (.str "most")))))]) rfl rfl tk (fun W' pn xe tk' _ => (pds_one (pds_expr (ps_expr (pd_call (pe_callKA G_run_loop (hr.mono h_run_loop) (by rfl) T.m_run_loop T.F_run_loop.kp T.bk_run_loop (fun σ => passAt tk' σ) (pdk_cons (pd_var (pv 0)) (pdk_cons (pd_var (pv 1)) (pdk_cons (pd_var (pv 2)) (pdk_cons (pd_var (pv 3)) pdk_nil)))))))))) (HdsOk.cons (ts := fun _ _ _ => TDs K W0 (wAsg 4 (wC (.s (.str "many"))))) ⟨rfl, by decide, .inl T.g_BadMany⟩ (fun _ _ _ _ _ _ _ => (pds_one (pds_set (ps_set (i := 4) sc_law_refused.nd rfl (by first | exact Or.inl rfl | exact Or.inr rfl) pd_str)))) (HdsOk.cons (ts := fun _ _ _ => TDs K W0 (wAsg 4 (wC (.s (.str "loop"))))) ⟨rfl, by decide, .inl T.g_BadLoop⟩ (fun _ _ _ _ _ _ _ => (pds_one (pds_set (ps_set (i := 4) sc_law_refused.nd rfl (by first | exact Or.inl rfl | exact Or.inr rfl) pd_str)))) (HdsOk.cons (ts := fun _ _ _ => TDs K W0 (wAsg 4 (wC (.s (.str "state"))))) ⟨rfl, by decide, .inl T.g_BadState⟩ (fun _ _ _ _ _ _ _ => (pds_one (pds_set (ps_set (i := 4) sc_law_refused.nd rfl (by first | exact Or.inl rfl | exact Or.inr rfl) pd_str)))) (HdsOk.cons (ts := fun _ _ _ => TDs K W0 (wAsg 4 (wC (.s (.str "most"))))) ⟨rfl, by decide, .inl T.g_BadMost⟩ (fun _ _ _ _ _ _ _ => (pds_one (pds_set (ps_set (i := 4) sc_law_refused.nd rfl (by first | exact Or.inl rfl | exact Or.inr rfl) pd_str)))) HdsOk.nil)))))
  (pds_one (pds_retS (i := 4) (ps_ret (pv 4))))))) hw
def w_law_bad_many (K : Frag) (cl : Ad) (c_is_loop : Ct) : SW :=
  (wSeq (wAsg 1 (wC (.s (.bool false))))
  (wSeq (wTry K (wExpr (wCall c_is_loop (wCons (wVar 0) (wCons (wTup (wCons (wTup (wCons (wC (.s (.str "same"))) (wCons (wUn fNeg (wC (.s (.int 1)))) (wCons (wUn fNeg (wC (.s (.int 1)))) wNil)))) (wCons (wTup wNil) wNil))) wNil)))) [(.ref cl.c_BadMany, (wAsg 1 (wC (.s (.bool true)))))])
  (wRetS 1)))
theorem ok_law_bad_many (T : Txt K mg cl) {k : Nat} {c : Ct} {j_is_loop : Nat} {c_is_loop : Ct} (G_is_loop : FnOk P wd K mg base (L2.CX P wd) j_is_loop cl.f_is_loop cl.d_is_loop P_is_loop (spD K c_is_loop)) (h_is_loop : j_is_loop ≤ k) (hlen : ∀ rs Q E, c rs Q E → rs.length = P_law_bad_many.length)
    (hw : ∀ rs Q E, c rs Q E → w_law_bad_many K cl c_is_loop (rho N_law_bad_many.length rs) { nx := fun _ => Q (.s .none), rt := Q, er := fun cls _ => E cls }) :
    FnOk P wd K mg base (L2.CX P wd) (k + 1) cl.f_law_bad_many cl.d_law_bad_many P_law_bad_many (spD K c) :=
  fnD T.F_law_bad_many sc_law_bad_many hlen (fun cdv A outer s H E hr => by
  have tk := takes_of (X := cxOf (L2.CX P wd) P wd K mg base N_law_bad_many "_law_bad_many" (defScope s_law_bad_many) cl.f_law_bad_many cdv A outer s H E) rfl rfl rfl rfl
  exact (pds_cons (pds_set (ps_set (i := 1) sc_law_bad_many.nd rfl (by first | exact Or.inl rfl | exact Or.inr rfl) pd_bl))
  (pds_cons (pds_try (hs := [(.ref cl.c_BadMany, (wAsg 1 (wC (.s (.bool true)))))]) rfl rfl tk (fun W' pn xe tk' _ => (pds_one (pds_expr (ps_expr (pd_call (pe_callS G_is_loop (hr.mono h_is_loop) (by rfl) T.m_is_loop T.F_is_loop.kp T.b_is_loop (fun σ => passAt tk' σ) (pda_cons (pd_var (pv 0)) (pda_cons (pd_tup (pda_cons (pd_tup (pda_cons pd_str (pda_cons (pd_un o_neg pd_int) (pda_cons (pd_un o_neg pd_int) pda_nil)))) (pda_cons (pd_tup pda_nil) pda_nil))) pda_nil)))))))) (HdsOk.cons (ts := fun _ _ _ => TDs K W0 (wAsg 1 (wC (.s (.bool true))))) ⟨rfl, by decide, .inl T.g_BadMany⟩ (fun _ _ _ _ _ _ _ => (pds_one (pds_set (ps_set (i := 1) sc_law_bad_many.nd rfl (by first | exact Or.inl rfl | exact Or.inr rfl) pd_bl)))) HdsOk.nil))
  (pds_one (pds_retS (i := 1) (ps_ret (pv 1))))))) hw
def w_law_none_b1 (K : Frag) (cl : Ad) : SW :=
  (wAsg 5 (wTup (wCons (wTup (wCons (wC (.s (.str "if"))) (wCons (wVar 2) (wCons (wVar 5) (wCons (wTup wNil) wNil))))) wNil)))
def w_law_none_t2 (K : Frag) (cl : Ad) : SW :=
  (wRet (wOp fAdd (wVar 4) (wLst (wCons (wTup (wCons (wVar 2) (wCons (wVar 5) wNil))) (wCons (wTup (wCons (wVar 2) (wCons (wTup (wCons (wVar 7) (wCons (wTup (wCons (wC (.s (.str "new"))) (wCons (wC (.s (.int 0))) wNil))) wNil))) wNil))) (wCons (wTup (wCons (wVar 2) (wCons (wTup (wCons (wTup (wCons (wC (.s (.str "if"))) (wCons (wVar 2) (wCons (wFrz (wOp fMul (wTup (wCons (wTup (wCons (wC (.s (.str "new"))) (wCons (wC (.s (.int 0))) wNil))) wNil)) (wC (.s (.int 12))))) (wCons (wFrz (wOp fMul (wTup (wCons (wTup (wCons (wC (.s (.str "new"))) (wCons (wC (.s (.int 0))) wNil))) wNil)) (wC (.s (.int 12))))) wNil))))) wNil)) wNil))) wNil))))))
def w_law_none_t3 (K : Frag) (cl : Ad) : SW :=
  (wSeq (wAsg 7 (wTup (wCons (wC (.s (.str "if"))) (wCons (wVar 2) (wCons (wFrz (wOp fMul (wTup (wCons (wTup (wCons (wC (.s (.str "new"))) (wCons (wC (.s (.int 0))) wNil))) wNil)) (wC (.s (.int 11))))) (wCons (wFrz (wOp fMul (wTup (wCons (wTup (wCons (wC (.s (.str "new"))) (wCons (wC (.s (.int 0))) wNil))) wNil)) (wC (.s (.int 12))))) wNil))))))
  (w_law_none_t2 K cl))
def w_law_none_t4 (K : Frag) (cl : Ad) : SW :=
  (wSeq (wFor (wRange1 (wCons (wC (.s (.int 5))) wNil)) (gwName 6) (w_law_none_b1 K cl))
  (w_law_none_t3 K cl))
def w_law_none_t5 (K : Frag) (cl : Ad) : SW :=
  (wSeq (wAsg 5 (wTup (wCons (wTup (wCons (wC (.s (.str "free"))) (wCons (wC (.s (.int 0))) wNil))) wNil)))
  (w_law_none_t4 K cl))
def w_law_none_t6 (K : Frag) (cl : Ad) : SW :=
  (wSeq (wExt 4 (wLst (wCons (wTup (wCons (wVar 2) (wCons (wFrz (wOp fMul (wTup (wCons (wTup (wCons (wC (.s (.str "new"))) (wCons (wC (.s (.int 0))) wNil))) wNil)) (wC (.s (.int 25))))) wNil))) (wCons (wTup (wCons (wVar 2) (wCons (wTup (wCons (wTup (wCons (wC (.s (.str "put"))) (wCons (wC (.s (.int 0))) (wCons (wC (.s (.bool true))) wNil)))) wNil)) wNil))) (wCons (wTup (wCons (wVar 2) (wCons (wTup (wCons (wTup (wCons (wC (.s (.str "if"))) (wCons (wVar 2) (wCons (wTup wNil) (wCons (wTup wNil) (wCons (wTup wNil) wNil)))))) wNil)) wNil))) wNil)))))
  (w_law_none_t5 K cl))
def w_law_none_t7 (K : Frag) (cl : Ad) : SW :=
  (wSeq (wExt 4 (wLst (wCons (wTup (wCons (wVar 2) (wCons (wTup (wCons (wTup (wCons (wC (.s (.str "new"))) (wCons (wVar 0) wNil))) wNil)) wNil))) (wCons (wTup (wCons (wVar 2) (wCons (wTup (wCons (wTup (wCons (wC (.s (.str "new"))) (wCons (wC (.s (.int 0))) (wCons (wC (.s (.int 0))) wNil)))) wNil)) wNil))) (wCons (wTup (wCons (wVar 2) (wCons (wTup (wCons (wTup (wCons (wC (.s (.str "follow"))) (wCons (wC (.s (.int 0))) (wCons (wUn fNeg (wC (.s (.int 1)))) wNil)))) wNil)) wNil))) (wCons (wTup (wCons (wVar 2) (wCons (wTup (wCons (wTup (wCons (wC (.s (.str "set"))) (wCons (wUn fNeg (wC (.s (.int 1)))) (wCons (wC (.s (.int 0))) wNil)))) wNil)) wNil))) wNil))))))
  (w_law_none_t6 K cl))
def w_law_none_t8 (K : Frag) (cl : Ad) : SW :=
  (wSeq (wExt 4 (wLst (wCons (wTup (wCons (wTup (wCons (wC (.s (.str "same"))) (wCons (wVar 0) (wCons (wUn fNeg (wC (.s (.int 1)))) wNil)))) (wCons (wVar 3) wNil))) (wCons (wTup (wCons (wTup (wCons (wC (.s (.str "same"))) (wCons (wUn fNeg (wC (.s (.int 1)))) (wCons (wUn fNeg (wC (.s (.int 2)))) wNil)))) (wCons (wVar 3) wNil))) (wCons (wTup (wCons (wTup (wCons (wC (.s (.str "unlike"))) (wCons (wC (.s (.bool false))) (wCons (wUn fNeg (wC (.s (.int 1)))) wNil)))) (wCons (wVar 3) wNil))) (wCons (wTup (wCons (wVar 2) (wCons (wTup (wCons (wTup wNil) wNil)) wNil))) wNil))))))
  (w_law_none_t7 K cl))
def w_law_none_t9 (K : Frag) (cl : Ad) : SW :=
  (wSeq (wExt 4 (wLst (wCons (wTup (wCons (wFrz (wOp fAdd (wTup (wCons (wC (.s (.str "alike"))) wNil)) (wSl (wVar 2) (wOSome (wC (.s (.int 1)))) wONone))) (wCons (wVar 3) wNil))) (wCons (wTup (wCons (wFrz (wSl (wVar 2) wONone (wOSome (wC (.s (.int 2)))))) (wCons (wVar 3) wNil))) (wCons (wTup (wCons (wFrz (wOp fAdd (wVar 2) (wTup (wCons (wC (.s (.int 0))) wNil)))) (wCons (wVar 3) wNil))) (wCons (wTup (wCons (wC (.s .none)) (wCons (wVar 3) wNil))) (wCons (wTup (wCons (wVar 2) (wCons (wC (.s .none)) wNil))) wNil)))))))
  (w_law_none_t8 K cl))
def w_law_none_t10 (K : Frag) (cl : Ad) : SW :=
  (wSeq (wAsg 4 (wLst (wCons (wC (.s .none)) (wCons (wC (.s (.int 7))) (wCons (wC (.s (.str "loop"))) (wCons (wTup wNil) (wCons (wFrz (wSl (wVar 1) wONone (wOSome (wC (.s (.int 1)))))) (wCons (wFrz (wOp fAdd (wVar 1) (wTup (wCons (wTup wNil) wNil)))) (wCons (wFrz (wCall1 fList (wCons (wVar 1) wNil))) (wCons (wTup (wCons (wFrz (wCall1 fList (wCons (wVar 2) wNil))) (wCons (wVar 3) wNil))) (wCons (wTup (wCons (wVar 2) (wCons (wFrz (wCall1 fList (wCons (wVar 3) wNil))) wNil))) (wCons (wTup (wCons (wVar 3) (wCons (wVar 2) wNil))) wNil))))))))))))
  (w_law_none_t9 K cl))
def w_law_none (K : Frag) (cl : Ad) : SW :=
  (wSeq (wAsgT (wVar 1) (gwTup 2 (gwCons (gwName 2) (gwCons (gwName 3) gwNil))))
  (w_law_none_t10 K cl))
theorem ok_law_none (T : Txt K mg cl) {k : Nat} {c : Ct} (hlen : ∀ rs Q E, c rs Q E → rs.length = P_law_none.length)
    (hw : ∀ rs Q E, c rs Q E → w_law_none K cl (rho N_law_none.length rs) { nx := fun _ => Q (.s .none), rt := Q, er := fun cls _ => E cls }) :
    FnOk P wd K mg base (L2.CX P wd) (k + 1) cl.f_law_none cl.d_law_none P_law_none (spD K c) :=
  fnD T.F_law_none sc_law_none hlen (fun cdv A outer s H E hr => by
  have tk := takes_of (X := cxOf (L2.CX P wd) P wd K mg base N_law_none "_law_none" (defScope s_law_none) cl.f_law_none cdv A outer s H E) rfl rfl rfl rfl
  exact (pds_cons (pds_asgT (ps_asg (pd_var (pv 1)) (pgd_tup (pg_tup rfl (pgds_cons (pgs_cons (pgd_name (pg_name (i := 2) sc_law_none.nd rfl (by first | exact Or.inl rfl | exact Or.inr rfl))) (pgds_cons (pgs_cons (pgd_name (pg_name (i := 3) sc_law_none.nd rfl (by first | exact Or.inl rfl | exact Or.inr rfl))) pgds_nil))))))))
  (pds_cons (pds_set (ps_set (i := 4) sc_law_none.nd rfl (by first | exact Or.inl rfl | exact Or.inr rfl) (pd_lst (pda_cons pd_non (pda_cons pd_int (pda_cons pd_str (pda_cons (pd_tup pda_nil) (pda_cons (pd_frz (pd_sl (pe_slice o_sl (pd_var (pv 1)) pdo_none (pdo_some pd_int)))) (pda_cons (pd_frz (pd_op o_add (pd_var (pv 1)) (pd_tup (pda_cons (pd_tup pda_nil) pda_nil)))) (pda_cons (pd_frz (call_core (t := fun _ _ _ => True) (pe_callTy c_list (by rfl) T.n_list (by decide +kernel) (pda_cons (pd_var (pv 1)) pda_nil)))) (pda_cons (pd_tup (pda_cons (pd_frz (call_core (t := fun _ _ _ => True) (pe_callTy c_list (by rfl) T.n_list (by decide +kernel) (pda_cons (pd_var (pv 2)) pda_nil)))) (pda_cons (pd_var (pv 3)) pda_nil))) (pda_cons (pd_tup (pda_cons (pd_var (pv 2)) (pda_cons (pd_frz (call_core (t := fun _ _ _ => True) (pe_callTy c_list (by rfl) T.n_list (by decide +kernel) (pda_cons (pd_var (pv 3)) pda_nil)))) pda_nil))) (pda_cons (pd_tup (pda_cons (pd_var (pv 3)) (pda_cons (pd_var (pv 2)) pda_nil))) pda_nil)))))))))))))
  (pds_cons (pds_ext (i := 4) (ps_expr (pe_bm PySem.F.plainAttrs_list PySem.F.slot_list_extend PySem.F.type_list_extend mt_extB (pv 4) (pa_cons (pd_lst (pda_cons (pd_tup (pda_cons (pd_frz (pd_op o_add (pd_tup (pda_cons pd_str pda_nil)) (pd_sl (pe_slice o_sl (pd_var (pv 2)) (pdo_some pd_int) pdo_none)))) (pda_cons (pd_var (pv 3)) pda_nil))) (pda_cons (pd_tup (pda_cons (pd_frz (pd_sl (pe_slice o_sl (pd_var (pv 2)) pdo_none (pdo_some pd_int)))) (pda_cons (pd_var (pv 3)) pda_nil))) (pda_cons (pd_tup (pda_cons (pd_frz (pd_op o_add (pd_var (pv 2)) (pd_tup (pda_cons pd_int pda_nil)))) (pda_cons (pd_var (pv 3)) pda_nil))) (pda_cons (pd_tup (pda_cons pd_non (pda_cons (pd_var (pv 3)) pda_nil))) (pda_cons (pd_tup (pda_cons (pd_var (pv 2)) (pda_cons pd_non pda_nil))) pda_nil)))))) pa_nil))))
  (pds_cons (pds_ext (i := 4) (ps_expr (pe_bm PySem.F.plainAttrs_list PySem.F.slot_list_extend PySem.F.type_list_extend mt_extB (pv 4) (pa_cons (pd_lst (pda_cons (pd_tup (pda_cons (pd_tup (pda_cons pd_str (pda_cons (pd_var (pv 0)) (pda_cons (pd_un o_neg pd_int) pda_nil)))) (pda_cons (pd_var (pv 3)) pda_nil))) (pda_cons (pd_tup (pda_cons (pd_tup (pda_cons pd_str (pda_cons (pd_un o_neg pd_int) (pda_cons (pd_un o_neg pd_int) pda_nil)))) (pda_cons (pd_var (pv 3)) pda_nil))) (pda_cons (pd_tup (pda_cons (pd_tup (pda_cons pd_str (pda_cons pd_bl (pda_cons (pd_un o_neg pd_int) pda_nil)))) (pda_cons (pd_var (pv 3)) pda_nil))) (pda_cons (pd_tup (pda_cons (pd_var (pv 2)) (pda_cons (pd_tup (pda_cons (pd_tup pda_nil) pda_nil)) pda_nil))) pda_nil))))) pa_nil))))
  (pds_cons (pds_ext (i := 4) (ps_expr (pe_bm PySem.F.plainAttrs_list PySem.F.slot_list_extend PySem.F.type_list_extend mt_extB (pv 4) (pa_cons (pd_lst (pda_cons (pd_tup (pda_cons (pd_var (pv 2)) (pda_cons (pd_tup (pda_cons (pd_tup (pda_cons pd_str (pda_cons (pd_var (pv 0)) pda_nil))) pda_nil)) pda_nil))) (pda_cons (pd_tup (pda_cons (pd_var (pv 2)) (pda_cons (pd_tup (pda_cons (pd_tup (pda_cons pd_str (pda_cons pd_int (pda_cons pd_int pda_nil)))) pda_nil)) pda_nil))) (pda_cons (pd_tup (pda_cons (pd_var (pv 2)) (pda_cons (pd_tup (pda_cons (pd_tup (pda_cons pd_str (pda_cons pd_int (pda_cons (pd_un o_neg pd_int) pda_nil)))) pda_nil)) pda_nil))) (pda_cons (pd_tup (pda_cons (pd_var (pv 2)) (pda_cons (pd_tup (pda_cons (pd_tup (pda_cons pd_str (pda_cons (pd_un o_neg pd_int) (pda_cons pd_int pda_nil)))) pda_nil)) pda_nil))) pda_nil))))) pa_nil))))
  (pds_cons (pds_ext (i := 4) (ps_expr (pe_bm PySem.F.plainAttrs_list PySem.F.slot_list_extend PySem.F.type_list_extend mt_extB (pv 4) (pa_cons (pd_lst (pda_cons (pd_tup (pda_cons (pd_var (pv 2)) (pda_cons (pd_frz (pd_op o_mul (pd_tup (pda_cons (pd_tup (pda_cons pd_str (pda_cons pd_int pda_nil))) pda_nil)) pd_int)) pda_nil))) (pda_cons (pd_tup (pda_cons (pd_var (pv 2)) (pda_cons (pd_tup (pda_cons (pd_tup (pda_cons pd_str (pda_cons pd_int (pda_cons pd_bl pda_nil)))) pda_nil)) pda_nil))) (pda_cons (pd_tup (pda_cons (pd_var (pv 2)) (pda_cons (pd_tup (pda_cons (pd_tup (pda_cons pd_str (pda_cons (pd_var (pv 2)) (pda_cons (pd_tup pda_nil) (pda_cons (pd_tup pda_nil) (pda_cons (pd_tup pda_nil) pda_nil)))))) pda_nil)) pda_nil))) pda_nil)))) pa_nil))))
  (pds_cons (pds_set (ps_set (i := 5) sc_law_none.nd rfl (by first | exact Or.inl rfl | exact Or.inr rfl) (pd_tup (pda_cons (pd_tup (pda_cons pd_str (pda_cons pd_int pda_nil))) pda_nil))))
  (pds_cons (pds_for (ps_for (passes_of rfl) rfl (pif_range1 (pi_range1 (by rfl) T.n_range (pda_cons pd_int pda_nil))) (pgd_name (pg_name (i := 6) sc_law_none.nd rfl (by first | exact Or.inl rfl | exact Or.inr rfl))) (pds_one (pds_set (ps_set (i := 5) sc_law_none.nd rfl (by first | exact Or.inl rfl | exact Or.inr rfl) (pd_tup (pda_cons (pd_tup (pda_cons pd_str (pda_cons (pd_var (pv 2)) (pda_cons (pd_var (pv 5)) (pda_cons (pd_tup pda_nil) pda_nil))))) pda_nil)))))))
  (pds_cons (pds_set (ps_set (i := 7) sc_law_none.nd rfl (by first | exact Or.inl rfl | exact Or.inr rfl) (pd_tup (pda_cons pd_str (pda_cons (pd_var (pv 2)) (pda_cons (pd_frz (pd_op o_mul (pd_tup (pda_cons (pd_tup (pda_cons pd_str (pda_cons pd_int pda_nil))) pda_nil)) pd_int)) (pda_cons (pd_frz (pd_op o_mul (pd_tup (pda_cons (pd_tup (pda_cons pd_str (pda_cons pd_int pda_nil))) pda_nil)) pd_int)) pda_nil)))))))
  (pds_one (pds_ret (pd_op o_add (pd_var (pv 4)) (pd_lst (pda_cons (pd_tup (pda_cons (pd_var (pv 2)) (pda_cons (pd_var (pv 5)) pda_nil))) (pda_cons (pd_tup (pda_cons (pd_var (pv 2)) (pda_cons (pd_tup (pda_cons (pd_var (pv 7)) (pda_cons (pd_tup (pda_cons pd_str (pda_cons pd_int pda_nil))) pda_nil))) pda_nil))) (pda_cons (pd_tup (pda_cons (pd_var (pv 2)) (pda_cons (pd_tup (pda_cons (pd_tup (pda_cons pd_str (pda_cons (pd_var (pv 2)) (pda_cons (pd_frz (pd_op o_mul (pd_tup (pda_cons (pd_tup (pda_cons pd_str (pda_cons pd_int pda_nil))) pda_nil)) pd_int)) (pda_cons (pd_frz (pd_op o_mul (pd_tup (pda_cons (pd_tup (pda_cons pd_str (pda_cons pd_int pda_nil))) pda_nil)) pd_int)) pda_nil))))) pda_nil)) pda_nil))) pda_nil))))))))))))))))) hw
def w_law_judged_b1 (K : Frag) (cl : Ad) (c_is_loop c_law_none : Ct) : SW :=
  (wAsg 3 (wTup (wCons (wTup (wCons (wC (.s (.str "if"))) (wCons (wVar 2) (wCons (wTup wNil) (wCons (wVar 3) wNil))))) wNil)))
def w_law_judged_t2 (K : Frag) (cl : Ad) (c_is_loop c_law_none : Ct) : SW :=
  (wRet (wOp fEq (wLc (wSeqC (wCall c_law_none (wCons (wVar 0) (wCons (wVar 1) wNil)))) false [7] [7] (wTst (wOp (fIs true) (wCall c_is_loop (wCons (wVar 0) (wCons (wVar 7) wNil))) (wC (.s (.bool false))))) (wVar 7)) (wLst wNil)))
def w_law_judged_t3 (K : Frag) (cl : Ad) (c_is_loop c_law_none : Ct) : SW :=
  (wSeq (wIfS (wOrT (wTst (wOp fNe (wLc (wSeqC (wVar 6)) false [7] [7] (wTst (wOp (fIs true) (wCall c_is_loop (wCons (wVar 0) (wCons (wVar 7) wNil))) (wC (.s (.bool true))))) (wVar 7)) (wLst wNil))) (wTst (wOp (fIs true) (wCall c_is_loop (wCons (wFrz (wOp fAdd (wVar 0) (wC (.s (.int 1))))) (wCons (wVar 1) wNil))) (wC (.s (.bool true))))))
  (wRet (wC (.s (.bool false))))
  wNext)
  (w_law_judged_t2 K cl c_is_loop c_law_none))
def w_law_judged_t4 (K : Frag) (cl : Ad) (c_is_loop c_law_none : Ct) : SW :=
  (wSeq (wAsg 6 (wLst (wCons (wVar 1) (wCons (wTup (wCons (wTup (wCons (wC (.s (.str "same"))) (wCons (wUn fNeg (wC (.s (.int 1)))) (wCons (wUn fNeg (wC (.s (.int 1)))) wNil)))) (wCons (wTup wNil) wNil))) (wCons (wTup (wCons (wVar 2) (wCons (wFrz (wOp fMul (wTup (wCons (wTup (wCons (wC (.s (.str "new"))) (wCons (wC (.s (.int 0))) wNil))) wNil)) (wC (.s (.int 24))))) wNil))) (wCons (wTup (wCons (wVar 2) (wCons (wVar 3) wNil))) (wCons (wTup (wCons (wVar 2) (wCons (wTup (wCons (wVar 5) wNil)) wNil))) wNil)))))))
  (w_law_judged_t3 K cl c_is_loop c_law_none))
def w_law_judged_t5 (K : Frag) (cl : Ad) (c_is_loop c_law_none : Ct) : SW :=
  (wSeq (wAsg 5 (wTup (wCons (wC (.s (.str "if"))) (wCons (wVar 2) (wCons (wFrz (wOp fMul (wTup (wCons (wTup (wCons (wC (.s (.str "new"))) (wCons (wC (.s (.int 0))) wNil))) wNil)) (wC (.s (.int 11))))) (wCons (wFrz (wOp fMul (wTup (wCons (wTup (wCons (wC (.s (.str "new"))) (wCons (wC (.s (.int 0))) wNil))) wNil)) (wC (.s (.int 12))))) wNil))))))
  (w_law_judged_t4 K cl c_is_loop c_law_none))
def w_law_judged_t6 (K : Frag) (cl : Ad) (c_is_loop c_law_none : Ct) : SW :=
  (wSeq (wFor (wRange1 (wCons (wC (.s (.int 4))) wNil)) (gwName 4) (w_law_judged_b1 K cl c_is_loop c_law_none))
  (w_law_judged_t5 K cl c_is_loop c_law_none))
def w_law_judged_t7 (K : Frag) (cl : Ad) (c_is_loop c_law_none : Ct) : SW :=
  (wSeq (wAsg 3 (wTup (wCons (wTup (wCons (wC (.s (.str "free"))) (wCons (wC (.s (.int 0))) wNil))) wNil)))
  (w_law_judged_t6 K cl c_is_loop c_law_none))
def w_law_judged (K : Frag) (cl : Ad) (c_is_loop c_law_none : Ct) : SW :=
  (wSeq (wAsg 2 (wOp fIx (wVar 1) (wC (.s (.int 0)))))
  (w_law_judged_t7 K cl c_is_loop c_law_none))
theorem ok_law_judged (T : Txt K mg cl) {k : Nat} {c : Ct} {j_is_loop : Nat} {c_is_loop : Ct} (G_is_loop : FnOk P wd K mg base (L2.CX P wd) j_is_loop cl.f_is_loop cl.d_is_loop P_is_loop (spD K c_is_loop)) (h_is_loop : j_is_loop ≤ k) {j_law_none : Nat} {c_law_none : Ct} (G_law_none : FnOk P wd K mg base (L2.CX P wd) j_law_none cl.f_law_none cl.d_law_none P_law_none (spD K c_law_none)) (h_law_none : j_law_none ≤ k) (hlen : ∀ rs Q E, c rs Q E → rs.length = P_law_judged.length)
    (hw : ∀ rs Q E, c rs Q E → w_law_judged K cl c_is_loop c_law_none (rho N_law_judged.length rs) { nx := fun _ => Q (.s .none), rt := Q, er := fun cls _ => E cls }) :
    FnOk P wd K mg base (L2.CX P wd) (k + 1) cl.f_law_judged cl.d_law_judged P_law_judged (spD K c) :=
  fnD T.F_law_judged sc_law_judged hlen (fun cdv A outer s H E hr => by
  have tk := takes_of (X := cxOf (L2.CX P wd) P wd K mg base N_law_judged "_law_judged" (defScope s_law_judged) cl.f_law_judged cdv A outer s H E) rfl rfl rfl rfl
  exact (pds_cons (pds_set (ps_set (i := 2) sc_law_judged.nd rfl (by first | exact Or.inl rfl | exact Or.inr rfl) (pd_ix (o_ix hr.units) (pd_var (pv 1)) pd_int (fun _ _ => rfl))))
  (pds_cons (pds_set (ps_set (i := 3) sc_law_judged.nd rfl (by first | exact Or.inl rfl | exact Or.inr rfl) (pd_tup (pda_cons (pd_tup (pda_cons pd_str (pda_cons pd_int pda_nil))) pda_nil))))
  (pds_cons (pds_for (ps_for (passes_of rfl) rfl (pif_range1 (pi_range1 (by rfl) T.n_range (pda_cons pd_int pda_nil))) (pgd_name (pg_name (i := 4) sc_law_judged.nd rfl (by first | exact Or.inl rfl | exact Or.inr rfl))) (pds_one (pds_set (ps_set (i := 3) sc_law_judged.nd rfl (by first | exact Or.inl rfl | exact Or.inr rfl) (pd_tup (pda_cons (pd_tup (pda_cons pd_str (pda_cons (pd_var (pv 2)) (pda_cons (pd_tup pda_nil) (pda_cons (pd_var (pv 3)) pda_nil))))) pda_nil)))))))
  (pds_cons (pds_set (ps_set (i := 5) sc_law_judged.nd rfl (by first | exact Or.inl rfl | exact Or.inr rfl) (pd_tup (pda_cons pd_str (pda_cons (pd_var (pv 2)) (pda_cons (pd_frz (pd_op o_mul (pd_tup (pda_cons (pd_tup (pda_cons pd_str (pda_cons pd_int pda_nil))) pda_nil)) pd_int)) (pda_cons (pd_frz (pd_op o_mul (pd_tup (pda_cons (pd_tup (pda_cons pd_str (pda_cons pd_int pda_nil))) pda_nil)) pd_int)) pda_nil)))))))
  (pds_cons (pds_set (ps_set (i := 6) sc_law_judged.nd rfl (by first | exact Or.inl rfl | exact Or.inr rfl) (pd_lst (pda_cons (pd_var (pv 1)) (pda_cons (pd_tup (pda_cons (pd_tup (pda_cons pd_str (pda_cons (pd_un o_neg pd_int) (pda_cons (pd_un o_neg pd_int) pda_nil)))) (pda_cons (pd_tup pda_nil) pda_nil))) (pda_cons (pd_tup (pda_cons (pd_var (pv 2)) (pda_cons (pd_frz (pd_op o_mul (pd_tup (pda_cons (pd_tup (pda_cons pd_str (pda_cons pd_int pda_nil))) pda_nil)) pd_int)) pda_nil))) (pda_cons (pd_tup (pda_cons (pd_var (pv 2)) (pda_cons (pd_var (pv 3)) pda_nil))) (pda_cons (pd_tup (pda_cons (pd_var (pv 2)) (pda_cons (pd_tup (pda_cons (pd_var (pv 5)) pda_nil)) pda_nil))) pda_nil))))))))
  (pds_cons (pds_if (pdt_w (pdw_or (pdt_cmp (o_ne hr.units) (pd_lc (tup := false) (is := [7]) (pe_lc (own := [("one", 7)]) (g := gC K false [7]) rfl sc_law_judged.nd (pic_seq (pd_var (pv 6))) (blkOk_by (own := [("one", 7)]) (N := N_law_judged) (sc := defScope s_law_judged) (by decide +kernel)) (fun _ _ _ _ _ => (pg_name (i := 7) sc_law_judged.nd rfl (by first | exact Or.inl rfl | exact Or.inr rfl))) (fun _ _ _ _ _ => (pdts_one (pdt_cmp o_isNot (pd_call (pe_callS G_is_loop (hr.mono h_is_loop) (by rfl) T.m_is_loop T.F_is_loop.kp T.b_is_loop (fun σ => passAt takes0 σ) (pda_cons (pd_var (pv 0)) (pda_cons (pd_var (pv 7)) pda_nil)))) pd_bl (nomark _)))) (fun _ _ _ _ _ => (pd_var (pv 7)))) (by decide) (by first | exact Or.inl rfl | exact Or.inr ⟨_, rfl⟩)) (pd_lst pda_nil) (nomark _)) (pdw_or1 (pdt_cmp o_isNot (pd_call (pe_callKA G_is_loop (hr.mono h_is_loop) (by rfl) T.m_is_loop T.F_is_loop.kp T.bk_is_loop (fun σ => passAt tk σ) (pdk_cons (pd_frz (pd_op o_add (pd_var (pv 0)) pd_int)) (pdk_cons (pd_var (pv 1)) pdk_nil)))) pd_bl (nomark _)))))
  (pds_one (pds_ret pd_bl))
  pds_nil)
  (pds_one (pds_ret (pd_cmp (o_eq hr.units) (pd_lc (tup := false) (is := [7]) (pe_lc (own := [("one", 7)]) (g := gC K false [7]) rfl sc_law_judged.nd (pic_seq (pd_call (pe_callS G_law_none (hr.mono h_law_none) (by rfl) T.m_law_none T.F_law_none.kp T.b_law_none (fun σ => passAt tk σ) (pda_cons (pd_var (pv 0)) (pda_cons (pd_var (pv 1)) pda_nil))))) (blkOk_by (own := [("one", 7)]) (N := N_law_judged) (sc := defScope s_law_judged) (by decide +kernel)) (fun _ _ _ _ _ => (pg_name (i := 7) sc_law_judged.nd rfl (by first | exact Or.inl rfl | exact Or.inr rfl))) (fun _ _ _ _ _ => (pdts_one (pdt_cmp o_isNot (pd_call (pe_callS G_is_loop (hr.mono h_is_loop) (by rfl) T.m_is_loop T.F_is_loop.kp T.b_is_loop (fun σ => passAt takes0 σ) (pda_cons (pd_var (pv 0)) (pda_cons (pd_var (pv 7)) pda_nil)))) pd_bl (nomark _)))) (fun _ _ _ _ _ => (pd_var (pv 7)))) (by decide) (by first | exact Or.inl rfl | exact Or.inr ⟨_, rfl⟩)) (pd_lst pda_nil) (nomark _))))))))))) hw
theorem ok_law_pick (T : Txt K mg cl) : FnOk P wd K mg base (L2.CX P wd) 1 cl.f_law_pick cl.d_law_pick P_law_pick (spD K c_pick) := by
  have nd := sc_law_pick.nd
  refine T.F_law_pick.okX sc_law_pick (fun vs H Q E h => ?_) (fun cdv A outer s H vs Q E hr h => ?_)
  · obtain ⟨G, F', rs, Qd, Qe, _, _, h1, ⟨n, e, _⟩, _⟩ := h
    rw [h1.length, e]
    rfl
  obtain ⟨G, F', rs, Qd, Qe, sF, gok, ra, ⟨n, e, n0, n1, q⟩, ok, _⟩ := h
  rw [e] at ra
  obtain ⟨x, y, rfl, ⟨a0, c, rfl, rfl⟩, r2⟩ := ra.two
  cases r2.int
  obtain ⟨cells, s_, m_, d⟩ := DeckAt.of gok
  have fin : ∀ (H' : Hp) (cells' : List Int) (s' m' r : Int), DeckAt a0 c H' cells' s' m' → Same (hide (deckG a0 c) H) (hide (deckG a0 c) H') → 0 ≤ r → r < n → Q (.int r) H' := fun H' cells' s' m' r d' sh r0 r1 =>
    ok (.s (.int r)) (.int r) F' H' ⟨Same.refl _, sh, fun _ _ z _ => z⟩ (sF.trans sh) d'.ok (show DL.Dp K F' (.int r) (.int r) from .int r) (q r r0 r1)
  -- if deck[1] < 10 ** 6 and cells != []: ..
  refine ⟨_, pss_cons (ps_set (i := 2) nd rfl (by first | exact Or.inl rfl | exact Or.inr rfl) (pe_ix ix_list (pv 0) pe_int (fun _ _ => rfl)))
    (pss_cons (ps_imp (t' := tPickA) (ps_if (PW.pt (pw_and (pt_cmpR op_lt (pe_ix ix_list (pv 0) pe_int (fun _ _ => rfl)) (pe_op op_pow pe_int pe_int) (nomark _)) (pw_and1 (pt_cmpR (op_neD hr.units) (pv 2) (pe_lst pa_nil) (nomark _)))))
        (pss_cons (ps_set (i := 3) nd rfl (by first | exact Or.inl rfl | exact Or.inr rfl) (pe_bm PySem.F.plainAttrs_list PySem.F.slot_list_pop PySem.F.type_list_pop mt_popAt (pv 2) (pa_cons pe_int pa_nil)))
          (pss_one (ps_if (pt_cmpR op_ge (pv 3) (pe_op op_pow pe_int pe_int) (nomark _))
            (pss_one (ps_asg (pv 3) (pg_sub (pv 0) pe_int set_list)))
            (pss_one (ps_asg (pe_op op_mod (pe_callTy call_int1 (by rfl) T.n_int (by decide +kernel) (pa_cons (pe_op op_add (pe_op op_add (pe_op op_mul (pe_ix ix_list (pv 0) pe_int (fun _ _ => rfl)) pe_int)
              (pe_op op_mul (pe_op op_mod (pe_callTy call_int1 (by rfl) T.n_int (by decide +kernel) (pa_cons (pv 3) pa_nil)) pe_int) pe_int)) pe_int) pa_nil)) pe_int) (pg_sub (pv 0) pe_int set_list))))))
        pss_nil) ?p1)
      (pss_cons (ps_if (pt_cmpR op_ge (pe_ix ix_list (pv 0) pe_int (fun _ _ => rfl)) (pe_op op_pow pe_int pe_int) (nomark _))
          (pss_cons (ps_set (i := 4) nd rfl (by first | exact Or.inl rfl | exact Or.inr rfl) (pe_op op_mod (pe_callTy call_int1 (by rfl) T.n_int (by decide +kernel) (pa_cons (pe_ix ix_list (pv 0) pe_int (fun _ _ => rfl)) pa_nil)) (pv 1)))
            (pss_cons (ps_asg (pe_op op_fdiv (pe_ix ix_list (pv 0) pe_int (fun _ _ => rfl)) (pv 1)) (pg_sub (pv 0) pe_int set_list)) (pss_one (ps_ret (pv 4)))))
          pss_nil)
        (pss_cons (ps_asg (pe_op op_mod (pe_callTy call_int1 (by rfl) T.n_int (by decide +kernel) (pa_cons (pe_op op_add (pe_op op_mul (pe_ix ix_list (pv 0) pe_int (fun _ _ => rfl)) pe_int) pe_int) pa_nil)) pe_int) (pg_sub (pv 0) pe_int set_list))
          (pss_one (ps_ret (pe_op op_mod (pe_callTy call_int1 (by rfl) T.n_int (by decide +kernel) (pa_cons (pe_op op_fdiv (pe_ix ix_list (pv 0) pe_int (fun _ _ => rfl)) pe_int) pa_nil)) (pv 1))))))), ?_⟩
  case p1 =>
    rintro D σ H1 ⟨a, c, n, cells, s, m, rfl, d, nx⟩
    have lt6 : ((10 : Int) ^ (6 : Int).toNat) = 1000000 := by decide
    have lt18 : ((10 : Int) ^ (18 : Int).toNat) = 1000000000000000000 := by decide
    refine ⟨_, rfl, a, _, 1, _, rfl, rfl, .inl (.inl d.h1), atI_nat (j := 1) rfl, _, _, rfl, rfl, by unfold CPow; decide, _, _, rfl, rfl, _, rfl, ?_⟩
    refine ite2 (fun _ => ?_) (fun _ => iteF (nx none H1 cells s m d (Same.refl _)))
    refine ⟨_, rfl, Nat.zero_le _, fun p hp => ?_⟩
    have d1 : DeckAt a c (upd H1 p (.lst [])) cells s m := d.new hp
    have sh1 : Same (hide (deckG a c) H1) (hide (deckG a c) (upd H1 p (.lst []))) := (Stp.new (G := deckG a c) (B := H1) hp).hh
    refine ⟨_, _, .lst (.inl (.inl d1.h2)) (old_ints cells), .lst (.inl (.inl upd_same)) .nil, sh_ints cells, by decide, _, rfl, ?_⟩
    refine ite2 (fun he => ?_) (fun _ => nx none _ cells s m d1 sh1)
    cases cells with
    | nil => simp [PyData.eqv, PyData.eqvAll] at he
    | cons x cells =>
      have hx := d.h3 x List.mem_cons_self
      refine ⟨_, rfl, .inl ⟨rfl, _, .inl (.inl d1.h2)⟩, c, _, 0, 0, _, rfl, rfl, d1.h2, by decide, by decide, by simp [seqIndex?], rfl, ?_⟩
      have d2 := d1.pop
      have sh2 : Same (hide (deckG a c) H1) (hide (deckG a c) (upd (upd H1 p (.lst [])) c (.lst (cells.map V.int)))) := by rw [hide_ghost (by show c ∈ [a, c]; simp)]; exact sh1
      refine ⟨_, rfl, _, _, rfl, rfl, by unfold CPow; decide, _, _, rfl, rfl, _, rfl, ?_⟩
      refine ite2 (fun _ => ?_) (fun _ => ?_)
      · refine ⟨_, rfl, _, rfl, a, _, 1, 1, rfl, rfl, d2.h1, by simp [ixN], ?_⟩
        exact nx _ _ _ _ _ (d2.setS (s' := x) hx.1 hx.2) (by rw [hide_ghost (by show a ∈ [a, c]; simp)]; exact sh2)
      · refine ⟨_, rfl, a, _, 2, _, rfl, rfl, .inl (.inl d2.h1), atI_nat (j := 2) rfl, _, _, rfl, rfl, .inr (by decide), _, rfl, .inl ⟨_, rfl, _, _, rfl, rfl, (by show (0 : Int) < _; decide), _, _, rfl, rfl, .inr (by decide), _, _, rfl, rfl, _, _, rfl, rfl, .inl ⟨_, rfl, _, _, rfl, rfl, (by show (0 : Int) < _; decide), ?_⟩⟩⟩
        refine ⟨_, rfl, a, _, 2, 2, rfl, rfl, d2.h1, by simp [ixN], ?_⟩
        refine nx _ _ _ _ _ (d2.setM (Int.emod_nonneg _ (by decide)) ?_) (by rw [hide_ghost (by show a ∈ [a, c]; simp)]; exact sh2)
        exact Int.lt_trans (Int.emod_lt_of_pos _ (by decide)) (by decide)
  refine ⟨_, rfl, a0, _, 0, _, rfl, rfl, .inl (.inl d.h1), atI_nat (j := 0) rfl, ?_⟩
  refine ⟨a0, c, n, cells, s_, m_, rfl, d, fun v H1 cells1 s1 m1 d1 sh1 => ?_⟩
  refine ⟨_, rfl, a0, _, 1, _, rfl, rfl, .inl (.inl d1.h1), atI_nat (j := 1) rfl, _, _, rfl, rfl, by unfold CPow; decide, _, _, rfl, rfl, _, rfl, ?_⟩
  refine ite2 (fun _ => ?_) (fun _ => ?_)
  · refine ⟨_, rfl, a0, _, 1, _, rfl, rfl, .inl (.inl d1.h1), atI_nat (j := 1) rfl, .inl ⟨_, rfl, _, rfl, _, _, rfl, rfl, n0, ?_⟩⟩
    refine ⟨_, rfl, a0, _, 1, _, rfl, rfl, .inl (.inl d1.h1), atI_nat (j := 1) rfl, _, rfl, _, _, rfl, rfl, ⟨n0, n1⟩, ?_⟩
    refine ⟨_, rfl, a0, _, 1, 1, rfl, rfl, d1.h1, by simp [ixN], ?_⟩
    have q0 : 0 ≤ s1 / n := Int.ediv_nonneg d1.s0 (Int.le_of_lt n0)
    have q1 : s1 / n < 10 ^ 60 := Int.lt_of_le_of_lt (Int.ediv_le_self _ d1.s0) d1.s1
    exact ⟨_, rfl, fin _ _ _ _ _ (d1.setS q0 q1) (by rw [hide_ghost (by show a0 ∈ [a0, c]; simp)]; exact sh1) (Int.emod_nonneg _ (Int.ne_of_gt n0)) (Int.emod_lt_of_pos _ n0)⟩
  · refine ⟨_, rfl, a0, _, 2, _, rfl, rfl, .inl (.inl d1.h1), atI_nat (j := 2) rfl, _, _, rfl, rfl, .inr (by decide), _, _, rfl, rfl, .inl ⟨_, rfl, _, _, rfl, rfl, (by show (0 : Int) < _; decide), ?_⟩⟩
    refine ⟨_, rfl, a0, _, 2, 2, rfl, rfl, d1.h1, by simp [ixN], ?_⟩
    have d2 := d1.setM (m' := (m1 * 48271 + 11) % 2147483647) (Int.emod_nonneg _ (by decide)) (Int.emod_lt_of_pos _ (by decide))
    refine ⟨_, rfl, a0, _, 2, _, rfl, rfl, .inl (.inl d2.h1), atI_nat (j := 2) rfl, _, _, rfl, rfl, ⟨by decide, by decide⟩, .inl ⟨_, rfl, _, rfl, _, _, rfl, rfl, n0, ?_⟩⟩
    exact fin _ _ _ _ _ d2 (by rw [hide_ghost (by show a0 ∈ [a0, c]; simp)]; exact sh1) (Int.emod_nonneg _ (Int.ne_of_gt n0)) (Int.emod_lt_of_pos _ n0)

theorem ok_law_deck (T : Txt K mg cl) : FnOk P wd K mg base (L2.CX P wd) 1 cl.f_law_deck cl.d_law_deck P_law_deck (spDeck K) := by
  refine T.F_law_deck.okX sc_law_deck (fun vs H Q E h => ?_) (fun cdv A outer s H vs Q E hr h => ⟨_, ?_, deck_read h⟩)
  · obtain ⟨a, ns, rfl, _⟩ := h
    rfl
  · exact pss_one (ps_ret (pe_lst (pa_cons (pe_lc (own := [("cell", 1)]) (g := gName 1) (tt := tYes) rfl sc_law_deck.nd (pi_list (pe_slice sl_list (pv 0) po_none (po_some pe_int))) (blkOk_by (own := [("cell", 1)]) (N := N_law_deck) (sc := defScope s_law_deck) (by decide +kernel))
      (fun _ _ _ _ _ => pg_name (i := 1) sc_law_deck.nd rfl (by first | exact Or.inl rfl | exact Or.inr rfl)) (fun _ _ _ _ _ => pts_nil)
      (fun _ _ _ _ _ => pe_op op_mod (pe_callTy call_int1 (by rfl) T.n_int (by decide +kernel) (pa_cons (pv 1) pa_nil)) (pe_op op_pow pe_int pe_int))) (pa_cons pe_int (pa_cons pe_int pa_nil)))))
def w_law_t1 (K : Frag) (cl : Ad) (c_law_pick c_law_places c_law_whole_state c_law_condition c_law_program c_law_told_loop c_law_grown c_law_right_run c_law_refused c_law_bad_many c_law_judged : Ct) : SW :=
  (wIfS (wTst (wOp fNe (wVar 9) (wLst (wCons (wC (.s (.str "many"))) (wCons (wC (.s (.str "many"))) (wCons (wC (.s (.str "loop"))) (wCons (wC (.s (.str "loop"))) (wCons (wC (.s (.str "state"))) (wCons (wC (.s (.str "state"))) (wCons (wC (.s (.str "state"))) (wCons (wC (.s (.str "most"))) (wCons (wC (.s (.str "most"))) (wCons (wC (.s (.str "most"))) (wCons (wC (.s (.str "most"))) wNil))))))))))))))
  (wRet (wC (.s (.bool false))))
  wNext)
def w_law_t2 (K : Frag) (cl : Ad) (c_law_pick c_law_places c_law_whole_state c_law_condition c_law_program c_law_told_loop c_law_grown c_law_right_run c_law_refused c_law_bad_many c_law_judged : Ct) : SW :=
  (wSeq (wAsg 9 (wOp fAdd (wVar 9) (wLc (wSeqC (wTup (wCons (wUn fNeg (wC (.s (.int 1)))) (wCons (wC (.s (.int 201))) (wCons (wC (.s .none)) (wCons (wC (.s (.bool true))) wNil)))))) false [10] [10] wYes (wFrz (wCall c_law_refused (wCons (wVar 4) (wCons (wVar 5) (wCons (wVar 7) (wCons (wVar 10) wNil)))))))))
  (w_law_t1 K cl c_law_pick c_law_places c_law_whole_state c_law_condition c_law_program c_law_told_loop c_law_grown c_law_right_run c_law_refused c_law_bad_many c_law_judged))
def w_law_t3 (K : Frag) (cl : Ad) (c_law_pick c_law_places c_law_whole_state c_law_condition c_law_program c_law_told_loop c_law_grown c_law_right_run c_law_refused c_law_bad_many c_law_judged : Ct) : SW :=
  (wSeq (wAsg 9 (wOp fAdd (wVar 9) (wLst (wCons (wFrz (wCall c_law_refused (wCons (wVar 4) (wCons (wVar 5) (wCons (wVar 8) (wCons (wUn fNeg (wC (.s (.int 1)))) wNil)))))) (wCons (wFrz (wCall c_law_refused (wCons (wVar 4) (wCons (wVar 5) (wCons (wFrz (wCall1 fList (wCons (wVar 7) wNil))) (wCons (wVar 6) wNil)))))) wNil)))))
  (w_law_t2 K cl c_law_pick c_law_places c_law_whole_state c_law_condition c_law_program c_law_told_loop c_law_grown c_law_right_run c_law_refused c_law_bad_many c_law_judged))
def w_law_t4 (K : Frag) (cl : Ad) (c_law_pick c_law_places c_law_whole_state c_law_condition c_law_program c_law_told_loop c_law_grown c_law_right_run c_law_refused c_law_bad_many c_law_judged : Ct) : SW :=
  (wSeq (wAsg 9 (wOp fAdd (wVar 9) (wLst (wCons (wFrz (wCall c_law_refused (wCons (wVar 4) (wCons (wFrz (wCall1 fList (wCons (wVar 5) wNil))) (wCons (wC (.s .none)) (wCons (wUn fNeg (wC (.s (.int 1)))) wNil)))))) (wCons (wFrz (wCall c_law_refused (wCons (wVar 4) (wCons (wVar 5) (wCons (wC (.s .none)) (wCons (wC (.s .none)) wNil)))))) wNil)))))
  (w_law_t3 K cl c_law_pick c_law_places c_law_whole_state c_law_condition c_law_program c_law_told_loop c_law_grown c_law_right_run c_law_refused c_law_bad_many c_law_judged))
def w_law_t5 (K : Frag) (cl : Ad) (c_law_pick c_law_places c_law_whole_state c_law_condition c_law_program c_law_told_loop c_law_grown c_law_right_run c_law_refused c_law_bad_many c_law_judged : Ct) : SW :=
  (wSeq (wAsg 9 (wLst (wCons (wFrz (wCall c_law_refused (wCons (wC (.s (.int 5))) (wCons (wC (.s .none)) (wCons (wC (.s .none)) (wCons (wC (.s .none)) wNil)))))) (wCons (wFrz (wCall c_law_refused (wCons (wC (.s (.bool true))) (wCons (wVar 5) (wCons (wVar 7) (wCons (wVar 6) wNil)))))) (wCons (wFrz (wCall c_law_refused (wCons (wVar 4) (wCons (wC (.s .none)) (wCons (wC (.s .none)) (wCons (wC (.s .none)) wNil)))))) wNil)))))
  (w_law_t4 K cl c_law_pick c_law_places c_law_whole_state c_law_condition c_law_program c_law_told_loop c_law_grown c_law_right_run c_law_refused c_law_bad_many c_law_judged))
def w_law_t6 (K : Frag) (cl : Ad) (c_law_pick c_law_places c_law_whole_state c_law_condition c_law_program c_law_told_loop c_law_grown c_law_right_run c_law_refused c_law_bad_many c_law_judged : Ct) : SW :=
  (wSeq (wAsg 8 (wTup (wCons (wOp fIx (wVar 7) (wC (.s (.int 0)))) (wCons (wFrz (wOp fAdd (wOp fIx (wVar 7) (wC (.s (.int 1)))) (wTup (wCons (wTup (wCons (wFrz (wOp fAdd (wCall1 fMax1 (wCons (wOp fAdd (wLst (wCons (wC (.s (.int 0))) wNil)) (wCall c_law_places (wCons (wVar 7) wNil))) wNil)) (wC (.s (.int 1))))) (wCons (wC (.s (.int 0))) wNil))) wNil)))) wNil))))
  (w_law_t5 K cl c_law_pick c_law_places c_law_whole_state c_law_condition c_law_program c_law_told_loop c_law_grown c_law_right_run c_law_refused c_law_bad_many c_law_judged))
def w_law_t7 (K : Frag) (cl : Ad) (c_law_pick c_law_places c_law_whole_state c_law_condition c_law_program c_law_told_loop c_law_grown c_law_right_run c_law_refused c_law_bad_many c_law_judged : Ct) : SW :=
  (wSeq (wIfS (wAndT (wTst (wOp fEq (wVar 3) (wC (.s (.int 0))))) (wNotT (wTst (wCall c_law_judged (wCons (wVar 4) (wCons (wVar 5) wNil))))))
  (wRet (wC (.s (.bool false))))
  wNext)
  (w_law_t6 K cl c_law_pick c_law_places c_law_whole_state c_law_condition c_law_program c_law_told_loop c_law_grown c_law_right_run c_law_refused c_law_bad_many c_law_judged))
def w_law_t8 (K : Frag) (cl : Ad) (c_law_pick c_law_places c_law_whole_state c_law_condition c_law_program c_law_told_loop c_law_grown c_law_right_run c_law_refused c_law_bad_many c_law_judged : Ct) : SW :=
  (wSeq (wIfS (wOrT (wNotT (wTst (wCall c_law_right_run (wCons (wVar 4) (wCons (wVar 5) (wCons (wVar 7) (wCons (wVar 6) wNil))))))) (wNotT (wTst (wCall c_law_right_run (wCons (wVar 4) (wCons (wVar 5) (wCons (wVar 7) (wCons (wC (.s (.int 0))) wNil))))))))
  (wRet (wC (.s (.bool false))))
  wNext)
  (w_law_t7 K cl c_law_pick c_law_places c_law_whole_state c_law_condition c_law_program c_law_told_loop c_law_grown c_law_right_run c_law_refused c_law_bad_many c_law_judged))
def w_law_t9 (K : Frag) (cl : Ad) (c_law_pick c_law_places c_law_whole_state c_law_condition c_law_program c_law_told_loop c_law_grown c_law_right_run c_law_refused c_law_bad_many c_law_judged : Ct) : SW :=
  (wSeq (wAsg 7 (wCall c_law_whole_state (wCons (wVar 1) (wCons (wVar 4) (wCons (wC (.s (.int 5))) wNil)))))
  (w_law_t8 K cl c_law_pick c_law_places c_law_whole_state c_law_condition c_law_program c_law_told_loop c_law_grown c_law_right_run c_law_refused c_law_bad_many c_law_judged))
def w_law_t10 (K : Frag) (cl : Ad) (c_law_pick c_law_places c_law_whole_state c_law_condition c_law_program c_law_told_loop c_law_grown c_law_right_run c_law_refused c_law_bad_many c_law_judged : Ct) : SW :=
  (wSeq (wIfS (wTst (wOp fEq (wCall c_law_pick (wCons (wVar 1) (wCons (wC (.s (.int 2))) wNil))) (wC (.s (.int 0)))))
  (wAsg 5 (wCall c_law_told_loop (wCons (wVar 1) (wCons (wVar 4) wNil))))
  wNext)
  (w_law_t9 K cl c_law_pick c_law_places c_law_whole_state c_law_condition c_law_program c_law_told_loop c_law_grown c_law_right_run c_law_refused c_law_bad_many c_law_judged))
def w_law_t11 (K : Frag) (cl : Ad) (c_law_pick c_law_places c_law_whole_state c_law_condition c_law_program c_law_told_loop c_law_grown c_law_right_run c_law_refused c_law_bad_many c_law_judged : Ct) : SW :=
  (wSeq (wParN [5, 6] (wCons (wTup (wCons (wFrz (wCall c_law_condition (wCons (wVar 1) (wCons (wVar 4) wNil)))) (wCons (wFrz (wCall c_law_program (wCons (wVar 1) (wCons (wVar 4) (wCons (wC (.s (.int 6))) (wCons (wC (.s (.int 2))) wNil)))))) wNil))) (wCons (wCall c_law_pick (wCons (wVar 1) (wCons (wC (.s (.int 21))) wNil))) wNil)))
  (w_law_t10 K cl c_law_pick c_law_places c_law_whole_state c_law_condition c_law_program c_law_told_loop c_law_grown c_law_right_run c_law_refused c_law_bad_many c_law_judged))
def w_law_b12 (K : Frag) (cl : Ad) (c_law_pick c_law_places c_law_whole_state c_law_condition c_law_program c_law_told_loop c_law_grown c_law_right_run c_law_refused c_law_bad_many c_law_judged : Ct) : SW :=
  (wSeq (wAsg 4 (wOp fAdd (wC (.s (.int 1))) (wCall c_law_pick (wCons (wVar 1) (wCons (wC (.s (.int 3))) wNil)))))
  (w_law_t11 K cl c_law_pick c_law_places c_law_whole_state c_law_condition c_law_program c_law_told_loop c_law_grown c_law_right_run c_law_refused c_law_bad_many c_law_judged))
def w_law_t13 (K : Frag) (cl : Ad) (c_law_pick c_law_places c_law_whole_state c_law_condition c_law_program c_law_told_loop c_law_grown c_law_right_run c_law_refused c_law_bad_many c_law_judged : Ct) : SW :=
  (wRet (wOp fEq (wLc (wSeqC (wTup (wCons (wC (.s .none)) (wCons (wUn fNeg (wC (.s (.int 1)))) (wCons (wC (.s (.int 5))) (wCons (wC (.s (.bool true))) (wCons (wC (.s (.str "2"))) wNil))))))) false [4] [4] (wNotT (wTst (wCall c_law_bad_many (wCons (wVar 4) wNil)))) (wVar 4)) (wLst wNil)))
def w_law_t14 (K : Frag) (cl : Ad) (c_law_pick c_law_places c_law_whole_state c_law_condition c_law_program c_law_told_loop c_law_grown c_law_right_run c_law_refused c_law_bad_many c_law_judged : Ct) : SW :=
  (wSeq (wIfS (wNotT (wTst (wCall c_law_right_run (wCons (wC (.s (.int 1))) (wCons (wTup (wCons (wTup (wCons (wC (.s (.str "unlike"))) (wCons (wC (.s (.int 0))) (wCons (wUn fNeg (wC (.s (.int 1)))) wNil)))) (wCons (wTup (wCons (wTup (wCons (wC (.s (.str "follow"))) (wCons (wC (.s (.int 0))) (wCons (wC (.s (.int 0))) wNil)))) wNil)) wNil))) (wCons (wVar 7) (wCons (wC (.s (.int 200))) wNil)))))))
  (wRet (wC (.s (.bool false))))
  wNext)
  (w_law_t13 K cl c_law_pick c_law_places c_law_whole_state c_law_condition c_law_program c_law_told_loop c_law_grown c_law_right_run c_law_refused c_law_bad_many c_law_judged))
def w_law_t15 (K : Frag) (cl : Ad) (c_law_pick c_law_places c_law_whole_state c_law_condition c_law_program c_law_told_loop c_law_grown c_law_right_run c_law_refused c_law_bad_many c_law_judged : Ct) : SW :=
  (wSeq (wAsg 7 (wTup (wCons (wTup (wCons (wC (.s (.int 1))) wNil)) (wCons (wCall1 fTuple (wCons (wOp fAdd (wLc (wRange2 (wCons (wC (.s (.int 1))) (wCons (wVar 11) wNil))) false [12] [12] wYes (wTup (wCons (wVar 12) (wCons (wFrz (wOp fAdd (wVar 12) (wC (.s (.int 1))))) wNil)))) (wLst (wCons (wTup (wCons (wVar 11) (wCons (wC (.s (.int 1))) wNil))) wNil))) wNil)) wNil))))
  (w_law_t14 K cl c_law_pick c_law_places c_law_whole_state c_law_condition c_law_program c_law_told_loop c_law_grown c_law_right_run c_law_refused c_law_bad_many c_law_judged))
def w_law_t16 (K : Frag) (cl : Ad) (c_law_pick c_law_places c_law_whole_state c_law_condition c_law_program c_law_told_loop c_law_grown c_law_right_run c_law_refused c_law_bad_many c_law_judged : Ct) : SW :=
  (wSeq (wAsg 11 (wOp fAdd (wC (.s (.int 1))) (wCall c_law_pick (wCons (wVar 1) (wCons (wC (.s (.int 5))) wNil)))))
  (w_law_t15 K cl c_law_pick c_law_places c_law_whole_state c_law_condition c_law_program c_law_told_loop c_law_grown c_law_right_run c_law_refused c_law_bad_many c_law_judged))
def w_law_t17 (K : Frag) (cl : Ad) (c_law_pick c_law_places c_law_whole_state c_law_condition c_law_program c_law_told_loop c_law_grown c_law_right_run c_law_refused c_law_bad_many c_law_judged : Ct) : SW :=
  (wSeq (wIfS (wNotT (wTst (wCall c_law_right_run (wCons (wC (.s (.int 2))) (wCons (wVar 5) (wCons (wVar 7) (wCons (wVar 6) wNil)))))))
  (wRet (wC (.s (.bool false))))
  wNext)
  (w_law_t16 K cl c_law_pick c_law_places c_law_whole_state c_law_condition c_law_program c_law_told_loop c_law_grown c_law_right_run c_law_refused c_law_bad_many c_law_judged))
def w_law_t18 (K : Frag) (cl : Ad) (c_law_pick c_law_places c_law_whole_state c_law_condition c_law_program c_law_told_loop c_law_grown c_law_right_run c_law_refused c_law_bad_many c_law_judged : Ct) : SW :=
  (wSeq (wAsgT (wFrz (wCall c_law_grown (wCons (wVar 1) wNil))) (gwTup 3 (gwCons (gwName 5) (gwCons (gwName 7) (gwCons (gwName 6) gwNil)))))
  (w_law_t17 K cl c_law_pick c_law_places c_law_whole_state c_law_condition c_law_program c_law_told_loop c_law_grown c_law_right_run c_law_refused c_law_bad_many c_law_judged))
def w_law_t19 (K : Frag) (cl : Ad) (c_law_pick c_law_places c_law_whole_state c_law_condition c_law_program c_law_told_loop c_law_grown c_law_right_run c_law_refused c_law_bad_many c_law_judged : Ct) : SW :=
  (wSeq (wFor (wRange1 (wCons (wOp fAdd (wC (.s (.int 2))) (wCall1 fMin2 (wCons (wCall1 fLen (wCons (wVar 0) wNil)) (wCons (wC (.s (.int 6))) wNil)))) wNil)) (gwName 3) (w_law_b12 K cl c_law_pick c_law_places c_law_whole_state c_law_condition c_law_program c_law_told_loop c_law_grown c_law_right_run c_law_refused c_law_bad_many c_law_judged))
  (w_law_t18 K cl c_law_pick c_law_places c_law_whole_state c_law_condition c_law_program c_law_told_loop c_law_grown c_law_right_run c_law_refused c_law_bad_many c_law_judged))
def w_law_t20 (K : Frag) (cl : Ad) (c_law_pick c_law_places c_law_whole_state c_law_condition c_law_program c_law_told_loop c_law_grown c_law_right_run c_law_refused c_law_bad_many c_law_judged : Ct) : SW :=
  (wSeq (wIfS (wOrT (wNotT (wTst (wCall c_law_right_run (wCons (wC (.s (.int 0))) (wCons (wTup (wCons (wTup (wCons (wC (.s (.str "same"))) (wCons (wUn fNeg (wC (.s (.int 1)))) (wCons (wUn fNeg (wC (.s (.int 1)))) wNil)))) (wCons (wTup wNil) wNil))) (wCons (wVar 2) (wCons (wC (.s (.int 200))) wNil))))))) (wNotT (wTst (wCall c_law_right_run (wCons (wC (.s (.int 0))) (wCons (wTup (wCons (wTup (wCons (wC (.s (.str "unlike"))) (wCons (wUn fNeg (wC (.s (.int 1)))) (wCons (wUn fNeg (wC (.s (.int 1)))) wNil)))) (wCons (wTup wNil) wNil))) (wCons (wVar 2) (wCons (wC (.s (.int 3))) wNil))))))))
  (wRet (wC (.s (.bool false))))
  wNext)
  (w_law_t19 K cl c_law_pick c_law_places c_law_whole_state c_law_condition c_law_program c_law_told_loop c_law_grown c_law_right_run c_law_refused c_law_bad_many c_law_judged))
def w_law (K : Frag) (cl : Ad) (c_law_pick c_law_places c_law_whole_state c_law_condition c_law_program c_law_told_loop c_law_grown c_law_right_run c_law_refused c_law_bad_many c_law_judged : Ct) : SW :=
  (wSeq (wAsg 2 (wTup (wCons (wTup wNil) (wCons (wTup wNil) wNil))))
  (w_law_t20 K cl c_law_pick c_law_places c_law_whole_state c_law_condition c_law_program c_law_told_loop c_law_grown c_law_right_run c_law_refused c_law_bad_many c_law_judged))
theorem ok_law (T : Txt K mg cl) {k : Nat} (h1 : 1 ≤ k) {j_law_pick : Nat} {c_law_pick : Ct} (G_law_pick : FnOk P wd K mg base (L2.CX P wd) j_law_pick cl.f_law_pick cl.d_law_pick P_law_pick (spD K c_law_pick)) (h_law_pick : j_law_pick ≤ k) {j_law_places : Nat} {c_law_places : Ct} (G_law_places : FnOk P wd K mg base (L2.CX P wd) j_law_places cl.f_law_places cl.d_law_places P_law_places (spD K c_law_places)) (h_law_places : j_law_places ≤ k) {j_law_whole_state : Nat} {c_law_whole_state : Ct} (G_law_whole_state : FnOk P wd K mg base (L2.CX P wd) j_law_whole_state cl.f_law_whole_state cl.d_law_whole_state P_law_whole_state (spD K c_law_whole_state)) (h_law_whole_state : j_law_whole_state ≤ k) {j_law_condition : Nat} {c_law_condition : Ct} (G_law_condition : FnOk P wd K mg base (L2.CX P wd) j_law_condition cl.f_law_condition cl.d_law_condition P_law_condition (spD K c_law_condition)) (h_law_condition : j_law_condition ≤ k) {j_law_program : Nat} {c_law_program : Ct} (G_law_program : FnOk P wd K mg base (L2.CX P wd) j_law_program cl.f_law_program cl.d_law_program P_law_program (spD K c_law_program)) (h_law_program : j_law_program ≤ k) {j_law_told_loop : Nat} {c_law_told_loop : Ct} (G_law_told_loop : FnOk P wd K mg base (L2.CX P wd) j_law_told_loop cl.f_law_told_loop cl.d_law_told_loop P_law_told_loop (spD K c_law_told_loop)) (h_law_told_loop : j_law_told_loop ≤ k) {j_law_grown : Nat} {c_law_grown : Ct} (G_law_grown : FnOk P wd K mg base (L2.CX P wd) j_law_grown cl.f_law_grown cl.d_law_grown P_law_grown (spD K c_law_grown)) (h_law_grown : j_law_grown ≤ k) {j_law_right_run : Nat} {c_law_right_run : Ct} (G_law_right_run : FnOk P wd K mg base (L2.CX P wd) j_law_right_run cl.f_law_right_run cl.d_law_right_run P_law_right_run (spD K c_law_right_run)) (h_law_right_run : j_law_right_run ≤ k) {j_law_refused : Nat} {c_law_refused : Ct} (G_law_refused : FnOk P wd K mg base (L2.CX P wd) j_law_refused cl.f_law_refused cl.d_law_refused P_law_refused (spD K c_law_refused)) (h_law_refused : j_law_refused ≤ k) {j_law_bad_many : Nat} {c_law_bad_many : Ct} (G_law_bad_many : FnOk P wd K mg base (L2.CX P wd) j_law_bad_many cl.f_law_bad_many cl.d_law_bad_many P_law_bad_many (spD K c_law_bad_many)) (h_law_bad_many : j_law_bad_many ≤ k) {j_law_judged : Nat} {c_law_judged : Ct} (G_law_judged : FnOk P wd K mg base (L2.CX P wd) j_law_judged cl.f_law_judged cl.d_law_judged P_law_judged (spD K c_law_judged)) (h_law_judged : j_law_judged ≤ k)
    (hw : ∀ ns : List Int, ns.length ≤ 63 → w_law K cl c_law_pick c_law_places c_law_whole_state c_law_condition c_law_program c_law_told_loop c_law_grown c_law_right_run c_law_refused c_law_bad_many c_law_judged (some (.s (.list (ns.map PyData.int))) :: some .g :: List.replicate (N_law.length - 2) none) { nx := fun _ => False, rt := fun r => r = .s (.bool true) }) :
    FnOk P wd K mg base CX0 (k + 1) cl.f_law cl.d_law P_law (spLaw K) := by
  refine T.F_law.ok sc_law (fun vs H Q E h => ?_) (fun cdv A outer s H vs Q E hr h => ⟨_, ?_, law_read (N := N_law) (by decide) h hw⟩)
  · obtain ⟨a, ns, rfl, _⟩ := h
    rfl
  · have GD := ok_law_deck (P := P) (wd := wd) (base := base) T
    exact pss_cons (ps_set (i := 1) sc_law.nd rfl (by first | exact Or.inl rfl | exact Or.inr rfl) (pe_callS GD (hr.mono h1) (by rfl) T.m_law_deck T.F_law_deck.kp T.b_law_deck (fun σ => passAt takes0 σ) (pa_cons (pv 0) pa_nil)))
        (pds_cons (pds_set (ps_set (i := 2) sc_law.nd rfl (by first | exact Or.inl rfl | exact Or.inr rfl) (pd_tup (pda_cons (pd_tup pda_nil) (pda_cons (pd_tup pda_nil) pda_nil)))))
          (pds_cons (pds_if (pdt_w (pdw_or (pdt_not (pdt_val (pd_call (pe_callS G_law_right_run (hr.mono h_law_right_run) (by rfl) T.m_law_right_run T.F_law_right_run.kp T.b_law_right_run (fun σ => passAt takes0 σ) (pda_cons pd_int (pda_cons (pd_tup (pda_cons (pd_tup (pda_cons pd_str (pda_cons (pd_un o_neg pd_int) (pda_cons (pd_un o_neg pd_int) pda_nil)))) (pda_cons (pd_tup pda_nil) pda_nil))) (pda_cons (pd_var (pv 2)) (pda_cons pd_int pda_nil)))))))) (pdw_or1 (pdt_not (pdt_val (pd_call (pe_callS G_law_right_run (hr.mono h_law_right_run) (by rfl) T.m_law_right_run T.F_law_right_run.kp T.b_law_right_run (fun σ => passAt takes0 σ) (pda_cons pd_int (pda_cons (pd_tup (pda_cons (pd_tup (pda_cons pd_str (pda_cons (pd_un o_neg pd_int) (pda_cons (pd_un o_neg pd_int) pda_nil)))) (pda_cons (pd_tup pda_nil) pda_nil))) (pda_cons (pd_var (pv 2)) (pda_cons pd_int pda_nil)))))))))))
          (pds_one (pds_ret pd_bl))
          pds_nil)
          (pds_cons (pds_for (ps_for PassesOwn.never rfl (pif_range1 (pi_range1 (by rfl) T.n_range (pda_cons (pd_op o_add pd_int (call_core (t := fun _ _ _ => True) (pe_callB (c_min2 rfl) (by rfl) T.n_min (by decide +kernel) (pda_cons (call_core (t := fun _ _ _ => True) (pe_callB c_len (by rfl) T.n_len (by decide +kernel) (pda_cons (pd_var (pv 0)) pda_nil))) (pda_cons pd_int pda_nil))))) pda_nil))) (pgd_name (pg_name (i := 3) sc_law.nd rfl (by first | exact Or.inl rfl | exact Or.inr rfl))) (pds_cons (pds_set (ps_set (i := 4) sc_law.nd rfl (by first | exact Or.inl rfl | exact Or.inr rfl) (pd_op o_add pd_int (pd_call (pe_callS G_law_pick (hr.mono h_law_pick) (by rfl) T.m_law_pick T.F_law_pick.kp T.b_law_pick (fun σ => passAt takes0 σ) (pda_cons (pd_var (pv 1)) (pda_cons pd_int pda_nil)))))))
          (pds_cons (pds_parT (is := [5, 6]) (by decide) (ps_asg (peN_tup (pda_cons (pd_tup (pda_cons (pd_frz (pd_call (pe_callS G_law_condition (hr.mono h_law_condition) (by rfl) T.m_law_condition T.F_law_condition.kp T.b_law_condition (fun σ => passAt takes0 σ) (pda_cons (pd_var (pv 1)) (pda_cons (pd_var (pv 4)) pda_nil))))) (pda_cons (pd_frz (pd_call (pe_callS G_law_program (hr.mono h_law_program) (by rfl) T.m_law_program T.F_law_program.kp T.b_law_program (fun σ => passAt takes0 σ) (pda_cons (pd_var (pv 1)) (pda_cons (pd_var (pv 4)) (pda_cons pd_int (pda_cons pd_int pda_nil))))))) pda_nil))) (pda_cons (pd_call (pe_callS G_law_pick (hr.mono h_law_pick) (by rfl) T.m_law_pick T.F_law_pick.kp T.b_law_pick (fun σ => passAt takes0 σ) (pda_cons (pd_var (pv 1)) (pda_cons pd_int pda_nil)))) pda_nil))) (pg_tup rfl (pgs_cons (pg_name (i := 5) sc_law.nd rfl (by first | exact Or.inl rfl | exact Or.inr rfl)) (pgs_cons (pg_name (i := 6) sc_law.nd rfl (by first | exact Or.inl rfl | exact Or.inr rfl)) pgs_nil)))))
          (pds_cons (pds_if (pdt_cmp (o_eq hr.units) (pd_call (pe_callS G_law_pick (hr.mono h_law_pick) (by rfl) T.m_law_pick T.F_law_pick.kp T.b_law_pick (fun σ => passAt takes0 σ) (pda_cons (pd_var (pv 1)) (pda_cons pd_int pda_nil)))) pd_int (nomark _))
          (pds_one (pds_set (ps_set (i := 5) sc_law.nd rfl (by first | exact Or.inl rfl | exact Or.inr rfl) (pd_call (pe_callS G_law_told_loop (hr.mono h_law_told_loop) (by rfl) T.m_law_told_loop T.F_law_told_loop.kp T.b_law_told_loop (fun σ => passAt takes0 σ) (pda_cons (pd_var (pv 1)) (pda_cons (pd_var (pv 4)) pda_nil)))))))
          pds_nil)
          (pds_cons (pds_set (ps_set (i := 7) sc_law.nd rfl (by first | exact Or.inl rfl | exact Or.inr rfl) (pd_call (pe_callS G_law_whole_state (hr.mono h_law_whole_state) (by rfl) T.m_law_whole_state T.F_law_whole_state.kp T.b_law_whole_state (fun σ => passAt takes0 σ) (pda_cons (pd_var (pv 1)) (pda_cons (pd_var (pv 4)) (pda_cons pd_int pda_nil)))))))
          (pds_cons (pds_if (pdt_w (pdw_or (pdt_not (pdt_val (pd_call (pe_callS G_law_right_run (hr.mono h_law_right_run) (by rfl) T.m_law_right_run T.F_law_right_run.kp T.b_law_right_run (fun σ => passAt takes0 σ) (pda_cons (pd_var (pv 4)) (pda_cons (pd_var (pv 5)) (pda_cons (pd_var (pv 7)) (pda_cons (pd_var (pv 6)) pda_nil)))))))) (pdw_or1 (pdt_not (pdt_val (pd_call (pe_callS G_law_right_run (hr.mono h_law_right_run) (by rfl) T.m_law_right_run T.F_law_right_run.kp T.b_law_right_run (fun σ => passAt takes0 σ) (pda_cons (pd_var (pv 4)) (pda_cons (pd_var (pv 5)) (pda_cons (pd_var (pv 7)) (pda_cons pd_int pda_nil)))))))))))
          (pds_one (pds_ret pd_bl))
          pds_nil)
          (pds_cons (pds_if (pdt_w (pdw_and (pdt_cmp (o_eq hr.units) (pd_var (pv 3)) pd_int (nomark _)) (pdw_and1 (pdt_not (pdt_val (pd_call (pe_callS G_law_judged (hr.mono h_law_judged) (by rfl) T.m_law_judged T.F_law_judged.kp T.b_law_judged (fun σ => passAt takes0 σ) (pda_cons (pd_var (pv 4)) (pda_cons (pd_var (pv 5)) pda_nil)))))))))
          (pds_one (pds_ret pd_bl))
          pds_nil)
          (pds_cons (pds_set (ps_set (i := 8) sc_law.nd rfl (by first | exact Or.inl rfl | exact Or.inr rfl) (pd_tup (pda_cons (pd_ix (o_ix hr.units) (pd_var (pv 7)) pd_int (fun _ _ => rfl)) (pda_cons (pd_frz (pd_op o_add (pd_ix (o_ix hr.units) (pd_var (pv 7)) pd_int (fun _ _ => rfl)) (pd_tup (pda_cons (pd_tup (pda_cons (pd_frz (pd_op o_add (call_core (t := fun _ _ _ => True) (pe_callB (c_max1 rfl) (by rfl) T.n_max (by decide +kernel) (pda_cons (pd_op o_add (pd_lst (pda_cons pd_int pda_nil)) (pd_call (pe_callS G_law_places (hr.mono h_law_places) (by rfl) T.m_law_places T.F_law_places.kp T.b_law_places (fun σ => passAt takes0 σ) (pda_cons (pd_var (pv 7)) pda_nil)))) pda_nil))) pd_int)) (pda_cons pd_int pda_nil))) pda_nil)))) pda_nil)))))
          (pds_cons (pds_set (ps_set (i := 9) sc_law.nd rfl (by first | exact Or.inl rfl | exact Or.inr rfl) (pd_lst (pda_cons (pd_frz (pd_call (pe_callS G_law_refused (hr.mono h_law_refused) (by rfl) T.m_law_refused T.F_law_refused.kp T.b_law_refused (fun σ => passAt takes0 σ) (pda_cons pd_int (pda_cons pd_non (pda_cons pd_non (pda_cons pd_non pda_nil))))))) (pda_cons (pd_frz (pd_call (pe_callS G_law_refused (hr.mono h_law_refused) (by rfl) T.m_law_refused T.F_law_refused.kp T.b_law_refused (fun σ => passAt takes0 σ) (pda_cons pd_bl (pda_cons (pd_var (pv 5)) (pda_cons (pd_var (pv 7)) (pda_cons (pd_var (pv 6)) pda_nil))))))) (pda_cons (pd_frz (pd_call (pe_callS G_law_refused (hr.mono h_law_refused) (by rfl) T.m_law_refused T.F_law_refused.kp T.b_law_refused (fun σ => passAt takes0 σ) (pda_cons (pd_var (pv 4)) (pda_cons pd_non (pda_cons pd_non (pda_cons pd_non pda_nil))))))) pda_nil))))))
          (pds_cons (pds_set (ps_set (i := 9) sc_law.nd rfl (by first | exact Or.inl rfl | exact Or.inr rfl) (pd_op o_add (pd_var (pv 9)) (pd_lst (pda_cons (pd_frz (pd_call (pe_callS G_law_refused (hr.mono h_law_refused) (by rfl) T.m_law_refused T.F_law_refused.kp T.b_law_refused (fun σ => passAt takes0 σ) (pda_cons (pd_var (pv 4)) (pda_cons (pd_frz (call_core (t := fun _ _ _ => True) (pe_callTy c_list (by rfl) T.n_list (by decide +kernel) (pda_cons (pd_var (pv 5)) pda_nil)))) (pda_cons pd_non (pda_cons (pd_un o_neg pd_int) pda_nil))))))) (pda_cons (pd_frz (pd_call (pe_callS G_law_refused (hr.mono h_law_refused) (by rfl) T.m_law_refused T.F_law_refused.kp T.b_law_refused (fun σ => passAt takes0 σ) (pda_cons (pd_var (pv 4)) (pda_cons (pd_var (pv 5)) (pda_cons pd_non (pda_cons pd_non pda_nil))))))) pda_nil))))))
          (pds_cons (pds_set (ps_set (i := 9) sc_law.nd rfl (by first | exact Or.inl rfl | exact Or.inr rfl) (pd_op o_add (pd_var (pv 9)) (pd_lst (pda_cons (pd_frz (pd_call (pe_callS G_law_refused (hr.mono h_law_refused) (by rfl) T.m_law_refused T.F_law_refused.kp T.b_law_refused (fun σ => passAt takes0 σ) (pda_cons (pd_var (pv 4)) (pda_cons (pd_var (pv 5)) (pda_cons (pd_var (pv 8)) (pda_cons (pd_un o_neg pd_int) pda_nil))))))) (pda_cons (pd_frz (pd_call (pe_callS G_law_refused (hr.mono h_law_refused) (by rfl) T.m_law_refused T.F_law_refused.kp T.b_law_refused (fun σ => passAt takes0 σ) (pda_cons (pd_var (pv 4)) (pda_cons (pd_var (pv 5)) (pda_cons (pd_frz (call_core (t := fun _ _ _ => True) (pe_callTy c_list (by rfl) T.n_list (by decide +kernel) (pda_cons (pd_var (pv 7)) pda_nil)))) (pda_cons (pd_var (pv 6)) pda_nil))))))) pda_nil))))))
          (pds_cons (pds_set (ps_set (i := 9) sc_law.nd rfl (by first | exact Or.inl rfl | exact Or.inr rfl) (pd_op o_add (pd_var (pv 9)) (pd_lc (tup := false) (is := [10]) (pe_lc (own := [("bad", 10)]) (g := gC K false [10]) rfl sc_law.nd (pic_seq (pd_tup (pda_cons (pd_un o_neg pd_int) (pda_cons pd_int (pda_cons pd_non (pda_cons pd_bl pda_nil)))))) (blkOk_by (own := [("bad", 10)]) (N := N_law) (sc := defScope s_law) (by decide +kernel)) (fun _ _ _ _ _ => (pg_name (i := 10) sc_law.nd rfl (by first | exact Or.inl rfl | exact Or.inr rfl))) (fun _ _ _ _ _ => pdts_nil) (fun _ _ _ _ _ => (pd_frz (pd_call (pe_callS G_law_refused (hr.mono h_law_refused) (by rfl) T.m_law_refused T.F_law_refused.kp T.b_law_refused (fun σ => passAt takes0 σ) (pda_cons (pd_var (pv 4)) (pda_cons (pd_var (pv 5)) (pda_cons (pd_var (pv 7)) (pda_cons (pd_var (pv 10)) pda_nil))))))))) (by decide) (by first | exact Or.inl rfl | exact Or.inr ⟨_, rfl⟩)))))
          (pds_one (pds_if (pdt_cmp (o_ne hr.units) (pd_var (pv 9)) (pd_lst (pda_cons pd_str (pda_cons pd_str (pda_cons pd_str (pda_cons pd_str (pda_cons pd_str (pda_cons pd_str (pda_cons pd_str (pda_cons pd_str (pda_cons pd_str (pda_cons pd_str (pda_cons pd_str pda_nil)))))))))))) (nomark _))
          (pds_one (pds_ret pd_bl))
          pds_nil)))))))))))))))
          (pds_cons (pds_asgT (ps_asg (pd_frz (pd_call (pe_callS G_law_grown (hr.mono h_law_grown) (by rfl) T.m_law_grown T.F_law_grown.kp T.b_law_grown (fun σ => passAt takes0 σ) (pda_cons (pd_var (pv 1)) pda_nil)))) (pgd_tup (pg_tup rfl (pgds_cons (pgs_cons (pgd_name (pg_name (i := 5) sc_law.nd rfl (by first | exact Or.inl rfl | exact Or.inr rfl))) (pgds_cons (pgs_cons (pgd_name (pg_name (i := 7) sc_law.nd rfl (by first | exact Or.inl rfl | exact Or.inr rfl))) (pgds_cons (pgs_cons (pgd_name (pg_name (i := 6) sc_law.nd rfl (by first | exact Or.inl rfl | exact Or.inr rfl))) pgds_nil))))))))))
          (pds_cons (pds_if (pdt_not (pdt_val (pd_call (pe_callS G_law_right_run (hr.mono h_law_right_run) (by rfl) T.m_law_right_run T.F_law_right_run.kp T.b_law_right_run (fun σ => passAt takes0 σ) (pda_cons pd_int (pda_cons (pd_var (pv 5)) (pda_cons (pd_var (pv 7)) (pda_cons (pd_var (pv 6)) pda_nil))))))))
          (pds_one (pds_ret pd_bl))
          pds_nil)
          (pds_cons (pds_set (ps_set (i := 11) sc_law.nd rfl (by first | exact Or.inl rfl | exact Or.inr rfl) (pd_op o_add pd_int (pd_call (pe_callS G_law_pick (hr.mono h_law_pick) (by rfl) T.m_law_pick T.F_law_pick.kp T.b_law_pick (fun σ => passAt takes0 σ) (pda_cons (pd_var (pv 1)) (pda_cons pd_int pda_nil)))))))
          (pds_cons (pds_set (ps_set (i := 7) sc_law.nd rfl (by first | exact Or.inl rfl | exact Or.inr rfl) (pd_tup (pda_cons (pd_tup (pda_cons pd_int pda_nil)) (pda_cons (call_core (t := fun _ _ _ => True) (pe_callTy c_tuple (by rfl) T.n_tuple (by decide +kernel) (pda_cons (pd_op o_add (pd_lc (tup := false) (is := [12]) (pe_lc (own := [("k", 12)]) (g := gC K false [12]) rfl sc_law.nd (pic_range2 (pi_range2 (by rfl) T.n_range (pda_cons pd_int (pda_cons (pd_var (pv 11)) pda_nil)))) (blkOk_by (own := [("k", 12)]) (N := N_law) (sc := defScope s_law) (by decide +kernel)) (fun _ _ _ _ _ => (pg_name (i := 12) sc_law.nd rfl (by first | exact Or.inl rfl | exact Or.inr rfl))) (fun _ _ _ _ _ => pdts_nil) (fun _ _ _ _ _ => (pd_tup (pda_cons (pd_var (pv 12)) (pda_cons (pd_frz (pd_op o_add (pd_var (pv 12)) pd_int)) pda_nil))))) (by decide) (by first | exact Or.inl rfl | exact Or.inr ⟨_, rfl⟩)) (pd_lst (pda_cons (pd_tup (pda_cons (pd_var (pv 11)) (pda_cons pd_int pda_nil))) pda_nil))) pda_nil))) pda_nil)))))
          (pds_cons (pds_if (pdt_not (pdt_val (pd_call (pe_callS G_law_right_run (hr.mono h_law_right_run) (by rfl) T.m_law_right_run T.F_law_right_run.kp T.b_law_right_run (fun σ => passAt takes0 σ) (pda_cons pd_int (pda_cons (pd_tup (pda_cons (pd_tup (pda_cons pd_str (pda_cons pd_int (pda_cons (pd_un o_neg pd_int) pda_nil)))) (pda_cons (pd_tup (pda_cons (pd_tup (pda_cons pd_str (pda_cons pd_int (pda_cons pd_int pda_nil)))) pda_nil)) pda_nil))) (pda_cons (pd_var (pv 7)) (pda_cons pd_int pda_nil))))))))
          (pds_one (pds_ret pd_bl))
          pds_nil)
          (pds_one (pds_ret (pd_cmp (o_eq hr.units) (pd_lc (tup := false) (is := [4]) (pe_lc (own := [("many", 4)]) (g := gC K false [4]) rfl sc_law.nd (pic_seq (pd_tup (pda_cons pd_non (pda_cons (pd_un o_neg pd_int) (pda_cons pd_int (pda_cons pd_bl (pda_cons pd_str pda_nil))))))) (blkOk_by (own := [("many", 4)]) (N := N_law) (sc := defScope s_law) (by decide +kernel)) (fun _ _ _ _ _ => (pg_name (i := 4) sc_law.nd rfl (by first | exact Or.inl rfl | exact Or.inr rfl))) (fun _ _ _ _ _ => (pdts_one (pdt_not (pdt_val (pd_call (pe_callS G_law_bad_many (hr.mono h_law_bad_many) (by rfl) T.m_law_bad_many T.F_law_bad_many.kp T.b_law_bad_many (fun σ => passAt takes0 σ) (pda_cons (pd_var (pv 4)) pda_nil))))))) (fun _ _ _ _ _ => (pd_var (pv 4)))) (by decide) (by first | exact Or.inl rfl | exact Or.inr ⟨_, rfl⟩)) (pd_lst pda_nil) (nomark _))))))))))))
end
theorem txt_mk {K : PySem.W.Frag} {h : Heap} {mg : Str → Option Value} (X : K.In h) (G : h.Ns mainGlobals mg)
    {c_HeapError : Addr}
    {c_BadMany : Addr}
    {c_BadState : Addr}
    {c_BadLoop : Addr}
    {c_BadMost : Addr}
    {c_TooGreat : Addr}
    {f_is_int : Addr}
    {d_is_int : FuncData}
    {f_within : Addr}
    {d_within : FuncData}
    {f_is_row : Addr}
    {d_is_row : FuncData}
    {f_is_word : Addr}
    {d_is_word : FuncData}
    {f_is_many : Addr}
    {d_is_many : FuncData}
    {f_need_many : Addr}
    {d_need_many : FuncData}
    {f_is_cell : Addr}
    {d_is_cell : FuncData}
    {f_are_cells : Addr}
    {d_are_cells : FuncData}
    {f_is_state_of : Addr}
    {d_is_state_of : FuncData}
    {f_places_of : Addr}
    {d_places_of : FuncData}
    {f_state_from : Addr}
    {d_state_from : FuncData}
    {f_reached_by : Addr}
    {d_reached_by : FuncData}
    {f_is_whole_of : Addr}
    {d_is_whole_of : FuncData}
    {f_is_step_of : Addr}
    {d_is_step_of : FuncData}
    {f_is_condition_of : Addr}
    {d_is_condition_of : FuncData}
    {f_condition_in : Addr}
    {d_condition_in : FuncData}
    {f_top_of : Addr}
    {d_top_of : FuncData}
    {f_step_in : Addr}
    {d_step_in : FuncData}
    {f_is_whole_state : Addr}
    {d_is_whole_state : FuncData}
    {f_is_branch : Addr}
    {d_is_branch : FuncData}
    {f_size_of : Addr}
    {d_size_of : FuncData}
    {f_branch_size : Addr}
    {d_branch_size : FuncData}
    {f_is_program_of : Addr}
    {d_is_program_of : FuncData}
    {f_course_in : Addr}
    {d_course_in : FuncData}
    {f_outcome_in : Addr}
    {d_outcome_in : FuncData}
    {f_is_loop_of : Addr}
    {d_is_loop_of : FuncData}
    {f_is_loop : Addr}
    {d_is_loop : FuncData}
    {f_need_loop : Addr}
    {d_need_loop : FuncData}
    {f_looped : Addr}
    {d_looped : FuncData}
    {f_run_loop : Addr}
    {d_run_loop : FuncData}
    {f_law_deck : Addr}
    {d_law_deck : FuncData}
    {f_law_pick : Addr}
    {d_law_pick : FuncData}
    {f_law_same : Addr}
    {d_law_same : FuncData}
    {f_law_places : Addr}
    {d_law_places : FuncData}
    {f_law_state : Addr}
    {d_law_state : FuncData}
    {f_law_whole : Addr}
    {d_law_whole : FuncData}
    {f_law_whole_state : Addr}
    {d_law_whole_state : FuncData}
    {f_law_step : Addr}
    {d_law_step : FuncData}
    {f_law_condition : Addr}
    {d_law_condition : FuncData}
    {f_law_size : Addr}
    {d_law_size : FuncData}
    {f_law_program : Addr}
    {d_law_program : FuncData}
    {f_law_rise : Addr}
    {d_law_rise : FuncData}
    {f_law_light_program : Addr}
    {d_law_light_program : FuncData}
    {f_law_told_loops : Addr}
    {d_law_told_loops : FuncData}
    {f_law_told_loop : Addr}
    {d_law_told_loop : FuncData}
    {f_law_reached : Addr}
    {d_law_reached : FuncData}
    {f_law_do : Addr}
    {d_law_do : FuncData}
    {f_law_told_condition : Addr}
    {d_law_told_condition : FuncData}
    {f_law_run : Addr}
    {d_law_run : FuncData}
    {f_law_outcome : Addr}
    {d_law_outcome : FuncData}
    {f_law_loop_run : Addr}
    {d_law_loop_run : FuncData}
    {f_law_grown : Addr}
    {d_law_grown : FuncData}
    {f_law_right_run : Addr}
    {d_law_right_run : FuncData}
    {f_law_refused : Addr}
    {d_law_refused : FuncData}
    {f_law_bad_many : Addr}
    {d_law_bad_many : FuncData}
    {f_law_none : Addr}
    {d_law_none : FuncData}
    {f_law_judged : Addr}
    {d_law_judged : FuncData}
    {f_law : Addr}
    {d_law : FuncData}
    {t_DEEPEST : Tok}
    {t_LAST_PLACE : Tok}
    {t_MOST_CELLS : Tok}
    {t_MOST_PARTS : Tok}
    {t_MOST_TURNS : Tok}
    {t_MOST_VARIABLES : Tok}
    {a_WORDS : Addr}
    {u_WORDS_0 : Tok}
    {u_WORDS_1 : Tok}
    {u_WORDS_2 : Tok}
    {u_WORDS_3 : Tok}
    {u_WORDS_4 : Tok}
    {w_WORDS : Nat}
    {z_WORDS : Array (Option Value)}
    (g_HeapError : PySem.W.nsIn K mainGlobals "HeapError" = some (some (.ref c_HeapError)))
    (x_HeapError : PySem.W.excIn K c_HeapError [.type "ValueError", .type "Exception", .type "BaseException", .type "object"] "ValueError.__new__" = true)
    (k_HeapError : PySem.W.keepIn K (.ref c_HeapError) = true)
    (s_HeapError : PySem.W.subIn K (.ref c_HeapError) (.type "BaseException") = some true)
    (t_HeapError : PySem.W.typeIn K (.ref c_HeapError) = some (.type "type"))
    (g_BadMany : PySem.W.nsIn K mainGlobals "BadMany" = some (some (.ref c_BadMany)))
    (x_BadMany : PySem.W.excIn K c_BadMany [.type "ValueError", .type "Exception", .type "BaseException", .type "object"] "ValueError.__new__" = true)
    (k_BadMany : PySem.W.keepIn K (.ref c_BadMany) = true)
    (s_BadMany : PySem.W.subIn K (.ref c_BadMany) (.type "BaseException") = some true)
    (t_BadMany : PySem.W.typeIn K (.ref c_BadMany) = some (.type "type"))
    (g_BadState : PySem.W.nsIn K mainGlobals "BadState" = some (some (.ref c_BadState)))
    (x_BadState : PySem.W.excIn K c_BadState [.type "ValueError", .type "Exception", .type "BaseException", .type "object"] "ValueError.__new__" = true)
    (k_BadState : PySem.W.keepIn K (.ref c_BadState) = true)
    (s_BadState : PySem.W.subIn K (.ref c_BadState) (.type "BaseException") = some true)
    (t_BadState : PySem.W.typeIn K (.ref c_BadState) = some (.type "type"))
    (g_BadLoop : PySem.W.nsIn K mainGlobals "BadLoop" = some (some (.ref c_BadLoop)))
    (x_BadLoop : PySem.W.excIn K c_BadLoop [.type "ValueError", .type "Exception", .type "BaseException", .type "object"] "ValueError.__new__" = true)
    (k_BadLoop : PySem.W.keepIn K (.ref c_BadLoop) = true)
    (s_BadLoop : PySem.W.subIn K (.ref c_BadLoop) (.type "BaseException") = some true)
    (t_BadLoop : PySem.W.typeIn K (.ref c_BadLoop) = some (.type "type"))
    (g_BadMost : PySem.W.nsIn K mainGlobals "BadMost" = some (some (.ref c_BadMost)))
    (x_BadMost : PySem.W.excIn K c_BadMost [.type "ValueError", .type "Exception", .type "BaseException", .type "object"] "ValueError.__new__" = true)
    (k_BadMost : PySem.W.keepIn K (.ref c_BadMost) = true)
    (s_BadMost : PySem.W.subIn K (.ref c_BadMost) (.type "BaseException") = some true)
    (t_BadMost : PySem.W.typeIn K (.ref c_BadMost) = some (.type "type"))
    (g_TooGreat : PySem.W.nsIn K mainGlobals "TooGreat" = some (some (.ref c_TooGreat)))
    (x_TooGreat : PySem.W.excIn K c_TooGreat [.type "ValueError", .type "Exception", .type "BaseException", .type "object"] "ValueError.__new__" = true)
    (k_TooGreat : PySem.W.keepIn K (.ref c_TooGreat) = true)
    (s_TooGreat : PySem.W.subIn K (.ref c_TooGreat) (.type "BaseException") = some true)
    (t_TooGreat : PySem.W.typeIn K (.ref c_TooGreat) = some (.type "type"))
    (e_HeapError_BadMany : PySem.W.exmOne K (.ref c_HeapError) (.ref c_BadMany) = some false)
    (e_HeapError_BadState : PySem.W.exmOne K (.ref c_HeapError) (.ref c_BadState) = some false)
    (e_HeapError_BadLoop : PySem.W.exmOne K (.ref c_HeapError) (.ref c_BadLoop) = some false)
    (e_HeapError_BadMost : PySem.W.exmOne K (.ref c_HeapError) (.ref c_BadMost) = some false)
    (e_HeapError_TooGreat : PySem.W.exmOne K (.ref c_HeapError) (.ref c_TooGreat) = some false)
    (e_BadMany_BadMany : PySem.W.exmOne K (.ref c_BadMany) (.ref c_BadMany) = some true)
    (e_BadMany_BadState : PySem.W.exmOne K (.ref c_BadMany) (.ref c_BadState) = some false)
    (e_BadMany_BadLoop : PySem.W.exmOne K (.ref c_BadMany) (.ref c_BadLoop) = some false)
    (e_BadMany_BadMost : PySem.W.exmOne K (.ref c_BadMany) (.ref c_BadMost) = some false)
    (e_BadMany_TooGreat : PySem.W.exmOne K (.ref c_BadMany) (.ref c_TooGreat) = some false)
    (e_BadState_BadMany : PySem.W.exmOne K (.ref c_BadState) (.ref c_BadMany) = some false)
    (e_BadState_BadState : PySem.W.exmOne K (.ref c_BadState) (.ref c_BadState) = some true)
    (e_BadState_BadLoop : PySem.W.exmOne K (.ref c_BadState) (.ref c_BadLoop) = some false)
    (e_BadState_BadMost : PySem.W.exmOne K (.ref c_BadState) (.ref c_BadMost) = some false)
    (e_BadState_TooGreat : PySem.W.exmOne K (.ref c_BadState) (.ref c_TooGreat) = some false)
    (e_BadLoop_BadMany : PySem.W.exmOne K (.ref c_BadLoop) (.ref c_BadMany) = some false)
    (e_BadLoop_BadState : PySem.W.exmOne K (.ref c_BadLoop) (.ref c_BadState) = some false)
    (e_BadLoop_BadLoop : PySem.W.exmOne K (.ref c_BadLoop) (.ref c_BadLoop) = some true)
    (e_BadLoop_BadMost : PySem.W.exmOne K (.ref c_BadLoop) (.ref c_BadMost) = some false)
    (e_BadLoop_TooGreat : PySem.W.exmOne K (.ref c_BadLoop) (.ref c_TooGreat) = some false)
    (e_BadMost_BadMany : PySem.W.exmOne K (.ref c_BadMost) (.ref c_BadMany) = some false)
    (e_BadMost_BadState : PySem.W.exmOne K (.ref c_BadMost) (.ref c_BadState) = some false)
    (e_BadMost_BadLoop : PySem.W.exmOne K (.ref c_BadMost) (.ref c_BadLoop) = some false)
    (e_BadMost_BadMost : PySem.W.exmOne K (.ref c_BadMost) (.ref c_BadMost) = some true)
    (e_BadMost_TooGreat : PySem.W.exmOne K (.ref c_BadMost) (.ref c_TooGreat) = some false)
    (e_TooGreat_BadMany : PySem.W.exmOne K (.ref c_TooGreat) (.ref c_BadMany) = some false)
    (e_TooGreat_BadState : PySem.W.exmOne K (.ref c_TooGreat) (.ref c_BadState) = some false)
    (e_TooGreat_BadLoop : PySem.W.exmOne K (.ref c_TooGreat) (.ref c_BadLoop) = some false)
    (e_TooGreat_BadMost : PySem.W.exmOne K (.ref c_TooGreat) (.ref c_BadMost) = some false)
    (e_TooGreat_TooGreat : PySem.W.exmOne K (.ref c_TooGreat) (.ref c_TooGreat) = some true)
    (m_is_int : PySem.W.nsIn K mainGlobals "is_int" = some (some (.ref f_is_int)))
    (F_is_int : Fun K "is_int" "is_int" s_is_int f_is_int d_is_int)
    (m_within : PySem.W.nsIn K mainGlobals "within" = some (some (.ref f_within)))
    (F_within : Fun K "within" "within" s_within f_within d_within)
    (m_is_row : PySem.W.nsIn K mainGlobals "is_row" = some (some (.ref f_is_row)))
    (F_is_row : Fun K "is_row" "is_row" s_is_row f_is_row d_is_row)
    (m_is_word : PySem.W.nsIn K mainGlobals "is_word" = some (some (.ref f_is_word)))
    (F_is_word : Fun K "is_word" "is_word" s_is_word f_is_word d_is_word)
    (m_is_many : PySem.W.nsIn K mainGlobals "is_many" = some (some (.ref f_is_many)))
    (F_is_many : Fun K "is_many" "is_many" s_is_many f_is_many d_is_many)
    (m_need_many : PySem.W.nsIn K mainGlobals "need_many" = some (some (.ref f_need_many)))
    (F_need_many : Fun K "need_many" "need_many" s_need_many f_need_many d_need_many)
    (m_is_cell : PySem.W.nsIn K mainGlobals "is_cell" = some (some (.ref f_is_cell)))
    (F_is_cell : Fun K "is_cell" "is_cell" s_is_cell f_is_cell d_is_cell)
    (m_are_cells : PySem.W.nsIn K mainGlobals "are_cells" = some (some (.ref f_are_cells)))
    (F_are_cells : Fun K "are_cells" "are_cells" s_are_cells f_are_cells d_are_cells)
    (m_is_state_of : PySem.W.nsIn K mainGlobals "is_state_of" = some (some (.ref f_is_state_of)))
    (F_is_state_of : Fun K "is_state_of" "is_state_of" s_is_state_of f_is_state_of d_is_state_of)
    (m_places_of : PySem.W.nsIn K mainGlobals "places_of" = some (some (.ref f_places_of)))
    (F_places_of : Fun K "places_of" "places_of" s_places_of f_places_of d_places_of)
    (m_state_from : PySem.W.nsIn K mainGlobals "state_from" = some (some (.ref f_state_from)))
    (F_state_from : Fun K "state_from" "state_from" s_state_from f_state_from d_state_from)
    (m_reached_by : PySem.W.nsIn K mainGlobals "reached_by" = some (some (.ref f_reached_by)))
    (F_reached_by : Fun K "reached_by" "reached_by" s_reached_by f_reached_by d_reached_by)
    (m_is_whole_of : PySem.W.nsIn K mainGlobals "is_whole_of" = some (some (.ref f_is_whole_of)))
    (F_is_whole_of : Fun K "is_whole_of" "is_whole_of" s_is_whole_of f_is_whole_of d_is_whole_of)
    (m_is_step_of : PySem.W.nsIn K mainGlobals "is_step_of" = some (some (.ref f_is_step_of)))
    (F_is_step_of : Fun K "is_step_of" "is_step_of" s_is_step_of f_is_step_of d_is_step_of)
    (m_is_condition_of : PySem.W.nsIn K mainGlobals "is_condition_of" = some (some (.ref f_is_condition_of)))
    (F_is_condition_of : Fun K "is_condition_of" "is_condition_of" s_is_condition_of f_is_condition_of d_is_condition_of)
    (m_condition_in : PySem.W.nsIn K mainGlobals "condition_in" = some (some (.ref f_condition_in)))
    (F_condition_in : Fun K "condition_in" "condition_in" s_condition_in f_condition_in d_condition_in)
    (m_top_of : PySem.W.nsIn K mainGlobals "top_of" = some (some (.ref f_top_of)))
    (F_top_of : Fun K "top_of" "top_of" s_top_of f_top_of d_top_of)
    (m_step_in : PySem.W.nsIn K mainGlobals "step_in" = some (some (.ref f_step_in)))
    (F_step_in : Fun K "step_in" "step_in" s_step_in f_step_in d_step_in)
    (m_is_whole_state : PySem.W.nsIn K mainGlobals "is_whole_state" = some (some (.ref f_is_whole_state)))
    (F_is_whole_state : Fun K "is_whole_state" "is_whole_state" s_is_whole_state f_is_whole_state d_is_whole_state)
    (m_is_branch : PySem.W.nsIn K mainGlobals "is_branch" = some (some (.ref f_is_branch)))
    (F_is_branch : Fun K "is_branch" "is_branch" s_is_branch f_is_branch d_is_branch)
    (m_size_of : PySem.W.nsIn K mainGlobals "size_of" = some (some (.ref f_size_of)))
    (F_size_of : Fun K "size_of" "size_of" s_size_of f_size_of d_size_of)
    (m_branch_size : PySem.W.nsIn K mainGlobals "branch_size" = some (some (.ref f_branch_size)))
    (F_branch_size : Fun K "branch_size" "branch_size" s_branch_size f_branch_size d_branch_size)
    (m_is_program_of : PySem.W.nsIn K mainGlobals "is_program_of" = some (some (.ref f_is_program_of)))
    (F_is_program_of : Fun K "is_program_of" "is_program_of" s_is_program_of f_is_program_of d_is_program_of)
    (m_course_in : PySem.W.nsIn K mainGlobals "course_in" = some (some (.ref f_course_in)))
    (F_course_in : Fun K "course_in" "course_in" s_course_in f_course_in d_course_in)
    (m_outcome_in : PySem.W.nsIn K mainGlobals "outcome_in" = some (some (.ref f_outcome_in)))
    (F_outcome_in : Fun K "outcome_in" "outcome_in" s_outcome_in f_outcome_in d_outcome_in)
    (m_is_loop_of : PySem.W.nsIn K mainGlobals "is_loop_of" = some (some (.ref f_is_loop_of)))
    (F_is_loop_of : Fun K "is_loop_of" "is_loop_of" s_is_loop_of f_is_loop_of d_is_loop_of)
    (m_is_loop : PySem.W.nsIn K mainGlobals "is_loop" = some (some (.ref f_is_loop)))
    (F_is_loop : Fun K "is_loop" "is_loop" s_is_loop f_is_loop d_is_loop)
    (m_need_loop : PySem.W.nsIn K mainGlobals "need_loop" = some (some (.ref f_need_loop)))
    (F_need_loop : Fun K "need_loop" "need_loop" s_need_loop f_need_loop d_need_loop)
    (m_looped : PySem.W.nsIn K mainGlobals "looped" = some (some (.ref f_looped)))
    (F_looped : Fun K "looped" "looped" s_looped f_looped d_looped)
    (m_run_loop : PySem.W.nsIn K mainGlobals "run_loop" = some (some (.ref f_run_loop)))
    (F_run_loop : Fun K "run_loop" "run_loop" s_run_loop f_run_loop d_run_loop)
    (m_law_deck : PySem.W.nsIn K mainGlobals "_law_deck" = some (some (.ref f_law_deck)))
    (F_law_deck : Fun K "_law_deck" "_law_deck" s_law_deck f_law_deck d_law_deck)
    (m_law_pick : PySem.W.nsIn K mainGlobals "_law_pick" = some (some (.ref f_law_pick)))
    (F_law_pick : Fun K "_law_pick" "_law_pick" s_law_pick f_law_pick d_law_pick)
    (m_law_same : PySem.W.nsIn K mainGlobals "_law_same" = some (some (.ref f_law_same)))
    (F_law_same : Fun K "_law_same" "_law_same" s_law_same f_law_same d_law_same)
    (m_law_places : PySem.W.nsIn K mainGlobals "_law_places" = some (some (.ref f_law_places)))
    (F_law_places : Fun K "_law_places" "_law_places" s_law_places f_law_places d_law_places)
    (m_law_state : PySem.W.nsIn K mainGlobals "_law_state" = some (some (.ref f_law_state)))
    (F_law_state : Fun K "_law_state" "_law_state" s_law_state f_law_state d_law_state)
    (m_law_whole : PySem.W.nsIn K mainGlobals "_law_whole" = some (some (.ref f_law_whole)))
    (F_law_whole : Fun K "_law_whole" "_law_whole" s_law_whole f_law_whole d_law_whole)
    (m_law_whole_state : PySem.W.nsIn K mainGlobals "_law_whole_state" = some (some (.ref f_law_whole_state)))
    (F_law_whole_state : Fun K "_law_whole_state" "_law_whole_state" s_law_whole_state f_law_whole_state d_law_whole_state)
    (m_law_step : PySem.W.nsIn K mainGlobals "_law_step" = some (some (.ref f_law_step)))
    (F_law_step : Fun K "_law_step" "_law_step" s_law_step f_law_step d_law_step)
    (m_law_condition : PySem.W.nsIn K mainGlobals "_law_condition" = some (some (.ref f_law_condition)))
    (F_law_condition : Fun K "_law_condition" "_law_condition" s_law_condition f_law_condition d_law_condition)
    (m_law_size : PySem.W.nsIn K mainGlobals "_law_size" = some (some (.ref f_law_size)))
    (F_law_size : Fun K "_law_size" "_law_size" s_law_size f_law_size d_law_size)
    (m_law_program : PySem.W.nsIn K mainGlobals "_law_program" = some (some (.ref f_law_program)))
    (F_law_program : Fun K "_law_program" "_law_program" s_law_program f_law_program d_law_program)
    (m_law_rise : PySem.W.nsIn K mainGlobals "_law_rise" = some (some (.ref f_law_rise)))
    (F_law_rise : Fun K "_law_rise" "_law_rise" s_law_rise f_law_rise d_law_rise)
    (m_law_light_program : PySem.W.nsIn K mainGlobals "_law_light_program" = some (some (.ref f_law_light_program)))
    (F_law_light_program : Fun K "_law_light_program" "_law_light_program" s_law_light_program f_law_light_program d_law_light_program)
    (m_law_told_loops : PySem.W.nsIn K mainGlobals "_law_told_loops" = some (some (.ref f_law_told_loops)))
    (F_law_told_loops : Fun K "_law_told_loops" "_law_told_loops" s_law_told_loops f_law_told_loops d_law_told_loops)
    (m_law_told_loop : PySem.W.nsIn K mainGlobals "_law_told_loop" = some (some (.ref f_law_told_loop)))
    (F_law_told_loop : Fun K "_law_told_loop" "_law_told_loop" s_law_told_loop f_law_told_loop d_law_told_loop)
    (m_law_reached : PySem.W.nsIn K mainGlobals "_law_reached" = some (some (.ref f_law_reached)))
    (F_law_reached : Fun K "_law_reached" "_law_reached" s_law_reached f_law_reached d_law_reached)
    (m_law_do : PySem.W.nsIn K mainGlobals "_law_do" = some (some (.ref f_law_do)))
    (F_law_do : Fun K "_law_do" "_law_do" s_law_do f_law_do d_law_do)
    (m_law_told_condition : PySem.W.nsIn K mainGlobals "_law_told_condition" = some (some (.ref f_law_told_condition)))
    (F_law_told_condition : Fun K "_law_told_condition" "_law_told_condition" s_law_told_condition f_law_told_condition d_law_told_condition)
    (m_law_run : PySem.W.nsIn K mainGlobals "_law_run" = some (some (.ref f_law_run)))
    (F_law_run : Fun K "_law_run" "_law_run" s_law_run f_law_run d_law_run)
    (m_law_outcome : PySem.W.nsIn K mainGlobals "_law_outcome" = some (some (.ref f_law_outcome)))
    (F_law_outcome : Fun K "_law_outcome" "_law_outcome" s_law_outcome f_law_outcome d_law_outcome)
    (m_law_loop_run : PySem.W.nsIn K mainGlobals "_law_loop_run" = some (some (.ref f_law_loop_run)))
    (F_law_loop_run : Fun K "_law_loop_run" "_law_loop_run" s_law_loop_run f_law_loop_run d_law_loop_run)
    (m_law_grown : PySem.W.nsIn K mainGlobals "_law_grown" = some (some (.ref f_law_grown)))
    (F_law_grown : Fun K "_law_grown" "_law_grown" s_law_grown f_law_grown d_law_grown)
    (m_law_right_run : PySem.W.nsIn K mainGlobals "_law_right_run" = some (some (.ref f_law_right_run)))
    (F_law_right_run : Fun K "_law_right_run" "_law_right_run" s_law_right_run f_law_right_run d_law_right_run)
    (m_law_refused : PySem.W.nsIn K mainGlobals "_law_refused" = some (some (.ref f_law_refused)))
    (F_law_refused : Fun K "_law_refused" "_law_refused" s_law_refused f_law_refused d_law_refused)
    (m_law_bad_many : PySem.W.nsIn K mainGlobals "_law_bad_many" = some (some (.ref f_law_bad_many)))
    (F_law_bad_many : Fun K "_law_bad_many" "_law_bad_many" s_law_bad_many f_law_bad_many d_law_bad_many)
    (m_law_none : PySem.W.nsIn K mainGlobals "_law_none" = some (some (.ref f_law_none)))
    (F_law_none : Fun K "_law_none" "_law_none" s_law_none f_law_none d_law_none)
    (m_law_judged : PySem.W.nsIn K mainGlobals "_law_judged" = some (some (.ref f_law_judged)))
    (F_law_judged : Fun K "_law_judged" "_law_judged" s_law_judged f_law_judged d_law_judged)
    (m_law : PySem.W.nsIn K mainGlobals "law" = some (some (.ref f_law)))
    (F_law : Fun K "law" "law" s_law f_law d_law)
    (n_all : PySem.W.nsIn K mainGlobals "all" = some none)
    (n_bool : PySem.W.nsIn K mainGlobals "bool" = some none)
    (n_dict : PySem.W.nsIn K mainGlobals "dict" = some none)
    (n_int : PySem.W.nsIn K mainGlobals "int" = some none)
    (n_isinstance : PySem.W.nsIn K mainGlobals "isinstance" = some none)
    (n_len : PySem.W.nsIn K mainGlobals "len" = some none)
    (n_list : PySem.W.nsIn K mainGlobals "list" = some none)
    (n_max : PySem.W.nsIn K mainGlobals "max" = some none)
    (n_min : PySem.W.nsIn K mainGlobals "min" = some none)
    (n_range : PySem.W.nsIn K mainGlobals "range" = some none)
    (n_set : PySem.W.nsIn K mainGlobals "set" = some none)
    (n_sorted : PySem.W.nsIn K mainGlobals "sorted" = some none)
    (n_str : PySem.W.nsIn K mainGlobals "str" = some none)
    (n_sum : PySem.W.nsIn K mainGlobals "sum" = some none)
    (n_tuple : PySem.W.nsIn K mainGlobals "tuple" = some none)
    (n_zip : PySem.W.nsIn K mainGlobals "zip" = some none)
    (v_DEEPEST : PySem.W.nsIn K mainGlobals "DEEPEST" = some (some (.int 4 t_DEEPEST)))
    (v_LAST_PLACE : PySem.W.nsIn K mainGlobals "LAST_PLACE" = some (some (.int 1000000 t_LAST_PLACE)))
    (v_MOST_CELLS : PySem.W.nsIn K mainGlobals "MOST_CELLS" = some (some (.int 150 t_MOST_CELLS)))
    (v_MOST_PARTS : PySem.W.nsIn K mainGlobals "MOST_PARTS" = some (some (.int 24 t_MOST_PARTS)))
    (v_MOST_TURNS : PySem.W.nsIn K mainGlobals "MOST_TURNS" = some (some (.int 200 t_MOST_TURNS)))
    (v_MOST_VARIABLES : PySem.W.nsIn K mainGlobals "MOST_VARIABLES" = some (some (.int 4 t_MOST_VARIABLES)))
    (v_WORDS : PySem.W.nsIn K mainGlobals "WORDS" = some (some (.ref a_WORDS)))
    (l_WORDS : K.lookup a_WORDS = some ⟨.type "tuple", none, .seq #[.str "set" u_WORDS_0, .str "follow" u_WORDS_1, .str "put" u_WORDS_2, .str "new" u_WORDS_3, .str "free" u_WORDS_4] w_WORDS, z_WORDS⟩)
    : Txt K mg { c_HeapError := c_HeapError, c_BadMany := c_BadMany, c_BadState := c_BadState, c_BadLoop := c_BadLoop, c_BadMost := c_BadMost, c_TooGreat := c_TooGreat, f_is_int := f_is_int, d_is_int := d_is_int, f_within := f_within, d_within := d_within, f_is_row := f_is_row, d_is_row := d_is_row, f_is_word := f_is_word, d_is_word := d_is_word, f_is_many := f_is_many, d_is_many := d_is_many, f_need_many := f_need_many, d_need_many := d_need_many, f_is_cell := f_is_cell, d_is_cell := d_is_cell, f_are_cells := f_are_cells, d_are_cells := d_are_cells, f_is_state_of := f_is_state_of, d_is_state_of := d_is_state_of, f_places_of := f_places_of, d_places_of := d_places_of, f_state_from := f_state_from, d_state_from := d_state_from, f_reached_by := f_reached_by, d_reached_by := d_reached_by, f_is_whole_of := f_is_whole_of, d_is_whole_of := d_is_whole_of, f_is_step_of := f_is_step_of, d_is_step_of := d_is_step_of, f_is_condition_of := f_is_condition_of, d_is_condition_of := d_is_condition_of, f_condition_in := f_condition_in, d_condition_in := d_condition_in, f_top_of := f_top_of, d_top_of := d_top_of, f_step_in := f_step_in, d_step_in := d_step_in, f_is_whole_state := f_is_whole_state, d_is_whole_state := d_is_whole_state, f_is_branch := f_is_branch, d_is_branch := d_is_branch, f_size_of := f_size_of, d_size_of := d_size_of, f_branch_size := f_branch_size, d_branch_size := d_branch_size, f_is_program_of := f_is_program_of, d_is_program_of := d_is_program_of, f_course_in := f_course_in, d_course_in := d_course_in, f_outcome_in := f_outcome_in, d_outcome_in := d_outcome_in, f_is_loop_of := f_is_loop_of, d_is_loop_of := d_is_loop_of, f_is_loop := f_is_loop, d_is_loop := d_is_loop, f_need_loop := f_need_loop, d_need_loop := d_need_loop, f_looped := f_looped, d_looped := d_looped, f_run_loop := f_run_loop, d_run_loop := d_run_loop, f_law_deck := f_law_deck, d_law_deck := d_law_deck, f_law_pick := f_law_pick, d_law_pick := d_law_pick, f_law_same := f_law_same, d_law_same := d_law_same, f_law_places := f_law_places, d_law_places := d_law_places, f_law_state := f_law_state, d_law_state := d_law_state, f_law_whole := f_law_whole, d_law_whole := d_law_whole, f_law_whole_state := f_law_whole_state, d_law_whole_state := d_law_whole_state, f_law_step := f_law_step, d_law_step := d_law_step, f_law_condition := f_law_condition, d_law_condition := d_law_condition, f_law_size := f_law_size, d_law_size := d_law_size, f_law_program := f_law_program, d_law_program := d_law_program, f_law_rise := f_law_rise, d_law_rise := d_law_rise, f_law_light_program := f_law_light_program, d_law_light_program := d_law_light_program, f_law_told_loops := f_law_told_loops, d_law_told_loops := d_law_told_loops, f_law_told_loop := f_law_told_loop, d_law_told_loop := d_law_told_loop, f_law_reached := f_law_reached, d_law_reached := d_law_reached, f_law_do := f_law_do, d_law_do := d_law_do, f_law_told_condition := f_law_told_condition, d_law_told_condition := d_law_told_condition, f_law_run := f_law_run, d_law_run := d_law_run, f_law_outcome := f_law_outcome, d_law_outcome := d_law_outcome, f_law_loop_run := f_law_loop_run, d_law_loop_run := d_law_loop_run, f_law_grown := f_law_grown, d_law_grown := d_law_grown, f_law_right_run := f_law_right_run, d_law_right_run := d_law_right_run, f_law_refused := f_law_refused, d_law_refused := d_law_refused, f_law_bad_many := f_law_bad_many, d_law_bad_many := d_law_bad_many, f_law_none := f_law_none, d_law_none := d_law_none, f_law_judged := f_law_judged, d_law_judged := d_law_judged, f_law := f_law, d_law := d_law, a_WORDS := a_WORDS } :=
  { g_HeapError := PySem.W.mg_of X G g_HeapError,
    x_HeapError := x_HeapError,
    k_HeapError := k_HeapError,
    s_HeapError := s_HeapError,
    t_HeapError := t_HeapError,
    g_BadMany := PySem.W.mg_of X G g_BadMany,
    x_BadMany := x_BadMany,
    k_BadMany := k_BadMany,
    s_BadMany := s_BadMany,
    t_BadMany := t_BadMany,
    g_BadState := PySem.W.mg_of X G g_BadState,
    x_BadState := x_BadState,
    k_BadState := k_BadState,
    s_BadState := s_BadState,
    t_BadState := t_BadState,
    g_BadLoop := PySem.W.mg_of X G g_BadLoop,
    x_BadLoop := x_BadLoop,
    k_BadLoop := k_BadLoop,
    s_BadLoop := s_BadLoop,
    t_BadLoop := t_BadLoop,
    g_BadMost := PySem.W.mg_of X G g_BadMost,
    x_BadMost := x_BadMost,
    k_BadMost := k_BadMost,
    s_BadMost := s_BadMost,
    t_BadMost := t_BadMost,
    g_TooGreat := PySem.W.mg_of X G g_TooGreat,
    x_TooGreat := x_TooGreat,
    k_TooGreat := k_TooGreat,
    s_TooGreat := s_TooGreat,
    t_TooGreat := t_TooGreat,
    e_HeapError_BadMany := e_HeapError_BadMany,
    e_HeapError_BadState := e_HeapError_BadState,
    e_HeapError_BadLoop := e_HeapError_BadLoop,
    e_HeapError_BadMost := e_HeapError_BadMost,
    e_HeapError_TooGreat := e_HeapError_TooGreat,
    e_BadMany_BadMany := e_BadMany_BadMany,
    e_BadMany_BadState := e_BadMany_BadState,
    e_BadMany_BadLoop := e_BadMany_BadLoop,
    e_BadMany_BadMost := e_BadMany_BadMost,
    e_BadMany_TooGreat := e_BadMany_TooGreat,
    e_BadState_BadMany := e_BadState_BadMany,
    e_BadState_BadState := e_BadState_BadState,
    e_BadState_BadLoop := e_BadState_BadLoop,
    e_BadState_BadMost := e_BadState_BadMost,
    e_BadState_TooGreat := e_BadState_TooGreat,
    e_BadLoop_BadMany := e_BadLoop_BadMany,
    e_BadLoop_BadState := e_BadLoop_BadState,
    e_BadLoop_BadLoop := e_BadLoop_BadLoop,
    e_BadLoop_BadMost := e_BadLoop_BadMost,
    e_BadLoop_TooGreat := e_BadLoop_TooGreat,
    e_BadMost_BadMany := e_BadMost_BadMany,
    e_BadMost_BadState := e_BadMost_BadState,
    e_BadMost_BadLoop := e_BadMost_BadLoop,
    e_BadMost_BadMost := e_BadMost_BadMost,
    e_BadMost_TooGreat := e_BadMost_TooGreat,
    e_TooGreat_BadMany := e_TooGreat_BadMany,
    e_TooGreat_BadState := e_TooGreat_BadState,
    e_TooGreat_BadLoop := e_TooGreat_BadLoop,
    e_TooGreat_BadMost := e_TooGreat_BadMost,
    e_TooGreat_TooGreat := e_TooGreat_TooGreat,
    F_is_int := F_is_int,
    m_is_int := PySem.W.mg_of X G m_is_int,
    b_is_int := F_is_int.binds (ps := P_is_int) fun _ _ _ _ _ _ us hl => match us, hl with | [_], _ => rfl,
    F_within := F_within,
    m_within := PySem.W.mg_of X G m_within,
    b_within := F_within.binds (ps := P_within) fun _ _ _ _ _ _ us hl => match us, hl with | [_, _, _], _ => rfl,
    F_is_row := F_is_row,
    m_is_row := PySem.W.mg_of X G m_is_row,
    b_is_row := F_is_row.binds (ps := P_is_row) fun _ _ _ _ _ _ us hl => match us, hl with | [_, _, _], _ => rfl,
    F_is_word := F_is_word,
    m_is_word := PySem.W.mg_of X G m_is_word,
    b_is_word := F_is_word.binds (ps := P_is_word) fun _ _ _ _ _ _ us hl => match us, hl with | [_, _], _ => rfl,
    F_is_many := F_is_many,
    m_is_many := PySem.W.mg_of X G m_is_many,
    b_is_many := F_is_many.binds (ps := P_is_many) fun _ _ _ _ _ _ us hl => match us, hl with | [_], _ => rfl,
    F_need_many := F_need_many,
    m_need_many := PySem.W.mg_of X G m_need_many,
    b_need_many := F_need_many.binds (ps := P_need_many) fun _ _ _ _ _ _ us hl => match us, hl with | [_], _ => rfl,
    F_is_cell := F_is_cell,
    m_is_cell := PySem.W.mg_of X G m_is_cell,
    b_is_cell := F_is_cell.binds (ps := P_is_cell) fun _ _ _ _ _ _ us hl => match us, hl with | [_], _ => rfl,
    F_are_cells := F_are_cells,
    m_are_cells := PySem.W.mg_of X G m_are_cells,
    b_are_cells := F_are_cells.binds (ps := P_are_cells) fun _ _ _ _ _ _ us hl => match us, hl with | [_], _ => rfl,
    F_is_state_of := F_is_state_of,
    m_is_state_of := PySem.W.mg_of X G m_is_state_of,
    b_is_state_of := F_is_state_of.binds (ps := P_is_state_of) fun _ _ _ _ _ _ us hl => match us, hl with | [_], _ => rfl,
    F_places_of := F_places_of,
    m_places_of := PySem.W.mg_of X G m_places_of,
    b_places_of := F_places_of.binds (ps := P_places_of) fun _ _ _ _ _ _ us hl => match us, hl with | [_], _ => rfl,
    F_state_from := F_state_from,
    m_state_from := PySem.W.mg_of X G m_state_from,
    b_state_from := F_state_from.binds (ps := P_state_from) fun _ _ _ _ _ _ us hl => match us, hl with | [_, _], _ => rfl,
    F_reached_by := F_reached_by,
    m_reached_by := PySem.W.mg_of X G m_reached_by,
    b_reached_by := F_reached_by.binds (ps := P_reached_by) fun _ _ _ _ _ _ us hl => match us, hl with | [_, _], _ => rfl,
    F_is_whole_of := F_is_whole_of,
    m_is_whole_of := PySem.W.mg_of X G m_is_whole_of,
    b_is_whole_of := F_is_whole_of.binds (ps := P_is_whole_of) fun _ _ _ _ _ _ us hl => match us, hl with | [_], _ => rfl,
    F_is_step_of := F_is_step_of,
    m_is_step_of := PySem.W.mg_of X G m_is_step_of,
    b_is_step_of := F_is_step_of.binds (ps := P_is_step_of) fun _ _ _ _ _ _ us hl => match us, hl with | [_, _], _ => rfl,
    F_is_condition_of := F_is_condition_of,
    m_is_condition_of := PySem.W.mg_of X G m_is_condition_of,
    b_is_condition_of := F_is_condition_of.binds (ps := P_is_condition_of) fun _ _ _ _ _ _ us hl => match us, hl with | [_, _], _ => rfl,
    F_condition_in := F_condition_in,
    m_condition_in := PySem.W.mg_of X G m_condition_in,
    b_condition_in := F_condition_in.binds (ps := P_condition_in) fun _ _ _ _ _ _ us hl => match us, hl with | [_, _], _ => rfl,
    F_top_of := F_top_of,
    m_top_of := PySem.W.mg_of X G m_top_of,
    b_top_of := F_top_of.binds (ps := P_top_of) fun _ _ _ _ _ _ us hl => match us, hl with | [_], _ => rfl,
    F_step_in := F_step_in,
    m_step_in := PySem.W.mg_of X G m_step_in,
    b_step_in := F_step_in.binds (ps := P_step_in) fun _ _ _ _ _ _ us hl => match us, hl with | [_, _, _], _ => rfl,
    F_is_whole_state := F_is_whole_state,
    m_is_whole_state := PySem.W.mg_of X G m_is_whole_state,
    b_is_whole_state := F_is_whole_state.binds (ps := P_is_whole_state) fun _ _ _ _ _ _ us hl => match us, hl with | [_, _], _ => rfl,
    F_is_branch := F_is_branch,
    m_is_branch := PySem.W.mg_of X G m_is_branch,
    b_is_branch := F_is_branch.binds (ps := P_is_branch) fun _ _ _ _ _ _ us hl => match us, hl with | [_], _ => rfl,
    F_size_of := F_size_of,
    m_size_of := PySem.W.mg_of X G m_size_of,
    b_size_of := F_size_of.binds (ps := P_size_of) fun _ _ _ _ _ _ us hl => match us, hl with | [_, _, _], _ => rfl,
    F_branch_size := F_branch_size,
    m_branch_size := PySem.W.mg_of X G m_branch_size,
    b_branch_size := F_branch_size.binds (ps := P_branch_size) fun _ _ _ _ _ _ us hl => match us, hl with | [_, _, _], _ => rfl,
    F_is_program_of := F_is_program_of,
    m_is_program_of := PySem.W.mg_of X G m_is_program_of,
    b_is_program_of := F_is_program_of.binds (ps := P_is_program_of) fun _ _ _ _ _ _ us hl => match us, hl with | [_, _], _ => rfl,
    F_course_in := F_course_in,
    m_course_in := PySem.W.mg_of X G m_course_in,
    b_course_in := F_course_in.binds (ps := P_course_in) fun _ _ _ _ _ _ us hl => match us, hl with | [_, _], _ => rfl,
    F_outcome_in := F_outcome_in,
    m_outcome_in := PySem.W.mg_of X G m_outcome_in,
    b_outcome_in := F_outcome_in.binds (ps := P_outcome_in) fun _ _ _ _ _ _ us hl => match us, hl with | [_, _], _ => rfl,
    F_is_loop_of := F_is_loop_of,
    m_is_loop_of := PySem.W.mg_of X G m_is_loop_of,
    b_is_loop_of := F_is_loop_of.binds (ps := P_is_loop_of) fun _ _ _ _ _ _ us hl => match us, hl with | [_, _], _ => rfl,
    F_is_loop := F_is_loop,
    m_is_loop := PySem.W.mg_of X G m_is_loop,
    bk_is_loop := funBindsK F_is_loop (ps := P_is_loop) fun _ _ _ _ _ _ us hl => match us, hl with | [_, _], _ => rfl,
    b_is_loop := F_is_loop.binds (ps := P_is_loop) fun _ _ _ _ _ _ us hl => match us, hl with | [_, _], _ => rfl,
    F_need_loop := F_need_loop,
    m_need_loop := PySem.W.mg_of X G m_need_loop,
    b_need_loop := F_need_loop.binds (ps := P_need_loop) fun _ _ _ _ _ _ us hl => match us, hl with | [_, _], _ => rfl,
    F_looped := F_looped,
    m_looped := PySem.W.mg_of X G m_looped,
    b_looped := F_looped.binds (ps := P_looped) fun _ _ _ _ _ _ us hl => match us, hl with | [_, _, _], _ => rfl,
    F_run_loop := F_run_loop,
    m_run_loop := PySem.W.mg_of X G m_run_loop,
    bk_run_loop := funBindsK F_run_loop (ps := P_run_loop) fun _ _ _ _ _ _ us hl => match us, hl with | [_, _, _, _], _ => rfl,
    b_run_loop := F_run_loop.binds (ps := P_run_loop) fun _ _ _ _ _ _ us hl => match us, hl with | [_, _, _, _], _ => rfl,
    F_law_deck := F_law_deck,
    m_law_deck := PySem.W.mg_of X G m_law_deck,
    b_law_deck := F_law_deck.binds (ps := P_law_deck) fun _ _ _ _ _ _ us hl => match us, hl with | [_], _ => rfl,
    F_law_pick := F_law_pick,
    m_law_pick := PySem.W.mg_of X G m_law_pick,
    b_law_pick := F_law_pick.binds (ps := P_law_pick) fun _ _ _ _ _ _ us hl => match us, hl with | [_, _], _ => rfl,
    F_law_same := F_law_same,
    m_law_same := PySem.W.mg_of X G m_law_same,
    b_law_same := F_law_same.binds (ps := P_law_same) fun _ _ _ _ _ _ us hl => match us, hl with | [_, _], _ => rfl,
    F_law_places := F_law_places,
    m_law_places := PySem.W.mg_of X G m_law_places,
    b_law_places := F_law_places.binds (ps := P_law_places) fun _ _ _ _ _ _ us hl => match us, hl with | [_], _ => rfl,
    F_law_state := F_law_state,
    m_law_state := PySem.W.mg_of X G m_law_state,
    b_law_state := F_law_state.binds (ps := P_law_state) fun _ _ _ _ _ _ us hl => match us, hl with | [_, _, _], _ => rfl,
    F_law_whole := F_law_whole,
    m_law_whole := PySem.W.mg_of X G m_law_whole,
    b_law_whole := F_law_whole.binds (ps := P_law_whole) fun _ _ _ _ _ _ us hl => match us, hl with | [_], _ => rfl,
    F_law_whole_state := F_law_whole_state,
    m_law_whole_state := PySem.W.mg_of X G m_law_whole_state,
    b_law_whole_state := F_law_whole_state.binds (ps := P_law_whole_state) fun _ _ _ _ _ _ us hl => match us, hl with | [_, _, _], _ => rfl,
    F_law_step := F_law_step,
    m_law_step := PySem.W.mg_of X G m_law_step,
    b_law_step := F_law_step.binds (ps := P_law_step) fun _ _ _ _ _ _ us hl => match us, hl with | [_, _], _ => rfl,
    F_law_condition := F_law_condition,
    m_law_condition := PySem.W.mg_of X G m_law_condition,
    b_law_condition := F_law_condition.binds (ps := P_law_condition) fun _ _ _ _ _ _ us hl => match us, hl with | [_, _], _ => rfl,
    F_law_size := F_law_size,
    m_law_size := PySem.W.mg_of X G m_law_size,
    b_law_size := F_law_size.binds (ps := P_law_size) fun _ _ _ _ _ _ us hl => match us, hl with | [_], _ => rfl,
    F_law_program := F_law_program,
    m_law_program := PySem.W.mg_of X G m_law_program,
    b_law_program := F_law_program.binds (ps := P_law_program) fun _ _ _ _ _ _ us hl => match us, hl with | [_, _, _, _], _ => rfl,
    F_law_rise := F_law_rise,
    m_law_rise := PySem.W.mg_of X G m_law_rise,
    b_law_rise := F_law_rise.binds (ps := P_law_rise) fun _ _ _ _ _ _ us hl => match us, hl with | [_, _], _ => rfl,
    F_law_light_program := F_law_light_program,
    m_law_light_program := PySem.W.mg_of X G m_law_light_program,
    b_law_light_program := F_law_light_program.binds (ps := P_law_light_program) fun _ _ _ _ _ _ us hl => match us, hl with | [_, _, _, _], _ => rfl,
    F_law_told_loops := F_law_told_loops,
    m_law_told_loops := PySem.W.mg_of X G m_law_told_loops,
    b_law_told_loops := F_law_told_loops.binds (ps := P_law_told_loops) fun _ _ _ _ _ _ us hl => match us, hl with | [_, _], _ => rfl,
    F_law_told_loop := F_law_told_loop,
    m_law_told_loop := PySem.W.mg_of X G m_law_told_loop,
    b_law_told_loop := F_law_told_loop.binds (ps := P_law_told_loop) fun _ _ _ _ _ _ us hl => match us, hl with | [_, _], _ => rfl,
    F_law_reached := F_law_reached,
    m_law_reached := PySem.W.mg_of X G m_law_reached,
    b_law_reached := F_law_reached.binds (ps := P_law_reached) fun _ _ _ _ _ _ us hl => match us, hl with | [_, _], _ => rfl,
    F_law_do := F_law_do,
    m_law_do := PySem.W.mg_of X G m_law_do,
    b_law_do := F_law_do.binds (ps := P_law_do) fun _ _ _ _ _ _ us hl => match us, hl with | [_, _, _, _], _ => rfl,
    F_law_told_condition := F_law_told_condition,
    m_law_told_condition := PySem.W.mg_of X G m_law_told_condition,
    b_law_told_condition := F_law_told_condition.binds (ps := P_law_told_condition) fun _ _ _ _ _ _ us hl => match us, hl with | [_, _], _ => rfl,
    F_law_run := F_law_run,
    m_law_run := PySem.W.mg_of X G m_law_run,
    b_law_run := F_law_run.binds (ps := P_law_run) fun _ _ _ _ _ _ us hl => match us, hl with | [_, _], _ => rfl,
    F_law_outcome := F_law_outcome,
    m_law_outcome := PySem.W.mg_of X G m_law_outcome,
    b_law_outcome := F_law_outcome.binds (ps := P_law_outcome) fun _ _ _ _ _ _ us hl => match us, hl with | [_, _], _ => rfl,
    F_law_loop_run := F_law_loop_run,
    m_law_loop_run := PySem.W.mg_of X G m_law_loop_run,
    b_law_loop_run := F_law_loop_run.binds (ps := P_law_loop_run) fun _ _ _ _ _ _ us hl => match us, hl with | [_, _, _, _], _ => rfl,
    F_law_grown := F_law_grown,
    m_law_grown := PySem.W.mg_of X G m_law_grown,
    b_law_grown := F_law_grown.binds (ps := P_law_grown) fun _ _ _ _ _ _ us hl => match us, hl with | [_], _ => rfl,
    F_law_right_run := F_law_right_run,
    m_law_right_run := PySem.W.mg_of X G m_law_right_run,
    b_law_right_run := F_law_right_run.binds (ps := P_law_right_run) fun _ _ _ _ _ _ us hl => match us, hl with | [_, _, _, _], _ => rfl,
    F_law_refused := F_law_refused,
    m_law_refused := PySem.W.mg_of X G m_law_refused,
    b_law_refused := F_law_refused.binds (ps := P_law_refused) fun _ _ _ _ _ _ us hl => match us, hl with | [_, _, _, _], _ => rfl,
    F_law_bad_many := F_law_bad_many,
    m_law_bad_many := PySem.W.mg_of X G m_law_bad_many,
    b_law_bad_many := F_law_bad_many.binds (ps := P_law_bad_many) fun _ _ _ _ _ _ us hl => match us, hl with | [_], _ => rfl,
    F_law_none := F_law_none,
    m_law_none := PySem.W.mg_of X G m_law_none,
    b_law_none := F_law_none.binds (ps := P_law_none) fun _ _ _ _ _ _ us hl => match us, hl with | [_, _], _ => rfl,
    F_law_judged := F_law_judged,
    m_law_judged := PySem.W.mg_of X G m_law_judged,
    b_law_judged := F_law_judged.binds (ps := P_law_judged) fun _ _ _ _ _ _ us hl => match us, hl with | [_, _], _ => rfl,
    F_law := F_law,
    m_law := PySem.W.mg_of X G m_law,
    b_law := F_law.binds (ps := P_law) fun _ _ _ _ _ _ us hl => match us, hl with | [_], _ => rfl,
    n_all := PySem.W.mg_none_of X G n_all,
    n_bool := PySem.W.mg_none_of X G n_bool,
    n_dict := PySem.W.mg_none_of X G n_dict,
    n_int := PySem.W.mg_none_of X G n_int,
    n_isinstance := PySem.W.mg_none_of X G n_isinstance,
    n_len := PySem.W.mg_none_of X G n_len,
    n_list := PySem.W.mg_none_of X G n_list,
    n_max := PySem.W.mg_none_of X G n_max,
    n_min := PySem.W.mg_none_of X G n_min,
    n_range := PySem.W.mg_none_of X G n_range,
    n_set := PySem.W.mg_none_of X G n_set,
    n_sorted := PySem.W.mg_none_of X G n_sorted,
    n_str := PySem.W.mg_none_of X G n_str,
    n_sum := PySem.W.mg_none_of X G n_sum,
    n_tuple := PySem.W.mg_none_of X G n_tuple,
    n_zip := PySem.W.mg_none_of X G n_zip,
    v_DEEPEST := ⟨_, PySem.W.mg_of X G v_DEEPEST⟩,
    v_LAST_PLACE := ⟨_, PySem.W.mg_of X G v_LAST_PLACE⟩,
    v_MOST_CELLS := ⟨_, PySem.W.mg_of X G v_MOST_CELLS⟩,
    v_MOST_PARTS := ⟨_, PySem.W.mg_of X G v_MOST_PARTS⟩,
    v_MOST_TURNS := ⟨_, PySem.W.mg_of X G v_MOST_TURNS⟩,
    v_MOST_VARIABLES := ⟨_, PySem.W.mg_of X G v_MOST_VARIABLES⟩,
    v_WORDS := PySem.W.mg_of X G v_WORDS,
    d_WORDS := fun B => .tup (xs := [.str "set", .str "follow", .str "put", .str "new", .str "free"]) (.inr ⟨_, _, _, l_WORDS, ⟨rfl, rfl⟩, rfl, Nat.le_of_ble_eq_true rfl, (.cons ⟨_, rfl⟩ (.cons ⟨_, rfl⟩ (.cons ⟨_, rfl⟩ (.cons ⟨_, rfl⟩ (.cons ⟨_, rfl⟩ .nil)))))⟩) (.cons (.str _) (.cons (.str _) (.cons (.str _) (.cons (.str _) (.cons (.str _) DL.DpAll.nil))))) }
end LK

set_option Elab.async false
set_option linter.all false
set_option maxRecDepth 100000
set_option maxHeartbeats 4000000
namespace LK
open PySem PySem.Spec PyProof.Rows L2 DL
local macro_rules | `(tactic| walk_at "dl") => `(tactic| simp only [wVar, wC, wNil, wCons, wFrz, wTup, wLst, wOp, wUn, wCall1, wMeth, wTst, wAndT, wOrT, wNotT, wAndV, wOrV, wNotV, wIf, wChain, wNext, wSeq, wBreak, wCont, wRet, wAsg, wAsgT, wPar, wIfS, wAug, wExpr, wRaise, wCall, wIsi, wSl, wONone, wOSome, wLc, wSeqC, wSeqF, wParF, wRange1, wRange2, wFor, wWhile, wYes, gwNames, putA, wipeR, wAppend, wExtend, wExt, extOf_l, extOf_t, wPopAll, wInsert, wDisp1, wPop, wSetIx, wFrzS, wDPop, wRetS, wParN, wDNew, wSortIt, wSortSet, wSortSc, wZip, wRev, wTry, wHand, gwName, gwNil, gwCons, gwTup,
  kv_k, kv_d, kv_t, kv_L, kv_l, kv_i, kv_s, seq_k, seq_d, seq_i, seq_s, frz_k, peek_k, keeps_k, keeps_g, owns_k, owns_l, putR_l, putR_k, frzR_s, frzR_l, frzR_k, putRs_nil, putRs_cons, zip_t, ofK_int, ofK_str, all_keeps, all_keeps0, fDict, fSorted, fMax1,
  rho, seq_l, seq_t, seq_L, stab_t, stab_L, look_s, look_l, dat_s, frz_s, frz_l, peek_s, peek_l, peek_g, keeps_s, keeps_l, dats_nil, dats_cons, isS_s, fAdd, fInt, fSub, fMul, fNeg, fEq, fNe, fCmp, fLt, fIs, fIn, fIx, fLen, fAll, fAny, fSum, fList, fTuple, fIntOf, fMax2, fMin2, fSl,
  List.map_cons, List.map_nil, List.length_cons, List.length_nil, List.getElem?_cons_zero, List.getElem?_cons_succ, Option.some.injEq, exists_eq_left', exists_eq_left, exists_eq', R.s.injEq, R.l.injEq, PyData.int.injEq, PyData.bool.injEq, PyData.str.injEq, PyData.tuple.injEq, PyData.list.injEq, and_true, true_and, List.cons.injEq, reduceCtorEq,
  List.cons_append, List.nil_append, List.replicate, Nat.reduceAdd, Nat.reduceSub, Nat.reduceLT, false_and, exists_false, and_false, or_false, false_or, exists_and_left, exists_and_right, and_assoc, ite_true, ite_false, Bool.false_eq_true, if_true, if_false, List.mem_cons, List.not_mem_nil, forall_eq_or_imp, forall_eq, List.set_cons_zero, List.set_cons_succ, sh_int, sh_bool, sh_none, eqv_int, eqv_bool, eqv_str, Bool.not_true, Bool.not_false, Bool.not_not, isN_none, isN_int, isN_bool, isN_str, isN_tup, bne_ff, bne_tt, at0, at1, at2, at3, flat_none, flat_bool, flat_int, flat_str, List.all_cons, List.all_nil, Bool.and_self, Nat.reduceLeDiff])
local macro_rules | `(tactic| walk_at "dm") => `(tactic| simp only [wVar, wC, wNil, wCons, wFrz, wTup, wLst, wOp, wUn, wCall1, wMeth, wTst, wAndT, wOrT, wNotT, wAndV, wOrV, wNotV, wIf, wChain, wNext, wSeq, wBreak, wCont, wRet, wAsg, wAsgT, wPar, wIfS, wAug, wExpr, wRaise, wCall, wIsi, wSl, wONone, wOSome, wLc, wSeqC, wSeqF, wParF, wRange1, wRange2, wFor, wWhile, wYes, gwNames, putA, wipeR, wAppend, wExtend, wExt, extOf_l, extOf_t, wPopAll, wInsert, wDisp1, wPop, wSetIx, wFrzS, wDPop, wRetS, wParN, wDNew, wSortIt, wSortSet, wSortSc, wZip, wRev, wTry, wHand, gwName, gwNil, gwCons, gwTup,
  kv_k, kv_d, kv_t, kv_L, kv_l, kv_i, kv_s, seq_k, seq_d, seq_i, seq_s, frz_k, peek_k, keeps_k, keeps_g, owns_k, owns_l, putR_l, putR_k, frzR_s, frzR_l, frzR_k, putRs_nil, putRs_cons, zip_t, ofK_int, ofK_str, all_keeps, all_keeps0, fDict, fSorted, fMax1,
  rho, seq_l, seq_t, seq_L, stab_t, stab_L, look_s, look_l, dat_s, frz_s, frz_l, peek_s, peek_l, peek_g, keeps_s, keeps_l, dats_nil, dats_cons, isS_s, fAdd, fInt, fSub, fMul, fNeg, fEq, fNe, fCmp, fLt, fIs, fIn, fIx, fLen, fAll, fAny, fSum, fList, fTuple, fIntOf, fMax2, fMin2, fSl,
  List.map_cons, List.map_nil, List.length_cons, List.length_nil, List.getElem?_cons_zero, List.getElem?_cons_succ, Option.some.injEq, exists_eq_left', exists_eq_left, exists_eq', R.s.injEq, R.l.injEq, PyData.int.injEq, PyData.bool.injEq, PyData.str.injEq, PyData.tuple.injEq, PyData.list.injEq, and_true, true_and, List.cons.injEq, reduceCtorEq,
  List.cons_append, List.nil_append, List.replicate, Nat.reduceAdd, Nat.reduceSub, Nat.reduceLT, false_and, exists_false, and_false, or_false, false_or, exists_and_left, exists_and_right, and_assoc, ite_true, ite_false, Bool.false_eq_true, if_true, if_false, List.mem_cons, List.not_mem_nil, forall_eq_or_imp, forall_eq, List.set_cons_zero, List.set_cons_succ, sh_int, sh_bool, sh_none, eqv_int, eqv_bool, eqv_str, Bool.not_true, Bool.not_false, Bool.not_not, beq_self_eq_true, Bool.true_beq, Bool.false_beq, beq_true, beq_false, Bool.or_false, Bool.or_true, Bool.and_true, Bool.and_false, Bool.true_and, Bool.false_and, Bool.true_or, Bool.false_or, decide_true, decide_false, isN_none, isN_int, isN_bool, isN_str, isN_tup, bne_ff, bne_tt, at0, at1, at2, at3, flat_none, flat_bool, flat_int, flat_str, List.all_cons, List.all_nil, Bool.and_self, Nat.reduceLeDiff])
local macro_rules | `(tactic| walk_at "dy") => `(tactic| (try simp only [rho, List.map_cons, List.map_nil, List.length_cons, List.length_nil, List.replicate, Nat.reduceAdd, Nat.reduceSub, List.cons_append, List.nil_append]) <;> (try simp only [↓u_var, ↓u_frz, ↓u_tup, ↓u_lst, ↓u_tst, ↓u_andV, ↓u_orV, ↓u_notV, ↓u_chain, ↓u_asg, ↓u_asgT, ↓u_par, ↓u_aug, ↓u_append, ↓u_extend, ↓u_pop, ↓u_setIx, ↓u_dpop, ↓u_frzS, ↓u_retS, ↓u_parN, ↓u_seqC, ↓u_seqF, ↓u_range1, ↓u_range2, ↓rng1_at, ↓rng2_at, ↓u_zip, ↓zip_at, ↓u_isi, ↓u_some, ↓u_for, ↓u_lc, ↓u_sc, ↓u_sortIt, ↓u_call, ↓u_rev, ↓parQ_nil, ↓parQ_cons, ↓pksQ_nil, ↓pksQ_cons, ↓gw_name, ↓gw_nil, ↓gw_cons, ↓gw_tup, ↓peekQ_s, ↓peekQ_l, ↓peekQ_k, ↓peekQ_g, ↓frzQ_s, ↓frzQ_lt, ↓frzQ_lf, ↓frzQ_kt, ↓frzQ_kf, ↓keepQ_s, ↓keepQ_l, ↓keepQ_k, ↓keepQ_g, ↓boolQ_b, ↓intQ_i, ↓datQ_s, ↓lookQ_s, ↓lookQ_l, ↓seqQ_t, ↓seqQ_L, ↓stabQ_t, ↓stabQ_L, ↓seqQ_l, ↓kvQ_k, ↓kvQ_d, ↓ownQ_l, ↓ownKQ_k, ↓lQ_l, ↓keyQ_i, ↓keyQ_s, ↓popQ_1, ↓popQ_s, ↓tupQ_0, ↓tupQ_1, ↓tupQ_2, ↓tupQ_3, ↓tupQ_4, ↓tupQ_5, ↓tupQ_6, ↓tupQ_7, ↓tupQ_8, ↓lstQ_0, ↓lstQ_1, ↓lstQ_2, ↓lstQ_3, ↓lstQ_4, ↓lstQ_5, ↓lstQ_6, ↓lstQ_7, ↓lstQ_8, ↓fAdd_i, ↓fAdd_t, ↓fAdd_l, ↓fAdd_s, ↓fInt_i, ↓fSub_i, ↓fMul_i, ↓fNeg_i, ↓fEq_s, ↓fEq_i, ↓fEq_b, ↓fEq_l, ↓fEq_L, ↓fNe_s, ↓fNe_i, ↓fNe_b, ↓fNe_l, ↓fNe_L, ↓fCmp_i, ↓fLt_i, ↓fIs_n, ↓fIs_b, ↓fIn_t, ↓fIx_t, ↓fIx_t0, ↓fIx_t1, ↓fIx_t2, ↓fIx_t3, ↓fIx_t4, ↓fLen_t, ↓fList_t, ↓fTuple_t, ↓fDict_t, ↓fSl_t, ↓fIn_L, ↓fIx_L, ↓fIx_L0, ↓fIx_L1, ↓fIx_L2, ↓fIx_L3, ↓fIx_L4, ↓fLen_L, ↓fList_L, ↓fTuple_L, ↓fDict_L, ↓fSl_L, ↓fIn_l, ↓fIx_l, ↓fIx_l0, ↓fIx_l1, ↓fIx_l2, ↓fIx_l3, ↓fIx_l4, ↓fLen_l, ↓fList_l, ↓fTuple_l, ↓fDict_l, ↓fSl_l, ↓fIn_k, ↓fIn_ki, ↓fIn_ks, ↓fIx_k, ↓fIx_ki, ↓fIx_ks, ↓fLen_k, ↓fLen_d, ↓fDict_k, ↓fDict_d, ↓fSorted_l, ↓fSorted_L, ↓revQ_t, ↓revQ_l, ↓revQ_L, ↓fIntOf_i, ↓fMax2_i, ↓fMin2_i, ↓pick_at, ↓putR_li, ↓putR_ki, ↓putR_ks, ↓getQ_0, ↓setQ_0, ↓getQ_1, ↓setQ_1, ↓getQ_2, ↓setQ_2, ↓getQ_3, ↓setQ_3, ↓getQ_4, ↓setQ_4, ↓getQ_5, ↓setQ_5, ↓getQ_6, ↓setQ_6, ↓getQ_7, ↓setQ_7, ↓getQ_8, ↓setQ_8, ↓getQ_9, ↓setQ_9, ↓getQ_10, ↓setQ_10, ↓getQ_11, ↓setQ_11, ↓getQ_12, ↓setQ_12, ↓getQ_13, ↓setQ_13, ↓getQ_14, ↓setQ_14, ↓getQ_15, ↓setQ_15, ↓getQ_16, ↓setQ_16, ↓getQ_17, ↓setQ_17, ↓getQ_18, ↓setQ_18, ↓getQ_19, ↓setQ_19, ↓u_ext, ↓extQ_l, ↓extQ_t, ↓u_popAll, ↓u_insert, ↓u_disp1, ↓u_ind, ↓lstQ'_l, ↓lstQ'_L, ↓fListB_t, ↓fListB_L, ↓fListB_l, ↓fListB_k, ↓frzR_s, ↓frzR_l, ↓frzR_k, ↓reduceIte, wC, wOp, wUn, wCall1, wMeth, wNil, wCons, wAndT, wOrT, wNotT, wIf, wNext, wSeq, wBreak, wCont, wRet, wIfS, wExpr, wRaise, wSl, wONone, wTry, wYes, wDNew, kv_k, kv_d, kv_t, kv_L, kv_l, kv_i, kv_s, seq_k, seq_d, seq_i, seq_s, frz_k, peek_k, frz_s, frz_l, peek_s, peek_l, peek_g, dat_s, look_s, look_l, isS_s, List.length_cons, List.length_nil, Option.some.injEq, exists_eq_left', exists_eq_left, exists_eq', R.s.injEq, R.l.injEq, PyData.int.injEq, PyData.bool.injEq, PyData.str.injEq, PyData.tuple.injEq, PyData.list.injEq, and_true, true_and, List.cons.injEq, reduceCtorEq, List.cons_append, List.nil_append, Nat.reduceAdd, Nat.reduceSub, Nat.reduceLT, false_and, and_false, or_false, false_or, ite_true, ite_false, Bool.false_eq_true, if_true, if_false, sh_int, sh_bool, sh_none, eqv_int, eqv_bool, eqv_str, Bool.not_true, Bool.not_false, Bool.not_not, beq_self_eq_true, Bool.true_beq, Bool.false_beq, beq_true, beq_false, Bool.or_false, Bool.or_true, Bool.and_true, Bool.and_false, Bool.true_and, Bool.false_and, Bool.true_or, Bool.false_or, decide_true, decide_false, isN_none, isN_int, isN_bool, isN_str, isN_tup, bne_ff, bne_tt, at0, at1, at2, at3, flat_none, flat_bool, flat_int, flat_str, List.all_cons, List.all_nil, Bool.and_self, Nat.reduceLeDiff, sh_nilL, sh_nilT, eqv_nilL, eqv_nilT, isE_nil, isE_cons, isE_snoc, ofK_int, ofK_str, List.map_cons, List.map_nil]))

def isInt : D → Bool
  | .int _ => true
  | _ => false
def c_is_int : Ct := fun rs Q _ => ∃ d, rs = [.s d] ∧ Q (.s (.bool (isInt d)))
theorem d_is_int {K : Frag} {cl : Ad} : ∀ rs Q E, c_is_int rs Q E → w_is_int K cl (rho N_is_int.length rs) { nx := fun _ => Q (.s .none), rt := Q, er := fun cls _ => E cls } := by
  rintro rs Q E ⟨d, rfl, q⟩
  unfold w_is_int
  try walk_at "dl"
  cases d <;> simp [isI, isB] <;> exact q
def within (d : D) (a b : Int) : Bool := match d with
  | .int i => decide (a ≤ i) && decide (i ≤ b)
  | _ => false
def c_within : Ct := fun rs Q _ => ∃ d a b, rs = [.s d, .s (.int a), .s (.int b)] ∧ Q (.s (.bool (within d a b)))
theorem d_within {K : Frag} {cl : Ad} : ∀ rs Q E, c_within rs Q E → w_within K cl c_is_int (rho N_within.length rs) { nx := fun _ => Q (.s .none), rt := Q, er := fun cls _ => E cls } := by
  rintro rs Q E ⟨d, a, b, rfl, q⟩
  unfold w_within c_is_int
  try walk_at "dl"
  cases d <;> simp only [isInt, within, Bool.false_eq_true, if_false, if_true, PyData.int.injEq, exists_eq_left', exists_eq_left] at * <;> try exact q
  refine ite_both (fun h => ?_) (fun h => ?_) <;> simpa [h] using q
def isRow (d : D) (a b : Int) : Bool := match d with
  | .tuple l => decide (a ≤ l.length) && decide ((l.length : Int) ≤ b)
  | _ => false
def c_is_row : Ct := fun rs Q _ => ∃ d a b, rs = [.s d, .s (.int a), .s (.int b)] ∧ Q (.s (.bool (isRow d a b)))
theorem d_is_row {K : Frag} {cl : Ad} : ∀ rs Q E, c_is_row rs Q E → w_is_row K cl (rho N_is_row.length rs) { nx := fun _ => Q (.s .none), rt := Q, er := fun cls _ => E cls } := by
  rintro rs Q E ⟨d, a, b, rfl, q⟩
  unfold w_is_row
  try walk_at "dl"
  cases d <;> simp only [isT, isRow, Bool.false_eq_true, if_false, if_true] at * <;> try exact q
  try walk_at "dl"
  refine ite_both (fun h => ?_) (fun h => ?_) <;> simpa [h] using q
/-- one of some flat things, as a text is -/
def isWord (d : D) (ds : List D) : Bool := match d with
  | .str x => ds.any fun z => PyData.eqv z (.str x)
  | _ => false
def c_is_word : Ct := fun rs Q _ => ∃ d ds, rs = [.s d, .s (.tuple ds)] ∧ ds.all flatD = true ∧ Q (.s (.bool (isWord d ds)))
theorem d_is_word {K : Frag} {cl : Ad} : ∀ rs Q E, c_is_word rs Q E → w_is_word K cl (rho N_is_word.length rs) { nx := fun _ => Q (.s .none), rt := Q, er := fun cls _ => E cls } := by
  rintro rs Q E ⟨d, ws, rfl, hf, q⟩
  unfold w_is_word
  try walk_at "dl"
  cases d <;> simp only [DL.isS, isWord, Bool.false_eq_true, if_false, if_true] at * <;> try exact q
  try walk_at "dl"
  first
    | exact ⟨hf, by simpa [inD] using q⟩
    | exact ⟨rfl, hf, by simpa [inD] using q⟩

/-! `_law_same` -/
mutual
def plainD : D → Bool
  | .none | .bool _ | .int _ => true
  | .str x => PyData.canLay0 (.str x)
  | .tuple xs => plainAll xs
  | .list _ | .dict _ => false
def plainAll : List D → Bool
  | [] => true
  | x :: xs => plainD x && plainAll xs
end
mutual
def nd : D → Nat
  | .tuple xs => ndAll xs + 1
  | .none | .bool _ | .int _ | .str _ | .list _ | .dict _ => 1
def ndAll : List D → Nat
  | [] => 0
  | x :: xs => nd x + ndAll xs
end
mutual
def same : D → D → Bool
  | a, .tuple ys => match a with
    | .tuple xs => xs.length == ys.length && sameAll xs ys
    | _ => false
  | a, .none => match a with | .none => true | _ => false
  | a, .bool k => match a with | .bool j => j == k | _ => false
  | a, .str k => match a with | .str j => j == k | _ => false
  | a, .int k => match a with | .int j => j == k | _ => false
  | _, .list _ => false
  | _, .dict _ => false
def sameAll : List D → List D → Bool
  | x :: xs, y :: ys => same x y && sameAll xs ys
  | _, _ => true
end
mutual
theorem same_refl : ∀ d : D, plainD d = true → same d d = true
  | .none, _ => by simp [same]
  | .bool b, _ => by simp [same]
  | .int b, _ => by simp [same]
  | .str b, _ => by simp [same]
  | .tuple xs, h => by
    simp only [plainD] at h
    simp [same, sameAll_refl xs h]
  | .list _, h => by simp [plainD] at h
  | .dict _, h => by simp [plainD] at h
theorem sameAll_refl : ∀ xs : List D, plainAll xs = true → sameAll xs xs = true
  | [], _ => by simp [sameAll]
  | x :: xs, h => by
    simp only [plainAll, Bool.and_eq_true] at h
    simp [sameAll, same_refl x h.1, sameAll_refl xs h.2]
end
theorem plainAll_mem : ∀ {xs : List D}, plainAll xs = true → ∀ x ∈ xs, plainD x = true
  | _ :: _, h, x, hx => by
    simp only [plainAll, Bool.and_eq_true] at h
    rcases List.mem_cons.mp hx with rfl | hx
    · exact h.1
    · exact plainAll_mem h.2 x hx
theorem layAll_mem : ∀ {xs : List D}, PyData.canLayAll0 xs = true → ∀ x ∈ xs, PyData.canLay0 x = true
  | _ :: _, h, x, hx => by
    simp only [PyData.canLayAll0, Bool.and_eq_true] at h
    rcases List.mem_cons.mp hx with rfl | hx
    · exact h.1
    · exact layAll_mem h.2 x hx
theorem ndAll_sum : ∀ xs : List D, ndAll xs = (xs.map nd).sum
  | [] => by simp [ndAll]
  | x :: xs => by simp [ndAll, ndAll_sum xs]
theorem nd_pos' (d : D) : 1 ≤ nd d := by cases d <;> simp [nd]
theorem nd_len (ys : List D) : ys.length ≤ (ys.map nd).sum := by
  induction ys with
  | nil => exact Nat.le_refl _
  | cons z ys ih => have := nd_pos' z; simp only [List.length_cons, List.map_cons, List.sum_cons]; omega
theorem nd_pos (d : D) : 1 ≤ nd d := by cases d <;> simp [nd]
theorem sameAll_zip : ∀ xs ys : List D, sameAll xs ys = (xs.zip ys).all fun p => same p.1 p.2
  | [], [] => by simp [sameAll]
  | [], _ :: _ => by simp [sameAll]
  | _ :: _, [] => by simp [sameAll]
  | x :: xs, y :: ys => by simp [sameAll, sameAll_zip xs ys]
def pairD (p : D × D) : D := .tuple [p.1, p.2]
def ndP : D → Nat
  | .tuple [_, b] => nd b
  | _ => 0
def muS (ρ : Rho) : Nat := match (ρ[2]? : Option (Option R)) with
  | some (some (R.l _ xs)) => (xs.map ndP).sum
  | _ => 0
def GoodP (p : D × D) : Prop := PyData.canLay0 p.1 = true ∧ plainD p.2 = true ∧ PyData.depth p.1 ≤ 60 ∧ PyData.depth p.2 ≤ 60
def c_same : Ct := fun rs Q _ => ∃ a b, rs = [.s a, .s b] ∧ PyData.canLay0 a = true ∧ plainD b = true ∧ PyData.depth a ≤ 60 ∧ PyData.depth b ≤ 60 ∧ nd b ≤ 100000 ∧ Q (.s (.bool (same a b)))
theorem sum_ndP (W : List (D × D)) : ((W.map pairD).map ndP).sum = (W.map fun p => nd p.2).sum := by
  rw [List.map_map]; rfl
theorem len_ndP (W : List (D × D)) : W.length ≤ (W.map fun p => nd p.2).sum := by
  induction W with
  | nil => exact Nat.le_refl _
  | cons p W ih =>
    have := nd_pos p.2
    simp only [List.length_cons, List.map_cons, List.sum_cons]
    omega
mutual
theorem plain_lay : ∀ d : D, plainD d = true → PyData.canLay0 d = true
  | .none, _ => by simp [PyData.canLay0]
  | .bool b, _ => by simp [PyData.canLay0]
  | .int b, _ => by simp [PyData.canLay0]
  | .str b, h => by simpa [plainD] using h
  | .tuple xs, h => by
    simp only [plainD] at h
    simp only [PyData.canLay0, plainAll_lay xs h]
  | .list _, h => by simp [plainD] at h
  | .dict _, h => by simp [plainD] at h
theorem plainAll_lay : ∀ xs : List D, plainAll xs = true → PyData.canLayAll0 xs = true
  | [], _ => by simp [PyData.canLayAll0]
  | x :: xs, h => by
    simp only [plainAll, Bool.and_eq_true] at h
    simp only [PyData.canLayAll0, plain_lay x h.1, plainAll_lay xs h.2, Bool.and_self]
end
theorem depthAll_mem : ∀ {xs : List D} {n : Nat}, PyData.depthAll xs ≤ n → ∀ x ∈ xs, PyData.depth x ≤ n
  | _ :: _, n, h, x, hx => by
    simp only [PyData.depthAll] at h
    rcases List.mem_cons.mp hx with rfl | hx
    · omega
    · exact depthAll_mem (by omega) x hx
theorem depthAll_le : ∀ {xs : List D} {n : Nat}, (∀ x ∈ xs, PyData.depth x ≤ n) → PyData.depthAll xs ≤ n
  | [], n, _ => by simp [PyData.depthAll]
  | x :: xs, n, h => by
    simp only [PyData.depthAll]
    have := h x List.mem_cons_self
    have := depthAll_le (xs := xs) fun y hy => h y (List.mem_cons_of_mem _ hy)
    omega
theorem layAll_of : ∀ {xs : List D}, (∀ x ∈ xs, PyData.canLay0 x = true) → PyData.canLayAll0 xs = true
  | [], _ => by simp [PyData.canLayAll0]
  | x :: xs, h => by
    simp only [PyData.canLayAll0, h x List.mem_cons_self, layAll_of fun y hy => h y (List.mem_cons_of_mem _ hy), Bool.and_self]
theorem sh_pairs {W : List (D × D)} (h : ∀ p ∈ W, GoodP p) : Sh (.list (W.map pairD)) := by
  have h1 : PyData.canLayAll0 (W.map pairD) = true := layAll_of fun x hx => by
    obtain ⟨p, hp, rfl⟩ := List.mem_map.mp hx
    obtain ⟨a, b, _⟩ := h p hp
    simp only [pairD, PyData.canLay0, PyData.canLayAll0, a, plain_lay _ b, Bool.and_self]
  have h2 : PyData.depthAll (W.map pairD) ≤ 61 := depthAll_le fun x hx => by
    obtain ⟨p, hp, rfl⟩ := List.mem_map.mp hx
    obtain ⟨_, _, a, b⟩ := h p hp
    simp only [pairD, PyData.depth, PyData.depthAll]
    omega
  unfold Sh SeqAt.shaped
  simp only [PyData.canLay0, PyData.depth, h1, Bool.true_and]
  exact decide_eq_true (by omega)
theorem last_of {α : Type} (l : List α) : l = [] ∨ ∃ L b, l = L ++ [b] := by
  rcases l.eq_nil_or_concat with h | ⟨L, b, h⟩
  · exact .inl h
  · exact .inr ⟨L, b, by rw [h, List.concat_eq_append]⟩
theorem lay_sh {d : D} (h : PyData.canLay0 d = true) (hd : PyData.depth d = 0) : Sh d := by
  unfold Sh SeqAt.shaped
  rw [h, hd]; rfl
theorem d_law_same {K : Frag} {cl : Ad} : ∀ rs Q E, c_same rs Q E → w_law_same K cl (rho N_law_same.length rs) { nx := fun _ => Q (.s .none), rt := Q, er := fun cls _ => E cls } := by
  rintro rs Q E ⟨a, b, rfl, ha, hb, da, db, hn, q⟩
  unfold w_law_same
  try walk_at "dl"
  refine ⟨fun (ρ : Rho) => ∃ (W : List (D × D)) (v3 v4 v5 : Option R), ρ = [some (.s a), some (.s b), some (.l true (W.map pairD)), v3, v4, v5] ∧ (∀ p ∈ W, GoodP p) ∧ (W.map fun p => nd p.2).sum ≤ 100000 ∧ same a b = W.all fun p => same p.1 p.2,
    ⟨[(a, b)], none, none, none, rfl, ?_, ?_, ?_⟩, muS, ?_⟩
  · intro p hp
    rw [List.mem_singleton] at hp
    subst hp
    exact ⟨ha, hb, da, db⟩
  · simpa using hn
  · simp
  rintro ρ ⟨W, v3, v4, v5, rfl, hg, hs, he⟩
  unfold w_law_same_b1
  have hl := len_ndP W
  rcases last_of W with rfl | ⟨W', ⟨x, y⟩, rfl⟩
  · rw [he] at q
    try walk_at "dl"
    exact ⟨sh_of rfl, sh_of rfl, by simpa [PyData.eqv, PyData.eqvAll] using q⟩
  have hxy := hg (x, y) (by simp)
  have hg' : ∀ p ∈ W', GoodP p := fun p hp => hg p (by simp [hp])
  rw [List.map_append, List.sum_append] at hs
  simp only [List.map_cons, List.map_nil, List.sum_cons, List.sum_nil] at hs
  rw [List.all_append] at he
  simp only [List.all_cons, List.all_nil, Bool.and_true] at he
  have fail : same x y = false → Q (.s (.bool false)) := fun h => by
    rw [he, h, Bool.and_false] at q
    exact q
  have mu : ∀ (z3 z4 z5 u3 u4 u5 : Option R) (Z : List (D × D)), (Z.map fun p => nd p.2).sum < nd y → muS [some (.s a), some (.s b), some (.l true ((W' ++ Z).map pairD)), z3, z4, z5] < muS [some (.s a), some (.s b), some (.l true ((W' ++ [(x, y)]).map pairD)), u3, u4, u5] := fun z3 z4 z5 u3 u4 u5 Z h => by
    show (((W' ++ Z).map pairD).map ndP).sum < (((W' ++ [(x, y)]).map pairD).map ndP).sum
    rw [sum_ndP, sum_ndP, List.map_append, List.map_append, List.sum_append, List.sum_append]
    simp only [List.map_cons, List.map_nil, List.sum_cons, List.sum_nil]
    omega
  have nxt : same x y = true → (∃ W : List (D × D), W'.map pairD = W.map pairD ∧ (∀ p ∈ W, GoodP p) ∧ (W.map fun p => nd p.2).sum ≤ 100000 ∧ same a b = W.all fun p => same p.1 p.2) ∧
      ∀ (z3 z4 z5 u3 u4 u5 : Option R), muS [some (.s a), some (.s b), some (.l true (W'.map pairD)), z3, z4, z5] < muS [some (.s a), some (.s b), some (.l true ((W' ++ [(x, y)]).map pairD)), u3, u4, u5] := fun h => by
    refine ⟨⟨W', rfl, hg', by omega, by rw [he, h, Bool.and_true]⟩, fun z3 z4 z5 u3 u4 u5 => ?_⟩
    have := mu z3 z4 z5 u3 u4 u5 [] (by have := nd_pos y; simp only [List.map_nil, List.sum_nil]; omega)
    simpa using this
  have shW : Sh (.list ((W' ++ [(x, y)]).map pairD)) := sh_pairs hg
  have ne : PyData.eqv (.list ((W' ++ [(x, y)]).map pairD)) (.list []) = false := by cases W' <;> simp [PyData.eqv, PyData.eqvAll]
  try walk_at "dl"
  refine ⟨shW, sh_of rfl, ?_⟩
  rw [ne]
  try walk_at "dl"
  refine ⟨W'.map pairD, pairD (x, y), by simp, ?_⟩
  simp only [pairD]
  try walk_at "dl"
  have scal : ∀ {c : Bool} {A : Prop}, same x y = c → (c = true → A) → if (!c) = true then Q (.s (.bool false)) else A := fun {c A} e h => by
    cases c with
    | true => simpa using h rfl
    | false => simpa using fail e
  cases y with
  | tuple ys =>
    simp only [isT, if_true]
    cases x with
    | tuple xs =>
      try walk_at "dl"
      have hlen : (!((xs.length : Int) == (ys.length : Int))) = !(xs.length == ys.length) := by
        rw [Bool.eq_iff_iff]; simp; omega
      rw [hlen]
      by_cases hc : xs.length = ys.length
      · have hnd : nd (.tuple ys) = (ys.map nd).sum + 1 := by rw [nd, ndAll_sum]
        have hb2 := nd_len ys
        have hwl := len_ndP W'
        simp only [hc, beq_self_eq_true, Bool.not_true, Bool.false_eq_true, if_false]
        refine ⟨by omega, by omega, fun k (acc : List D) => acc = ((xs.zip ys).take k).map pairD, rfl, fun k acc d hd e => ?_, fun acc e => ?_⟩
        · subst e
          have hk : k < ys.length := by
            have := (List.getElem?_eq_some_iff.mp hd).1
            simpa [rangeD] using this
          have ed : d = .int (k : Int) := by
            have : (rangeD 0 ys.length)[k]? = some (.int (0 + (k : Int))) := by simp [rangeD, hk]
            simp only [Int.toNat_natCast] at hd
            rw [this] at hd
            cases hd
            simp
          subst ed
          have hx : xs[k]? = some (xs[k]'(by omega)) := List.getElem?_eq_getElem (by omega)
          have hy : ys[k]? = some (ys[k]'hk) := List.getElem?_eq_getElem hk
          have hz : (xs.zip ys)[k]? = some (xs[k]'(by omega), ys[k]'hk) := by rw [List.getElem?_zip_eq_some]; exact ⟨hx, hy⟩
          refine ⟨k, rfl, _, atI_nat hx, k, rfl, _, atI_nat hy, ?_, ?_⟩
          · rw [List.length_map, List.length_take]; omega
          · dsimp only; rw [take_at hz, List.map_append]; rfl
        · subst e
          have el : (rangeD 0 (ys.length : Int).toNat).length = (xs.zip ys).length := by simp [rangeD, hc]
          rw [el, List.take_length]
          have sz : ((xs.zip ys).map fun p => nd p.2).sum = (ys.map nd).sum := by
            have : (xs.zip ys).map (fun p => nd p.2) = ((xs.zip ys).map Prod.snd).map nd := by rw [List.map_map]; rfl
            rw [this, List.map_snd_zip (by omega)]
          refine ⟨?_, ⟨W' ++ xs.zip ys, by rw [List.map_append], fun p hp => ?_, ?_, ?_⟩, ?_⟩
          · simp only [List.length_map, List.length_zip]; omega
          · rcases List.mem_append.mp hp with hp | hp
            · exact hg' p hp
            · obtain ⟨p1, p2⟩ := p
              have m1 := (List.of_mem_zip hp).1
              have m2 := (List.of_mem_zip hp).2
              obtain ⟨g1, g2, g3, g4⟩ := hxy
              simp only [PyData.canLay0, plainD, PyData.depth] at g1 g2 g3 g4
              exact ⟨layAll_mem g1 _ m1, plainAll_mem g2 _ m2, depthAll_mem (by omega) _ m1, depthAll_mem (by omega) _ m2⟩
          · rw [List.map_append, List.sum_append, sz]; omega
          · rw [he, List.all_append]
            congr 1
            simp only [same, hc, beq_self_eq_true, Bool.true_and, sameAll_zip]
          · rw [← List.map_append]
            exact mu _ _ _ _ _ _ _ (by rw [sz]; omega)
      · have hc' : (xs.length == ys.length) = false := by simpa using hc
        simp only [hc', Bool.not_false, if_true]
        exact fail (by simp [same, hc'])
    | _ => simpa [isT] using fail (by simp [same])
  | none =>
    simp only [isT, isN_none, Bool.false_eq_true, if_false, if_true]
    cases x <;> simp only [isN_none, isN_int, isN_bool, isN_str, isN_tup, R.isN, Bool.not_true, Bool.not_false, Bool.false_eq_true, if_false, if_true] <;> first | exact fail (by simp [same]) | exact ⟨(nxt (by simp [same])).1, (nxt (by simp [same])).2 _ _ _ _ _ _⟩
  | bool k =>
    simp only [isT, isN_bool, isB, Bool.false_eq_true, if_false, if_true]
    cases x <;> simp only [isB, Bool.not_true, Bool.not_false, Bool.false_eq_true, if_false, if_true] <;> try exact fail (by simp [same])
    refine ⟨sh_bool _, sh_bool _, ?_⟩
    rw [eqv_bool]
    exact scal (by simp [same]) fun h => ⟨(nxt (by simpa [same] using h)).1, (nxt (by simpa [same] using h)).2 _ _ _ _ _ _⟩
  | str k =>
    simp only [isT, isN_str, isB, DL.isS, Bool.false_eq_true, if_false, if_true]
    cases x <;> simp only [DL.isS, Bool.not_true, Bool.not_false, Bool.false_eq_true, if_false, if_true] <;> try exact fail (by simp [same])
    refine ⟨lay_sh hxy.1 (by simp [PyData.depth]), lay_sh (plain_lay _ hxy.2.1) (by simp [PyData.depth]), ?_⟩
    rw [eqv_str]
    exact scal (by simp [same]) fun h => ⟨(nxt (by simpa [same] using h)).1, (nxt (by simpa [same] using h)).2 _ _ _ _ _ _⟩
  | int k =>
    simp only [isT, isN_int, isB, DL.isS, Bool.false_eq_true, if_false, if_true]
    cases x <;> simp only [isI, isB, Bool.not_true, Bool.not_false, Bool.false_eq_true, if_false, if_true] <;> try exact fail (by simp [same])
    refine ⟨sh_int _, sh_int _, ?_⟩
    rw [eqv_int]
    exact scal (by simp [same]) fun h => ⟨(nxt (by simpa [same] using h)).1, (nxt (by simpa [same] using h)).2 _ _ _ _ _ _⟩
  | list ys => exact absurd hxy.2.1 (by simp [plainD])
  | dict ys => exact absurd hxy.2.1 (by simp [plainD])

/-! states, judged: any thing -/
def prD (p : Int × Int) : D := .tuple [.int p.1, .int p.2]
def stD (vs : List Int) (cs : List (Int × Int)) : D := .tuple [.tuple (vs.map .int), .tuple (cs.map prD)]
structure OkCs (cs : List (Int × Int)) : Prop where
  few : cs.length ≤ 150
  rng : ∀ p ∈ cs, 1 ≤ p.1 ∧ p.1 ≤ 1000000 ∧ 0 ≤ p.2 ∧ p.2 ≤ 1000000
  srt : cs.Pairwise fun p q => p.1 < q.1
structure OkVs (vs : List Int) : Prop where
  few : vs.length ≤ 4
  rng : ∀ v ∈ vs, 0 ≤ v ∧ v ≤ 1000000
theorem within_yes {i a b : Int} (h1 : a ≤ i) (h2 : i ≤ b) : within (.int i) a b = true := by simp [within, h1, h2]
theorem row_yes {l : List D} {a b : Int} (h1 : a ≤ l.length) (h2 : (l.length : Int) ≤ b) : isRow (.tuple l) a b = true := by simp [isRow, h1, h2]
theorem rowI_cases {d : D} {a b : Int} (h : isRow d a b = true) : ∃ l, d = .tuple l ∧ a ≤ l.length ∧ (l.length : Int) ≤ b := by
  cases d with
  | tuple l => simp only [isRow, Bool.and_eq_true, decide_eq_true_eq] at h; exact ⟨l, rfl, h⟩
  | _ => simp [isRow] at h
theorem within_is {d : D} {a b : Int} (h : within d a b = true) : ∃ i, d = .int i ∧ a ≤ i ∧ i ≤ b := by
  cases d with
  | int i => simp [within] at h; exact ⟨i, rfl, h.1, h.2⟩
  | _ => simp [within] at h
def isCell : D → Bool
  | .tuple [a, b] => within a 1 1000000 && within b 0 1000000
  | _ => false
theorem isCell_row {d : D} (h : isRow d 2 2 = false) : isCell d = false := by
  unfold isCell
  split
  · simp [isRow] at h
  · rfl
def c_is_cell : Ct := fun rs Q _ => ∃ d, rs = [.s d] ∧ Q (.s (.bool (isCell d)))
theorem d_is_cell {K : Frag} {cl : Ad} : ∀ rs Q E, c_is_cell rs Q E → w_is_cell K cl c_within c_is_row (rho N_is_cell.length rs) { nx := fun _ => Q (.s .none), rt := Q, er := fun cls _ => E cls } := by
  rintro rs Q E ⟨d, rfl, q⟩
  unfold w_is_cell
  walk_at "dy"
  refine ⟨d, 2, 2, rfl, ?_⟩
  walk_at "dy"
  cases hr : isRow d 2 2 with
  | false => rw [isCell_row hr] at q; simpa using q
  | true =>
    obtain ⟨l, rfl, h1, h2⟩ := rowI_cases hr
    match l, h1, h2 with
    | [a, b], _, _ =>
      simp only [if_true]
      walk_at "dy"
      refine ⟨a, 1, 1000000, rfl, ?_⟩
      walk_at "dy"
      simp only [isCell] at q
      cases ha : within a 1 1000000 with
      | false => rw [ha] at q; simpa using q
      | true =>
        rw [ha, Bool.true_and] at q
        simp only [if_true]
        exact ⟨b, 0, 1000000, rfl, q⟩
    | [], h1, _ => simp at h1
    | [_], h1, _ => simp at h1
    | _ :: _ :: _ :: _, _, h2 => simp at h2; omega
def fstI : D → Int
  | .tuple (.int a :: _) => a
  | _ => 0
def lessD : D → Bool
  | .tuple [a, b] => decide (fstI a < fstI b)
  | _ => false
def ascD : List D → Bool
  | a :: b :: r => decide (fstI a < fstI b) && ascD (b :: r)
  | _ => true
theorem asc_zip : ∀ l : List D, ((zipD l (l.drop 1)).map lessD).all id = ascD l
  | [] => rfl
  | [_] => rfl
  | a :: b :: r => by
    have ih := asc_zip (b :: r)
    simp only [List.drop_succ_cons, List.drop_zero] at ih
    show (decide (fstI a < fstI b) && ((zipD (b :: r) r).map lessD).all id) = _
    rw [ih]
    rfl
def isCells : D → Bool
  | .tuple l => decide (l.length ≤ 150) && l.all isCell && ascD l
  | _ => false
theorem cut_drop1 (l : List D) : DL.cutD l (some 1) none = l.drop 1 := by
  unfold DL.cutD
  rw [show (some (1 : Int)) = some ((1 : Nat) : Int) from rfl, HT.sIx_nat]
  show List.take (l.length - min 1 l.length) (List.drop (min 1 l.length) l) = _
  cases l with
  | nil => rfl
  | cons p r =>
    have e : min 1 (p :: r).length = 1 := by simp
    rw [e]
    exact List.take_of_length_le (by simp)
theorem take_len_lt {α : Type} {l : List α} {k : Nat} {x : α} (h : l[k]? = some x) : (l.take k).length = k := by
  have := get_lt h
  rw [List.length_take]
  omega
def c_are_cells : Ct := fun rs Q _ => ∃ d, rs = [.s d] ∧ Q (.s (.bool (isCells d)))
theorem d_are_cells {K : Frag} {cl : Ad} : ∀ rs Q E, c_are_cells rs Q E → w_are_cells K cl c_is_row c_is_cell (rho N_are_cells.length rs) { nx := fun _ => Q (.s .none), rt := Q, er := fun cls _ => E cls } := by
  rintro rs Q E ⟨d, rfl, q⟩
  unfold w_are_cells
  walk_at "dy"
  refine ⟨d, 0, 150, rfl, ?_⟩
  walk_at "dy"
  cases hr : isRow d 0 150 with
  | false =>
    have : isCells d = false := by
      cases d with
      | tuple l =>
        simp only [isRow, Bool.and_eq_false_iff, decide_eq_false_iff_not] at hr
        have : ¬ l.length ≤ 150 := by omega
        simp [isCells, this]
      | _ => rfl
    rw [this] at q
    simpa using q
  | true =>
    obtain ⟨l, rfl, h1, h2⟩ := rowI_cases hr
    simp only [Bool.not_true, Bool.false_eq_true, if_false]
    walk_at "dy"
    refine lc_go (fun k => ((l.take k).map isCell).map PyData.bool) rfl (fun k d hd => ?_) ?_
    · rw [gwN1]
      refine ⟨by simp, ?_⟩
      simp only [putA, wipeR, List.set_cons_succ, List.set_cons_zero]
      walk_at "dy"
      refine ⟨d, rfl, ?_⟩
      walk_at "dy"
      refine ⟨by rw [List.length_map, List.length_map, take_len_lt hd]; have := get_lt hd; omega, ?_⟩
      rw [take_succ_map isCell hd, List.map_append]
      rfl
    · rw [List.take_length]
      refine ⟨_, _, rfl, ?_⟩
      walk_at "dy"
      have ea : (l.map isCell).all id = l.all isCell := by rw [List.all_map]; rfl
      have e150 : l.length ≤ 150 := by omega
      rw [ea]
      simp only [isCells, e150, decide_true, Bool.true_and] at q
      cases ha : l.all isCell with
      | false => rw [ha] at q; simpa using q
      | true =>
        rw [ha, Bool.true_and] at q
        simp only [Bool.not_true, Bool.false_eq_true, if_false]
        rw [cut_drop1]
        refine lc_go (fun k => (((zipD l (l.drop 1)).take k).map lessD).map PyData.bool) rfl (fun k d hd => ?_) ?_
        · have hz : ∃ p q, l[k]? = some p ∧ l[k + 1]? = some q ∧ d = .tuple [p, q] := by
            have hd' := hd
            unfold zipD at hd'
            rw [List.getElem?_zipWith, List.getElem?_drop] at hd'
            cases h1 : l[k]? with
            | none => rw [h1] at hd'; cases hd'
            | some p =>
              cases h2 : l[1 + k]? with
              | none => rw [h1, h2] at hd'; cases hd'
              | some q =>
                rw [h1, h2] at hd'
                cases hd'
                exact ⟨p, q, rfl, by rw [Nat.add_comm]; exact h2, rfl⟩
          obtain ⟨p, q', h1, h2, rfl⟩ := hz
          have c1 : isCell p = true := List.all_eq_true.mp ha p (List.mem_of_getElem? h1)
          have c2 : isCell q' = true := List.all_eq_true.mp ha q' (List.mem_of_getElem? h2)
          have cell : ∀ z, isCell z = true → ∃ a b, z = .tuple [.int a, .int b] := fun z hz => by
            unfold isCell at hz
            split at hz
            · rw [Bool.and_eq_true] at hz
              obtain ⟨i, rfl, _⟩ := within_is hz.1
              obtain ⟨j, rfl, _⟩ := within_is hz.2
              exact ⟨i, j, rfl⟩
            · cases hz
          obtain ⟨a, b, rfl⟩ := cell p c1
          obtain ⟨a', b', rfl⟩ := cell q' c2
          rw [gwNt]
          refine ⟨rfl, by simp, ?_⟩
          simp only [putA, wipeR, List.set_cons_succ, List.set_cons_zero]
          walk_at "dy"
          have hk : k < 150 := by have := get_lt h1; omega
          refine ⟨by rw [List.length_map, List.length_map, take_len_lt hd]; omega, ?_⟩
          rw [take_succ_map lessD hd, List.map_append]
          rfl
        · rw [List.take_length]
          refine ⟨_, _, rfl, ?_⟩
          rw [asc_zip]
          exact q
def isVs : D → Bool
  | .tuple l => decide (l.length ≤ 4) && l.all fun v => within v 0 1000000
  | _ => false
def isSt : D → Bool
  | .tuple [vs, cs] => isVs vs && isCells cs
  | _ => false
theorem isSt_row {d : D} (h : isRow d 2 2 = false) : isSt d = false := by
  unfold isSt
  split
  · simp [isRow] at h
  · rfl
def c_is_state_of : Ct := fun rs Q _ => ∃ d, rs = [.s d] ∧ Q (.s (.bool (isSt d)))
theorem d_is_state_of {K : Frag} {cl : Ad} : ∀ rs Q E, c_is_state_of rs Q E → w_is_state_of K cl c_within c_is_row c_are_cells (rho N_is_state_of.length rs) { nx := fun _ => Q (.s .none), rt := Q, er := fun cls _ => E cls } := by
  rintro rs Q E ⟨d, rfl, q⟩
  unfold w_is_state_of
  walk_at "dy"
  refine ⟨d, 2, 2, rfl, ?_⟩
  walk_at "dy"
  cases hr : isRow d 2 2 with
  | false => rw [isSt_row hr] at q; simpa using q
  | true =>
    obtain ⟨l, rfl, h1, h2⟩ := rowI_cases hr
    match l, h1, h2 with
    | [a, b], _, _ =>
      simp only [Bool.not_true, Bool.false_eq_true, if_false]
      walk_at "dy"
      refine ⟨a, 0, 4, rfl, ?_⟩
      walk_at "dy"
      simp only [isSt] at q
      cases ha : isRow a 0 4 with
      | false =>
        have : isVs a = false := by
          cases a with
          | tuple l =>
            simp only [isRow, Bool.and_eq_false_iff, decide_eq_false_iff_not] at ha
            have : ¬ l.length ≤ 4 := by omega
            simp [isVs, this]
          | _ => rfl
        rw [this] at q
        simpa using q
      | true =>
        obtain ⟨l, rfl, h1, h2⟩ := rowI_cases ha
        simp only [Bool.not_true, Bool.false_eq_true, if_false]
        walk_at "dy"
        refine lc_go (fun k => ((l.take k).map fun v => within v 0 1000000).map PyData.bool) rfl (fun k d hd => ?_) ?_
        · rw [gwN1]
          refine ⟨by simp, ?_⟩
          simp only [putA, wipeR, List.set_cons_succ, List.set_cons_zero]
          walk_at "dy"
          refine ⟨d, 0, 1000000, rfl, ?_⟩
          walk_at "dy"
          refine ⟨by rw [List.length_map, List.length_map, take_len_lt hd]; have := get_lt hd; omega, ?_⟩
          rw [take_succ_map (fun v => within v 0 1000000) hd, List.map_append]
          rfl
        · rw [List.take_length]
          refine ⟨_, _, rfl, ?_⟩
          walk_at "dy"
          have ea : (l.map fun v => within v 0 1000000).all id = l.all fun v => within v 0 1000000 := by rw [List.all_map]; rfl
          have e4 : l.length ≤ 4 := by omega
          rw [ea]
          simp only [isVs, e4, decide_true, Bool.true_and] at q
          cases hv : l.all fun v => within v 0 1000000 with
          | false => rw [hv] at q; simpa using q
          | true =>
            rw [hv, Bool.true_and] at q
            simp only [if_true]
            exact ⟨b, rfl, q⟩
    | [], h1, _ => simp at h1
    | [_], h1, _ => simp at h1
    | _ :: _ :: _ :: _, _, h2 => simp at h2; omega
theorem asc_cs : ∀ {cs : List (Int × Int)}, (cs.Pairwise fun p q => p.1 < q.1) → ascD (cs.map prD) = true
  | [], _ => rfl
  | [_], _ => rfl
  | p :: q :: r, h => by
    obtain ⟨h1, h2⟩ := List.pairwise_cons.mp h
    have := h1 q List.mem_cons_self
    show (decide (p.1 < q.1) && ascD ((q :: r).map prD)) = true
    rw [asc_cs h2, decide_eq_true this]
    rfl
theorem isSt_ok {vs : List Int} {cs : List (Int × Int)} (ov : OkVs vs) (oc : OkCs cs) : isSt (stD vs cs) = true := by
  unfold stD isSt isVs isCells
  simp only [List.length_map, ov.few, oc.few, decide_true, Bool.true_and, asc_cs oc.srt, Bool.and_true, Bool.and_eq_true, List.all_map, List.all_eq_true]
  refine ⟨fun v hv => within_yes (ov.rng v hv).1 (ov.rng v hv).2, fun p hp => ?_⟩
  obtain ⟨h1, h2, h3, h4⟩ := oc.rng p hp
  show (within (.int p.1) 1 1000000 && within (.int p.2) 0 1000000) = true
  rw [within_yes h1 h2, within_yes h3 h4]
  rfl

def flatCs (cs : List (Int × Int)) : List Int := cs.flatMap fun p => [p.1, p.2]
def flatSt (vs : List Int) (cs : List (Int × Int)) : List Int := vs ++ flatCs cs
theorem flatCs_take {cs : List (Int × Int)} {i : Nat} {p : Int × Int} (h : cs[i]? = some p) : flatCs (cs.take (i + 1)) = flatCs (cs.take i) ++ [p.1, p.2] := by
  rw [take_at h]
  simp [flatCs]
theorem flatCs_len (cs : List (Int × Int)) : (flatCs cs).length = 2 * cs.length := by
  induction cs with
  | nil => rfl
  | cons p r ih => simp only [flatCs, List.flatMap_cons, List.length_append, List.length_cons, List.length_nil] at ih ⊢; omega
theorem pr_at {cs : List (Int × Int)} {i : Nat} {d : D} (h : (cs.map prD)[i]? = some d) : ∃ p, cs[i]? = some p ∧ d = prD p := by
  rw [List.getElem?_map] at h
  cases e : cs[i]? with
  | none => rw [e] at h; cases h
  | some p => rw [e] at h; cases h; exact ⟨p, rfl, rfl⟩
theorem int_at {ns : List Int} {i : Nat} {d : D} (h : (ns.map PyData.int)[i]? = some d) : ∃ n, ns[i]? = some n ∧ d = .int n := by
  rw [List.getElem?_map] at h
  cases e : ns[i]? with
  | none => rw [e] at h; cases h
  | some p => rw [e] at h; cases h; exact ⟨p, rfl, rfl⟩
def pos (ns : List Int) : List Int := ns.filter fun x => decide (0 < x)
theorem pos_take {ns : List Int} {i : Nat} {n : Int} (h : ns[i]? = some n) : pos (ns.take (i + 1)) = if 0 < n then pos (ns.take i) ++ [n] else pos (ns.take i) := by
  rw [take_at h, pos, List.filter_append]
  by_cases e : 0 < n <;> simp [e, pos]
def c_places (w : Bool) : Ct := fun rs Q _ => ∃ vs cs, rs = [.s (stD vs cs)] ∧ vs.length ≤ 4 ∧ cs.length ≤ 200 ∧ ∀ ns', SortedOf (pos (flatSt vs cs)) ns' → Q (.l true (ns'.map PyData.int))
theorem d_places_of {K : Frag} {cl : Ad} : ∀ rs Q E, c_places true rs Q E → w_places_of K cl (rho N_places_of.length rs) { nx := fun _ => Q (.s .none), rt := Q, er := fun cls _ => E cls } := by
  rintro rs Q E ⟨vs, cs, rfl, ov, few, q⟩
  unfold w_places_of stD
  try walk_at "dm"
  refine ⟨fun i (ρ : Rho) => ∃ v2 v3, ρ = [some (.s (stD vs cs)), some (.l true ((vs ++ flatCs (cs.take i)).map PyData.int)), v2, v3], ⟨none, none, by simp [flatCs, stD]⟩, ?_, ?_⟩
  · rintro i d ρ hd ⟨v2, v3, rfl⟩
    obtain ⟨p, hp, rfl⟩ := pr_at hd
    unfold w_places_of_b1 prD
    walk_at "dm"
    refine ⟨?_, ?_⟩
    · have := (List.getElem?_eq_some_iff.mp hp).1
      rw [List.length_map, List.length_append, flatCs_len, List.length_take]
      have := ov
      have := few
      omega
    · rw [flatCs_take hp]
      simp
  · rintro ρ ⟨v2, v3, rfl⟩
    walk_at "dm"
    have e0 : cs.take (cs.map prD).length = cs := by rw [List.length_map, List.take_length]
    have l3 : (flatSt vs cs).length ≤ 404 := by unfold flatSt; rw [List.length_append, flatCs_len]; have := ov; have := few; omega
    rw [e0, show vs ++ flatCs cs = flatSt vs cs from rfl]
    generalize flatSt vs cs = fl at q l3 ⊢
    refine ⟨fun k (acc : List Int) => acc = pos (fl.take k), rfl, fun k acc d hd e => ?_, fun acc e => ?_⟩
    · subst e
      obtain ⟨n, hn, rfl⟩ := int_at hd
      refine ⟨n, rfl, ?_⟩
      have pt := pos_take hn
      by_cases h : 0 < n
      · rw [if_pos (decide_eq_true h)]
        rw [if_pos h] at pt
        refine ⟨n, rfl, ?_, pt.symm⟩
        have l1 := List.length_filter_le (fun x => decide (0 < x)) (fl.take k)
        have l2 : (fl.take k).length ≤ fl.length := by rw [List.length_take]; omega
        unfold pos
        omega
      · rw [if_neg (by simpa using h)]
        rw [if_neg h] at pt
        exact pt.symm
    · dsimp only at e
      rw [List.length_map, List.take_length] at e
      subst e
      refine ⟨?_, q⟩
      have l1 := List.length_filter_le (fun x => decide (0 < x)) fl
      unfold pos
      omega
def topOf (ns : List Int) : Int := ns.foldl max 0
theorem foldl_max : ∀ (ns : List Int) (a : Int), a ≤ ns.foldl max a ∧ (∀ x ∈ ns, x ≤ ns.foldl max a) ∧ (ns.foldl max a = a ∨ ns.foldl max a ∈ ns)
  | [], a => ⟨Int.le_refl _, fun x h => (nomatch h), .inl rfl⟩
  | n :: ns, a => by
    obtain ⟨h1, h2, h3⟩ := foldl_max ns (max a n)
    refine ⟨Int.le_trans (Int.le_max_left a n) h1, fun x hx => ?_, ?_⟩
    · rcases List.mem_cons.mp hx with rfl | hx
      · exact Int.le_trans (Int.le_max_right a x) h1
      · exact h2 x hx
    · rw [List.foldl_cons]
      rcases h3 with h3 | h3
      · rw [h3]
        by_cases q : a ≤ n
        · rw [Int.max_eq_right q]; exact .inr List.mem_cons_self
        · rw [Int.max_eq_left (by omega)]; exact .inl rfl
      · exact .inr (List.mem_cons_of_mem _ h3)
theorem top_eq {ns ns' : List Int} {m : Int} (h : SortedOf (pos ns) ns') (h1 : m ∈ 0 :: ns') (h2 : ∀ y ∈ 0 :: ns', y ≤ m) : m = topOf ns := by
  obtain ⟨a1, a2, a3⟩ := foldl_max ns 0
  have m0 : 0 ≤ m := h2 0 List.mem_cons_self
  have up : topOf ns ≤ m := by
    rcases a3 with a3 | a3
    · show ns.foldl max 0 ≤ m; rw [a3]; exact m0
    · by_cases z : 0 < ns.foldl max 0
      · exact h2 _ (List.mem_cons_of_mem _ ((h.2.1 _).mpr (List.mem_filter.mpr ⟨a3, decide_eq_true z⟩)))
      · show ns.foldl max 0 ≤ m; omega
  rcases List.mem_cons.mp h1 with rfl | h1
  · have : (0 : Int) ≤ topOf ns := a1
    omega
  · have := a2 m (List.mem_filter.mp ((h.2.1 _).mp h1)).1
    have : m ≤ topOf ns := this
    omega
def c_top_of : Ct := fun rs Q _ => ∃ vs cs, rs = [.s (stD vs cs)] ∧ vs.length ≤ 4 ∧ cs.length ≤ 200 ∧ Q (.s (.int (topOf (flatSt vs cs))))
theorem d_top_of {K : Frag} {cl : Ad} : ∀ rs Q E, c_top_of rs Q E → w_top_of K cl (c_places true) (rho N_top_of.length rs) { nx := fun _ => Q (.s .none), rt := Q, er := fun cls _ => E cls } := by
  rintro rs Q E ⟨vs, cs, rfl, ov, few, q⟩
  unfold w_top_of
  try walk_at "dm"
  refine ⟨vs, cs, rfl, ov, few, fun ns' hs => ?_⟩
  refine ⟨true, _, rfl, ?_, 0 :: ns', rfl, by simp, fun m h1 h2 => ?_⟩
  · have := hs.2.2
    rw [List.length_map]
    omega
  · rw [top_eq hs h1 h2]
    exact q
theorem d_law_places {K : Frag} {cl : Ad} : ∀ rs Q E, c_places false rs Q E → w_law_places K cl (rho N_law_places.length rs) { nx := fun _ => Q (.s .none), rt := Q, er := fun cls _ => E cls } := by
  rintro rs Q E ⟨vs, cs, rfl, ov, few, q⟩
  unfold w_law_places stD
  try walk_at "dm"
  refine ⟨fun i (ρ : Rho) => ∃ v2 v3, ρ = [some (.s (stD vs cs)), some (.l true ((vs ++ flatCs (cs.take i)).map PyData.int)), v2, v3], ⟨none, none, by simp [flatCs, stD]⟩, ?_, ?_⟩
  · rintro i d ρ hd ⟨v2, v3, rfl⟩
    obtain ⟨p, hp, rfl⟩ := pr_at hd
    unfold w_law_places_b1 prD
    walk_at "dm"
    refine ⟨?_, ?_⟩
    · have := (List.getElem?_eq_some_iff.mp hp).1
      rw [List.length_map, List.length_append, flatCs_len, List.length_take]
      have := ov
      have := few
      omega
    · rw [flatCs_take hp]
      simp
  · rintro ρ ⟨v2, v3, rfl⟩
    walk_at "dm"
    have e0 : cs.take (cs.map prD).length = cs := by rw [List.length_map, List.take_length]
    have l3 : (flatSt vs cs).length ≤ 404 := by unfold flatSt; rw [List.length_append, flatCs_len]; have := ov; have := few; omega
    rw [e0, show vs ++ flatCs cs = flatSt vs cs from rfl]
    generalize flatSt vs cs = fl at q l3 ⊢
    refine ⟨fl, rfl, by omega, fun ns' hs => ⟨fun k (acc : List D) => acc = (pos (ns'.take k)).map PyData.int, rfl, fun k acc d hd e => ?_, fun acc e => ?_⟩⟩
    · subst e
      obtain ⟨n, hn, rfl⟩ := int_at hd
      refine ⟨n, rfl, ?_⟩
      have pt := pos_take hn
      have hk := (List.getElem?_eq_some_iff.mp hn).1
      by_cases h : 0 < n
      · rw [if_pos (decide_eq_true h)]
        rw [if_pos h] at pt
        refine ⟨?_, ?_⟩
        · have l1 := List.length_filter_le (fun x => decide (0 < x)) (ns'.take k)
          have := hs.2.2
          rw [List.length_map]
          unfold pos
          rw [List.length_take] at l1
          omega
        · show _ = List.map PyData.int (pos (List.take (k + 1) ns'))
          rw [pt, List.map_append]; rfl
      · rw [if_neg (by simpa using h)]
        rw [if_neg h] at pt
        show _ = List.map PyData.int (pos (List.take (k + 1) ns'))
        rw [pt]
    · dsimp only at e
      rw [List.length_map, List.take_length] at e
      subst e
      refine q _ ⟨hs.1.sublist List.filter_sublist, fun k => ?_, ?_⟩
      · unfold pos
        rw [List.mem_filter, List.mem_filter, hs.2.1 k]
      · have l1 := List.length_filter_le (fun x => decide (0 < x)) ns'
        have := hs.2.2
        unfold pos
        omega

/-! going on from places -/
theorem nodup_len : ∀ (l D : List Int), l.Nodup → (∀ x ∈ l, x ∈ D) → l.length ≤ D.length
  | [], _, _, _ => Nat.zero_le _
  | a :: l, D, h, hs => by
    obtain ⟨h1, h2⟩ := List.nodup_cons.mp h
    have ih := nodup_len l (D.erase a) h2 fun y hy => (List.mem_erase_of_ne fun (e : y = a) => h1 (e ▸ hy)).mpr (hs y (List.mem_cons_of_mem _ hy))
    have := List.length_erase_of_mem (hs a List.mem_cons_self)
    have : 0 < D.length := List.length_pos_of_mem (hs a List.mem_cons_self)
    rw [List.length_cons]
    omega
def chase (f : Int → Option Int) : Nat → List Int → Int → List Int
  | 0, acc, _ => acc
  | n + 1, acc, p => match f p with
    | some q => if p ∈ acc then acc else chase f n (acc ++ [p]) q
    | none => acc
def reach (f : Int → Option Int) (n : Nat) (vs : List Int) : List Int := vs.foldl (fun acc p => chase f n acc p) []
/-- a dict of ints that f tells, with at most n keys -/
structure Tells (kvs : List (Key × D)) (f : Int → Option Int) (ks : List Int) : Prop where
  get : ∀ k, kGet kvs (.inl k) = (f k).map PyData.int
  inn : ∀ k, (f k).isSome = true → k ∈ ks
theorem chase_stop {f : Int → Option Int} {n : Nat} {acc : List Int} {p : Int} (h : f p = none ∨ p ∈ acc) : chase f n acc p = acc := by
  cases n with
  | zero => rfl
  | succ n =>
    rw [chase]
    cases e : f p with
    | none => rfl
    | some q =>
      rcases h with h | h
      · rw [e] at h; cases h
      · simp only [h, if_true]
theorem chase_go {f : Int → Option Int} {n : Nat} {acc : List Int} {p q : Int} (h : f p = some q) (hn : p ∉ acc) : chase f (n + 1) acc p = chase f n (acc ++ [p]) q := by
  rw [chase, h]
  simp only [hn, if_false]
def tk (acc : List Int) : List (Key × D) := acc.map fun p => (Sum.inl p, PyData.bool true)
theorem tk_get (acc : List Int) (p : Int) : (kGet (tk acc) (.inl p)).isSome = decide (p ∈ acc) := by
  unfold kGet tk
  induction acc with
  | nil => rfl
  | cons a r ih =>
    rw [List.map_cons, List.find?_cons]
    by_cases e : a = p
    · simp [e]
    · have e' : ¬ (Sum.inl a : Key) = Sum.inl p := fun z => e (Sum.inl.inj z)
      simp only [e', decide_false]
      rw [ih]
      simp [List.mem_cons, Ne.symm e, eq_comm, e]
theorem tk_put {acc : List Int} {p : Int} (h : p ∉ acc) : kPut (tk acc) (.inl p) (.bool true) = tk (acc ++ [p]) := by
  unfold kPut
  have : (tk acc).any (fun q => decide (q.1 = Sum.inl p)) = false := by
    rw [List.any_eq_false]
    intro q hq
    obtain ⟨a, ha, rfl⟩ := List.mem_map.mp hq
    simp only [decide_eq_true_eq]
    intro z
    exact h (Sum.inl.inj z ▸ ha)
  rw [this, if_neg Bool.false_ne_true]
  simp [tk]
def left2 (n : Nat) (ρ : Rho) : Nat := match ρ[2]? with
  | some (some (R.k _ l)) => n - l.length
  | some (some (R.l _ l)) => n - l.length
  | _ => 0
theorem left2_k (n : Nat) (a b c : Option R) (o : Bool) (l : List (Key × D)) : left2 n [a, b, some (.k o l), c] = n - l.length := rfl
theorem left2_l (n : Nat) (a b c : Option R) (o : Bool) (l : List D) : left2 n [a, b, some (.l o l), c] = n - l.length := rfl
theorem tk_len (acc : List Int) : (tk acc).length = acc.length := by simp [tk]
def c_reached_by : Ct := fun rs Q _ => ∃ (a : R) (kvs : List (Key × D)) (f : Int → Option Int) (ks vs : List Int), rs = [a, .s (.tuple (vs.map PyData.int))] ∧ peek a = a ∧ a.kv = some kvs ∧ Tells kvs f ks ∧ ks.length ≤ 1000 ∧ Q (.k true (tk (reach f (ks.length + 1) vs)))
theorem d_reached_by {K : Frag} {cl : Ad} : ∀ rs Q E, c_reached_by rs Q E → w_reached_by K cl (rho N_reached_by.length rs) { nx := fun _ => Q (.s .none), rt := Q, er := fun cls _ => E cls } := by
  rintro rs Q E ⟨a, kvs, f, ks, vs, rfl, pa, ha, T, hk, q⟩
  unfold w_reached_by
  try walk_at "dm"
  refine ⟨fun i (ρ : Rho) => ∃ v3, ρ = [some a, some (.s (.tuple (vs.map PyData.int))), some (.k true (tk (reach f (ks.length + 1) (vs.take i)))), v3] ∧ (reach f (ks.length + 1) (vs.take i)).Nodup ∧ ∀ x ∈ reach f (ks.length + 1) (vs.take i), x ∈ ks, ⟨none, rfl, by simp [reach], by simp [reach]⟩, ?_, ?_⟩
  · rintro i d ρ hd ⟨v3, rfl, nd, inn⟩
    obtain ⟨n, hn, rfl⟩ := int_at hd
    have st : reach f (ks.length + 1) (vs.take (i + 1)) = chase f (ks.length + 1) (reach f (ks.length + 1) (vs.take i)) n := by
      rw [take_at hn]
      simp [reach, List.foldl_append]
    refine ⟨by simp, ?_⟩
    dsimp only
    simp only [List.set_cons_succ, List.set_cons_zero]
    rw [st]
    generalize reach f (ks.length + 1) (vs.take i) = acc0 at nd inn ⊢
    unfold w_reached_by_b2
    refine ⟨fun ρ' => ∃ acc p m, ρ' = [some a, some (.s (.tuple (vs.map PyData.int))), some (.k true (tk acc)), some (.s (.int p))] ∧ chase f m acc p = chase f (ks.length + 1) acc0 n ∧ ks.length + 1 ≤ m + acc.length ∧ acc.Nodup ∧ ∀ x ∈ acc, x ∈ ks,
      left2 ks.length, ⟨acc0, n, _, rfl, rfl, by omega, nd, inn⟩, ?_⟩
    rintro ρ' ⟨acc, p, m, rfl, hc, hm, nd', inn'⟩
    walk_at "dm"
    have stop : (f p = none ∨ p ∈ acc) → chase f (ks.length + 1) acc0 n = acc := fun h => by rw [← hc]; exact chase_stop h
    refine .inr ⟨kvs, by rw [pa]; exact ha, ?_⟩
    rw [T.get p]
    cases e : f p with
    | none =>
      rw [if_neg (by simp), stop (.inl e)]
      exact ⟨rfl, nd', inn'⟩
    | some q' =>
      rw [if_pos (show (Option.map PyData.int (some q')).isSome = true from rfl), tk_get]
      have pk : p ∈ ks := T.inn p (by rw [e]; rfl)
      by_cases hp : p ∈ acc
      · rw [decide_eq_true hp, if_neg (by simp), stop (.inr hp)]
        exact ⟨rfl, nd', inn'⟩
      · rw [decide_eq_false hp, if_pos (show (!false) = true from rfl)]
        have nd2 : (acc ++ [p]).Nodup := nd_snoc nd' hp
        have in2 : ∀ x ∈ acc ++ [p], x ∈ ks := fun x hx => by
          rcases List.mem_append.mp hx with hx | hx
          · exact inn' x hx
          · rw [List.mem_singleton.mp hx]; exact pk
        have ln := nodup_len _ _ nd2 in2
        rw [List.length_append, List.length_singleton] at ln
        unfold w_reached_by_b1
        walk_at "dm"
        refine ⟨by rw [tk_len]; omega, ?_⟩
        rw [tk_put hp]
        refine .inr ⟨kvs, by rw [pa]; exact ha, .int q', by rw [T.get p, e]; rfl, ?_, ?_⟩
        · refine ⟨acc ++ [p], rfl, q', rfl, m - 1, ?_, ?_, nd2, in2⟩
          · rw [← chase_go e hp, show m - 1 + 1 = m by omega]
            exact hc
          · rw [List.length_append, List.length_singleton]
            omega
        · rw [left2_k, left2_k, tk_len, tk_len, List.length_append, List.length_singleton]
          omega
  · rintro ρ ⟨v3, rfl, _, _⟩
    walk_at "dm"
    rw [List.length_map, List.take_length]
    exact q
theorem inD_ints (acc : List Int) (p : Int) : inD (.int p) (acc.map PyData.int) = decide (p ∈ acc) := by
  unfold inD
  induction acc with
  | nil => rfl
  | cons a r ih =>
    rw [List.map_cons, List.any_cons, ih, eqv_int, Bool.eq_iff_iff, Bool.or_eq_true, beq_iff_eq, decide_eq_true_iff, decide_eq_true_iff, List.mem_cons]
    exact ⟨fun h => h.elim (fun e => .inl e.symm) .inr, fun h => h.elim (fun e => .inl e.symm) .inr⟩
theorem flat_ints (acc : List Int) : (acc.map PyData.int).all flatD = true := by
  rw [List.all_eq_true]
  intro d hd
  obtain ⟨n, _, rfl⟩ := List.mem_map.mp hd
  rfl
def c_law_reached : Ct := fun rs Q _ => ∃ (a : R) (kvs : List (Key × D)) (f : Int → Option Int) (ks vs : List Int), rs = [.s (.tuple (vs.map PyData.int)), a] ∧ peek a = a ∧ a.kv = some kvs ∧ Tells kvs f ks ∧ ks.length ≤ 1000 ∧ Q (.l true ((reach f (ks.length + 1) vs).map PyData.int))
theorem d_law_reached {K : Frag} {cl : Ad} : ∀ rs Q E, c_law_reached rs Q E → w_law_reached K cl (rho N_law_reached.length rs) { nx := fun _ => Q (.s .none), rt := Q, er := fun cls _ => E cls } := by
  rintro rs Q E ⟨a, kvs, f, ks, vs, rfl, pa, ha, T, hk, q⟩
  unfold w_law_reached
  try walk_at "dm"
  refine ⟨fun i (ρ : Rho) => ∃ v3, ρ = [some (.s (.tuple (vs.map PyData.int))), some a, some (.l true ((reach f (ks.length + 1) (vs.take i)).map PyData.int)), v3] ∧ (reach f (ks.length + 1) (vs.take i)).Nodup ∧ ∀ x ∈ reach f (ks.length + 1) (vs.take i), x ∈ ks, ⟨none, rfl, by simp [reach], by simp [reach]⟩, ?_, ?_⟩
  · rintro i d ρ hd ⟨v3, rfl, nd, inn⟩
    obtain ⟨n, hn, rfl⟩ := int_at hd
    have st : reach f (ks.length + 1) (vs.take (i + 1)) = chase f (ks.length + 1) (reach f (ks.length + 1) (vs.take i)) n := by
      rw [take_at hn]
      simp [reach, List.foldl_append]
    refine ⟨by simp, ?_⟩
    dsimp only
    simp only [List.set_cons_succ, List.set_cons_zero]
    rw [st]
    generalize reach f (ks.length + 1) (vs.take i) = acc0 at nd inn ⊢
    unfold w_law_reached_b2
    refine ⟨fun ρ' => ∃ acc p m, ρ' = [some (.s (.tuple (vs.map PyData.int))), some a, some (.l true (acc.map PyData.int)), some (.s (.int p))] ∧ chase f m acc p = chase f (ks.length + 1) acc0 n ∧ ks.length + 1 ≤ m + acc.length ∧ acc.Nodup ∧ ∀ x ∈ acc, x ∈ ks,
      left2 ks.length, ⟨acc0, n, _, rfl, rfl, by omega, nd, inn⟩, ?_⟩
    rintro ρ' ⟨acc, p, m, rfl, hc, hm, nd', inn'⟩
    walk_at "dm"
    have stop : (f p = none ∨ p ∈ acc) → chase f (ks.length + 1) acc0 n = acc := fun h => by rw [← hc]; exact chase_stop h
    refine .inr ⟨kvs, by rw [pa]; exact ha, ?_⟩
    rw [T.get p]
    cases e : f p with
    | none =>
      rw [if_neg (by simp), stop (.inl e)]
      exact ⟨rfl, nd', inn'⟩
    | some q' =>
      rw [if_pos (show (Option.map PyData.int (some q')).isSome = true from rfl)]
      refine ⟨flat_ints acc, ?_⟩
      rw [inD_ints]
      have pk : p ∈ ks := T.inn p (by rw [e]; rfl)
      by_cases hp : p ∈ acc
      · rw [decide_eq_true hp, if_neg (by simp), stop (.inr hp)]
        exact ⟨rfl, nd', inn'⟩
      · rw [decide_eq_false hp, if_pos (show (!false) = true from rfl)]
        have nd2 : (acc ++ [p]).Nodup := nd_snoc nd' hp
        have in2 : ∀ x ∈ acc ++ [p], x ∈ ks := fun x hx => by
          rcases List.mem_append.mp hx with hx | hx
          · exact inn' x hx
          · rw [List.mem_singleton.mp hx]; exact pk
        have ln := nodup_len _ _ nd2 in2
        rw [List.length_append, List.length_singleton] at ln
        unfold w_law_reached_b1
        walk_at "dm"
        refine ⟨by rw [List.length_map]; omega, ?_⟩
        refine .inr ⟨kvs, by rw [pa]; exact ha, .int q', by rw [T.get p, e]; rfl, ?_, ?_⟩
        · refine ⟨acc ++ [p], by rw [List.map_append]; rfl, q', rfl, m - 1, ?_, ?_, nd2, in2⟩
          · rw [← chase_go e hp, show m - 1 + 1 = m by omega]
            exact hc
          · rw [List.length_append, List.length_singleton]
            omega
        · rw [left2_l, left2_l, List.length_append, List.length_map, List.length_singleton]
          omega
  · rintro ρ ⟨v3, rfl, _, _⟩
    walk_at "dm"
    rw [List.length_map, List.take_length]
    exact q

/-! dicts of ints: whole states -/
def sortP (l : List (Int × Int)) : List (Int × Int) := l.mergeSort fun p q => decide (p.1 < q.1 ∨ (p.1 = q.1 ∧ p.2 ≤ q.2))
def keysI (l : List (Int × Int)) : List Int := l.map (·.1)
theorem tells_iK (l : List (Int × Int)) : Tells (iK l) (iGet l) (keysI l) := ⟨fun k => iGet_k k l, fun k h => by
  unfold iGet at h
  cases e : l.find? fun p => decide (p.1 = k) with
  | none => rw [e] at h; cases h
  | some p =>
    have h1 := List.find?_some e
    have h2 := List.mem_of_find?_eq_some e
    exact List.mem_map.mpr ⟨p, h2, by simpa using h1⟩⟩
theorem pairsK_cs : ∀ cs : List (Int × Int), pairsK (cs.map prD) = some (iK cs)
  | [] => rfl
  | p :: r => by
    rw [List.map_cons]
    show (match ofK (.int p.1), pairsK (r.map prD) with | some k, some s => some ((k, PyData.int p.2) :: s) | _, _ => none) = _
    rw [pairsK_cs r]
    rfl
theorem kPut_new {kvs : List (Key × D)} {k : Key} {d : D} (h : k ∉ kvs.map (·.1)) : kPut kvs k d = kvs ++ [(k, d)] := by
  unfold kPut
  rw [if_neg]
  intro z
  obtain ⟨p, hp, e⟩ := List.any_eq_true.mp z
  exact h (List.mem_map.mpr ⟨p, hp, by simpa using e⟩)
theorem kMerge_nd : ∀ (more kvs : List (Key × D)), ((kvs ++ more).map (·.1)).Nodup → kMerge kvs more = kvs ++ more
  | [], kvs, _ => by simp [kMerge]
  | p :: r, kvs, h => by
    have hp : p.1 ∉ kvs.map (·.1) := by
      rw [List.map_append, List.map_cons, List.nodup_append] at h
      intro z
      exact h.2.2 _ z _ List.mem_cons_self rfl
    show kMerge (kPut kvs p.1 p.2) r = _
    rw [kPut_new hp, kMerge_nd r (kvs ++ [(p.1, p.2)]) (by simpa using h)]
    simp
theorem keys_nd {cs : List (Int × Int)} (h : cs.Pairwise fun p q => p.1 < q.1) : (keysI cs).Nodup := by
  unfold keysI
  rw [List.Nodup, List.pairwise_map]
  exact h.imp fun h => Int.ne_of_lt h
theorem iK_nd {l : List (Int × Int)} (h : (keysI l).Nodup) : ((iK l).map (·.1)).Nodup := by
  have e : (iK l).map (·.1) = (keysI l).map Sum.inl := by simp [iK, keysI]
  rw [e, List.Nodup, List.pairwise_map]
  exact List.Pairwise.imp (fun h z => h (Sum.inl.inj z)) h
theorem dict_cs {cs : List (Int × Int)} (h : (keysI cs).Nodup) : kMerge [] (iK cs) = iK cs := kMerge_nd (iK cs) [] (by rw [List.nil_append]; exact iK_nd h)
def wholeB (vs : List Int) (l : List (Int × Int)) : Bool := decide ((reach (iGet l) (l.length + 1) vs).length = l.length)
def c_is_whole_of : Ct := fun rs Q _ => ∃ vs cs, rs = [.s (stD vs cs)] ∧ (keysI cs).Nodup ∧ cs.length ≤ 1000 ∧ Q (.s (.bool (wholeB vs cs)))
theorem d_is_whole_of {K : Frag} {cl : Ad} : ∀ rs Q E, c_is_whole_of rs Q E → w_is_whole_of K cl c_reached_by (rho N_is_whole_of.length rs) { nx := fun _ => Q (.s .none), rt := Q, er := fun cls _ => E cls } := by
  rintro rs Q E ⟨vs, cs, rfl, nd, few, q⟩
  unfold w_is_whole_of stD
  try walk_at "dm"
  refine ⟨_, pairsK_cs cs, ?_⟩
  rw [dict_cs nd]
  refine ⟨_, iK cs, iGet cs, keysI cs, vs, rfl, rfl, kv_d _, tells_iK cs, by unfold keysI; rw [List.length_map]; exact few, ?_⟩
  walk_at "dm"
  have e : (((tk (reach (iGet cs) ((keysI cs).length + 1) vs)).length : Int) == ((cs.map prD).length : Int)) = wholeB vs cs := by
    rw [tk_len, List.length_map, keysI, List.length_map, wholeB, Bool.eq_iff_iff, beq_iff_eq, decide_eq_true_iff]
    exact Int.ofNat_inj
  rw [e]
  exact q
theorem iGet_mem {l : List (Int × Int)} (nd : (keysI l).Nodup) {k v : Int} : iGet l k = some v ↔ (k, v) ∈ l := by
  unfold iGet
  induction l with
  | nil => simp
  | cons p r ih =>
    unfold keysI at nd
    rw [List.map_cons, List.nodup_cons] at nd
    rw [List.find?_cons]
    by_cases e : p.1 = k
    · simp only [e, decide_true, Option.map_some, Option.some.injEq]
      constructor
      · intro h
        subst h
        rw [← e]
        exact List.mem_cons_self
      · intro h
        rcases List.mem_cons.mp h with h | h
        · rw [← h]
        · exact absurd (List.mem_map.mpr ⟨_, h, rfl⟩) (e ▸ nd.1)
    · simp only [e, decide_false]
      refine (ih nd.2).trans ⟨fun h => List.mem_cons_of_mem _ h, fun h => ?_⟩
      rcases List.mem_cons.mp h with h | h
      · exact absurd (by rw [← h]) e
      · exact h
theorem iGet_perm {l l' : List (Int × Int)} (h : l.Perm l') (nd : (keysI l).Nodup) : iGet l = iGet l' := by
  have nd' : (keysI l').Nodup := (h.map _).nodup nd
  funext k
  cases e : iGet l' k with
  | some v => exact (iGet_mem nd).mpr (h.mem_iff.mpr ((iGet_mem nd').mp e))
  | none =>
    cases e' : iGet l k with
    | none => rfl
    | some v =>
      have := (iGet_mem nd').mpr (h.mem_iff.mp ((iGet_mem nd).mp e'))
      rw [e] at this
      cases this
theorem sortP_perm (l : List (Int × Int)) : (sortP l).Perm l := List.mergeSort_perm l _
theorem whole_sort {vs : List Int} {l : List (Int × Int)} (nd : (keysI l).Nodup) : wholeB vs (sortP l) = wholeB vs l := by
  unfold wholeB
  rw [iGet_perm (sortP_perm l) (((sortP_perm l).map _).symm.nodup nd), (sortP_perm l).length_eq]
theorem pairs_iK (l : List (Int × Int)) : pairsD (iK l) = l.map prD := by simp [pairsD, iK, prD, kD]
theorem sortD_pr (l : List (Int × Int)) : sortD (l.map prD) = (sortP l).map prD := by
  unfold sortD sortP
  refine (List.map_mergeSort fun a _ b _ => ?_).symm
  have := congrFun (congrFun (PySem.W.dataLe_ii (fun p : Int × Int => p.1) (fun p => p.2)) a) b
  rw [← this]
  rfl
theorem srt_pr (l : List (Int × Int)) (h : l.length ≤ 1000) : SrtOk (l.map prD) where
  al := PySem.W.AllAlike.of fun a b => by simp [prD, PySem.W.alike, PySem.W.alikeAll]
  so := PySem.W.Sortable.tuples fun p => ⟨_, _, rfl⟩
  ly := fun d hd => by
    obtain ⟨p, _, rfl⟩ := List.mem_map.mp hd
    exact ⟨by simp [prD, PyData.canLay0, PyData.canLayAll0], by simp [prD, PyData.depth, PyData.depthAll]⟩
  ln := by rw [List.length_map]; omega
def c_state_from : Ct := fun rs Q _ => ∃ (o : Bool) (vs : List Int) (l : List (Int × Int)) (a : R), rs = [a, .k o (iK l)] ∧ a.seq = some (vs.map PyData.int) ∧ peek a = a ∧ l.length ≤ 1000 ∧ Q (.s (stD vs (sortP l)))
theorem d_state_from {K : Frag} {cl : Ad} : ∀ rs Q E, c_state_from rs Q E → w_state_from K cl (rho N_state_from.length rs) { nx := fun _ => Q (.s .none), rt := Q, er := fun cls _ => E cls } := by
  rintro rs Q E ⟨o, vs, l, a, rfl, ha, pa, hl, q⟩
  unfold w_state_from
  try walk_at "dm"
  refine ⟨_, by rw [pa]; exact ha, ?_, ?_, ?_⟩
  · rw [List.all_eq_true]
    intro p hp
    obtain ⟨x, _, rfl⟩ := List.mem_map.mp hp
    rfl
  · rw [pairs_iK]
    exact srt_pr l hl
  · rw [pairs_iK, sortD_pr]
    exact q

/-! words -/
theorem q_set_set : (("set" : Str) == "set") = true := by decide +kernel
theorem q_set_follow : (("set" : Str) == "follow") = false := by decide +kernel
theorem q_set_put : (("set" : Str) == "put") = false := by decide +kernel
theorem q_set_new : (("set" : Str) == "new") = false := by decide +kernel
theorem q_set_free : (("set" : Str) == "free") = false := by decide +kernel
theorem q_set_if : (("set" : Str) == "if") = false := by decide +kernel
theorem q_set_end : (("set" : Str) == "end") = false := by decide +kernel
theorem q_set_leak : (("set" : Str) == "leak") = false := by decide +kernel
theorem q_set_wrong : (("set" : Str) == "wrong") = false := by decide +kernel
theorem q_set_same : (("set" : Str) == "same") = false := by decide +kernel
theorem q_set_unlike : (("set" : Str) == "unlike") = false := by decide +kernel
theorem q_follow_set : (("follow" : Str) == "set") = false := by decide +kernel
theorem q_follow_follow : (("follow" : Str) == "follow") = true := by decide +kernel
theorem q_follow_put : (("follow" : Str) == "put") = false := by decide +kernel
theorem q_follow_new : (("follow" : Str) == "new") = false := by decide +kernel
theorem q_follow_free : (("follow" : Str) == "free") = false := by decide +kernel
theorem q_follow_if : (("follow" : Str) == "if") = false := by decide +kernel
theorem q_follow_end : (("follow" : Str) == "end") = false := by decide +kernel
theorem q_follow_leak : (("follow" : Str) == "leak") = false := by decide +kernel
theorem q_follow_wrong : (("follow" : Str) == "wrong") = false := by decide +kernel
theorem q_follow_same : (("follow" : Str) == "same") = false := by decide +kernel
theorem q_follow_unlike : (("follow" : Str) == "unlike") = false := by decide +kernel
theorem q_put_set : (("put" : Str) == "set") = false := by decide +kernel
theorem q_put_follow : (("put" : Str) == "follow") = false := by decide +kernel
theorem q_put_put : (("put" : Str) == "put") = true := by decide +kernel
theorem q_put_new : (("put" : Str) == "new") = false := by decide +kernel
theorem q_put_free : (("put" : Str) == "free") = false := by decide +kernel
theorem q_put_if : (("put" : Str) == "if") = false := by decide +kernel
theorem q_put_end : (("put" : Str) == "end") = false := by decide +kernel
theorem q_put_leak : (("put" : Str) == "leak") = false := by decide +kernel
theorem q_put_wrong : (("put" : Str) == "wrong") = false := by decide +kernel
theorem q_put_same : (("put" : Str) == "same") = false := by decide +kernel
theorem q_put_unlike : (("put" : Str) == "unlike") = false := by decide +kernel
theorem q_new_set : (("new" : Str) == "set") = false := by decide +kernel
theorem q_new_follow : (("new" : Str) == "follow") = false := by decide +kernel
theorem q_new_put : (("new" : Str) == "put") = false := by decide +kernel
theorem q_new_new : (("new" : Str) == "new") = true := by decide +kernel
theorem q_new_free : (("new" : Str) == "free") = false := by decide +kernel
theorem q_new_if : (("new" : Str) == "if") = false := by decide +kernel
theorem q_new_end : (("new" : Str) == "end") = false := by decide +kernel
theorem q_new_leak : (("new" : Str) == "leak") = false := by decide +kernel
theorem q_new_wrong : (("new" : Str) == "wrong") = false := by decide +kernel
theorem q_new_same : (("new" : Str) == "same") = false := by decide +kernel
theorem q_new_unlike : (("new" : Str) == "unlike") = false := by decide +kernel
theorem q_free_set : (("free" : Str) == "set") = false := by decide +kernel
theorem q_free_follow : (("free" : Str) == "follow") = false := by decide +kernel
theorem q_free_put : (("free" : Str) == "put") = false := by decide +kernel
theorem q_free_new : (("free" : Str) == "new") = false := by decide +kernel
theorem q_free_free : (("free" : Str) == "free") = true := by decide +kernel
theorem q_free_if : (("free" : Str) == "if") = false := by decide +kernel
theorem q_free_end : (("free" : Str) == "end") = false := by decide +kernel
theorem q_free_leak : (("free" : Str) == "leak") = false := by decide +kernel
theorem q_free_wrong : (("free" : Str) == "wrong") = false := by decide +kernel
theorem q_free_same : (("free" : Str) == "same") = false := by decide +kernel
theorem q_free_unlike : (("free" : Str) == "unlike") = false := by decide +kernel
theorem q_if_set : (("if" : Str) == "set") = false := by decide +kernel
theorem q_if_follow : (("if" : Str) == "follow") = false := by decide +kernel
theorem q_if_put : (("if" : Str) == "put") = false := by decide +kernel
theorem q_if_new : (("if" : Str) == "new") = false := by decide +kernel
theorem q_if_free : (("if" : Str) == "free") = false := by decide +kernel
theorem q_if_if : (("if" : Str) == "if") = true := by decide +kernel
theorem q_if_end : (("if" : Str) == "end") = false := by decide +kernel
theorem q_if_leak : (("if" : Str) == "leak") = false := by decide +kernel
theorem q_if_wrong : (("if" : Str) == "wrong") = false := by decide +kernel
theorem q_if_same : (("if" : Str) == "same") = false := by decide +kernel
theorem q_if_unlike : (("if" : Str) == "unlike") = false := by decide +kernel
theorem q_end_set : (("end" : Str) == "set") = false := by decide +kernel
theorem q_end_follow : (("end" : Str) == "follow") = false := by decide +kernel
theorem q_end_put : (("end" : Str) == "put") = false := by decide +kernel
theorem q_end_new : (("end" : Str) == "new") = false := by decide +kernel
theorem q_end_free : (("end" : Str) == "free") = false := by decide +kernel
theorem q_end_if : (("end" : Str) == "if") = false := by decide +kernel
theorem q_end_end : (("end" : Str) == "end") = true := by decide +kernel
theorem q_end_leak : (("end" : Str) == "leak") = false := by decide +kernel
theorem q_end_wrong : (("end" : Str) == "wrong") = false := by decide +kernel
theorem q_end_same : (("end" : Str) == "same") = false := by decide +kernel
theorem q_end_unlike : (("end" : Str) == "unlike") = false := by decide +kernel
theorem q_leak_set : (("leak" : Str) == "set") = false := by decide +kernel
theorem q_leak_follow : (("leak" : Str) == "follow") = false := by decide +kernel
theorem q_leak_put : (("leak" : Str) == "put") = false := by decide +kernel
theorem q_leak_new : (("leak" : Str) == "new") = false := by decide +kernel
theorem q_leak_free : (("leak" : Str) == "free") = false := by decide +kernel
theorem q_leak_if : (("leak" : Str) == "if") = false := by decide +kernel
theorem q_leak_end : (("leak" : Str) == "end") = false := by decide +kernel
theorem q_leak_leak : (("leak" : Str) == "leak") = true := by decide +kernel
theorem q_leak_wrong : (("leak" : Str) == "wrong") = false := by decide +kernel
theorem q_leak_same : (("leak" : Str) == "same") = false := by decide +kernel
theorem q_leak_unlike : (("leak" : Str) == "unlike") = false := by decide +kernel
theorem q_wrong_set : (("wrong" : Str) == "set") = false := by decide +kernel
theorem q_wrong_follow : (("wrong" : Str) == "follow") = false := by decide +kernel
theorem q_wrong_put : (("wrong" : Str) == "put") = false := by decide +kernel
theorem q_wrong_new : (("wrong" : Str) == "new") = false := by decide +kernel
theorem q_wrong_free : (("wrong" : Str) == "free") = false := by decide +kernel
theorem q_wrong_if : (("wrong" : Str) == "if") = false := by decide +kernel
theorem q_wrong_end : (("wrong" : Str) == "end") = false := by decide +kernel
theorem q_wrong_leak : (("wrong" : Str) == "leak") = false := by decide +kernel
theorem q_wrong_wrong : (("wrong" : Str) == "wrong") = true := by decide +kernel
theorem q_wrong_same : (("wrong" : Str) == "same") = false := by decide +kernel
theorem q_wrong_unlike : (("wrong" : Str) == "unlike") = false := by decide +kernel
theorem q_same_set : (("same" : Str) == "set") = false := by decide +kernel
theorem q_same_follow : (("same" : Str) == "follow") = false := by decide +kernel
theorem q_same_put : (("same" : Str) == "put") = false := by decide +kernel
theorem q_same_new : (("same" : Str) == "new") = false := by decide +kernel
theorem q_same_free : (("same" : Str) == "free") = false := by decide +kernel
theorem q_same_if : (("same" : Str) == "if") = false := by decide +kernel
theorem q_same_end : (("same" : Str) == "end") = false := by decide +kernel
theorem q_same_leak : (("same" : Str) == "leak") = false := by decide +kernel
theorem q_same_wrong : (("same" : Str) == "wrong") = false := by decide +kernel
theorem q_same_same : (("same" : Str) == "same") = true := by decide +kernel
theorem q_same_unlike : (("same" : Str) == "unlike") = false := by decide +kernel
theorem q_unlike_set : (("unlike" : Str) == "set") = false := by decide +kernel
theorem q_unlike_follow : (("unlike" : Str) == "follow") = false := by decide +kernel
theorem q_unlike_put : (("unlike" : Str) == "put") = false := by decide +kernel
theorem q_unlike_new : (("unlike" : Str) == "new") = false := by decide +kernel
theorem q_unlike_free : (("unlike" : Str) == "free") = false := by decide +kernel
theorem q_unlike_if : (("unlike" : Str) == "if") = false := by decide +kernel
theorem q_unlike_end : (("unlike" : Str) == "end") = false := by decide +kernel
theorem q_unlike_leak : (("unlike" : Str) == "leak") = false := by decide +kernel
theorem q_unlike_wrong : (("unlike" : Str) == "wrong") = false := by decide +kernel
theorem q_unlike_same : (("unlike" : Str) == "same") = false := by decide +kernel
theorem q_unlike_unlike : (("unlike" : Str) == "unlike") = true := by decide +kernel
/-! a step, told in plain words -/
def iPut (l : List (Int × Int)) (k v : Int) : List (Int × Int) := if (l.any fun p => decide (p.1 = k)) = true then l.map (fun p => if p.1 = k then (p.1, v) else p) else l ++ [(k, v)]
def iDrop (l : List (Int × Int)) (k : Int) : List (Int × Int) := l.filter fun p => decide (p.1 ≠ k)
theorem iPut_k (l : List (Int × Int)) (k v : Int) : kPut (iK l) (.inl k) (.int v) = iK (iPut l k v) := by
  have e : ((iK l).any fun p => decide (p.1 = Sum.inl k)) = l.any fun p => decide (p.1 = k) := by
    unfold iK
    rw [List.any_map]
    congr 1
    funext p
    simp [Sum.inl.injEq]
  unfold kPut iPut
  rw [e]
  by_cases h : (l.any fun p => decide (p.1 = k)) = true
  · rw [if_pos h, if_pos h]
    unfold iK
    rw [List.map_map, List.map_map]
    refine List.map_congr_left fun p _ => ?_
    by_cases z : p.1 = k <;> simp [z]
  · rw [if_neg h, if_neg h]
    simp [iK]
theorem iDrop_k (l : List (Int × Int)) (k : Int) : kDrop (iK l) (.inl k) = iK (iDrop l k) := by
  unfold kDrop iDrop iK
  rw [List.filter_map]
  congr 1
  refine List.filter_congr fun p _ => ?_
  simp [Sum.inl.injEq]
theorem iPut_keys {l : List (Int × Int)} (k v : Int) (nd : (keysI l).Nodup) : (keysI (iPut l k v)).Nodup := by
  unfold iPut
  by_cases h : (l.any fun p => decide (p.1 = k)) = true
  · rw [if_pos h]
    have e : keysI (l.map fun p => if p.1 = k then (p.1, v) else p) = keysI l := by
      unfold keysI
      rw [List.map_map]
      refine List.map_congr_left fun p _ => ?_
      by_cases z : p.1 = k <;> simp [z]
    rw [e]
    exact nd
  · rw [if_neg h]
    unfold keysI at nd ⊢
    rw [List.map_append]
    refine nd_snoc nd fun z => h ?_
    obtain ⟨p, hp, e⟩ := List.mem_map.mp z
    exact List.any_eq_true.mpr ⟨p, hp, by simpa using e⟩
theorem iPut_len (l : List (Int × Int)) (k v : Int) : (iPut l k v).length ≤ l.length + 1 := by
  unfold iPut
  split <;> simp
theorem iDrop_keys {l : List (Int × Int)} (k : Int) (nd : (keysI l).Nodup) : (keysI (iDrop l k)).Nodup := by
  unfold keysI iDrop at *
  exact nd.sublist (List.filter_sublist.map _)
theorem iDrop_len (l : List (Int × Int)) (k : Int) : (iDrop l k).length ≤ l.length := List.length_filter_le _ _
/-- the value of a name: -1 is nil -/
def plc (vs : List Int) (o : Int) : Int := (atI (vs ++ [0]) o).getD 0
theorem plc_at {vs : List Int} {o : Int} (h1 : -1 ≤ o) (h2 : o < vs.length) : atI (vs.map PyData.int ++ [.int 0]) o = some (.int (plc vs o)) := by
  have e : vs.map PyData.int ++ [PyData.int 0] = (vs ++ [0]).map PyData.int := by simp
  unfold plc
  rw [e]
  have hs : ∃ x, atI (vs ++ [0]) o = some x := by
    unfold atI ixN
    rw [List.length_append, List.length_singleton]
    by_cases h0 : 0 ≤ o
    · rw [if_pos h0, if_pos (by omega)]
      exact ⟨_, List.getElem?_eq_getElem (by simp; omega)⟩
    · rw [if_neg h0, if_pos (by omega)]
      exact ⟨_, List.getElem?_eq_getElem (by simp; omega)⟩
  obtain ⟨x, hx⟩ := hs
  rw [hx]
  unfold atI at hx ⊢
  rw [List.length_map]
  cases q : ixN (vs ++ [0]).length o with
  | none => rw [q] at hx; cases hx
  | some j =>
    rw [q] at hx
    simp only [Option.bind_some] at hx ⊢
    rw [List.getElem?_map, hx]
    rfl

local macro_rules | `(tactic| walk_at "dw") => `(tactic| simp only [q_set_set, q_set_follow, q_set_put, q_set_new, q_set_free, q_set_if, q_set_end, q_set_leak, q_set_wrong, q_set_same, q_set_unlike, q_follow_set, q_follow_follow, q_follow_put, q_follow_new, q_follow_free, q_follow_if, q_follow_end, q_follow_leak, q_follow_wrong, q_follow_same, q_follow_unlike, q_put_set, q_put_follow, q_put_put, q_put_new, q_put_free, q_put_if, q_put_end, q_put_leak, q_put_wrong, q_put_same, q_put_unlike, q_new_set, q_new_follow, q_new_put, q_new_new, q_new_free, q_new_if, q_new_end, q_new_leak, q_new_wrong, q_new_same, q_new_unlike, q_free_set, q_free_follow, q_free_put, q_free_new, q_free_free, q_free_if, q_free_end, q_free_leak, q_free_wrong, q_free_same, q_free_unlike, q_if_set, q_if_follow, q_if_put, q_if_new, q_if_free, q_if_if, q_if_end, q_if_leak, q_if_wrong, q_if_same, q_if_unlike, q_end_set, q_end_follow, q_end_put, q_end_new, q_end_free, q_end_if, q_end_end, q_end_leak, q_end_wrong, q_end_same, q_end_unlike, q_leak_set, q_leak_follow, q_leak_put, q_leak_new, q_leak_free, q_leak_if, q_leak_end, q_leak_leak, q_leak_wrong, q_leak_same, q_leak_unlike, q_wrong_set, q_wrong_follow, q_wrong_put, q_wrong_new, q_wrong_free, q_wrong_if, q_wrong_end, q_wrong_leak, q_wrong_wrong, q_wrong_same, q_wrong_unlike, q_same_set, q_same_follow, q_same_put, q_same_new, q_same_free, q_same_if, q_same_end, q_same_leak, q_same_wrong, q_same_same, q_same_unlike, q_unlike_set, q_unlike_follow, q_unlike_put, q_unlike_new, q_unlike_free, q_unlike_if, q_unlike_end, q_unlike_leak, q_unlike_wrong, q_unlike_same, q_unlike_unlike, eqv_str, Bool.not_true, Bool.not_false, if_true, if_false, Bool.false_eq_true, inD, List.any_cons, List.any_nil, Bool.or_false, Bool.or_true, Bool.true_or, Bool.false_or])

def eff (vs : List Int) (l : List (Int × Int)) (top : Int) (w : Str) (v o : Int) : Option (List Int × List (Int × Int) × Int) :=
  if (w == "set") = true then some (vs.set v.toNat (plc vs o), l, top)
  else if (w == "follow") = true then (match iGet l (plc vs o) with | some q => some (vs.set v.toNat q, l, top) | none => none)
  else if (w == "put") = true then (if (iGet l (plc vs v)).isSome = true then some (vs, iPut l (plc vs v) (plc vs o), top) else none)
  else if (w == "free") = true then (if (iGet l (plc vs v)).isSome = true then some (vs, iDrop l (plc vs v), top) else none)
  else some (vs.set v.toNat (top + 1), iPut l (top + 1) 0, top + 1)
def StepIs (n : Int) (d : D) (w : Str) (v o : Int) : Prop := 0 ≤ v ∧ v < n ∧
  ((w = "set" ∧ d = .tuple [.str "set", .int v, .int o] ∧ -1 ≤ o ∧ o < n) ∨ (w = "follow" ∧ d = .tuple [.str "follow", .int v, .int o] ∧ 0 ≤ o ∧ o < n) ∨ (w = "put" ∧ d = .tuple [.str "put", .int v, .int o] ∧ -1 ≤ o ∧ o < n) ∨
   (w = "new" ∧ d = .tuple [.str "new", .int v] ∧ o = v) ∨ (w = "free" ∧ d = .tuple [.str "free", .int v] ∧ o = v))
def stepRes : Option (List Int × List (Int × Int) × Int) → D
  | none => .tuple [.str "wrong"]
  | some (vs, l, top) => if wholeB vs l = true then .tuple [.str "end", stD vs (sortP l), .int top] else .tuple [.str "leak"]
def c_step_in : Ct := fun rs Q _ => ∃ (vs : List Int) (cs : List (Int × Int)) (d : D) (w : Str) (v o top : Int), rs = [.s (stD vs cs), .s d, .s (.int top)] ∧ (keysI cs).Nodup ∧ cs.length ≤ 200 ∧ vs.length ≤ 4 ∧ StepIs vs.length d w v o ∧ Q (.s (stepRes (eff vs cs top w v o)))
theorem sh_words : ∀ w ∈ (["set", "follow", "put", "new", "free", "if", "end", "leak", "wrong", "same", "unlike"] : List Str), Sh (.str w) := by unfold Sh; decide +kernel
theorem ixN_at {vs : List Int} {v : Int} (v0 : 0 ≤ v) (v1 : v < vs.length) : ixN (vs.map PyData.int ++ [PyData.int 0]).length v = some v.toNat := by
  unfold ixN
  rw [if_pos v0, if_pos (by simp; omega)]
theorem set_at {vs : List Int} {v x : Int} (v0 : 0 ≤ v) (v1 : v < vs.length) : (vs.map PyData.int ++ [PyData.int 0]).set v.toNat (.int x) = (vs.set v.toNat x).map PyData.int ++ [.int 0] := by
  rw [List.set_append_left _ _ (by simp; omega), List.map_set]
theorem cut_last (l : List D) (x : D) : DL.cutD (l ++ [x]) none (some (-1)) = l := by
  unfold DL.cutD
  have e : HT.sIx (l ++ [x]).length (l ++ [x]).length (some (-1)) = l.length := by
    show (if (-1 : Int) < 0 then ((-1 : Int) + (((l ++ [x]).length : Nat) : Int)).toNat else min (-1 : Int).toNat (l ++ [x]).length) = l.length
    rw [if_pos (by decide), List.length_append, List.length_singleton]
    omega
  have e0 : HT.sIx (l ++ [x]).length 0 none = 0 := rfl
  rw [e, e0, List.drop_zero, Nat.sub_zero, List.take_left']
  rfl
/-- the end of a step: state_from, is_whole_of -/
theorem step_end {K : Frag} {cl : Ad} {a b c d e f : Option R} {vs : List Int} {l : List (Int × Int)} {top : Int} {Q : R → Prop} {E : DEnds} (nd : (keysI l).Nodup) (few : l.length ≤ 1000) (v4 : vs.length ≤ 4) (hE : E.rt = Q) (q : Q (.s (stepRes (some (vs, l, top))))) :
    w_step_in_t4 K cl c_state_from c_is_whole_of [a, b, some (.s (.int top)), some (.l true (vs.map PyData.int ++ [.int 0])), some (.k true (iK l)), d, e, f, c] E := by
  unfold w_step_in_t4
  walk_at "dm"
  rw [cut_last]
  refine ⟨_, vs, l, _, rfl, rfl, rfl, few, ?_⟩
  walk_at "dm"
  unfold w_step_in_t3
  walk_at "dm"
  have nds : (keysI (sortP l)).Nodup := ((sortP_perm l).map _).symm.nodup nd
  refine ⟨vs, sortP l, rfl, nds, by rw [(sortP_perm l).length_eq]; exact few, ?_⟩
  walk_at "dm"
  rw [whole_sort nd, hE]
  exact ite_both (fun h => by simp only [stepRes, h, if_true] at q; exact q) (fun h => by simp only [stepRes, h, Bool.false_eq_true, if_false] at q; exact q)
theorem d_step_in {K : Frag} {cl : Ad} : ∀ rs Q E, c_step_in rs Q E → w_step_in K cl c_state_from c_is_whole_of (rho N_step_in.length rs) { nx := fun _ => Q (.s .none), rt := Q, er := fun cls _ => E cls } := by
  rintro rs Q E ⟨vs, cs, d, w, v, o, top, rfl, nd, few, v4, ⟨v0, v1, h⟩, q⟩
  rcases h with ⟨rfl, rfl, o0, o1⟩ | ⟨rfl, rfl, o0, o1⟩ | ⟨rfl, rfl, o0, o1⟩ | ⟨rfl, rfl, rfl⟩ | ⟨rfl, rfl, rfl⟩
  · unfold w_step_in stD
    walk_at "dm"
    refine ⟨by simp; omega, _, pairsK_cs cs, ?_⟩
    rw [dict_cs nd]
    unfold w_step_in_t7
    walk_at "dm"
    have am : atI [PyData.str "set", PyData.int v, PyData.int o] (-1) = some (.int o) := rfl
    rw [am]
    try walk_at "dm"
    unfold w_step_in_t6
    walk_at "dm"
    walk_at "dw"
    unfold w_step_in_t5
    walk_at "dm"
    try walk_at "dw"
    refine ⟨sh_words _ (by simp), sh_words _ (by simp), _, plc_at o0 o1, _, ixN_at v0 v1, ?_⟩
    rw [set_at v0 v1]
    exact step_end nd (by omega) (by rw [List.length_set]; exact v4) rfl q
  · unfold w_step_in stD
    walk_at "dm"
    refine ⟨by simp; omega, _, pairsK_cs cs, ?_⟩
    rw [dict_cs nd]
    unfold w_step_in_t7
    walk_at "dm"
    have am : atI [PyData.str "follow", PyData.int v, PyData.int o] (-1) = some (.int o) := rfl
    rw [am]
    walk_at "dm"
    unfold w_step_in_t6
    walk_at "dm"
    walk_at "dw"
    refine ⟨sh_words _ (by simp), sh_words _ (by simp), _, plc_at (by omega) o1, .inl (plc vs o), rfl, ?_⟩
    rw [iGet_k]
    have q' : Q (.s (stepRes (match iGet cs (plc vs o) with | some q => some (vs.set v.toNat q, cs, top) | none => none))) := q
    cases e : iGet cs (plc vs o) with
    | none =>
      rw [e] at q'
      rw [if_pos (show (!(Option.map PyData.int (none : Option Int)).isSome) = true from rfl)]
      exact q'
    | some x =>
      rw [e] at q'
      rw [if_neg (show ¬ (!(Option.map PyData.int (some x)).isSome) = true from by simp)]
      unfold w_step_in_t5
      walk_at "dm"
      try walk_at "dw"
      refine ⟨sh_words _ (by simp), sh_words _ (by simp), sh_words _ (by simp), sh_words _ (by simp), _, plc_at (by omega) o1, .inl (plc vs o), rfl, .int x, by rw [iGet_k, e]; rfl, _, ixN_at v0 v1, ?_⟩
      rw [set_at v0 v1]
      exact step_end nd (by omega) (by rw [List.length_set]; exact v4) rfl q'
  · unfold w_step_in stD
    walk_at "dm"
    refine ⟨by simp; omega, _, pairsK_cs cs, ?_⟩
    rw [dict_cs nd]
    unfold w_step_in_t7
    walk_at "dm"
    have am : atI [PyData.str "put", PyData.int v, PyData.int o] (-1) = some (.int o) := rfl
    rw [am]
    walk_at "dm"
    unfold w_step_in_t6
    walk_at "dm"
    walk_at "dw"
    refine ⟨sh_words _ (by simp), sh_words _ (by simp), _, plc_at (by omega) v1, .inl (plc vs v), rfl, ?_⟩
    rw [iGet_k]
    have q' : Q (.s (stepRes (if (iGet cs (plc vs v)).isSome = true then some (vs, iPut cs (plc vs v) (plc vs o), top) else none))) := q
    cases e : iGet cs (plc vs v) with
    | none =>
      rw [e] at q'
      rw [if_pos (show (!(Option.map PyData.int (none : Option Int)).isSome) = true from rfl)]
      exact q'
    | some x =>
      rw [e] at q'
      rw [if_neg (show ¬ (!(Option.map PyData.int (some x)).isSome) = true from by simp)]
      unfold w_step_in_t5
      walk_at "dm"
      try walk_at "dw"
      refine ⟨sh_words _ (by simp), sh_words _ (by simp), sh_words _ (by simp), sh_words _ (by simp), sh_words _ (by simp), sh_words _ (by simp), _, plc_at o0 o1, _, plc_at (by omega) v1, .inl (plc vs v), rfl, by rw [iK_len]; omega, ?_⟩
      rw [iPut_k]
      exact step_end (iPut_keys _ _ nd) (by have := iPut_len cs (plc vs v) (plc vs o); omega) v4 rfl q'
  · unfold w_step_in stD
    walk_at "dm"
    refine ⟨by simp; omega, _, pairsK_cs cs, ?_⟩
    rw [dict_cs nd]
    unfold w_step_in_t7
    walk_at "dm"
    have am : atI [PyData.str "new", PyData.int o] (-1) = some (.int o) := rfl
    rw [am]
    walk_at "dm"
    unfold w_step_in_t6
    walk_at "dm"
    walk_at "dw"
    unfold w_step_in_t5
    walk_at "dm"
    try walk_at "dw"
    refine ⟨sh_words _ (by simp), sh_words _ (by simp), sh_words _ (by simp), sh_words _ (by simp), sh_words _ (by simp), sh_words _ (by simp), sh_words _ (by simp), sh_words _ (by simp), ?_⟩
    unfold w_step_in_t2
    walk_at "dm"
    refine ⟨by rw [iK_len]; omega, ?_⟩
    unfold w_step_in_t1
    walk_at "dm"
    refine ⟨_, ixN_at v0 v1, ?_⟩
    rw [set_at v0 v1, iPut_k]
    exact step_end (iPut_keys _ _ nd) (by have := iPut_len cs (top + 1) 0; omega) (by rw [List.length_set]; exact v4) rfl q
  · unfold w_step_in stD
    walk_at "dm"
    refine ⟨by simp; omega, _, pairsK_cs cs, ?_⟩
    rw [dict_cs nd]
    unfold w_step_in_t7
    walk_at "dm"
    have am : atI [PyData.str "free", PyData.int o] (-1) = some (.int o) := rfl
    rw [am]
    walk_at "dm"
    unfold w_step_in_t6
    walk_at "dm"
    walk_at "dw"
    refine ⟨sh_words _ (by simp), sh_words _ (by simp), _, plc_at (by omega) v1, .inl (plc vs o), rfl, ?_⟩
    rw [iGet_k]
    have q' : Q (.s (stepRes (if (iGet cs (plc vs o)).isSome = true then some (vs, iDrop cs (plc vs o), top) else none))) := q
    cases e : iGet cs (plc vs o) with
    | none =>
      rw [e] at q'
      rw [if_pos (show (!(Option.map PyData.int (none : Option Int)).isSome) = true from rfl)]
      exact q'
    | some x =>
      rw [e] at q'
      rw [if_neg (show ¬ (!(Option.map PyData.int (some x)).isSome) = true from by simp)]
      unfold w_step_in_t5
      walk_at "dm"
      try walk_at "dw"
      refine ⟨sh_words _ (by simp), sh_words _ (by simp), sh_words _ (by simp), sh_words _ (by simp), sh_words _ (by simp), sh_words _ (by simp), sh_words _ (by simp), sh_words _ (by simp), _, rfl, _, plc_at (by omega) v1, .inl (plc vs o), rfl, by rw [iGet_k, e]; rfl, ?_⟩
      rw [iDrop_k]
      exact step_end (iDrop_keys _ nd) (by have := iDrop_len cs (plc vs o); omega) v4 rfl q'

def dictI (l : List (Int × Int)) : D := .dict (kvD (iK l))
def doRes (vs : List Int) (l : List (Int × Int)) (top : Int) : Option (List Int × List (Int × Int) × Int) → D
  | none => .tuple [.str "wrong", .tuple (vs.map .int), dictI l, .int top]
  | some (vs', l', t') => .tuple [if wholeB vs' l' = true then .str "end" else .str "leak", .tuple (vs'.map .int), dictI l', .int t']
def c_law_do : Ct := fun rs Q _ => ∃ (vs : List Int) (l : List (Int × Int)) (a : R) (d : D) (w : Str) (v o top : Int), rs = [.s (.tuple (vs.map .int)), a, .s d, .s (.int top)] ∧ peek a = a ∧ a.kv = some (iK l) ∧ (keysI l).Nodup ∧ l.length ≤ 200 ∧ vs.length ≤ 4 ∧ StepIs vs.length d w v o ∧ Q (.s (doRes vs l top (eff vs l top w v o)))
theorem do_end {K : Frag} {cl : Ad} {a c d e f : Option R} {vs : List Int} {l : List (Int × Int)} {top : Int} {vs0 : List Int} {l0 : List (Int × Int)} {t0 : Int} {Q : R → Prop} {E : DEnds} (nd : (keysI l).Nodup) (few : l.length ≤ 1000) (v4 : vs.length ≤ 4) (hE : E.rt = Q) (q : Q (.s (doRes vs0 l0 t0 (some (vs, l, top))))) :
    w_law_do_t4 K cl c_law_reached [a, some (.k true (iK l)), c, some (.s (.int top)), some (.l true (vs.map PyData.int ++ [.int 0])), d, e, f] E := by
  unfold w_law_do_t4
  walk_at "dm"
  rw [cut_last]
  unfold w_law_do_t3
  walk_at "dm"
  refine ⟨_, iK l, iGet l, keysI l, vs, rfl, rfl, kv_d _, tells_iK l, by unfold keysI; rw [List.length_map]; exact few, ?_⟩
  walk_at "dm"
  have e : (((reach (iGet l) ((keysI l).length + 1) vs).map PyData.int).length : Int) = ((iK l).length : Int) ↔ wholeB vs l = true := by
    rw [List.length_map, keysI, List.length_map, iK_len, wholeB, decide_eq_true_iff]
    exact Int.ofNat_inj
  rw [hE]
  by_cases h : wholeB vs l = true
  · rw [if_pos (beq_iff_eq.mpr (e.mpr h))]
    simp only [doRes, h, if_true] at q
    exact q
  · rw [if_neg (fun z => h (e.mp (beq_iff_eq.mp z)))]
    simp only [doRes, h, if_false] at q
    exact q

theorem shw_set : Sh (.str "set") = True := eq_true (sh_words _ (by simp))
theorem shw_follow : Sh (.str "follow") = True := eq_true (sh_words _ (by simp))
theorem shw_put : Sh (.str "put") = True := eq_true (sh_words _ (by simp))
theorem shw_new : Sh (.str "new") = True := eq_true (sh_words _ (by simp))
theorem shw_free : Sh (.str "free") = True := eq_true (sh_words _ (by simp))
theorem shw_if : Sh (.str "if") = True := eq_true (sh_words _ (by simp))
theorem shw_end : Sh (.str "end") = True := eq_true (sh_words _ (by simp))
theorem shw_leak : Sh (.str "leak") = True := eq_true (sh_words _ (by simp))
theorem shw_wrong : Sh (.str "wrong") = True := eq_true (sh_words _ (by simp))
theorem shw_same : Sh (.str "same") = True := eq_true (sh_words _ (by simp))
theorem shw_unlike : Sh (.str "unlike") = True := eq_true (sh_words _ (by simp))
local macro_rules | `(tactic| walk_at "dx") => `(tactic| simp only [shw_set, shw_follow, shw_put, shw_new, shw_free, shw_if, shw_end, shw_leak, shw_wrong, shw_same, shw_unlike, true_and, and_true, exists_eq_left', Option.some.injEq])
theorem d_law_do {K : Frag} {cl : Ad} : ∀ rs Q E, c_law_do rs Q E → w_law_do K cl c_law_reached (rho N_law_do.length rs) { nx := fun _ => Q (.s .none), rt := Q, er := fun cls _ => E cls } := by
  rintro rs Q E ⟨vs, cs, a, d, w, v, o, top, rfl, pa, ha, nd, few, v4, ⟨v0, v1, h⟩, q⟩
  rcases h with ⟨rfl, rfl, o0, o1⟩ | ⟨rfl, rfl, o0, o1⟩ | ⟨rfl, rfl, o0, o1⟩ | ⟨rfl, rfl, rfl⟩ | ⟨rfl, rfl, rfl⟩
  · unfold w_law_do
    walk_at "dm"
    refine ⟨by simp; omega, .inl ⟨iK cs, by rw [pa]; exact ha, ?_⟩⟩
    unfold w_law_do_t7
    walk_at "dm"
    have am : atI [PyData.str "set", PyData.int v, PyData.int o] (-1) = some (.int o) := rfl
    rw [am]
    try walk_at "dm"
    unfold w_law_do_t6
    walk_at "dm"
    try walk_at "dw"
    try walk_at "dx"
    unfold w_law_do_t5
    walk_at "dm"
    try walk_at "dw"
    try walk_at "dx"
    refine ⟨_, plc_at o0 o1, _, ixN_at v0 v1, ?_⟩
    rw [set_at v0 v1]
    exact do_end nd (by omega) (by rw [List.length_set]; exact v4) rfl q
  · unfold w_law_do
    walk_at "dm"
    refine ⟨by simp; omega, .inl ⟨iK cs, by rw [pa]; exact ha, ?_⟩⟩
    unfold w_law_do_t7
    walk_at "dm"
    have am : atI [PyData.str "follow", PyData.int v, PyData.int o] (-1) = some (.int o) := rfl
    rw [am]
    walk_at "dm"
    unfold w_law_do_t6
    walk_at "dm"
    try walk_at "dw"
    try walk_at "dx"
    refine ⟨_, plc_at (by omega) o1, .inl (plc vs o), rfl, ?_⟩
    rw [iGet_k]
    have q' : Q (.s (doRes vs cs top (match iGet cs (plc vs o) with | some q => some (vs.set v.toNat q, cs, top) | none => none))) := q
    cases e : iGet cs (plc vs o) with
    | none =>
      rw [e] at q'
      rw [if_pos (show (!(Option.map PyData.int (none : Option Int)).isSome) = true from rfl)]
      exact q'
    | some x =>
      rw [e] at q'
      rw [if_neg (show ¬ (!(Option.map PyData.int (some x)).isSome) = true from by simp)]
      unfold w_law_do_t5
      walk_at "dm"
      try walk_at "dw"
      try walk_at "dx"
      refine ⟨_, plc_at (by omega) o1, .inl (plc vs o), rfl, .int x, by rw [iGet_k, e]; rfl, _, ixN_at v0 v1, ?_⟩
      rw [set_at v0 v1]
      exact do_end nd (by omega) (by rw [List.length_set]; exact v4) rfl q'
  · unfold w_law_do
    walk_at "dm"
    refine ⟨by simp; omega, .inl ⟨iK cs, by rw [pa]; exact ha, ?_⟩⟩
    unfold w_law_do_t7
    walk_at "dm"
    have am : atI [PyData.str "put", PyData.int v, PyData.int o] (-1) = some (.int o) := rfl
    rw [am]
    walk_at "dm"
    unfold w_law_do_t6
    walk_at "dm"
    try walk_at "dw"
    try walk_at "dx"
    refine ⟨_, plc_at (by omega) v1, .inl (plc vs v), rfl, ?_⟩
    rw [iGet_k]
    have q' : Q (.s (doRes vs cs top (if (iGet cs (plc vs v)).isSome = true then some (vs, iPut cs (plc vs v) (plc vs o), top) else none))) := q
    cases e : iGet cs (plc vs v) with
    | none =>
      rw [e] at q'
      rw [if_pos (show (!(Option.map PyData.int (none : Option Int)).isSome) = true from rfl)]
      exact q'
    | some x =>
      rw [e] at q'
      rw [if_neg (show ¬ (!(Option.map PyData.int (some x)).isSome) = true from by simp)]
      unfold w_law_do_t5
      walk_at "dm"
      try walk_at "dw"
      try walk_at "dx"
      refine ⟨_, plc_at o0 o1, _, plc_at (by omega) v1, .inl (plc vs v), rfl, by rw [iK_len]; omega, ?_⟩
      rw [iPut_k]
      exact do_end (iPut_keys _ _ nd) (by have := iPut_len cs (plc vs v) (plc vs o); omega) v4 rfl q'
  · unfold w_law_do
    walk_at "dm"
    refine ⟨by simp; omega, .inl ⟨iK cs, by rw [pa]; exact ha, ?_⟩⟩
    unfold w_law_do_t7
    walk_at "dm"
    have am : atI [PyData.str "new", PyData.int o] (-1) = some (.int o) := rfl
    rw [am]
    walk_at "dm"
    unfold w_law_do_t6
    walk_at "dm"
    try walk_at "dw"
    try walk_at "dx"
    unfold w_law_do_t5
    walk_at "dm"
    try walk_at "dw"
    try walk_at "dx"
    unfold w_law_do_t2
    walk_at "dm"
    refine ⟨by rw [iK_len]; omega, ?_⟩
    unfold w_law_do_t1
    walk_at "dm"
    refine ⟨_, ixN_at v0 v1, ?_⟩
    rw [set_at v0 v1, iPut_k]
    exact do_end (iPut_keys _ _ nd) (by have := iPut_len cs (top + 1) 0; omega) (by rw [List.length_set]; exact v4) rfl q
  · unfold w_law_do
    walk_at "dm"
    refine ⟨by simp; omega, .inl ⟨iK cs, by rw [pa]; exact ha, ?_⟩⟩
    unfold w_law_do_t7
    walk_at "dm"
    have am : atI [PyData.str "free", PyData.int o] (-1) = some (.int o) := rfl
    rw [am]
    walk_at "dm"
    unfold w_law_do_t6
    walk_at "dm"
    try walk_at "dw"
    try walk_at "dx"
    refine ⟨_, plc_at (by omega) v1, .inl (plc vs o), rfl, ?_⟩
    rw [iGet_k]
    have q' : Q (.s (doRes vs cs top (if (iGet cs (plc vs o)).isSome = true then some (vs, iDrop cs (plc vs o), top) else none))) := q
    cases e : iGet cs (plc vs o) with
    | none =>
      rw [e] at q'
      rw [if_pos (show (!(Option.map PyData.int (none : Option Int)).isSome) = true from rfl)]
      exact q'
    | some x =>
      rw [e] at q'
      rw [if_neg (show ¬ (!(Option.map PyData.int (some x)).isSome) = true from by simp)]
      unfold w_law_do_t5
      walk_at "dm"
      try walk_at "dw"
      try walk_at "dx"
      refine ⟨_, rfl, _, plc_at (by omega) v1, .inl (plc vs o), rfl, by rw [iGet_k, e]; rfl, ?_⟩
      rw [iDrop_k]
      exact do_end (iDrop_keys _ nd) (by have := iDrop_len cs (plc vs o); omega) v4 rfl q'

local macro_rules | `(tactic| walk_at "dx") => `(tactic| simp only [shw_set, shw_follow, shw_put, shw_new, shw_free, shw_if, shw_end, shw_leak, shw_wrong, shw_same, shw_unlike, true_and, and_true, exists_eq_left', Option.some.injEq])
local macro_rules | `(tactic| walk_at "dz") => `(tactic| ((try walk_at "dy") <;> (try walk_at "dw") <;> (try walk_at "dx") <;> (try walk_at "dw")))

theorem row_cases {d : D} {a b : Nat} (h : isRow d a b = true) : ∃ l, d = .tuple l ∧ a ≤ l.length ∧ l.length ≤ b := by
  cases d with
  | tuple l =>
    simp only [isRow, Bool.and_eq_true, decide_eq_true_eq] at h
    exact ⟨l, rfl, by omega, by omega⟩
  | _ => simp [isRow] at h
theorem word_cases {d : D} {ws : List Str} (h : isWord d (ws.map PyData.str) = true) : ∃ x, d = .str x ∧ x ∈ ws := by
  cases d with
  | str x =>
    refine ⟨x, rfl, ?_⟩
    simp only [isWord, List.any_map, List.any_eq_true, Function.comp, eqv_str, beq_iff_eq] at h
    obtain ⟨y, h1, h2⟩ := h
    exact h2 ▸ h1
  | _ => simp [isWord] at h
abbrev W5 : List D := [.str "set", .str "follow", .str "put", .str "new", .str "free"]
abbrev W2 : List D := [.str "new", .str "free"]
def isStep (n : Int) : D → Bool
  | .tuple [w, v] => isWord w W5 && within v 0 (n - 1) && isWord w W2
  | .tuple [w, v, o] => isWord w W5 && within v 0 (n - 1) && !isWord w W2 && within o (if PyData.eqv w (.str "follow") = true then 0 else -1) (n - 1)
  | _ => false
def c_is_step_of : Ct := fun rs Q _ => ∃ n d, rs = [.s (.int n), .s d] ∧ Q (.s (.bool (isStep n d)))
theorem isStep_row {n : Int} {d : D} (h : isRow d 2 3 = false) : isStep n d = false := by
  unfold isStep
  split
  · simp [isRow] at h
  · simp [isRow] at h
  · rfl
theorem w5_sh {w : D} (h : isWord w W5 = true) : flatD w = true ∧ Sh w ∧ ∀ ds, inD w ds = isWord w ds := by
  obtain ⟨x, rfl, hx⟩ := word_cases (ws := ["set", "follow", "put", "new", "free"]) h
  refine ⟨rfl, ?_, fun ds => rfl⟩
  simp only [List.mem_cons, List.not_mem_nil, or_false] at hx
  rcases hx with rfl | rfl | rfl | rfl | rfl <;> exact sh_of (by decide +kernel)
theorem sh_follow : Sh (.str "follow") := sh_of (by decide +kernel)
theorem d_is_step_of {K : Frag} {cl : Ad} : ∀ rs Q E, c_is_step_of rs Q E → w_is_step_of K cl c_within c_is_row c_is_word (rho N_is_step_of.length rs) { nx := fun _ => Q (.s .none), rt := Q, er := fun cls _ => E cls } := by
  rintro rs Q E ⟨n, d, rfl, q⟩
  unfold w_is_step_of c_within c_is_word c_is_row
  try walk_at "dl"
  cases hr : isRow d 2 3 with
  | false =>
    rw [isStep_row hr] at q
    simpa using q
  | true =>
    obtain ⟨l, rfl, h1, h2⟩ := row_cases (a := 2) (b := 3) hr
    try walk_at "dl"
    match l, h1, h2 with
    | [w, v], _, _ =>
      simp only [isStep] at q
      try walk_at "dl"
      cases hw : isWord w W5 with
      | false => simpa [hw] using q
      | true =>
        obtain ⟨f1, f2, f3⟩ := w5_sh hw
        simp only [hw, f1, f3, Bool.true_and] at q ⊢
        cases hv : within v 0 (n - 1) with
        | false => simpa [hv] using q
        | true =>
          cases h2 : isWord w W2 with
          | true => simpa [hv, h2] using q
          | false => simpa [hv, h2] using q
    | [w, v, o], _, _ =>
      simp only [isStep] at q
      try walk_at "dl"
      cases hw : isWord w W5 with
      | false => simpa [hw] using q
      | true =>
        obtain ⟨f1, f2, f3⟩ := w5_sh hw
        simp only [hw, f1, f2, f3, Bool.true_and, sh_follow] at q ⊢
        cases hv : within v 0 (n - 1) with
        | false => simpa [hv] using q
        | true =>
          cases h2 : isWord w W2 with
          | true => simpa [hv, h2] using q
          | false => cases h3 : PyData.eqv w (.str "follow") <;> simpa [hv, h2, h3] using q
def isCond (n : Int) : D → Bool
  | .tuple [w, a, b] => isWord w [.str "same", .str "unlike"] && within a (-1) (n - 1) && within b (-1) (n - 1)
  | _ => false
def c_is_condition_of : Ct := fun rs Q _ => ∃ n d, rs = [.s (.int n), .s d] ∧ Q (.s (.bool (isCond n d)))
theorem isCond_row {n : Int} {d : D} (h : isRow d 3 3 = false) : isCond n d = false := by
  unfold isCond
  split
  · simp [isRow] at h
  · rfl
theorem d_is_condition_of {K : Frag} {cl : Ad} : ∀ rs Q E, c_is_condition_of rs Q E → w_is_condition_of K cl c_within c_is_row c_is_word (rho N_is_condition_of.length rs) { nx := fun _ => Q (.s .none), rt := Q, er := fun cls _ => E cls } := by
  rintro rs Q E ⟨n, d, rfl, q⟩
  unfold w_is_condition_of c_within c_is_word c_is_row
  try walk_at "dl"
  cases hr : isRow d 3 3 with
  | false =>
    rw [isCond_row hr] at q
    simpa using q
  | true =>
    obtain ⟨l, rfl, h1, h2⟩ := row_cases (a := 3) (b := 3) hr
    match l, h1, h2 with
    | [w, a, b], _, _ =>
      simp only [isCond] at q
      try walk_at "dl"
      cases hw : isWord w [.str "same", .str "unlike"] with
      | false => simpa [hw] using q
      | true =>
        cases hv : within a (-1) (n - 1) <;> simpa [hw, hv] using q

def CondIs (n : Int) (d : D) (w : Str) (i j : Int) : Prop := (w = "same" ∨ w = "unlike") ∧ d = .tuple [.str w, .int i, .int j] ∧ -1 ≤ i ∧ i < n ∧ -1 ≤ j ∧ j < n
def condV (vs : List Int) (w : Str) (i j : Int) : D := .bool ((plc vs i == plc vs j) == (w == "same"))
theorem cond_end {vs : List Int} {w : Str} {i j : Int} (hw : w = "same" ∨ w = "unlike") : Sh (.str w) = True := by
  rcases hw with rfl | rfl
  · exact shw_same
  · exact shw_unlike
def c_condition_in : Ct := fun rs Q _ => ∃ (vs : List Int) (cs : List (Int × Int)) (d : D) (w : Str) (i j : Int), rs = [.s d, .s (stD vs cs)] ∧ vs.length ≤ 1000 ∧ CondIs vs.length d w i j ∧ Q (.s (condV vs w i j))
theorem d_condition_in {K : Frag} {cl : Ad} : ∀ rs Q E, c_condition_in rs Q E → w_condition_in K cl (rho N_condition_in.length rs) { nx := fun _ => Q (.s .none), rt := Q, er := fun cls _ => E cls } := by
  rintro rs Q E ⟨vs, cs, d, w, i, j, rfl, hl, ⟨hw, rfl, i0, i1, j0, j1⟩, q⟩
  unfold w_condition_in stD
  walk_at "dy"
  simp only [plc_at i0 i1, plc_at j0 j1, Option.some.injEq, exists_eq_left', sh_int, eqv_int, cond_end (vs := vs) (i := i) (j := j) hw, shw_same, true_and]
  exact ⟨by simp; omega, q⟩
def c_law_told_condition : Ct := fun rs Q _ => ∃ (vs : List Int) (d : D) (w : Str) (i j : Int), rs = [.s (.tuple (vs.map .int)), .s d] ∧ vs.length ≤ 1000 ∧ CondIs vs.length d w i j ∧ Q (.s (condV vs w i j))
theorem d_law_told_condition {K : Frag} {cl : Ad} : ∀ rs Q E, c_law_told_condition rs Q E → w_law_told_condition K cl (rho N_law_told_condition.length rs) { nx := fun _ => Q (.s .none), rt := Q, er := fun cls _ => E cls } := by
  rintro rs Q E ⟨vs, d, w, i, j, rfl, hl, ⟨hw, rfl, i0, i1, j0, j1⟩, q⟩
  unfold w_law_told_condition
  walk_at "dy"
  simp only [plc_at i0 i1, plc_at j0 j1, Option.some.injEq, exists_eq_left', sh_int, eqv_int, cond_end (vs := vs) (i := i) (j := j) hw, shw_same, true_and]
  exact ⟨by simp; omega, q⟩
def outD : Option (List Int × List (Int × Int) × Int) → D
  | none => .tuple [.str "wrong", .int 0]
  | some (vs, l, _) => if wholeB vs l = true then .tuple [.str "end", stD vs (sortP l)] else .tuple [.str "leak", .int 0]

def c_law_step : Ct := fun rs Q _ => ∃ m : Int, rs = [.g, .s (.int m)] ∧ 1 ≤ m ∧ m ≤ 4 ∧ ∀ d, isStep m d = true → Q (.s d)
theorem d_law_step {K : Frag} {cl : Ad} : ∀ rs Q E, c_law_step rs Q E → w_law_step K cl c_pick (rho N_law_step.length rs) { nx := fun _ => Q (.s .none), rt := Q, er := fun cls _ => E cls } := by
  rintro rs Q E ⟨m, rfl, h1, h2, q⟩
  unfold w_law_step c_pick
  walk_at "dy"
  refine ⟨by decide, by decide, fun r r0 r1 => ?_⟩
  have hw : ∃ w, atI [PyData.str "set", .str "follow", .str "put", .str "new", .str "free", .str "follow", .str "put", .str "new"] r = some w ∧ isWord w W5 = true := by
    have : r = 0 ∨ r = 1 ∨ r = 2 ∨ r = 3 ∨ r = 4 ∨ r = 5 ∨ r = 6 ∨ r = 7 := by omega
    rcases this with rfl | rfl | rfl | rfl | rfl | rfl | rfl | rfl <;> exact ⟨_, rfl, by decide +kernel⟩
  obtain ⟨w, hw1, hw⟩ := hw
  obtain ⟨f1, f2, f3⟩ := w5_sh hw
  refine ⟨w, hw1, by omega, by omega, fun f g0 g1 => ?_⟩
  try walk_at "dy"
  simp only [f1, f2, f3, sh_follow, true_and]
  have hf : within (.int f) 0 (m - 1) = true := by simp [within]; omega
  cases h2 : isWord w W2 with
  | true =>
    refine (if_pos rfl).mpr (q _ ?_)
    simp [isStep, hw, h2, hf]
  | false =>
    refine (if_neg Bool.false_ne_true).mpr ?_
    refine ite_both (fun hff => ⟨by omega, by omega, fun r r0 r1 => q _ ?_⟩) (fun hff => ⟨by omega, by omega, fun r r0 r1 => q _ ?_⟩)
    · simp [isStep, hw, h2, hf, hff, within]; omega
    · simp [isStep, hw, h2, hf, hff, within]; omega
def c_law_condition : Ct := fun rs Q _ => ∃ m : Int, rs = [.g, .s (.int m)] ∧ 1 ≤ m ∧ m ≤ 4 ∧ ∀ w a b, isWord w [.str "same", .str "unlike"] = true → -1 ≤ a → a < m → -1 ≤ b → b < m → Q (.s (.tuple [w, .int a, .int b]))
theorem d_law_condition {K : Frag} {cl : Ad} : ∀ rs Q E, c_law_condition rs Q E → w_law_condition K cl c_pick (rho N_law_condition.length rs) { nx := fun _ => Q (.s .none), rt := Q, er := fun cls _ => E cls } := by
  rintro rs Q E ⟨m, rfl, h1, h2, q⟩
  unfold w_law_condition c_pick
  walk_at "dy"
  refine ⟨by decide, by decide, fun r r0 r1 => ?_⟩
  have hw : ∃ w, atI [PyData.str "same", .str "unlike"] r = some w ∧ isWord w [.str "same", .str "unlike"] = true := by
    have : r = 0 ∨ r = 1 := by omega
    rcases this with rfl | rfl <;> exact ⟨_, rfl, by decide +kernel⟩
  obtain ⟨w, hw1, hw⟩ := hw
  refine ⟨w, hw1, by omega, by omega, fun a a0 a1 => ⟨by omega, by omega, fun b b0 b1 => ?_⟩⟩
  try walk_at "dy"
  exact q w _ _ hw (by omega) (by omega) (by omega) (by omega)
theorem cond_ok {m : Int} {w : D} {a b : Int} (hw : isWord w [.str "same", .str "unlike"] = true) (h1 : -1 ≤ a) (h2 : a < m) (h3 : -1 ≤ b) (h4 : b < m) : isCond m (.tuple [w, .int a, .int b]) = true := by
  simp [isCond, hw, within]; omega
theorem ow {w : Str} {x o : Int} (h : (if PyData.eqv (.str w) (.str "follow") = true then (0 : Int) else -1) ≤ o) (e : (w == "follow") = decide (x = 0) ∧ (x = 0 ∨ x = -1)) : x ≤ o := by
  rw [eqv_str] at h
  rcases e with ⟨e1, rfl | rfl⟩
  · rw [e1] at h; simpa using h
  · rw [e1] at h; simpa using h
theorem isStep_is {n : Int} {d : D} (h : isStep n d = true) : ∃ w v o, StepIs n d w v o := by
  unfold isStep at h
  split at h
  · simp only [Bool.and_eq_true] at h
    obtain ⟨⟨h1, h2⟩, h3⟩ := h
    obtain ⟨v, rfl, v0, v1⟩ := within_is h2
    obtain ⟨x, rfl, hx⟩ := word_cases (ws := ["new", "free"]) h3
    simp only [List.mem_cons, List.not_mem_nil, or_false] at hx
    rcases hx with rfl | rfl
    · exact ⟨_, v, v, v0, by omega, .inr (.inr (.inr (.inl ⟨rfl, rfl, rfl⟩)))⟩
    · exact ⟨_, v, v, v0, by omega, .inr (.inr (.inr (.inr ⟨rfl, rfl, rfl⟩)))⟩
  · simp only [Bool.and_eq_true, Bool.not_eq_true'] at h
    obtain ⟨⟨⟨h1, h2⟩, h3⟩, h4⟩ := h
    obtain ⟨v, rfl, v0, v1⟩ := within_is h2
    obtain ⟨x, rfl, hx⟩ := word_cases (ws := ["set", "follow", "put", "new", "free"]) h1
    obtain ⟨o, rfl, o0, o1⟩ := within_is h4
    simp only [List.mem_cons, List.not_mem_nil, or_false] at hx
    rcases hx with rfl | rfl | rfl | rfl | rfl
    · exact ⟨_, v, o, v0, by omega, .inl ⟨rfl, rfl, ow o0 (by decide), by omega⟩⟩
    · exact ⟨_, v, o, v0, by omega, .inr (.inl ⟨rfl, rfl, ow o0 (by decide), by omega⟩)⟩
    · exact ⟨_, v, o, v0, by omega, .inr (.inr (.inl ⟨rfl, rfl, ow o0 (by decide), by omega⟩))⟩
    · exact absurd h3 (by decide +kernel)
    · exact absurd h3 (by decide +kernel)
  · cases h

def c_is_branch : Ct := fun rs Q _ => ∃ w l, rs = [.s (.tuple (w :: l))] ∧ Sh w ∧ Q (.s (.bool (PyData.eqv w (.str "if"))))
theorem sh_if : Sh (.str "if") := sh_of (by decide +kernel)
theorem d_is_branch {K : Frag} {cl : Ad} : ∀ rs Q E, c_is_branch rs Q E → w_is_branch K cl (rho N_is_branch.length rs) { nx := fun _ => Q (.s .none), rt := Q, er := fun cls _ => E cls } := by
  rintro rs Q E ⟨w, l, rfl, h, q⟩
  unfold w_is_branch
  try walk_at "dl"
  exact ⟨h, sh_if, q⟩
def sizeL (f : D → Option Int) : List D → Int → Option Int
  | [], t => some t
  | p :: ps, t => match f p with
    | none => none
    | some m => if t + m > 24 then none else sizeL f ps (t + m)
def rowSize (f : D → Option Int) : D → Option Int
  | .tuple l => if l.length ≤ 24 then sizeL f l 0 else none
  | _ => none
def branchOf (g : D → Option Int) (n : Int) : D → Option Int
  | .tuple [w, c, a, b] => if (isWord w [.str "if"] && isCond n c) = true then (match g a, g b with | some x, some y => some (1 + x + y) | _, _ => none) else none
  | _ => none
def szD (n : Int) : Nat → D → Option Int
  | 0 => rowSize fun p => if isStep n p = true then some 1 else none
  | k + 1 => rowSize fun p => if isStep n p = true then some 1 else branchOf (szD n k) n p
def brD (n : Int) : Nat → D → Option Int
  | 0 => fun _ => none
  | k + 1 => branchOf (szD n k) n
def ptD (n : Int) (k : Nat) (p : D) : Option Int := if isStep n p = true then some 1 else brD n k p
theorem szD_eq (n : Int) (k : Nat) : szD n k = rowSize (ptD n k) := by cases k <;> rfl
def oD : Option Int → D
  | none => .none
  | some i => .int i
def c_size_of (k : Nat) : Ct := fun rs Q _ => ∃ n d, rs = [.s (.int n), .s d, .s (.int k)] ∧ Q (.s (oD (szD n k d)))
def c_branch (k : Nat) : Ct := fun rs Q _ => ∃ n d, rs = [.s (.int n), .s d, .s (.int k)] ∧ Q (.s (oD (brD n k d)))
theorem d_size_of {K : Frag} {cl : Ad} (k : Nat) : ∀ rs Q E, c_size_of k rs Q E → w_size_of K cl c_is_row c_is_step_of (c_branch k) (rho N_size_of.length rs) { nx := fun _ => Q (.s .none), rt := Q, er := fun cls _ => E cls } := by
  rintro rs Q E ⟨n, d, rfl, q⟩
  rw [szD_eq] at q
  unfold w_size_of c_is_step_of c_branch c_is_row
  try walk_at "dl"
  cases hr : isRow d 0 24 with
  | false =>
    have e : rowSize (ptD n k) d = none := by
      unfold rowSize
      split
      · simp [isRow] at hr ⊢
        omega
      · rfl
    rw [e] at q
    simpa [oD] using q
  | true =>
    obtain ⟨l, rfl, h1, h2⟩ := row_cases (a := 0) (b := 24) hr
    simp only [rowSize, h2, if_true] at q
    try walk_at "dl"
    refine ⟨fun i (ρ : Rho) => ∃ t v4 v5, ρ = [some (.s (.int n)), some (.s (.tuple l)), some (.s (.int k)), some (.s (.int t)), v4, v5] ∧ sizeL (ptD n k) l 0 = sizeL (ptD n k) (l.drop i) t, ?_, ?_, ?_⟩
    · exact ⟨0, none, none, rfl, rfl⟩
    · rintro i d ρ hi ⟨t, v4, v5, rfl, hs⟩
      unfold w_size_of_b1
      try walk_at "dl"
      rw [drop_at hi, sizeL] at hs
      cases hst : isStep n d with
      | true =>
        have e : ptD n k d = some 1 := by unfold ptD; rw [hst]; rfl
        simp only [e] at hs
        try walk_at "dl"
        refine ite_both (fun h => ?_) (fun h => ?_)
        · rw [if_pos (by simpa using h)] at hs
          rw [hs] at q
          exact q
        · rw [if_neg (by simpa using h)] at hs
          exact hs
      | false =>
        have e : ptD n k d = brD n k d := by unfold ptD; rw [hst]; rfl
        rw [e] at hs
        try walk_at "dl"
        cases hb : brD n k d with
        | none =>
          simp only [hb] at hs
          rw [hs] at q
          simpa [oD, isN_none] using q
        | some j =>
          simp only [hb] at hs
          try walk_at "dl"
          simp only [oD, isN_int]
          try walk_at "dl"
          refine ite_both (fun h => ?_) (fun h => ?_)
          · rw [if_pos (by simpa using h)] at hs
            rw [hs] at q
            exact q
          · rw [if_neg (by simpa using h)] at hs
            exact hs
    · rintro ρ ⟨t, v4, v5, rfl, hs⟩
      rw [List.drop_length] at hs
      try walk_at "dl"
      rw [hs] at q
      exact q
theorem d_branch_size {K : Frag} {cl : Ad} (k : Nat) (c : Ct) (hc : ∀ k', k = k' + 1 → c = c_size_of k') : ∀ rs Q E, c_branch k rs Q E → w_branch_size K cl c_is_row c_is_word c_is_condition_of c (rho N_branch_size.length rs) { nx := fun _ => Q (.s .none), rt := Q, er := fun cls _ => E cls } := by
  rintro rs Q E ⟨n, d, rfl, q⟩
  unfold w_branch_size c_is_word c_is_row c_is_condition_of
  try walk_at "dl"
  cases k with
  | zero =>
    simpa [brD, oD] using q
  | succ k =>
    rw [hc k rfl]
    simp only [brD] at q
    have h0 : ((((k + 1 : Nat) : Int)) == 0) = false := by simp; omega
    simp only [h0]
    try walk_at "dl"
    cases hr : isRow d 4 4 with
    | false =>
      have e : branchOf (szD n k) n d = none := by
        unfold branchOf
        split
        · simp [isRow] at hr
        · rfl
      rw [e] at q
      simpa [oD] using q
    | true =>
      obtain ⟨l, rfl, h1, h2⟩ := row_cases (a := 4) (b := 4) hr
      match l, h1, h2 with
      | [w, c, a, b], _, _ =>
        simp only [branchOf] at q
        try walk_at "dl"
        cases hw : isWord w [.str "if"] with
        | false => simpa [hw, oD] using q
        | true =>
          cases hv : isCond n c with
          | false => simpa [hw, hv, oD] using q
          | true =>
            simp only [hw, hv, Bool.and_self, if_true, c_size_of] at q ⊢
            try walk_at "dl"
            have e1 : ((k + 1 : Nat) : Int) - 1 = k := by omega
            refine ⟨e1, e1, ?_⟩
            cases ha : szD n k a with
            | none => simpa [oD, ha, isN_none] using q
            | some x =>
              cases hb : szD n k b with
              | none => simpa [oD, ha, hb, isN_none, isN_int] using q
              | some y => simpa [oD, ha, hb, isN_none, isN_int] using q
def isProg (n : Int) (d : D) : Bool := (szD n 4 d).isSome
def c_is_program_of : Ct := fun rs Q _ => ∃ n d, rs = [.s (.int n), .s d] ∧ Q (.s (.bool (isProg n d)))
theorem d_is_program_of {K : Frag} {cl : Ad} : ∀ rs Q E, c_is_program_of rs Q E → w_is_program_of K cl (c_size_of 4) (rho N_is_program_of.length rs) { nx := fun _ => Q (.s .none), rt := Q, er := fun cls _ => E cls } := by
  rintro rs Q E ⟨n, d, rfl, q⟩
  unfold w_is_program_of c_size_of
  try walk_at "dl"
  refine ⟨rfl, ?_⟩
  unfold isProg at q
  cases h : szD n 4 d <;> simpa [h, oD, isN_none, isN_int, R.isS] using q
def isBr : D → Bool
  | .tuple (w :: _) => PyData.eqv w (.str "if")
  | _ => false
/-- what is surely a row of parts: each a row with a word ahead -/
def Parts (l : List D) : Prop := ∀ p ∈ l, ∃ w r, p = .tuple (w :: r) ∧ Sh w
theorem prog_len {n : Int} {d : D} (h : isProg n d = true) : ∃ l, d = .tuple l ∧ l.length ≤ 24 ∧ (sizeL (ptD n 4) l 0).isSome = true := by
  unfold isProg at h
  rw [szD_eq] at h
  cases d with
  | tuple l =>
    simp only [rowSize] at h
    by_cases hl : l.length ≤ 24
    · rw [if_pos hl] at h; exact ⟨l, rfl, hl, h⟩
    · rw [if_neg hl] at h; cases h
  | _ => simp [rowSize] at h
theorem sizeL_mem {f : D → Option Int} : ∀ {l : List D} {t : Int}, (sizeL f l t).isSome = true → ∀ p ∈ l, (f p).isSome = true
  | [], _, _, p, hp => nomatch hp
  | a :: l, t, h, p, hp => by
    unfold sizeL at h
    cases e : f a with
    | none => simp only [e] at h; cases h
    | some m =>
      simp only [e] at h
      by_cases q : t + m > 24
      · rw [if_pos q] at h; cases h
      · rw [if_neg q] at h
        rcases List.mem_cons.mp hp with rfl | hp
        · rw [e]; rfl
        · exact sizeL_mem h p hp
theorem word_sh {w : D} {ws : List Str} (h : isWord w (ws.map PyData.str) = true) (hs : ∀ x ∈ ws, Sh (.str x)) : Sh w := by
  obtain ⟨x, rfl, hx⟩ := word_cases h
  exact hs x hx
theorem ptD_shape {n : Int} {k : Nat} {p : D} (h : (ptD n k p).isSome = true) : ∃ w r, p = .tuple (w :: r) ∧ Sh w := by
  unfold ptD at h
  cases hs : isStep n p with
  | true =>
    unfold isStep at hs
    split at hs
    · simp only [Bool.and_eq_true] at hs; exact ⟨_, _, rfl, (w5_sh hs.1.1).2.1⟩
    · simp only [Bool.and_eq_true] at hs; exact ⟨_, _, rfl, (w5_sh hs.1.1.1).2.1⟩
    · cases hs
  | false =>
    rw [hs, if_neg Bool.false_ne_true] at h
    cases k with
    | zero => cases h
    | succ k =>
      simp only [brD] at h
      unfold branchOf at h
      split at h
      · split at h
        · rename_i hc
          simp only [Bool.and_eq_true] at hc
          exact ⟨_, _, rfl, word_sh (ws := ["if"]) hc.1 (by intro x hx; simp only [List.mem_singleton] at hx; subst hx; exact sh_if)⟩
        · cases h
      · cases h
theorem prog_parts {n : Int} {l : List D} (h : (sizeL (ptD n 4) l 0).isSome = true) : Parts l := fun p hp => ptD_shape (sizeL_mem h p hp)

/-! sizes -/
theorem br_mono {n : Int} {g g' : D → Option Int} (h : ∀ d z, g d = some z → g' d = some z) : ∀ p z, branchOf g n p = some z → branchOf g' n p = some z := by
  intro p z e
  unfold branchOf at e ⊢
  split at e
  · split at e
    · rename_i w c a b hc
      simp only [hc, if_true]
      cases ha : g a with
      | none => simp [ha] at e
      | some x =>
        cases hb : g b with
        | none => simp [ha, hb] at e
        | some y =>
          simp only [ha, hb] at e
          simp only [h a x ha, h b y hb]
          exact e
    · cases e
  · cases e
theorem sizeL_mono {f f' : D → Option Int} (h : ∀ p z, f p = some z → f' p = some z) : ∀ (l : List D) (t z : Int), sizeL f l t = some z → sizeL f' l t = some z
  | [], t, z, e => e
  | p :: ps, t, z, e => by
    unfold sizeL at e ⊢
    cases hp : f p with
    | none => simp [hp] at e
    | some m =>
      simp only [hp] at e
      simp only [h p m hp]
      by_cases q : t + m > 24
      · rw [if_pos q] at e; cases e
      · rw [if_neg q] at e ⊢; exact sizeL_mono h ps _ _ e
theorem row_mono {f f' : D → Option Int} (h : ∀ p z, f p = some z → f' p = some z) : ∀ d z, rowSize f d = some z → rowSize f' d = some z := by
  intro d z e
  cases d with
  | tuple l =>
    simp only [rowSize] at e ⊢
    by_cases q : l.length ≤ 24
    · rw [if_pos q] at e ⊢; exact sizeL_mono h l _ _ e
    · rw [if_neg q] at e; cases e
  | _ => simp [rowSize] at e
theorem sz_mono {n : Int} : ∀ k : Nat, (∀ d z, szD n k d = some z → szD n (k + 1) d = some z) ∧ (∀ p z, ptD n k p = some z → ptD n (k + 1) p = some z)
  | 0 => by
    have hp : ∀ p z, ptD n 0 p = some z → ptD n 1 p = some z := fun p z e => by
      unfold ptD at e ⊢
      cases hs : isStep n p with
      | true => rw [hs] at e; simpa using e
      | false => rw [hs] at e; simp [brD] at e
    exact ⟨fun d z e => by rw [szD_eq] at e ⊢; exact row_mono hp d z e, hp⟩
  | k + 1 => by
    obtain ⟨h1, h2⟩ := sz_mono (n := n) k
    have hp : ∀ p z, ptD n (k + 1) p = some z → ptD n (k + 2) p = some z := fun p z e => by
      unfold ptD at e ⊢
      cases hs : isStep n p with
      | true => rw [hs] at e; simpa using e
      | false =>
        rw [hs] at e
        simp only [Bool.false_eq_true, if_false, brD] at e ⊢
        exact br_mono h1 p z e
    exact ⟨fun d z e => by rw [szD_eq] at e ⊢; exact row_mono hp d z e, hp⟩
theorem pt_up {n : Int} {k : Nat} {p : D} {z : Int} (e : ptD n k p = some z) : ∀ j : Nat, ptD n (k + j) p = some z
  | 0 => e
  | j + 1 => (sz_mono (k + j)).2 p z (pt_up e j)
theorem size_up {n : Int} {k : Nat} {l : List D} {t z : Int} (e : sizeL (ptD n k) l t = some z) (j : Nat) : sizeL (ptD n (k + j)) l t = some z := sizeL_mono (fun p z h => pt_up h j) l t z e
theorem sizeL_app {f : D → Option Int} : ∀ (l : List D) (p : D) (t z m : Int), sizeL f l t = some z → f p = some m → z + m ≤ 24 → sizeL f (l ++ [p]) t = some (z + m)
  | [], p, t, z, m, e, h, hz => by
    cases e
    show sizeL f [p] t = some (t + m)
    simp only [sizeL, h]
    rw [if_neg (by omega)]
  | a :: l, p, t, z, m, e, h, hz => by
    rw [List.cons_append]
    unfold sizeL at e ⊢
    cases ha : f a with
    | none => simp [ha] at e
    | some y =>
      simp only [ha] at e ⊢
      by_cases q : t + y > 24
      · rw [if_pos q] at e; cases e
      · rw [if_neg q] at e ⊢; exact sizeL_app l p _ _ _ e h hz
theorem sizeL_sum {f : D → Option Int} : ∀ (l : List D) (t z : Int), sizeL f l t = some z → z = t + (l.map fun p => (f p).getD 0).sum
  | [], t, z, e => by cases e; simp
  | a :: l, t, z, e => by
    unfold sizeL at e
    cases ha : f a with
    | none => simp [ha] at e
    | some y =>
      simp only [ha] at e
      by_cases q : t + y > 24
      · rw [if_pos q] at e; cases e
      · rw [if_neg q] at e
        have := sizeL_sum l _ _ e
        simp only [List.map_cons, List.sum_cons, ha, Option.getD_some]
        omega
theorem sizeL_len {f : D → Option Int} (l : List D) (h : rowSize f (.tuple l) ≠ none) : l.length ≤ 24 := by
  simp only [rowSize] at h
  by_cases q : l.length ≤ 24
  · exact q
  · rw [if_neg q] at h; exact absurd rfl h
def c_law_size (k : Nat) : Ct := fun rs Q _ => ∃ (n : Int) (l : List D) (z : Int), rs = [.s (.tuple l)] ∧ l.length ≤ 24 ∧ sizeL (ptD n k) l 0 = some z ∧ Q (.s (.int z))
theorem sz_tuple {n : Int} {k : Nat} {d : D} {x : Int} (h : szD n k d = some x) : ∃ l, d = .tuple l ∧ l.length ≤ 24 ∧ sizeL (ptD n k) l 0 = some x := by
  rw [szD_eq] at h
  cases d with
  | tuple l =>
    simp only [rowSize] at h
    by_cases q : l.length ≤ 24
    · rw [if_pos q] at h; exact ⟨l, rfl, q, h⟩
    · rw [if_neg q] at h; cases h
  | _ => simp [rowSize] at h
theorem w5_if {w : D} (h : isWord w W5 = true) : PyData.eqv w (.str "if") = false := by
  obtain ⟨x, rfl, hx⟩ := word_cases (ws := ["set", "follow", "put", "new", "free"]) h
  simp only [List.mem_cons, List.not_mem_nil, or_false] at hx
  rcases hx with rfl | rfl | rfl | rfl | rfl <;> decide +kernel
theorem wif {w : D} (h : isWord w [.str "if"] = true) : w = .str "if" := by
  obtain ⟨x, rfl, hx⟩ := word_cases (ws := ["if"]) h
  simp only [List.mem_singleton] at hx
  rw [hx]
/-- a part: a step, or a branch -/
theorem pt_cases {n : Int} {k : Nat} {p : D} {z : Int} (h : ptD n k p = some z) : (∃ w r, p = .tuple (w :: r) ∧ Sh w ∧ PyData.eqv w (.str "if") = false ∧ isStep n p = true ∧ z = 1) ∨
    (∃ k' c a b x y, k = k' + 1 ∧ p = .tuple [.str "if", c, a, b] ∧ isStep n p = false ∧ szD n k' a = some x ∧ szD n k' b = some y ∧ z = 1 + x + y) := by
  unfold ptD at h
  cases hs : isStep n p with
  | true =>
    rw [hs] at h
    refine .inl ?_
    have e : z = 1 := by simpa using h.symm
    unfold isStep at hs
    split at hs
    · simp only [Bool.and_eq_true] at hs; exact ⟨_, _, rfl, (w5_sh hs.1.1).2.1, w5_if hs.1.1, rfl, e⟩
    · simp only [Bool.and_eq_true] at hs; exact ⟨_, _, rfl, (w5_sh hs.1.1.1).2.1, w5_if hs.1.1.1, rfl, e⟩
    · cases hs
  | false =>
    rw [hs, if_neg Bool.false_ne_true] at h
    cases k with
    | zero => cases h
    | succ k =>
      simp only [brD] at h
      unfold branchOf at h
      split at h
      · split at h
        · rename_i w c a b hc
          simp only [Bool.and_eq_true] at hc
          have e := wif hc.1
          subst e
          cases ha : szD n k a with
          | none => simp [ha] at h
          | some x =>
            cases hb : szD n k b with
            | none => simp [ha, hb] at h
            | some y =>
              simp only [ha, hb] at h
              cases h
              exact .inr ⟨k, c, a, b, x, y, rfl, rfl, rfl, ha, hb, rfl⟩
        · cases h
      · cases h
theorem d_law_size {K : Frag} {cl : Ad} (k : Nat) (c : Ct) (hc : ∀ k', k = k' + 1 → c = c_law_size k') : ∀ rs Q E, c_law_size k rs Q E → w_law_size K cl c (rho N_law_size.length rs) { nx := fun _ => Q (.s .none), rt := Q, er := fun cls _ => E cls } := by
  rintro rs Q E ⟨n, l, z, rfl, hl, hz, q⟩
  unfold w_law_size
  try walk_at "dl"
  refine ⟨fun i (acc : List D) => acc = ((l.take i).map fun p => .int ((ptD n k p).getD 0)), rfl, fun i acc d hd e => ?_, fun acc e => ?_⟩
  · subst e
    have hb : ((l.take i).map fun p => PyData.int ((ptD n k p).getD 0)).length < 16777216 := by rw [List.length_map, List.length_take]; omega
    have some_ : (ptD n k d).isSome = true := sizeL_mem (by rw [hz]; rfl) d (List.mem_of_getElem? hd)
    obtain ⟨m, hm⟩ := Option.isSome_iff_exists.mp some_
    have fin : ∀ v : Int, v = m → (l.take i).map (fun p => PyData.int ((ptD n k p).getD 0)) ++ [PyData.int v] = (l.take (i + 1)).map fun p => .int ((ptD n k p).getD 0) := fun v e => by
      rw [take_at hd, List.map_append]
      simp [hm, e]
    rcases pt_cases hm with ⟨w, r, rfl, hw, hi, _, rfl⟩ | ⟨k', cc, a, b, x, y, hk, rfl, _, ha, hb2, rfl⟩
    · try walk_at "dl"
      refine ⟨hw, sh_if, ?_⟩
      simp only [hi, Bool.false_eq_true, if_false]
      try walk_at "dl"
      exact ⟨hb, fin 1 rfl⟩
    · rw [hc k' hk]
      obtain ⟨la, rfl, hla, hsa⟩ := sz_tuple ha
      obtain ⟨lb, rfl, hlb, hsb⟩ := sz_tuple hb2
      have hi : PyData.eqv (.str "if") (.str "if") = true := by decide +kernel
      try walk_at "dl"
      simp only [c_law_size]
      try walk_at "dl"
      simp only [sh_if, true_and, beq_self_eq_true, if_true]
      exact ⟨hla, n, x, hsa, hlb, n, y, hsb, hb, fin _ (by omega)⟩
  · subst e
    refine ⟨l.map fun p => (ptD n k p).getD 0, by rw [List.take_length, List.map_map]; rfl, ?_⟩
    have := sizeL_sum l 0 z hz
    rw [this, Int.zero_add] at q
    exact q
def muP (ρ : Rho) : Nat := match (ρ[5]? : Option (Option R)) with
  | some (some (R.s (.int i))) => i.toNat
  | _ => 0
def c_law_program (k : Nat) : Ct := fun rs Q _ => ∃ n most : Int, rs = [.g, .s (.int n), .s (.int most), .s (.int k)] ∧ 1 ≤ n ∧ n ≤ 4 ∧ 0 ≤ most ∧ most ≤ 12 ∧ k ≤ 3 ∧ ∀ (l : List D) (z : Int), l.length ≤ 12 → sizeL (ptD n k) l 0 = some z → 0 ≤ z → z ≤ most → Q (.s (.tuple l))
theorem d_law_program {K : Frag} {cl : Ad} (k : Nat) (c : Ct) (hc : ∀ k', k = k' + 1 → c = c_law_program k') : ∀ rs Q E, c_law_program k rs Q E → w_law_program K cl c_pick c_law_step c_law_condition (c_law_size 3) c (rho N_law_program.length rs) { nx := fun _ => Q (.s .none), rt := Q, er := fun cls _ => E cls } := by
  rintro rs Q E ⟨n, most, rfl, hn1, hn2, hm1, hm2, hk3, q⟩
  unfold w_law_program c_law_step c_law_condition c_pick c_law_size
  try walk_at "dl"
  refine ⟨by omega, by omega, fun left l0 l1 => ?_⟩
  try walk_at "dl"
  refine ⟨fun (ρ : Rho) => ∃ (l : List D) (t left : Int) (v6 v7 : Option R), ρ = [some .g, some (.s (.int n)), some (.s (.int most)), some (.s (.int k)), some (.l true l), some (.s (.int left)), v6, v7] ∧
    sizeL (ptD n k) l 0 = some t ∧ 0 ≤ t ∧ 0 ≤ left ∧ t + left ≤ most ∧ (l.length : Int) + left ≤ 12, ⟨[], 0, left, none, none, rfl, rfl, by omega, by omega, by omega, by simp; omega⟩, muP, ?_⟩
  rintro ρ ⟨l, t, left, v6, v7, rfl, hs, ht, hl0, hl1, hl2⟩
  unfold w_law_program_b1
  try walk_at "dl"
  have mu : ∀ (a b : List D) (x y : Int) (u1 u2 u3 u4 : Option R), 0 ≤ x → x < y → muP [some .g, some (.s (.int n)), some (.s (.int most)), some (.s (.int k)), some (.l true a), some (.s (.int x)), u1, u2] < muP [some .g, some (.s (.int n)), some (.s (.int most)), some (.s (.int k)), some (.l true b), some (.s (.int y)), u3, u4] := fun a b x y u1 u2 u3 u4 h1 h2 => by
    show x.toNat < y.toNat
    omega
  have hll : l.length ≤ 12 := by omega
  have one : ∀ (d : D) (m : Int) (v6' v7' : Option R), ptD n k d = some m → 1 ≤ m → m ≤ left → l.length < 16777216 ∧
      (∃ x, sizeL (ptD n k) (l ++ [d]) 0 = some x ∧ 0 ≤ x ∧ 0 ≤ left - m ∧ x + (left - m) ≤ most ∧ ((l ++ [d]).length : Int) + (left - m) ≤ 12) ∧
      muP [some .g, some (.s (.int n)), some (.s (.int most)), some (.s (.int k)), some (.l true (l ++ [d])), some (.s (.int (left - m))), v6', v7'] < muP [some .g, some (.s (.int n)), some (.s (.int most)), some (.s (.int k)), some (.l true l), some (.s (.int left)), v6, v7] := fun d m v6' v7' hm m1 m2 => by
    refine ⟨by omega, ⟨t + m, sizeL_app l d 0 t m hs hm (by omega), by omega, by omega, by omega, ?_⟩, mu _ _ _ _ _ _ _ _ (by omega) (by omega)⟩
    rw [List.length_append]
    simp only [List.length_singleton]
    omega
  have pst : ∀ d, isStep n d = true → ptD n k d = some 1 := fun d hd => by unfold ptD; rw [hd]; rfl
  refine ite_both (fun h1 => ?_) (fun h1 => ?_)
  · have h1 := of_decide_eq_true h1
    have stp := fun (d : D) (hd : isStep n d = true) => one d 1 v6 v7 (pst d hd) (by omega) (by omega)
    refine ite_both (fun h2 => ?_) (fun _ => ⟨hn1, hn2, stp⟩)
    refine ite_both (fun h3 => ?_) (fun _ => ⟨hn1, hn2, stp⟩)
    have h2 := of_decide_eq_true h2
    have h3 := of_decide_eq_true h3
    refine ⟨by omega, by omega, fun r r0 r1 => ite_both (fun _ => ?_) (fun _ => ⟨hn1, hn2, stp⟩)⟩
    cases k with
    | zero => exact absurd h2 (by simp)
    | succ k' =>
      rw [hc k' rfl]
      have ek : (((k' + 1 : Nat) : Int)) - 1 = (k' : Int) := by omega
      have half0 : 0 ≤ (left - 1) / 2 := by omega
      have half1 : (left - 1) / 2 ≤ 12 := by omega
      refine ⟨⟨by decide, by decide⟩, n, (left - 1) / 2, by rw [ek], hn1, hn2, half0, half1, by omega, fun la za hla hsa za0 za1 => ?_⟩
      refine ⟨rfl, ⟨by decide, by decide⟩, n, (left - 1) / 2, by rw [ek], hn1, hn2, half0, half1, by omega, fun lb zb hlb hsb zb0 zb1 => ?_⟩
      try walk_at "dl"
      refine ⟨hn1, hn2, fun w a b hw a0 a1 b0 b1 => ⟨by omega, by omega, n, za, ?_, by omega, n, zb, ?_, ?_⟩⟩
      · have := size_up hsa (3 - k')
        rwa [show k' + (3 - k') = 3 by omega] at this
      · have := size_up hsb (3 - k')
        rwa [show k' + (3 - k') = 3 by omega] at this
      · have sza : szD n k' (.tuple la) = some za := by rw [szD_eq]; simp only [rowSize]; rw [if_pos (by omega)]; exact hsa
        have szb : szD n k' (.tuple lb) = some zb := by rw [szD_eq]; simp only [rowSize]; rw [if_pos (by omega)]; exact hsb
        have hp : ptD n (k' + 1) (.tuple [.str "if", .tuple [w, .int a, .int b], .tuple la, .tuple lb]) = some (1 + za + zb) := by
          have h1 : isStep n (.tuple [.str "if", .tuple [w, .int a, .int b], .tuple la, .tuple lb]) = false := by simp [isStep]
          have h2 : isWord (.str "if") [.str "if"] = true := by decide +kernel
          unfold ptD
          rw [h1, if_neg Bool.false_ne_true]
          simp only [brD, branchOf, h2, cond_ok hw a0 a1 b0 b1, Bool.and_self, if_true, sza, szb]
        have e : left - 1 - za - zb = left - (1 + za + zb) := by omega
        rw [e]
        exact (one _ _ _ _ hp (by omega) (by omega)).2
  · have h1 := of_decide_eq_false h1
    exact q l t hll hs ht (by omega)
/-! bad parts, towers -/

structure StOk (m : Int) (vs : List Int) (cs : List (Int × Int)) : Prop where
  len : (vs.length : Int) = m
  ov : OkVs vs
  oc : OkCs cs
  sm : (∀ v ∈ vs, v ≤ 1000) ∧ ∀ p ∈ cs, p.1 ≤ 1000 ∧ p.2 ≤ 1000
theorem StOk.nd {m : Int} {vs : List Int} {cs : List (Int × Int)} (h : StOk m vs cs) : (keysI cs).Nodup := keys_nd h.oc.srt
def nmAt (st sh k : Int) : Int := sh + 1 + st * k
def nmsI (st sh : Int) (n : Nat) : List Int := (List.range n).map fun (k : Nat) => nmAt st sh (k : Int)
theorem nms_len (st sh : Int) (n : Nat) : (nmsI st sh n).length = n := by simp [nmsI]
theorem nms_get {st sh : Int} {n k : Nat} (h : k < n) : (nmsI st sh n)[k]? = some (nmAt st sh k) := by
  unfold nmsI
  rw [List.getElem?_map, List.getElem?_range h]
  rfl
theorem nms_at {st sh i : Int} {n : Nat} (h0 : 0 ≤ i) (h1 : i < n) : atI ((nmsI st sh n).map PyData.int) i = some (.int (nmAt st sh i)) := by
  refine atI_of (j := i.toNat) (by omega) ?_
  rw [List.getElem?_map, nms_get (by omega), show ((i.toNat : Nat) : Int) = i by omega]
  rfl
theorem cut_take (l : List D) (n : Int) (h0 : 0 ≤ n) (h1 : n ≤ l.length) : DL.cutD l none (some n) = l.take n.toNat := by
  unfold DL.cutD
  have e : HT.sIx l.length l.length (some n) = n.toNat := by
    show (if n < 0 then (n + ((l.length : Nat) : Int)).toNat else min n.toNat l.length) = n.toNat
    rw [if_neg (by omega)]
    omega
  have e0 : HT.sIx l.length 0 none = 0 := rfl
  rw [e, e0, List.drop_zero, Nat.sub_zero]
theorem nm_rng {st sh k : Int} (a0 : 0 ≤ st) (a1 : st < 9) (b0 : 0 ≤ sh) (b1 : sh < 5) (c0 : 0 ≤ k) (c1 : k ≤ 22) : 1 ≤ nmAt (1 + st) sh k ∧ nmAt (1 + st) sh k ≤ 1000 := by
  unfold nmAt
  have h1 : 0 ≤ (1 + st) * k := Int.mul_nonneg (by omega) c0
  have h2 : (1 + st) * k ≤ 9 * 22 := Int.mul_le_mul (by omega) c1 c0 (by decide)
  omega
theorem nm_inj {st sh i j : Int} (a0 : 0 ≤ st) (h : nmAt (1 + st) sh i = nmAt (1 + st) sh j) : i = j := by
  unfold nmAt at h
  exact Int.eq_of_mul_eq_mul_left (a := 1 + st) (by omega) (by omega)
theorem nms_nd {st sh : Int} (a0 : 0 ≤ st) (n : Nat) : (nmsI (1 + st) sh n).Nodup := by
  unfold nmsI
  rw [List.Nodup, List.pairwise_map]
  exact List.Pairwise.imp (fun h z => h (Int.ofNat_inj.mp (nm_inj a0 z))) List.nodup_range
theorem sortP_srt {l : List (Int × Int)} (nd : (keysI l).Nodup) : (sortP l).Pairwise fun p q => p.1 < q.1 := by
  have h1 : (sortP l).Pairwise fun p q => (decide (p.1 < q.1 ∨ (p.1 = q.1 ∧ p.2 ≤ q.2))) = true := List.pairwise_mergeSort (fun a b c h h' => by simp only [decide_eq_true_eq] at *; omega) (fun a b => by simp only [Bool.or_eq_true, decide_eq_true_eq]; omega) l
  have h2 : (keysI (sortP l)).Nodup := ((sortP_perm l).map _).symm.nodup nd
  unfold keysI at h2
  rw [List.Nodup, List.pairwise_map] at h2
  exact (h1.and h2).imp fun ⟨a, b⟩ => by
    have := of_decide_eq_true a
    omega
def c_law_state (mo : Nat) : Ct := fun rs Q _ => ∃ (m : Int), rs = [.g, .s (.int m), .s (.int (mo : Int))] ∧ mo ≤ 17 ∧ 0 ≤ m ∧ m ≤ 4 ∧ ∀ vs cs, StOk m vs cs → cs.length ≤ mo → Q (.s (stD vs cs))
theorem d_law_state {K : Frag} {cl : Ad} (mo : Nat) : ∀ rs Q E, c_law_state mo rs Q E → w_law_state K cl c_pick (rho N_law_state.length rs) { nx := fun _ => Q (.s .none), rt := Q, er := fun cls _ => E cls } := by
  rintro rs Q E ⟨m, rfl, mo1, m0, m1, q⟩
  unfold w_law_state
  walk_at "dy"
  refine ⟨by decide, by decide, fun st st0 st1 => ⟨by decide, by decide, fun sh sh0 sh1 => ?_⟩⟩
  unfold w_law_state_t14
  walk_at "dy"
  refine ⟨by omega, by omega, lc_go (fun k => (nmsI (1 + st) sh k).map PyData.int) rfl (fun k d hd => ?_) ?_⟩
  · obtain ⟨rfl, hk⟩ := range0_at hd
    rw [gwN1]
    refine ⟨by simp, ?_⟩
    show wYes _ _ _
    simp only [putA, wipeR, List.set_cons_succ, List.set_cons_zero]
    walk_at "dy"
    refine ⟨.inr ⟨by omega, by omega⟩, by rw [List.length_map, nms_len]; omega, ?_⟩
    rw [nmsI, range_succ_map, List.map_append]
    rfl
  rw [range_len, show ((mo : Int) + 3).toNat = mo + 3 by omega]
  obtain ⟨nms, en⟩ : ∃ nms, nms = (nmsI (1 + st) sh (mo + 3)).map PyData.int := ⟨_, rfl⟩
  rw [← en]
  have nlen : nms.length = mo + 3 := by rw [en, List.length_map, nms_len]
  have nat : ∀ i : Int, 0 ≤ i → i < mo + 3 → atI nms i = some (.int (nmAt (1 + st) sh i)) := fun i i0 i1 => by rw [en]; exact nms_at i0 (by omega)
  show keepQ _ _
  walk_at "dy"
  unfold w_law_state_t13
  walk_at "dy"
  refine ⟨by omega, by omega, fun c c0 c1 => ?_⟩
  unfold w_law_state_t12
  walk_at "dy"
  rw [cut_take _ _ c0 (by omega)]
  unfold w_law_state_t11
  walk_at "dy"
  unfold w_law_state_t10
  walk_at "dy"
  refine ⟨by omega, by omega, ?_⟩
  have tat : ∀ k : Nat, k < c.toNat → atI (nms.take c.toNat) (k : Int) = some (.int (nmAt (1 + st) sh k)) := fun k hk => by
    refine atI_of (j := k) rfl ?_
    rw [List.getElem?_take, if_pos hk, en, List.getElem?_map, nms_get (by omega)]
    rfl
  refine for_go (fun i (ρ : Rho) => ∃ (cs : List (Int × Int)) (x6 x10 x11 : Option R), keysI cs = nmsI (1 + st) sh i ∧ (∀ p ∈ cs, 0 ≤ p.2 ∧ p.2 ≤ 1000) ∧ ρ = [some .g, some (.s (.int m)), some (.s (.int mo)), some (.s (.int (1 + st))), some (.s (.int sh)), some (.l true nms), x6, some (.s (.int c)), some (.l true (nms.take c.toNat)), some (.l true (cs.map prD)), x10, x11, none, none]) ?_ ?_ ?_
  · exact ⟨[], _, _, _, rfl, by simp, rfl⟩
  · rintro i d ρ hd ⟨cs, x6, x10, x11, hk, hv, rfl⟩
    obtain ⟨rfl, hi⟩ := range0_at hd
    walk_at "dy"
    unfold w_law_state_b3
    walk_at "dy"
    refine ⟨by decide, by decide, fun kd kd0 kd1 => ?_⟩
    have cl' : cs.length = i := by have := congrArg List.length hk; rwa [keysI, List.length_map, nms_len] at this
    have fin : ∀ q : Int, 0 ≤ q ∧ q ≤ 1000 → ∃ (cs2 : List (Int × Int)), cs.map prD ++ [.tuple [.int (nmAt (1 + st) sh i), .int q]] = cs2.map prD ∧ keysI cs2 = nmsI (1 + st) sh (i + 1) ∧ ∀ p ∈ cs2, 0 ≤ p.2 ∧ p.2 ≤ 1000 := fun q hq => by
      refine ⟨cs ++ [(nmAt (1 + st) sh i, q)], by rw [List.map_append]; rfl, ?_, ?_⟩
      · unfold keysI at hk ⊢
        rw [List.map_append, hk]
        unfold nmsI
        rw [range_succ_map]
        rfl
      · intro p hp
        rcases List.mem_append.mp hp with hp | hp
        · exact hv p hp
        · rw [List.mem_singleton.mp hp]; exact hq
    unfold w_law_state_t2 w_law_state_t1
    walk_at "dy"
    rw [tat i hi]
    simp only [Option.some.injEq, exists_eq_left']
    have sm : (cs.map prD).length < 16777216 := by rw [List.length_map]; omega
    refine ite_both (fun _ => ⟨by omega, by omega, fun r r0 r1 => ⟨_, nat r r0 (by omega), sm, ?_⟩⟩) fun _ => ite_both (fun _ => ⟨sm, ?_⟩) fun _ => ⟨_, nat _ (by omega) (by omega), sm, ?_⟩
    · obtain ⟨cs2, e1, e2, e3⟩ := fin (nmAt (1 + st) sh r) (by have := nm_rng st0 st1 sh0 sh1 r0 (by omega); omega)
      exact ⟨cs2, _, _, _, e2, e3, rfl, e1, rfl, rfl⟩
    · obtain ⟨cs2, e1, e2, e3⟩ := fin 0 (by omega)
      exact ⟨cs2, _, _, _, e2, e3, rfl, e1, rfl, rfl⟩
    · obtain ⟨cs2, e1, e2, e3⟩ := fin (nmAt (1 + st) sh ((i : Int) + 1)) (by have := nm_rng (k := (i : Int) + 1) st0 st1 sh0 sh1 (by omega) (by omega); omega)
      exact ⟨cs2, _, _, _, e2, e3, rfl, e1, rfl, rfl⟩
  · rintro ρ ⟨cs, x6, x10, x11, hk, hv, rfl⟩
    rw [range_len] at hk
    have cl' : cs.length = c.toNat := by have := congrArg List.length hk; rwa [keysI, List.length_map, nms_len] at this
    have nd : (keysI cs).Nodup := by rw [hk]; exact nms_nd st0 _
    have hkr : ∀ p ∈ cs, 1 ≤ p.1 ∧ p.1 ≤ 1000 := fun p hp => by
      have : p.1 ∈ keysI cs := List.mem_map.mpr ⟨p, hp, rfl⟩
      rw [hk] at this
      obtain ⟨k, hk1, hk2⟩ := List.mem_map.mp this
      rw [List.mem_range] at hk1
      rw [← hk2]
      exact nm_rng st0 st1 sh0 sh1 (by omega) (by omega)
    unfold w_law_state_t9
    walk_at "dy"
    unfold w_law_state_t8
    walk_at "dy"
    refine ⟨by omega, by omega, ?_⟩
    refine for_go (fun i (ρ : Rho) => ∃ (vs : List Int) (x6 x10 x11 x13 : Option R), vs.length = i ∧ (∀ p ∈ vs, 0 ≤ p ∧ p ≤ 1000) ∧ ρ = [some .g, some (.s (.int m)), some (.s (.int mo)), some (.s (.int (1 + st))), some (.s (.int sh)), some (.l true nms), x6, some (.s (.int c)), some (.l true (nms.take c.toNat)), some (.l true (cs.map prD)), x10, x11, some (.l true (vs.map PyData.int)), x13]) ?_ ?_ ?_
    · exact ⟨[], _, _, _, _, rfl, by simp, rfl⟩
    · rintro i d ρ hd ⟨vs, x6, x10, x11, x13, hl, hv, rfl⟩
      obtain ⟨rfl, hi⟩ := range0_at hd
      walk_at "dy"
      unfold w_law_state_b6
      walk_at "dy"
      refine ⟨by decide, by decide, fun kd kd0 kd1 => ?_⟩
      unfold w_law_state_t5 w_law_state_t4
      walk_at "dy"
      have sm : (vs.map PyData.int).length < 16777216 := by rw [List.length_map]; omega
      have fin : ∀ v : Int, 0 ≤ v ∧ v ≤ 1000 → ∃ vs2 : List Int, vs2.length = i + 1 ∧ (∀ p ∈ vs2, 0 ≤ p ∧ p ≤ 1000) ∧ vs.map PyData.int ++ [.int v] = vs2.map PyData.int := fun v hv' => by
        refine ⟨vs ++ [v], by simp [hl], fun p hp => ?_, by simp⟩
        rcases List.mem_append.mp hp with hp | hp
        · exact hv p hp
        · rw [List.mem_singleton.mp hp]; exact hv'
      have nmr : ∀ r : Int, 0 ≤ r → r ≤ 20 → 0 ≤ nmAt (1 + st) sh r ∧ nmAt (1 + st) sh r ≤ 1000 := fun r r0 r1 => by have := nm_rng st0 st1 sh0 sh1 r0 (k := r) (by omega); omega
      have z01 : ∀ v : Int, 0 ≤ v ∧ v ≤ 1000 → ∀ (a b d : Option R), ∃ (vs_1 : List Int) (y6 y10 y11 y13 : Option R), vs_1.length = i + 1 ∧ (∀ p ∈ vs_1, 0 ≤ p ∧ p ≤ 1000) ∧ a = y6 ∧ b = y10 ∧ x11 = y11 ∧ vs.map PyData.int ++ [.int v] = vs_1.map PyData.int ∧ d = y13 := fun v hv' a b d => by
        obtain ⟨vs2, e1, e2, e3⟩ := fin v hv'
        exact ⟨vs2, _, _, _, _, e1, e2, rfl, rfl, rfl, e3, rfl⟩
      refine ite_both (fun _ => ite_both (fun _ => ⟨sm, z01 0 (by omega) _ _ _⟩) fun _ => ite_both (fun _ => ⟨by omega, by omega, fun r r0 r1 => ⟨_, nat _ (by omega) (by omega), sm, z01 _ (nmr _ (by omega) (by omega)) _ _ _⟩⟩) fun _ => ⟨_, nat 0 (by omega) (by omega), sm, z01 _ (nmr _ (by omega) (by omega)) _ _ _⟩) fun _ => ite_both (fun _ => ite_both (fun _ => ⟨sm, z01 0 (by omega) _ _ _⟩) fun _ => ite_both (fun _ => ⟨by omega, by omega, fun r r0 r1 => ⟨_, nat _ (by omega) (by omega), sm, z01 _ (nmr _ (by omega) (by omega)) _ _ _⟩⟩) fun _ => ⟨_, nat 0 (by omega) (by omega), sm, z01 _ (nmr _ (by omega) (by omega)) _ _ _⟩) fun hc => ?_
      have hc0 : 0 < c := by
        rcases Int.lt_or_eq_of_le c0 with h | h
        · exact h
        · exfalso; rw [← h] at hc; cases hc
      refine ⟨hc0, by omega, fun r r0 r1 => ite_both (fun _ => ⟨sm, z01 0 (by omega) _ _ _⟩) fun _ => ite_both (fun _ => ⟨by omega, by omega, fun r' r0' r1' => ⟨_, nat _ (by omega) (by omega), sm, z01 _ (nmr _ (by omega) (by omega)) _ _ _⟩⟩) fun _ => ⟨_, nat r (by omega) (by omega), sm, z01 _ (nmr _ (by omega) (by omega)) _ _ _⟩⟩
    · rintro ρ ⟨vs, x6, x10, x11, x13, hl, hv2, rfl⟩
      rw [range_len] at hl
      unfold w_law_state_t7
      walk_at "dy"
      rw [sortD_pr]
      refine ⟨srt_pr _ (by omega), ?_⟩
      refine q vs (sortP cs) ⟨by omega, ⟨by omega, fun v hv => by have := hv2 v hv; omega⟩, ⟨by rw [(sortP_perm cs).length_eq]; omega, fun p hp => ?_, sortP_srt nd⟩, fun v hv => (hv2 v hv).2, fun p hp => ⟨(hkr p ((sortP_perm cs).mem_iff.mp hp)).2, (hv p ((sortP_perm cs).mem_iff.mp hp)).2⟩⟩ (by rw [(sortP_perm cs).length_eq]; omega)
      have hp' := (sortP_perm cs).mem_iff.mp hp
      have := hkr p hp'
      have := hv p hp'
      omega

/-! whole states: what is kept of a state -/
theorem chase_sub {f : Int → Option Int} : ∀ (n : Nat) (acc : List Int) (p : Int), ∀ x ∈ acc, x ∈ chase f n acc p
  | 0, acc, p, x, h => h
  | n + 1, acc, p, x, h => by
    rw [chase]
    cases e : f p with
    | none => exact h
    | some q =>
      dsimp only
      by_cases hp : p ∈ acc
      · rw [if_pos hp]; exact h
      · rw [if_neg hp]; exact chase_sub n _ q x (List.mem_append_left _ h)
theorem chase_inv {f : Int → Option Int} (I : Int → Prop) (hf : ∀ p q, I p → f p = some q → I q) : ∀ (n : Nat) (acc : List Int) (p : Int), acc.Nodup → (∀ x ∈ acc, I x ∧ (f x).isSome = true) → I p → (chase f n acc p).Nodup ∧ ∀ x ∈ chase f n acc p, I x ∧ (f x).isSome = true
  | 0, acc, p, nd, h, _ => ⟨nd, h⟩
  | n + 1, acc, p, nd, h, hp => by
    rw [chase]
    cases e : f p with
    | none => exact ⟨nd, h⟩
    | some q =>
      dsimp only
      by_cases hm : p ∈ acc
      · rw [if_pos hm]; exact ⟨nd, h⟩
      · rw [if_neg hm]
        refine chase_inv I hf n _ q (nd_snoc nd hm) (fun x hx => ?_) (hf p q hp e)
        rcases List.mem_append.mp hx with hx | hx
        · exact h x hx
        · rw [List.mem_singleton.mp hx]; exact ⟨hp, by rw [e]; rfl⟩
theorem reach_inv {f : Int → Option Int} (I : Int → Prop) (hf : ∀ p q, I p → f p = some q → I q) (n : Nat) : ∀ (vs : List Int) (acc : List Int), (∀ v ∈ vs, I v) → acc.Nodup → (∀ x ∈ acc, I x ∧ (f x).isSome = true) → (vs.foldl (fun acc p => chase f n acc p) acc).Nodup ∧ ∀ x ∈ vs.foldl (fun acc p => chase f n acc p) acc, I x ∧ (f x).isSome = true
  | [], acc, _, nd, h => ⟨nd, h⟩
  | v :: vs, acc, hv, nd, h => by
    obtain ⟨a, b⟩ := chase_inv I hf n acc v nd h (hv v List.mem_cons_self)
    exact reach_inv I hf n vs _ (fun x hx => hv x (List.mem_cons_of_mem _ hx)) a b
theorem fold_sub {f : Int → Option Int} (n : Nat) : ∀ (vs : List Int) (acc : List Int), ∀ x ∈ acc, x ∈ vs.foldl (fun acc p => chase f n acc p) acc
  | [], acc, x, h => h
  | v :: vs, acc, x, h => fold_sub n vs _ x (chase_sub n acc v x h)
/-- f within S -/
def onlyIn (f : Int → Option Int) (S : List Int) : Int → Option Int := fun p => if p ∈ S then f p else none
theorem chase_only {f : Int → Option Int} {S : List Int} : ∀ (n : Nat) (acc : List Int) (p : Int), (∀ x ∈ chase f n acc p, x ∈ S) → chase (onlyIn f S) n acc p = chase f n acc p
  | 0, acc, p, _ => rfl
  | n + 1, acc, p, h => by
    rw [chase, chase]
    rw [chase] at h
    cases e : f p with
    | none =>
      have : onlyIn f S p = none := by unfold onlyIn; split; exact e; rfl
      rw [this]
    | some q =>
      rw [e] at h
      dsimp only at h ⊢
      by_cases hm : p ∈ acc
      · unfold onlyIn
        simp only [hm, if_true]
        split <;> rfl
      · rw [if_neg hm] at h
        have hp : p ∈ S := h p (chase_sub _ _ _ _ (by simp))
        have : onlyIn f S p = some q := by unfold onlyIn; rw [if_pos hp, e]
        rw [this]
        simp only [hm, if_false]
        exact chase_only n _ q h
theorem fold_only {f : Int → Option Int} {S : List Int} (n : Nat) : ∀ (vs acc : List Int), (∀ x ∈ vs.foldl (fun acc p => chase f n acc p) acc, x ∈ S) → vs.foldl (fun acc p => chase (onlyIn f S) n acc p) acc = vs.foldl (fun acc p => chase f n acc p) acc
  | [], acc, _ => rfl
  | v :: vs, acc, h => by
    rw [List.foldl_cons, List.foldl_cons]
    rw [List.foldl_cons] at h
    rw [chase_only n acc v fun x hx => h x (fold_sub n vs _ x hx)]
    exact fold_only n vs _ h
theorem chase_fuel {f : Int → Option Int} {ks : List Int} (hk : ∀ p, (f p).isSome = true → p ∈ ks) : ∀ (n : Nat) (acc : List Int) (p : Int), acc.Nodup → (∀ x ∈ acc, x ∈ ks) → ks.length + 1 ≤ n + acc.length → chase f (n + 1) acc p = chase f n acc p
  | 0, acc, p, nd, h, hn => by have := nodup_len _ _ nd h; omega
  | n + 1, acc, p, nd, h, hn => by
    rw [chase]
    conv => rhs; rw [chase]
    cases e : f p with
    | none => rfl
    | some q =>
      dsimp only
      by_cases hm : p ∈ acc
      · rw [if_pos hm, if_pos hm]
      · rw [if_neg hm, if_neg hm]
        refine chase_fuel hk n _ q (nd_snoc nd hm) (fun x hx => ?_) (by rw [List.length_append, List.length_singleton]; omega)
        rcases List.mem_append.mp hx with hx | hx
        · exact h x hx
        · rw [List.mem_singleton.mp hx]; exact hk p (by rw [e]; rfl)
theorem fold_fuel {f : Int → Option Int} {ks : List Int} (hk : ∀ p, (f p).isSome = true → p ∈ ks) (n : Nat) (hn : ks.length + 1 ≤ n) : ∀ (vs acc : List Int), acc.Nodup → (∀ x ∈ acc, (f x).isSome = true) → vs.foldl (fun acc p => chase f (n + 1) acc p) acc = vs.foldl (fun acc p => chase f n acc p) acc
  | [], acc, _, _ => rfl
  | v :: vs, acc, nd, h => by
    rw [List.foldl_cons, List.foldl_cons, chase_fuel hk n acc v nd (fun x hx => hk x (h x hx)) (by omega)]
    obtain ⟨a, b⟩ := chase_inv (f := f) (fun _ => True) (fun _ _ _ _ => trivial) n acc v nd (fun x hx => ⟨trivial, h x hx⟩) trivial
    exact fold_fuel hk n hn vs _ a fun x hx => (b x hx).2
theorem reach_fuel {f : Int → Option Int} {ks : List Int} (hk : ∀ p, (f p).isSome = true → p ∈ ks) (vs : List Int) {n : Nat} (hn : ks.length + 1 ≤ n) : reach f n vs = reach f (ks.length + 1) vs := by
  induction n with
  | zero => omega
  | succ n ih =>
    by_cases e : ks.length + 1 = n + 1
    · rw [e]
    · rw [← ih (by omega)]
      exact fold_fuel hk n (by omega) vs [] List.nodup_nil fun x h => nomatch h
theorem reach_some {f : Int → Option Int} (n : Nat) (vs : List Int) : (reach f n vs).Nodup ∧ ∀ x ∈ reach f n vs, (f x).isSome = true := by
  obtain ⟨a, b⟩ := reach_inv (f := f) (fun _ => True) (fun _ _ _ _ => trivial) n vs [] (fun _ _ => trivial) List.nodup_nil fun x h => nomatch h
  exact ⟨a, fun x hx => (b x hx).2⟩
/-- the cells that are come to -/
def keepIn (cs : List (Int × Int)) (F : List Int) : List (Int × Int) := cs.filter fun p => decide (p.1 ∈ F)
theorem keep_get {cs : List (Int × Int)} (F : List Int) (k : Int) : iGet (keepIn cs F) k = onlyIn (iGet cs) F k := by
  unfold onlyIn iGet keepIn
  induction cs with
  | nil => simp
  | cons p r ih =>
    rw [List.filter_cons]
    by_cases hp : p.1 ∈ F
    · rw [decide_eq_true hp, if_pos rfl, List.find?_cons, List.find?_cons]
      by_cases e : p.1 = k
      · subst e; simp [hp]
      · simp only [e, decide_false]; exact ih
    · rw [decide_eq_false hp, if_neg Bool.false_ne_true, ih, List.find?_cons]
      by_cases e : p.1 = k
      · subst e; simp [hp]
      · simp [e]
theorem keep_whole {vs : List Int} {cs : List (Int × Int)} (nd : (keysI cs).Nodup) : wholeB vs (keepIn cs (reach (iGet cs) ((keysI cs).length + 1) vs)) = true := by
  obtain ⟨F, eF⟩ : ∃ F, F = reach (iGet cs) ((keysI cs).length + 1) vs := ⟨_, rfl⟩
  rw [← eF]
  obtain ⟨ndF, hF⟩ := reach_some (f := iGet cs) ((keysI cs).length + 1) vs
  rw [← eF] at ndF hF
  have ndc : (keysI (keepIn cs F)).Nodup := by unfold keysI keepIn; exact (List.Sublist.map _ List.filter_sublist).nodup nd
  have m1 : ∀ x ∈ F, x ∈ keysI (keepIn cs F) := fun x hx => by
    have := (tells_iK cs).inn x (hF x hx)
    obtain ⟨p, hp, e⟩ := List.mem_map.mp this
    exact List.mem_map.mpr ⟨p, List.mem_filter.mpr ⟨hp, by rw [e]; exact decide_eq_true hx⟩, e⟩
  have m2 : ∀ x ∈ keysI (keepIn cs F), x ∈ F := fun x hx => by
    obtain ⟨p, hp, e⟩ := List.mem_map.mp hx
    have := (List.mem_filter.mp hp).2
    rw [← e]; exact of_decide_eq_true this
  have l1 := nodup_len _ _ ndF m1
  have l2 := nodup_len _ _ ndc m2
  have lk : (keysI (keepIn cs F)).length = (keepIn cs F).length := by unfold keysI; rw [List.length_map]
  unfold wholeB
  rw [decide_eq_true_iff]
  have e1 : iGet (keepIn cs F) = onlyIn (iGet cs) F := funext (keep_get F)
  have big : reach (onlyIn (iGet cs) F) ((keysI cs).length + 1) vs = F := by
    rw [eF]
    unfold reach
    refine fold_only _ vs [] fun x hx => ?_
    exact hx
  have hk : ∀ p, (iGet (keepIn cs F) p).isSome = true → p ∈ keysI (keepIn cs F) := (tells_iK _).inn
  have lle : (keysI (keepIn cs F)).length ≤ (keysI cs).length := by
    unfold keysI keepIn; rw [List.length_map, List.length_map]; exact List.length_filter_le _ _
  have := reach_fuel hk vs (n := (keysI cs).length + 1) (by omega)
  rw [e1] at this ⊢
  rw [← lk, ← this, big]
  omega
theorem loose_not {vs : List Int} {cs : List (Int × Int)} {far z : Int} (h1 : ∀ v ∈ vs, v < far) (h2 : ∀ p ∈ cs, p.1 < far ∧ p.2 < far) : wholeB vs (cs ++ [(far, z)]) = false := by
  unfold wholeB
  rw [decide_eq_false_iff_not]
  intro h
  obtain ⟨nd, hr⟩ := reach_inv (f := iGet (cs ++ [(far, z)])) (fun x => x < far) (fun p q ip e => by
    unfold iGet at e
    cases e' : (cs ++ [(far, z)]).find? fun z => decide (z.1 = p) with
    | none => rw [e'] at e; cases e
    | some y =>
      rw [e'] at e
      cases e
      have := List.mem_of_find?_eq_some e'
      have ey := List.find?_some e'
      rcases List.mem_append.mp this with hz | hz
      · exact (h2 y hz).2
      · rw [List.mem_singleton.mp hz] at ey
        have : far = p := by simpa using ey
        omega) ((cs ++ [(far, z)]).length + 1) vs [] h1 List.nodup_nil fun x h => nomatch h
  have := nodup_len _ (keysI cs) nd fun x hx => by
    obtain ⟨lt, sm⟩ := hr x hx
    have := (tells_iK (cs ++ [(far, z)])).inn x sm
    obtain ⟨p, hp, e⟩ := List.mem_map.mp this
    rcases List.mem_append.mp hp with hp | hp
    · exact List.mem_map.mpr ⟨p, hp, e⟩
    · rw [List.mem_singleton.mp hp] at e; simp only at e; omega
  unfold reach at h
  rw [h] at this
  unfold keysI at this
  rw [List.length_append, List.length_singleton, List.length_map] at this
  omega

theorem keep_all (cs : List (Int × Int)) (F : List Int) : (keepIn cs F).map prD = ((cs.filter fun p => decide (p.1 ∈ F)).map prD) := rfl
theorem chase_ok {f : Int → Option Int} {n : Nat} {acc : List Int} {p : Int} (nd : acc.Nodup) (h : ∀ x ∈ acc, (f x).isSome = true) : (chase f n acc p).Nodup ∧ ∀ x ∈ chase f n acc p, (f x).isSome = true := by
  obtain ⟨a, b⟩ := chase_inv (f := f) (fun _ => True) (fun _ _ _ _ => trivial) n acc p nd (fun x hx => ⟨trivial, h x hx⟩) trivial
  exact ⟨a, fun x hx => (b x hx).2⟩
def left2' (n : Nat) (ρ : Rho) : Nat := n - lenAt 2 ρ
def c_law_whole : Ct := fun rs Q _ => ∃ vs cs, rs = [.s (stD vs cs)] ∧ (keysI cs).Nodup ∧ cs.length ≤ 1000 ∧ Q (.s (stD vs (keepIn cs (reach (iGet cs) ((keysI cs).length + 1) vs))))
theorem d_law_whole {K : Frag} {cl : Ad} : ∀ rs Q E, c_law_whole rs Q E → w_law_whole K cl (rho N_law_whole.length rs) { nx := fun _ => Q (.s .none), rt := Q, er := fun cls _ => E cls } := by
  rintro rs Q E ⟨vs, cs, rfl, nd, few, q⟩
  have es : stD vs cs = .tuple [.tuple (vs.map .int), .tuple (cs.map prD)] := rfl
  unfold w_law_whole
  rw [es]
  walk_at "dy"
  rw [← es]
  refine ⟨_, pairsK_cs cs, ?_⟩
  rw [dict_cs nd]
  obtain ⟨f, ef⟩ : ∃ f, f = iGet cs := ⟨_, rfl⟩
  obtain ⟨ks, ek⟩ : ∃ ks, ks = keysI cs := ⟨_, rfl⟩
  have T : Tells (iK cs) f ks := by rw [ef, ek]; exact tells_iK cs
  have hk : ks.length ≤ 1000 := by rw [ek]; unfold keysI; rw [List.length_map]; exact few
  rw [← ef, ← ek] at q
  refine for_go (fun i (ρ : Rho) => ∃ v3, ρ = [some (.s (stD vs cs)), some (.k true (iK cs)), some (.l true ((reach f (ks.length + 1) (vs.take i)).map PyData.int)), v3, none] ∧ (reach f (ks.length + 1) (vs.take i)).Nodup ∧ ∀ x ∈ reach f (ks.length + 1) (vs.take i), x ∈ ks) ⟨none, rfl, by simp [reach], by simp [reach]⟩ ?_ ?_
  · rintro i d ρ hd ⟨v3, rfl, nd, inn⟩
    obtain ⟨n, hn, rfl⟩ := int_at hd
    have st : reach f (ks.length + 1) (vs.take (i + 1)) = chase f (ks.length + 1) (reach f (ks.length + 1) (vs.take i)) n := by
      rw [take_at hn]
      simp [reach, List.foldl_append]
    rw [st]
    generalize reach f (ks.length + 1) (vs.take i) = acc0 at nd inn ⊢
    walk_at "dy"
    unfold w_law_whole_b2
    refine while_go (fun ρ' => ∃ acc p m, ρ' = [some (.s (stD vs cs)), some (.k true (iK cs)), some (.l true (acc.map PyData.int)), some (.s (.int p)), none] ∧ chase f m acc p = chase f (ks.length + 1) acc0 n ∧ ks.length + 1 ≤ m + acc.length ∧ acc.Nodup ∧ ∀ x ∈ acc, x ∈ ks)
      (left2' ks.length) ⟨acc0, n, _, rfl, rfl, by omega, nd, inn⟩ ?_
    rintro ρ' ⟨acc, p, m, rfl, hc, hm, nd', inn'⟩
    walk_at "dy"
    have stop : (f p = none ∨ p ∈ acc) → chase f (ks.length + 1) acc0 n = acc := fun h => by rw [← hc]; exact chase_stop h
    rw [T.get p]
    cases e : f p with
    | none =>
      rw [if_neg (by simp), stop (.inl e)]
      exact ⟨_, ⟨rfl, rfl⟩, nd', inn'⟩
    | some q' =>
      rw [if_pos (show (Option.map PyData.int (some q')).isSome = true from rfl)]
      refine ⟨flat_ints acc, ?_⟩
      rw [inD_ints]
      have pk : p ∈ ks := T.inn p (by rw [e]; rfl)
      by_cases hp : p ∈ acc
      · rw [decide_eq_true hp, if_neg (by simp), stop (.inr hp)]
        exact ⟨_, ⟨rfl, rfl⟩, nd', inn'⟩
      · rw [decide_eq_false hp, if_pos (show (!false) = true from rfl)]
        have nd2 : (acc ++ [p]).Nodup := nd_snoc nd' hp
        have in2 : ∀ x ∈ acc ++ [p], x ∈ ks := fun x hx => by
          rcases List.mem_append.mp hx with hx | hx
          · exact inn' x hx
          · rw [List.mem_singleton.mp hx]; exact pk
        have ln := nodup_len _ _ nd2 in2
        rw [List.length_append, List.length_singleton] at ln
        unfold w_law_whole_b1
        walk_at "dy"
        refine ⟨by rw [List.length_map]; omega, .int q', by rw [T.get p, e]; rfl, ⟨acc ++ [p], q', m - 1, ⟨by rw [List.map_append]; rfl, rfl⟩, ?_, ?_, nd2, in2⟩, ?_⟩
        · rw [← chase_go e hp, show m - 1 + 1 = m by omega]
          exact hc
        · rw [List.length_append, List.length_singleton]
          omega
        · simp only [left2', lenAt, List.getElem?_cons_succ, List.getElem?_cons_zero, List.length_append, List.length_map, List.length_singleton]
          omega
  · rintro ρ ⟨v3, rfl, _, _⟩
    rw [List.length_map, List.take_length]
    rw [es]
    walk_at "dy"
    rw [← es]
    generalize reach f (ks.length + 1) vs = F at q ⊢
    refine lc_go (fun k => (keepIn (cs.take k) F).map prD) rfl (fun k d hd => ?_) ?_
    · obtain ⟨p, hp, rfl⟩ := pr_at hd
      rw [gwN1]
      refine ⟨by simp, ?_⟩
      simp only [putA, wipeR, List.set_cons_succ, List.set_cons_zero]
      have hp' : prD p = .tuple [.int p.1, .int p.2] := rfl
      rw [hp']
      walk_at "dy"
      refine ⟨flat_ints F, ?_⟩
      rw [inD_ints]
      have sm : (List.map prD (keepIn (List.take k cs) F)).length < 16777216 := by
        rw [List.length_map]
        have := List.length_filter_le (fun p : Int × Int => decide (p.1 ∈ F)) (cs.take k)
        rw [List.length_take] at this
        unfold keepIn
        omega
      have tk' : keepIn (cs.take (k + 1)) F = if p.1 ∈ F then keepIn (cs.take k) F ++ [p] else keepIn (cs.take k) F := by
        rw [take_at hp, keepIn, List.filter_append]
        by_cases h : p.1 ∈ F <;> simp [h, keepIn]
      by_cases h : p.1 ∈ F
      · rw [decide_eq_true h, if_pos rfl, tk', if_pos h, List.map_append]
        exact ⟨sm, rfl⟩
      · rw [decide_eq_false h, if_neg Bool.false_ne_true, tk', if_neg h]
    · rw [List.length_map, List.take_length]
      walk_at "dy"
      exact q
def c_law_whole_state (mo : Nat) : Ct := fun rs Q _ => ∃ (m : Int), rs = [.g, .s (.int m), .s (.int (mo : Int))] ∧ mo ≤ 17 ∧ 0 ≤ m ∧ m ≤ 4 ∧ ∀ vs cs, StOk m vs cs → cs.length ≤ mo → wholeB vs cs = true → Q (.s (stD vs cs))
theorem OkCs.keep {cs : List (Int × Int)} (h : OkCs cs) (F : List Int) : OkCs (keepIn cs F) := ⟨Nat.le_trans (List.length_filter_le _ _) h.few, fun p hp => h.rng p (List.mem_filter.mp hp).1, h.srt.filter _⟩
theorem d_law_whole_state {K : Frag} {cl : Ad} (mo : Nat) : ∀ rs Q E, c_law_whole_state mo rs Q E → w_law_whole_state K cl (c_law_state mo) c_law_whole (rho N_law_whole_state.length rs) { nx := fun _ => Q (.s .none), rt := Q, er := fun cls _ => E cls } := by
  rintro rs Q E ⟨m, rfl, mo1, m0, m1, q⟩
  unfold w_law_whole_state
  walk_at "dy"
  refine ⟨m, rfl, mo1, m0, m1, fun vs cs ok few => ?_⟩
  walk_at "dy"
  refine ⟨vs, cs, rfl, ok.nd, by omega, q _ _ ⟨ok.len, ok.ov, ok.oc.keep _, ok.sm.1, fun p hp => ok.sm.2 p (List.mem_filter.mp hp).1⟩ ?_ (keep_whole ok.nd)⟩
  have := List.length_filter_le (fun p : Int × Int => decide (p.1 ∈ reach (iGet cs) ((keysI cs).length + 1) vs)) cs
  unfold keepIn
  omega

theorem step_head {n : Int} {d : D} {w : Str} {v o : Int} (h : StepIs n d w v o) : ∃ r, d = .tuple (.str w :: r) := by
  rcases h with ⟨_, _, ⟨rfl, rfl, _⟩ | ⟨rfl, rfl, _⟩ | ⟨rfl, rfl, _⟩ | ⟨rfl, rfl, _⟩ | ⟨rfl, rfl, _⟩⟩ <;> exact ⟨_, rfl⟩
theorem step_word {n : Int} {d : D} {w : Str} {v o : Int} (h : StepIs n d w v o) : Sh (.str w) ∧ (w == "if") = false ∧ PyData.eqv (.str w) (.str "if") = false := by
  rcases h with ⟨_, _, ⟨rfl, _⟩ | ⟨rfl, _⟩ | ⟨rfl, _⟩ | ⟨rfl, _⟩ | ⟨rfl, _⟩⟩ <;> exact ⟨sh_words _ (by simp), by decide, by decide⟩
theorem step_sh {n : Int} {d : D} {w : Str} {v o : Int} (h : StepIs n d w v o) : Shn 2 d := by
  rcases h with ⟨_, _, ⟨rfl, rfl, _⟩ | ⟨rfl, rfl, _⟩ | ⟨rfl, rfl, _⟩ | ⟨rfl, rfl, _⟩ | ⟨rfl, rfl, _⟩⟩ <;> refine shn_tup fun x hx => ?_ <;> simp only [List.mem_cons, List.not_mem_nil, or_false] at hx
  all_goals first | (rcases hx with rfl | rfl | rfl) | (rcases hx with rfl | rfl)
  all_goals first | exact shn_int _ _ | exact shn_str _ (sh_words _ (by simp))
theorem eff_few {vs : List Int} {cs : List (Int × Int)} {t : Int} {w : Str} {v o : Int} {vs' : List Int} {l' : List (Int × Int)} {t' : Int} (nd : (keysI cs).Nodup) (h : eff vs cs t w v o = some (vs', l', t')) : (keysI l').Nodup ∧ l'.length ≤ cs.length + 1 := by
  unfold eff at h
  split at h
  · cases h; exact ⟨nd, by omega⟩
  · split at h
    · split at h
      · cases h; exact ⟨nd, by omega⟩
      · cases h
    · split at h
      · split at h
        · cases h; exact ⟨iPut_keys _ _ nd, by have := iPut_len cs (plc vs v) (plc vs o); omega⟩
        · cases h
      · split at h
        · split at h
          · cases h; exact ⟨iDrop_keys _ nd, by have := iDrop_len cs (plc vs v); omega⟩
          · cases h
        · cases h; exact ⟨iPut_keys _ _ nd, by have := iPut_len cs (t + 1) 0; omega⟩
theorem eff_vs {vs : List Int} {cs : List (Int × Int)} {t : Int} {w : Str} {v o : Int} {vs' : List Int} {l' : List (Int × Int)} {t' : Int} (h : eff vs cs t w v o = some (vs', l', t')) : vs'.length = vs.length := by
  unfold eff at h
  split at h
  · cases h; simp
  · split at h
    · split at h
      · cases h; simp
      · cases h
    · split at h
      · split at h
        · cases h; simp
        · cases h
      · split at h
        · split at h
          · cases h; simp
          · cases h
        · cases h; simp
/-! runs, as plain functions -/
theorem sortP_id {l : List (Int × Int)} (h : l.Pairwise fun p q => p.1 < q.1) : sortP l = l := by
  refine List.mergeSort_of_pairwise (h.imp fun a => ?_)
  rw [decide_eq_true_iff]
  exact .inl a
theorem sortP_eq {l l' : List (Int × Int)} (h : l.Perm l') (nd : (keysI l).Nodup) : sortP l = sortP l' := by
  have nd' : (keysI l').Nodup := (h.map _).nodup nd
  have p : (sortP l).Perm (sortP l') := (sortP_perm l).trans (h.trans (sortP_perm l').symm)
  exact p.eq_of_pairwise (le := fun p q => p.1 < q.1) (fun a b _ _ h1 h2 => by omega) (sortP_srt nd) (sortP_srt nd')
theorem whole_perm {vs : List Int} {l l' : List (Int × Int)} (h : l.Perm l') (nd : (keysI l).Nodup) : wholeB vs l = wholeB vs l' := by
  unfold wholeB
  rw [iGet_perm h nd, h.length_eq]
theorem put_perm {l l' : List (Int × Int)} (h : l.Perm l') (k v : Int) : (iPut l k v).Perm (iPut l' k v) := by
  unfold iPut
  have e : (l.any fun p => decide (p.1 = k)) = (l'.any fun p => decide (p.1 = k)) := by
    rw [Bool.eq_iff_iff, List.any_eq_true, List.any_eq_true]
    exact ⟨fun ⟨x, hx, q⟩ => ⟨x, h.mem_iff.mp hx, q⟩, fun ⟨x, hx, q⟩ => ⟨x, h.mem_iff.mpr hx, q⟩⟩
  rw [e]
  split
  · exact h.map _
  · exact h.append_right _
theorem eff_perm {vs : List Int} {l l' : List (Int × Int)} {t : Int} {w : Str} {v o : Int} (h : l.Perm l') (nd : (keysI l).Nodup) :
    (eff vs l t w v o = none ∧ eff vs l' t w v o = none) ∨ ∃ vs' a b t', eff vs l t w v o = some (vs', a, t') ∧ eff vs l' t w v o = some (vs', b, t') ∧ a.Perm b := by
  unfold eff
  rw [iGet_perm h nd]
  split
  · exact .inr ⟨_, _, _, _, rfl, rfl, h⟩
  · split
    · split
      · exact .inr ⟨_, _, _, _, rfl, rfl, h⟩
      · exact .inl ⟨rfl, rfl⟩
    · split
      · split
        · exact .inr ⟨_, _, _, _, rfl, rfl, put_perm h _ _⟩
        · exact .inl ⟨rfl, rfl⟩
      · split
        · split
          · exact .inr ⟨_, _, _, _, rfl, rfl, h.filter _⟩
          · exact .inl ⟨rfl, rfl⟩
        · exact .inr ⟨_, _, _, _, rfl, rfl, put_perm h _ _⟩
def condB (vs : List Int) : D → Bool
  | .tuple [.str w, .int i, .int j] => (plc vs i == plc vs j) == (w == "same")
  | _ => false
def effP (vs : List Int) (l : List (Int × Int)) (t : Int) : D → Option (List Int × List (Int × Int) × Int)
  | .tuple [.str w, .int v, .int o] => eff vs l t w v o
  | .tuple [.str w, .int v] => eff vs l t w v v
  | _ => none
theorem effP_is {n : Int} {d : D} {w : Str} {v o : Int} (h : StepIs n d w v o) (vs : List Int) (l : List (Int × Int)) (t : Int) : effP vs l t d = eff vs l t w v o := by
  rcases h with ⟨_, _, ⟨rfl, rfl, _⟩ | ⟨rfl, rfl, _⟩ | ⟨rfl, rfl, _⟩ | ⟨rfl, rfl, rfl⟩ | ⟨rfl, rfl, rfl⟩⟩ <;> rfl
def runF : Nat → List D → List Int → List (Int × Int) → Int → Str × List D × List D
  | 0, _, _, _, _ => ("end", [], [])
  | _ + 1, [], _, _, _ => ("end", [], [])
  | f + 1, p :: r, vs, cs, t => match p with
    | .tuple [_, c, .tuple a, .tuple b] => if condB vs c = true then runF f (a ++ r) vs cs t else runF f (b ++ r) vs cs t
    | p => match effP vs cs t p with
      | none => ("wrong", [p], [])
      | some (vs', l', t') => if wholeB vs' l' = true then ((runF f r vs' (sortP l') t').1, p :: (runF f r vs' (sortP l') t').2.1, stD vs' (sortP l') :: (runF f r vs' (sortP l') t').2.2) else ("leak", [p], [])
theorem runF_step {n : Int} {f : Nat} {d : D} {w : Str} {v o : Int} {r : List D} {vs : List Int} {cs : List (Int × Int)} {t : Int} (h : StepIs n d w v o) : runF (f + 1) (d :: r) vs cs t = match eff vs cs t w v o with
      | none => ("wrong", [d], [])
      | some (vs', l', t') => if wholeB vs' l' = true then ((runF f r vs' (sortP l') t').1, d :: (runF f r vs' (sortP l') t').2.1, stD vs' (sortP l') :: (runF f r vs' (sortP l') t').2.2) else ("leak", [d], []) := by
  rcases h with ⟨_, _, ⟨rfl, rfl, _⟩ | ⟨rfl, rfl, _⟩ | ⟨rfl, rfl, _⟩ | ⟨rfl, rfl, rfl⟩ | ⟨rfl, rfl, rfl⟩⟩ <;> rfl
theorem runF_br {f : Nat} {x c : D} {a b r : List D} {vs : List Int} {cs : List (Int × Int)} {t : Int} : runF (f + 1) (.tuple [x, c, .tuple a, .tuple b] :: r) vs cs t = if condB vs c = true then runF f (a ++ r) vs cs t else runF f (b ++ r) vs cs t := rfl
/-- the size of a part -/
def szN (n : Int) (p : D) : Nat := ((ptD n 4 p).getD 0).toNat
def tot (n : Int) (T : List D) : Nat := (T.map (szN n)).sum
theorem tot_cons (n : Int) (p : D) (T : List D) : tot n (p :: T) = szN n p + tot n T := by simp [tot]
theorem tot_app (n : Int) (S T : List D) : tot n (S ++ T) = tot n S + tot n T := by simp [tot]
def IsPt (n : Int) (p : D) : Prop := ∃ z, ptD n 4 p = some z ∧ 1 ≤ z
theorem szN_pos {n : Int} {p : D} (h : IsPt n p) : 1 ≤ szN n p := by
  obtain ⟨z, e, hz⟩ := h
  unfold szN
  rw [e]
  show 1 ≤ z.toNat
  omega
theorem tot_len {n : Int} : ∀ {T : List D}, (∀ p ∈ T, IsPt n p) → T.length ≤ tot n T
  | [], _ => Nat.le_refl _
  | p :: T, h => by
    rw [tot_cons, List.length_cons]
    have := szN_pos (h p List.mem_cons_self)
    have := tot_len fun q hq => h q (List.mem_cons_of_mem _ hq)
    omega
theorem pt_pos {n : Int} : ∀ {k : Nat} {p : D} {z : Int}, ptD n k p = some z → 1 ≤ z := by
  intro k
  induction k with
  | zero =>
    intro p z h
    rcases pt_cases h with ⟨_, _, _, _, _, _, rfl⟩ | ⟨k', _, _, _, _, _, e, _⟩
    · decide
    · cases e
  | succ k ih =>
    intro p z h
    rcases pt_cases h with ⟨_, _, _, _, _, _, rfl⟩ | ⟨k', c, a, b, x, y, e, _, _, ha, hb, rfl⟩
    · decide
    · cases e
      have nn : ∀ {d : D} {x : Int}, szD n k d = some x → 0 ≤ x := fun {d x} hd => by
        obtain ⟨l, rfl, _, hl⟩ := sz_tuple hd
        rw [sizeL_sum l 0 x hl]
        have : ∀ l : List D, 0 ≤ (l.map fun p => (ptD n k p).getD 0).sum := fun l => by
          induction l with
          | nil => exact Int.le_refl _
          | cons q l ihl =>
            rw [List.map_cons, List.sum_cons]
            have : 0 ≤ (ptD n k q).getD 0 := by
              cases e : ptD n k q with
              | none => exact Int.le_refl _
              | some m => have := ih e; show 0 ≤ m; omega
            omega
        have := this l
        omega
      have := nn ha
      have := nn hb
      omega
theorem parts_of {n : Int} {k : Nat} {l : List D} {z : Int} (hk : k ≤ 4) (h : sizeL (ptD n k) l 0 = some z) : (∀ p ∈ l, IsPt n p) ∧ (tot n l : Int) = z := by
  have up : ∀ p ∈ l, ∃ m, ptD n k p = some m ∧ ptD n 4 p = some m := fun p hp => by
    obtain ⟨m, hm⟩ := Option.isSome_iff_exists.mp (sizeL_mem (by rw [h]; rfl) p hp)
    have := pt_up hm (4 - k)
    rw [show k + (4 - k) = 4 by omega] at this
    exact ⟨m, hm, this⟩
  refine ⟨fun p hp => ?_, ?_⟩
  · obtain ⟨m, h1, h2⟩ := up p hp
    exact ⟨m, h2, pt_pos h1⟩
  · rw [sizeL_sum l 0 z h, Int.zero_add]
    clear h
    induction l with
    | nil => rfl
    | cons p l ih =>
      rw [tot_cons, List.map_cons, List.sum_cons]
      obtain ⟨m, h1, h2⟩ := up p List.mem_cons_self
      have := ih fun q hq => up q (List.mem_cons_of_mem _ hq)
      have hp := pt_pos h1
      unfold szN
      rw [h1, h2]
      show ((m.toNat + tot n l : Nat) : Int) = m + _
      omega
theorem isCond_is {n : Int} {d : D} (h : isCond n d = true) : ∃ w i j, CondIs n d w i j := by
  unfold isCond at h
  split at h
  · simp only [Bool.and_eq_true] at h
    obtain ⟨⟨h1, h2⟩, h3⟩ := h
    obtain ⟨i, rfl, i0, i1⟩ := within_is h2
    obtain ⟨j, rfl, j0, j1⟩ := within_is h3
    obtain ⟨x, rfl, hx⟩ := word_cases (ws := ["same", "unlike"]) h1
    simp only [List.mem_cons, List.not_mem_nil, or_false] at hx
    exact ⟨x, i, j, hx, rfl, by omega, by omega, by omega, by omega⟩
  · cases h
/-- a part is a step, or a branch -/
theorem part_is {n : Int} {p : D} (h : IsPt n p) : (∃ w v o, StepIs n p w v o ∧ szN n p = 1) ∨
    ∃ c w i j a b, p = .tuple [.str "if", c, .tuple a, .tuple b] ∧ CondIs n c w i j ∧ (∀ q ∈ a, IsPt n q) ∧ (∀ q ∈ b, IsPt n q) ∧ szN n p = 1 + tot n a + tot n b := by
  obtain ⟨z, e, hz⟩ := h
  have es : szN n p = z.toNat := by unfold szN; rw [e]; rfl
  rcases pt_cases e with ⟨w, r, rfl, _, _, hs, rfl⟩ | ⟨k', c, a, b, x, y, ek, rfl, ns, ha, hb, rfl⟩
  · obtain ⟨w, v, o, h⟩ := isStep_is hs
    exact .inl ⟨w, v, o, h, es⟩
  · cases ek
    obtain ⟨la, rfl, _, h1⟩ := sz_tuple ha
    obtain ⟨lb, rfl, _, h2⟩ := sz_tuple hb
    obtain ⟨a1, a2⟩ := parts_of (by decide) h1
    obtain ⟨b1, b2⟩ := parts_of (by decide) h2
    have hc : isCond n c = true := by
      unfold ptD at e
      rw [ns, if_neg Bool.false_ne_true] at e
      simp only [brD, branchOf] at e
      split at e
      · rename_i h
        simp only [Bool.and_eq_true] at h
        exact h.2
      · cases e
    obtain ⟨w, i, j, hc⟩ := isCond_is hc
    refine .inr ⟨c, w, i, j, la, lb, rfl, hc, a1, b1, ?_⟩
    rw [es]
    omega
theorem condB_is {n : Int} {c : D} {w : Str} {i j : Int} (h : CondIs n c w i j) (vs : List Int) : condV vs w i j = .bool (condB vs c) := by
  obtain ⟨_, rfl, _⟩ := h
  rfl
/-- the steps that are taken do the same -/
theorem runF_again {n : Int} : ∀ (f : Nat) (T : List D) (vs : List Int) (cs : List (Int × Int)) (t : Int), (vs.length : Int) = n → (∀ p ∈ T, IsPt n p) → (∀ s ∈ (runF f T vs cs t).2.1, ∃ w v o, StepIs n s w v o) ∧ (runF f T vs cs t).2.1.length ≤ f ∧
    ∀ g, (runF f T vs cs t).2.1.length ≤ g → runF g (runF f T vs cs t).2.1 vs cs t = runF f T vs cs t
  | 0, T, vs, cs, t, hn, hp => ⟨fun s h => (nomatch h), Nat.zero_le _, fun g _ => by cases g <;> rfl⟩
  | f + 1, [], vs, cs, t, hn, hp => ⟨fun s h => (nomatch h), Nat.zero_le _, fun g _ => by cases g <;> rfl⟩
  | f + 1, p :: r, vs, cs, t, hn, hp => by
    have hr : ∀ q ∈ r, IsPt n q := fun q hq => hp q (List.mem_cons_of_mem _ hq)
    rcases part_is (hp p List.mem_cons_self) with ⟨w, v, o, hs, _⟩ | ⟨c, w, i, j, a, b, rfl, hc, ha, hb, _⟩
    · rw [runF_step hs]
      cases he : eff vs cs t w v o with
      | none =>
        refine ⟨fun s h => by rw [List.mem_singleton.mp h]; exact ⟨w, v, o, hs⟩, by simp, fun g hg => ?_⟩
        match g, hg with
        | g + 1, _ =>
          show runF (g + 1) [p] vs cs t = _
          rw [runF_step hs, he]
      | some z =>
        obtain ⟨vs', l', t'⟩ := z
        dsimp only
        cases hw : wholeB vs' l' with
        | false =>
          rw [if_neg Bool.false_ne_true]
          refine ⟨fun s h => by rw [List.mem_singleton.mp h]; exact ⟨w, v, o, hs⟩, by simp, fun g hg => ?_⟩
          match g, hg with
          | g + 1, _ =>
            show runF (g + 1) [p] vs cs t = _
            rw [runF_step hs, he]
            dsimp only
            rw [hw, if_neg Bool.false_ne_true]
        | true =>
          rw [if_pos rfl]
          obtain ⟨i1, i2, i3⟩ := runF_again f r vs' (sortP l') t' (by rw [eff_vs he]; exact hn) hr
          refine ⟨fun s h => ?_, by simp only [List.length_cons]; omega, fun g hg => ?_⟩
          · rcases List.mem_cons.mp h with rfl | h
            · exact ⟨w, v, o, hs⟩
            · exact i1 s h
          · match g, hg with
            | g + 1, hg =>
              dsimp only at hg ⊢
              rw [runF_step hs, he]
              dsimp only
              rw [hw, if_pos rfl, i3 g (by simpa using hg)]
    · rw [runF_br]
      split
      · obtain ⟨i1, i2, i3⟩ := runF_again f (a ++ r) vs cs t hn fun q hq => (List.mem_append.mp hq).elim (ha q) (hr q)
        exact ⟨i1, by omega, i3⟩
      · obtain ⟨i1, i2, i3⟩ := runF_again f (b ++ r) vs cs t hn fun q hq => (List.mem_append.mp hq).elim (hb q) (hr q)
        exact ⟨i1, by omega, i3⟩

theorem within_lay {d : D} {a b : Int} (h : within d a b = true) : PyData.canLay0 d = true ∧ PyData.depth d = 0 := by
  obtain ⟨n, rfl, _⟩ := within_is h
  exact ⟨by simp [PyData.canLay0], by simp [PyData.depth]⟩
theorem word_lay {w : D} {ws : List Str} (h : isWord w (ws.map PyData.str) = true) (hs : ∀ x ∈ ws, PyData.canLay0 (.str x) = true) : PyData.canLay0 w = true ∧ PyData.depth w = 0 := by
  obtain ⟨x, rfl, hx⟩ := word_cases h
  exact ⟨hs x hx, by simp [PyData.depth]⟩
theorem w5_lay {w : D} (h : isWord w W5 = true) : PyData.canLay0 w = true ∧ PyData.depth w = 0 := word_lay (ws := ["set", "follow", "put", "new", "free"]) h (by decide +kernel)
theorem step_lay {n : Int} {p : D} (h : isStep n p = true) : PyData.canLay0 p = true ∧ PyData.depth p ≤ 1 := by
  unfold isStep at h
  split at h
  · simp only [Bool.and_eq_true] at h
    obtain ⟨a1, a2⟩ := w5_lay h.1.1
    obtain ⟨b1, b2⟩ := within_lay h.1.2
    exact ⟨by simp [PyData.canLay0, PyData.canLayAll0, a1, b1], by simp [PyData.depth, PyData.depthAll, a2, b2]⟩
  · simp only [Bool.and_eq_true] at h
    obtain ⟨a1, a2⟩ := w5_lay h.1.1.1
    obtain ⟨b1, b2⟩ := within_lay h.1.1.2
    obtain ⟨c1, c2⟩ := within_lay h.2
    exact ⟨by simp [PyData.canLay0, PyData.canLayAll0, a1, b1, c1], by simp [PyData.depth, PyData.depthAll, a2, b2, c2]⟩
  · cases h
theorem cond_lay {n : Int} {p : D} (h : isCond n p = true) : PyData.canLay0 p = true ∧ PyData.depth p ≤ 1 := by
  unfold isCond at h
  split at h
  · simp only [Bool.and_eq_true] at h
    obtain ⟨a1, a2⟩ := word_lay (ws := ["same", "unlike"]) h.1.1 (by decide +kernel)
    obtain ⟨b1, b2⟩ := within_lay h.1.2
    obtain ⟨c1, c2⟩ := within_lay h.2
    exact ⟨by simp [PyData.canLay0, PyData.canLayAll0, a1, b1, c1], by simp [PyData.depth, PyData.depthAll, a2, b2, c2]⟩
  · cases h
theorem row_lay {f : D → Option Int} {m : Nat} (h : ∀ p z, f p = some z → PyData.canLay0 p = true ∧ PyData.depth p ≤ m) {d : D} {z : Int} (e : rowSize f d = some z) : PyData.canLay0 d = true ∧ PyData.depth d ≤ m + 1 := by
  cases d with
  | tuple l =>
    simp only [rowSize] at e
    by_cases q : l.length ≤ 24
    · rw [if_pos q] at e
      have hm : ∀ p ∈ l, PyData.canLay0 p = true ∧ PyData.depth p ≤ m := fun p hp => by
        obtain ⟨v, hv⟩ := Option.isSome_iff_exists.mp (sizeL_mem (by rw [e]; rfl) p hp)
        exact h p v hv
      have h1 := layAll_of fun p hp => (hm p hp).1
      have h2 := depthAll_le fun p hp => (hm p hp).2
      exact ⟨by simp only [PyData.canLay0, h1], by simp only [PyData.depth]; omega⟩
    · rw [if_neg q] at e; cases e
  | _ => simp [rowSize] at e
theorem pt_lay {n : Int} : ∀ k : Nat, ∀ p z, ptD n k p = some z → PyData.canLay0 p = true ∧ PyData.depth p ≤ 2 * k + 1
  | 0, p, z, e => by
    unfold ptD at e
    cases hs : isStep n p with
    | true => exact step_lay hs
    | false => rw [hs] at e; simp [brD] at e
  | k + 1, p, z, e => by
    rcases pt_cases e with ⟨w, r, rfl, _, _, hs, _⟩ | ⟨k', c, a, b, x, y, hk, rfl, hns, ha, hb, _⟩
    · obtain ⟨h1, h2⟩ := step_lay hs
      exact ⟨h1, by omega⟩
    · cases hk
      rw [szD_eq] at ha hb
      obtain ⟨a1, a2⟩ := row_lay (pt_lay k) ha
      obtain ⟨b1, b2⟩ := row_lay (pt_lay k) hb
      have hc : isCond n c = true := by
        unfold ptD at e
        rw [hns, if_neg Bool.false_ne_true] at e
        simp only [brD, branchOf] at e
        split at e
        · rename_i h
          simp only [Bool.and_eq_true] at h
          exact h.2
        · cases e
      obtain ⟨c1, c2⟩ := cond_lay hc
      have i1 : PyData.canLay0 (.str "if") = true := by decide +kernel
      exact ⟨by simp [PyData.canLay0, PyData.canLayAll0, i1, a1, b1, c1]; simpa [PyData.canLay0] using i1, by simp [PyData.depth, PyData.depthAll]; omega⟩
theorem part_sh {n : Int} {p : D} (h : IsPt n p) : Shn 9 p := by
  obtain ⟨z, e, _⟩ := h
  obtain ⟨a, b⟩ := pt_lay 4 p z e
  exact ⟨a, by omega⟩
theorem todo_sh {n : Int} {T : List D} (h : ∀ p ∈ T, IsPt n p) : Sh (.list T) := (shn_list fun p hp => part_sh (h p hp)).sh (by decide)
theorem tot_rev (n : Int) (T : List D) : tot n T.reverse = tot n T := by
  induction T with
  | nil => rfl
  | cons p T ih => rw [List.reverse_cons, tot_app, ih, tot_cons, tot_cons]; show tot n T + (szN n p + 0) = _; omega
def totAt (n : Int) (i : Nat) (ρ : Rho) : Nat := match ρ[i]? with
  | some (some (.l _ ds)) => tot n ds
  | _ => 0
structure RIn (vs : List Int) (cs : List (Int × Int)) (l : List D) : Prop where
  v4 : vs.length ≤ 4
  srt : cs.Pairwise fun p q => p.1 < q.1
  few : cs.length ≤ 150
  pt : ∀ p ∈ l, IsPt vs.length p
  sz : tot vs.length l ≤ 30
def RunR (vs : List Int) (cs : List (Int × Int)) (l : List D) : Str × List D × List D := runF 31 l vs cs (topOf (flatSt vs cs))
theorem at_last {α : Type} (l : List α) (x : α) : atI (l ++ [x]) (-1) = some x := by
  have e : ixN (l ++ [x]).length (-1) = some l.length := by
    unfold ixN
    rw [if_neg (by decide), if_pos (by rw [List.length_append, List.length_singleton]; omega)]
    congr 1
    rw [List.length_append, List.length_singleton]
    omega
  unfold atI
  rw [e]
  simp
/-- how far a run is -/
structure Mid (vs : List Int) (cs : List (Int × Int)) (l T st ss : List D) (vs' : List Int) (cs' : List (Int × Int)) (t : Int) : Prop where
  hn : vs'.length = vs.length
  nd : (keysI cs').Nodup
  srt : cs'.Pairwise fun p q => p.1 < q.1
  pt : ∀ p ∈ T, IsPt vs.length p
  sz : cs'.length + tot vs.length T ≤ 190
  lst : ∃ pre, ss = pre ++ [stD vs' cs']
  small : st.length + tot vs.length T ≤ 60 ∧ ss.length + tot vs.length T ≤ 60
  run : ∃ f, tot vs.length T ≤ f ∧ (RunR vs cs l).1 = (runF f T vs' cs' t).1 ∧ (RunR vs cs l).2.1 = st ++ (runF f T vs' cs' t).2.1 ∧ stD vs cs :: (RunR vs cs l).2.2 = ss ++ (runF f T vs' cs' t).2.2
theorem Mid.start {vs : List Int} {cs : List (Int × Int)} {l : List D} (h : RIn vs cs l) : Mid vs cs l l [] [stD vs cs] vs cs (topOf (flatSt vs cs)) :=
  ⟨rfl, keys_nd h.srt, h.srt, h.pt, by have := h.few; have := h.sz; omega, ⟨[], rfl⟩, by have := h.sz; simp; omega, 31, by have := h.sz; omega, rfl, rfl, rfl⟩
theorem Mid.done {vs : List Int} {cs : List (Int × Int)} {l st ss : List D} {vs' : List Int} {cs' : List (Int × Int)} {t : Int} (h : Mid vs cs l [] st ss vs' cs' t) : (RunR vs cs l).1 = "end" ∧ (RunR vs cs l).2.1 = st ∧ stD vs cs :: (RunR vs cs l).2.2 = ss := by
  obtain ⟨f, _, e1, e2, e3⟩ := h.run
  have e : runF f [] vs' cs' t = (("end" : Str), ([] : List D), ([] : List D)) := by cases f <;> rfl
  rw [e] at e1 e2 e3
  simp only [List.append_nil] at e2 e3
  exact ⟨e1, e2, e3⟩
theorem Mid.branch {vs : List Int} {cs : List (Int × Int)} {l T st ss : List D} {vs' : List Int} {cs' : List (Int × Int)} {t : Int} {x c : D} {a b : List D} (h : Mid vs cs l (.tuple [x, c, .tuple a, .tuple b] :: T) st ss vs' cs' t)
    (ha : ∀ q ∈ a, IsPt vs.length q) (hb : ∀ q ∈ b, IsPt vs.length q) (es : szN vs.length (.tuple [x, c, .tuple a, .tuple b]) = 1 + tot vs.length a + tot vs.length b) :
    Mid vs cs l ((if condB vs' c = true then a else b) ++ T) st ss vs' cs' t ∧ tot vs.length ((if condB vs' c = true then a else b) ++ T) < tot vs.length (.tuple [x, c, .tuple a, .tuple b] :: T) := by
  obtain ⟨f, hf, e1, e2, e3⟩ := h.run
  have h1 := h.sz
  have h2 := h.small
  rw [tot_cons, es] at hf h1 h2
  obtain ⟨f, rfl⟩ : ∃ g, f = g + 1 := ⟨f - 1, by omega⟩
  rw [runF_br] at e1 e2 e3
  have hT : ∀ q ∈ T, IsPt vs.length q := fun q hq => h.pt q (List.mem_cons_of_mem _ hq)
  rw [tot_cons, es]
  cases hc : condB vs' c with
  | true =>
    simp only [hc, if_true] at e1 e2 e3 ⊢
    rw [tot_app]
    exact ⟨⟨h.hn, h.nd, h.srt, fun q hq => (List.mem_append.mp hq).elim (ha q) (hT q), by rw [tot_app]; omega, h.lst, by rw [tot_app]; omega, f, by rw [tot_app]; omega, e1, e2, e3⟩, by omega⟩
  | false =>
    simp only [hc, Bool.false_eq_true, if_false] at e1 e2 e3 ⊢
    rw [tot_app]
    exact ⟨⟨h.hn, h.nd, h.srt, fun q hq => (List.mem_append.mp hq).elim (hb q) (hT q), by rw [tot_app]; omega, h.lst, by rw [tot_app]; omega, f, by rw [tot_app]; omega, e1, e2, e3⟩, by omega⟩
theorem Mid.step {vs : List Int} {cs : List (Int × Int)} {l T st ss : List D} {vs' : List Int} {cs' : List (Int × Int)} {t : Int} {p : D} {w : Str} {v o : Int} (h : Mid vs cs l (p :: T) st ss vs' cs' t) (hs : StepIs vs.length p w v o) (e1 : szN vs.length p = 1) :
    (eff vs' cs' t w v o = none ∧ (RunR vs cs l).1 = "wrong" ∧ (RunR vs cs l).2.1 = st ++ [p] ∧ stD vs cs :: (RunR vs cs l).2.2 = ss) ∨
    ∃ vs2 l2 t2, eff vs' cs' t w v o = some (vs2, l2, t2) ∧ ((wholeB vs2 l2 = false ∧ (RunR vs cs l).1 = "leak" ∧ (RunR vs cs l).2.1 = st ++ [p] ∧ stD vs cs :: (RunR vs cs l).2.2 = ss) ∨
      (wholeB vs2 l2 = true ∧ Mid vs cs l T (st ++ [p]) (ss ++ [stD vs2 (sortP l2)]) vs2 (sortP l2) t2 ∧ tot vs.length T < tot vs.length (p :: T))) := by
  obtain ⟨f, hf, r1, r2, r3⟩ := h.run
  have h1 := h.sz
  have h2 := h.small
  rw [tot_cons, e1] at hf h1 h2
  obtain ⟨f, rfl⟩ : ∃ g, f = g + 1 := ⟨f - 1, by omega⟩
  rw [runF_step hs] at r1 r2 r3
  have hT : ∀ q ∈ T, IsPt vs.length q := fun q hq => h.pt q (List.mem_cons_of_mem _ hq)
  cases he : eff vs' cs' t w v o with
  | none =>
    rw [he] at r1 r2 r3
    exact .inl ⟨rfl, r1, r2, by simpa using r3⟩
  | some z =>
    obtain ⟨vs2, l2, t2⟩ := z
    rw [he] at r1 r2 r3
    dsimp only at r1 r2 r3
    refine .inr ⟨vs2, l2, t2, rfl, ?_⟩
    cases hw : wholeB vs2 l2 with
    | false =>
      rw [hw, if_neg Bool.false_ne_true] at r1 r2 r3
      exact .inl ⟨rfl, r1, r2, by simpa using r3⟩
    | true =>
      rw [hw, if_pos rfl] at r1 r2 r3
      obtain ⟨nd2, l2l⟩ := eff_few h.nd he
      refine .inr ⟨rfl, ⟨by rw [eff_vs he, h.hn], ((sortP_perm l2).map _).symm.nodup nd2, sortP_srt nd2, hT, by rw [(sortP_perm l2).length_eq]; omega, ⟨ss, rfl⟩, by simp only [List.length_append, List.length_singleton]; omega, f, by omega, r1, by rw [r2]; simp, by rw [r3]; simp⟩, by rw [tot_cons, e1]; omega⟩
def courseD (vs : List Int) (cs : List (Int × Int)) (l : List D) : D := .tuple [.list (RunR vs cs l).2.1, .list (stD vs cs :: (RunR vs cs l).2.2), .str (RunR vs cs l).1]
def c_course_in : Ct := fun rs Q _ => ∃ l vs cs, rs = [.s (.tuple l), .s (stD vs cs)] ∧ RIn vs cs l ∧ Q (.s (courseD vs cs l))
theorem d_course_in {K : Frag} {cl : Ad} : ∀ rs Q E, c_course_in rs Q E → w_course_in K cl c_condition_in c_top_of c_step_in c_is_branch (rho N_course_in.length rs) { nx := fun _ => Q (.s .none), rt := Q, er := fun cls _ => E cls } := by
  rintro rs Q E ⟨l, vs, cs, rfl, ri, q⟩
  unfold w_course_in
  walk_at "dz"
  refine ⟨vs, cs, rfl, ri.v4, by have := ri.few; omega, ?_⟩
  walk_at "dz"
  unfold w_course_in_t9
  walk_at "dz"
  obtain ⟨P, hP⟩ : ∃ P : Rho → Prop, P = fun (ρ : Rho) => ∃ T st ss vs' cs' t x6 x7 x8, Mid vs cs l T st ss vs' cs' t ∧ ρ = [some (.s (.tuple l)), some (.s (stD vs cs)), some (.s (.int t)), some (.l true st), some (.l true ss), some (.l true T.reverse), x6, x7, x8] := ⟨_, rfl⟩
  refine while_go P (totAt vs.length 5) (by rw [hP]; exact ⟨_, _, _, _, _, _, _, _, _, .start ri, rfl⟩) ?_
  intro ρ hρ
  rw [hP] at hρ
  obtain ⟨T, st, ss, vs', cs', t, x6, x7, x8, M, rfl⟩ := hρ
  have shT : Sh (.list T.reverse) := todo_sh (n := vs.length) fun p hp => M.pt p (List.mem_reverse.mp hp)
  walk_at "dz"
  refine ⟨shT, ?_⟩
  have v4 : vs'.length ≤ 4 := by rw [M.hn]; exact ri.v4
  cases T with
  | nil =>
    walk_at "dz"
    unfold w_course_in_t8
    walk_at "dz"
    obtain ⟨a, b, c⟩ := M.done
    unfold courseD at q
    rw [a, b, c] at q
    exact q
  | cons p T =>
    rw [List.reverse_cons]
    walk_at "dz"
    unfold w_course_in_b7
    walk_at "dz"
    unfold w_course_in_t6
    walk_at "dz"
    obtain ⟨pre, epre⟩ := M.lst
    rcases part_is (M.pt p List.mem_cons_self) with ⟨w, v, o, hs, hz⟩ | ⟨c, w, i, j, a, b, rfl, hc, ha, hb, hz⟩
    · obtain ⟨rr, ed⟩ := step_head hs
      obtain ⟨w1, w2, w3⟩ := step_word hs
      refine ⟨.str w, rr, by rw [ed], w1, ?_⟩
      rw [w3]
      walk_at "dz"
      have sl := M.small.1
      rw [tot_cons, hz] at sl
      refine ⟨by omega, ?_⟩
      unfold w_course_in_t5
      walk_at "dz"
      rw [epre]
      refine ⟨_, at_last _ _, vs', cs', p, w, v, o, t, rfl, M.nd, by have := M.sz; omega, v4, by rw [M.hn]; exact hs, ?_⟩
      rw [← epre]
      show keepQ _ _
      have mt : ∀ (x0 x1 x2 x3 x4 x6 x7 x8 : Option R) (TT : List D), totAt vs.length 5 [x0, x1, x2, x3, x4, some (.l true TT), x6, x7, x8] = tot vs.length TT := fun _ _ _ _ _ _ _ _ _ => rfl
      rcases M.step hs hz with ⟨he, f1, f2, f3⟩ | ⟨vs2, l2, t2, he, ⟨hw, f1, f2, f3⟩ | ⟨hw, M2, lt⟩⟩
      · rw [he]
        simp only [stepRes]
        walk_at "dz"
        unfold w_course_in_t4
        walk_at "dz"
        unfold courseD at q
        rw [f1, f2, f3] at q
        exact q
      · rw [he]
        simp only [stepRes, hw, Bool.false_eq_true, if_false]
        walk_at "dz"
        unfold w_course_in_t4
        walk_at "dz"
        unfold courseD at q
        rw [f1, f2, f3] at q
        exact q
      · rw [he]
        simp only [stepRes, hw, if_true]
        walk_at "dz"
        unfold w_course_in_t4
        walk_at "dz"
        unfold w_course_in_t3
        walk_at "dz"
        have s2 := M.small.2
        rw [tot_cons, hz] at s2
        refine ⟨by omega, ?_⟩
        unfold w_course_in_t2
        walk_at "dz"
        refine ⟨?_, ?_⟩
        · rw [hP]
          exact ⟨_, _, _, _, _, _, _, _, _, M2, rfl⟩
        · rw [mt, mt, tot_rev, tot_app, tot_rev]
          rw [tot_cons] at lt
          show tot vs.length T < tot vs.length T + tot vs.length [p]
          rw [tot_cons]
          omega
    · obtain ⟨w', i', j', hc'⟩ : ∃ w' i' j', CondIs vs'.length c w' i' j' := ⟨w, i, j, by rw [M.hn]; exact hc⟩
      refine ⟨.str "if", _, rfl, sh_words _ (by simp), ?_⟩
      walk_at "dz"
      rw [epre]
      refine ⟨_, at_last _ _, vs', cs', c, w', i', j', rfl, by omega, hc', ?_⟩
      rw [← epre, condB_is hc']
      show boolQ _ _
      have mt : ∀ (x0 x1 x2 x3 x4 x6 x7 x8 : Option R) (TT : List D), totAt vs.length 5 [x0, x1, x2, x3, x4, some (.l true TT), x6, x7, x8] = tot vs.length TT := fun _ _ _ _ _ _ _ _ _ => rfl
      have Mb := M.branch ha hb hz
      cases hcb : condB vs' c with
      | true =>
        rw [hcb] at Mb
        simp only [if_true] at Mb
        obtain ⟨M2, lt⟩ := Mb
        have ln := tot_len M2.pt
        have l2 := M2.sz
        rw [List.length_append] at ln
        walk_at "dz"
        unfold w_course_in_t1
        walk_at "dz"
        refine ⟨by rw [List.length_reverse, List.length_reverse]; omega, ?_, ?_⟩
        · rw [hP, ← List.reverse_append]
          exact ⟨_, _, _, _, _, _, _, _, _, M2, rfl⟩
        · rw [mt, mt, ← List.reverse_append, tot_rev, tot_app vs.length T.reverse, tot_rev]
          rw [tot_cons] at lt
          refine Nat.lt_of_lt_of_le lt ?_
          rw [tot_cons]
          omega
      | false =>
        rw [hcb] at Mb
        simp only [Bool.false_eq_true, if_false] at Mb
        obtain ⟨M2, lt⟩ := Mb
        have ln := tot_len M2.pt
        have l2 := M2.sz
        rw [List.length_append] at ln
        walk_at "dz"
        unfold w_course_in_t1
        walk_at "dz"
        refine ⟨by rw [List.length_reverse, List.length_reverse]; omega, ?_, ?_⟩
        · rw [hP, ← List.reverse_append]
          exact ⟨_, _, _, _, _, _, _, _, _, M2, rfl⟩
        · rw [mt, mt, ← List.reverse_append, tot_rev, tot_app vs.length T.reverse, tot_rev]
          rw [tot_cons] at lt
          refine Nat.lt_of_lt_of_le lt ?_
          rw [tot_cons]
          omega

def outR (vs : List Int) (cs : List (Int × Int)) (l : List D) : D := if (RunR vs cs l).1 = "end" then .tuple [.str "end", ((stD vs cs :: (RunR vs cs l).2.2).getLast (by simp))] else .tuple [.str (RunR vs cs l).1, .int (((RunR vs cs l).2.1.length : Int) - 1)]
theorem runF_word : ∀ (f : Nat) (T : List D) (vs : List Int) (cs : List (Int × Int)) (t : Int), (runF f T vs cs t).1 = "end" ∨ (runF f T vs cs t).1 = "wrong" ∨ (runF f T vs cs t).1 = "leak"
  | 0, _, _, _, _ => .inl rfl
  | _ + 1, [], _, _, _ => .inl rfl
  | f + 1, p :: r, vs, cs, t => by
    unfold runF
    split
    · split
      · exact runF_word f _ _ _ _
      · exact runF_word f _ _ _ _
    · split
      · exact .inr (.inl rfl)
      · split
        · exact runF_word f _ _ _ _
        · exact .inr (.inr rfl)
theorem at_getLast (l : List D) (h : l ≠ []) : atI l (-1) = some (l.getLast h) := by
  rcases List.eq_nil_or_concat l with e | ⟨m, b, e⟩
  · exact absurd e h
  · rw [List.concat_eq_append] at e
    subst e
    rw [at_last]; simp
theorem out_go {R : Type} {vs : List Int} {cs : List (Int × Int)} {l : List D} : ((RunR vs cs l).1 == "end") = true ∨ ((RunR vs cs l).1 == "end") = false := by
  cases ((RunR vs cs l).1 == ("end" : Str)) <;> simp
theorem run_sh {vs : List Int} {cs : List (Int × Int)} {l : List D} : Sh (.str (RunR vs cs l).1) := by
  rcases runF_word 31 l vs cs (topOf (flatSt vs cs)) with h | h | h
  · unfold RunR; rw [h]; exact sh_words _ (by simp)
  · unfold RunR; rw [h]; exact sh_words _ (by simp)
  · unfold RunR; rw [h]; exact sh_words _ (by simp)
def c_outcome_in : Ct := fun rs Q _ => ∃ l vs cs, rs = [.s (.tuple l), .s (stD vs cs)] ∧ RIn vs cs l ∧ Q (.s (outR vs cs l))
theorem d_outcome_in {K : Frag} {cl : Ad} : ∀ rs Q E, c_outcome_in rs Q E → w_outcome_in K cl c_course_in (rho N_outcome_in.length rs) { nx := fun _ => Q (.s .none), rt := Q, er := fun cls _ => E cls } := by
  rintro rs Q E ⟨l, vs, cs, rfl, ri, q⟩
  unfold w_outcome_in
  walk_at "dz"
  refine ⟨l, vs, cs, rfl, ri, ?_⟩
  unfold courseD
  walk_at "dz"
  refine ⟨run_sh, ?_⟩
  unfold outR at q
  by_cases h : (RunR vs cs l).1 = "end"
  · rw [if_pos h] at q
    rw [if_pos (by rw [h]; rfl), at_getLast _ (by simp)]
    refine ⟨_, rfl, ?_⟩
    rw [h]
    exact q
  · rw [if_neg h] at q
    rw [if_neg (by simpa using h)]
    exact q

/-! the law's own run -/
def lawRunD (vs : List Int) (cs : List (Int × Int)) (l : List D) : D := .tuple [.str (RunR vs cs l).1, .list (RunR vs cs l).2.1, .list (stD vs cs :: (RunR vs cs l).2.2)]
theorem peek_peek (a : R) : peek (peek a) = peek a := by cases a <;> rfl
theorem eff_sorted {vs : List Int} {l cs : List (Int × Int)} {t : Int} {w : Str} {v o : Int} (nd : (keysI l).Nodup) (e : sortP l = cs) :
    (eff vs l t w v o = none ∧ eff vs cs t w v o = none) ∨ ∃ vs' a b t', eff vs l t w v o = some (vs', a, t') ∧ eff vs cs t w v o = some (vs', b, t') ∧ sortP a = sortP b ∧ wholeB vs' a = wholeB vs' b ∧ (keysI a).Nodup ∧ a.length ≤ l.length + 1 := by
  rw [← e]
  rcases eff_perm (vs := vs) (t := t) (w := w) (v := v) (o := o) (sortP_perm l).symm nd with h | ⟨vs', a, b, t', h1, h2, h3⟩
  · exact .inl h
  · obtain ⟨nda, la⟩ := eff_few nd h1
    exact .inr ⟨vs', a, b, t', h1, h2, sortP_eq h3 nda, whole_perm h3 nda, nda, la⟩
def c_law_run : Ct := fun rs Q _ => ∃ l vs cs, rs = [.s (.tuple l), .s (stD vs cs)] ∧ RIn vs cs l ∧ Q (.s (lawRunD vs cs l))
theorem d_law_run {K : Frag} {cl : Ad} : ∀ rs Q E, c_law_run rs Q E → w_law_run K cl (c_places false) c_law_do c_law_told_condition (rho N_law_run.length rs) { nx := fun _ => Q (.s .none), rt := Q, er := fun cls _ => E cls } := by
  rintro rs Q E ⟨l, vs, cs, rfl, ri, q⟩
  have es : stD vs cs = .tuple [.tuple (vs.map .int), .tuple (cs.map prD)] := rfl
  have nd0 := keys_nd ri.srt
  unfold w_law_run
  rw [es]
  walk_at "dz"
  rw [← es]
  refine ⟨_, pairsK_cs cs, ?_⟩
  rw [dict_cs nd0]
  unfold w_law_run_t8
  walk_at "dz"
  refine ⟨vs, cs, rfl, ri.v4, by have := ri.few; omega, fun ns' hs => ?_⟩
  walk_at "dz"
  have l3 := hs.2.2
  refine ⟨by rw [List.length_map]; omega, true, 0 :: ns', rfl, by simp, fun m h1 h2 => ?_⟩
  rw [top_eq hs h1 h2]
  walk_at "dz"
  unfold w_law_run_t7
  walk_at "dz"
  obtain ⟨P, hP⟩ : ∃ P : Rho → Prop, P = fun (ρ : Rho) => ∃ T st ss vs' cs' t a la x8 x9, Mid vs cs l T st ss vs' cs' t ∧ (keysI la).Nodup ∧ sortP la = cs' ∧ (a = .k true (iK la) ∨ a = .s (.dict (kvD (iK la)))) ∧
    ρ = [some (.s (.tuple l)), some (.s (stD vs cs)), some (.s (.tuple (vs'.map .int))), some a, some (.s (.int t)), some (.l true T.reverse), some (.l true st), some (.l true ss), x8, x9] := ⟨_, rfl⟩
  refine while_go P (totAt vs.length 5) (by rw [hP]; exact ⟨_, _, _, _, _, _, _, _, _, _, .start ri, nd0, sortP_id ri.srt, .inl rfl, rfl⟩) ?_
  intro ρ hρ
  rw [hP] at hρ
  obtain ⟨T, st, ss, vs', cs', t, a, la, x8, x9, M, nda, ea, ha, rfl⟩ := hρ
  have shT : Sh (.list T.reverse) := todo_sh (n := vs.length) fun p hp => M.pt p (List.mem_reverse.mp hp)
  have mt : ∀ (x0 x1 x2 x3 x4 x6 x7 x8 x9 : Option R) (TT : List D), totAt vs.length 5 [x0, x1, x2, x3, x4, some (.l true TT), x6, x7, x8, x9] = tot vs.length TT := fun _ _ _ _ _ _ _ _ _ _ => rfl
  walk_at "dz"
  refine ⟨shT, ?_⟩
  have v4 : vs'.length ≤ 4 := by rw [M.hn]; exact ri.v4
  cases T with
  | nil =>
    walk_at "dz"
    unfold w_law_run_t6
    walk_at "dz"
    obtain ⟨a, b, c⟩ := M.done
    unfold lawRunD at q
    rw [a, b, c] at q
    exact q
  | cons p T =>
    rw [List.reverse_cons]
    walk_at "dz"
    unfold w_law_run_b5
    walk_at "dz"
    unfold w_law_run_t4
    obtain ⟨pre, epre⟩ := M.lst
    rcases part_is (M.pt p List.mem_cons_self) with ⟨w, v, o, hs, hz⟩ | ⟨c, w, i, j, ba, bb, rfl, hc, hba, hbb, hz⟩
    · obtain ⟨rr, ed⟩ := step_head hs
      obtain ⟨w1, w2, w3⟩ := step_word hs
      have e8 : (R.s p) = .s (.tuple (.str w :: rr)) := by rw [ed]
      rw [e8]
      walk_at "dz"
      rw [← e8, ← ed]
      rw [w2]
      simp only [Bool.false_eq_true, if_false]
      have sl := M.small
      rw [tot_cons, hz] at sl
      refine ⟨w1, by omega, ?_⟩
      unfold w_law_run_t3
      walk_at "dz"
      have len : la.length = cs'.length := by rw [← ea, (sortP_perm la).length_eq]
      have hsz := M.sz
      refine ⟨vs', la, peek (peek a), p, w, v, o, t, rfl, peek_peek (peek a), ?_, nda, by omega, v4, by rw [M.hn]; exact hs, ?_⟩
      · rcases ha with rfl | rfl
        · rfl
        · exact kv_d _
      show frzQ _ _
      walk_at "dz"
      have wrong : ∀ (wd : Str), (wd = "wrong" ∨ wd = "leak") → (RunR vs cs l).1 = wd → (RunR vs cs l).2.1 = st ++ [p] → stD vs cs :: (RunR vs cs l).2.2 = ss → Q (.s (.tuple [.str wd, .list (st ++ [p]), .list ss])) := fun wd _ f1 f2 f3 => by
        unfold lawRunD at q
        rw [f1, f2, f3] at q
        exact q
      rcases eff_sorted (vs := vs') (t := t) (w := w) (v := v) (o := o) nda ea with ⟨e1, e2⟩ | ⟨vs2, xa, xb, t2, e1, e2, e3, e4, e5, e6⟩
      · rcases M.step hs hz with ⟨he, f1, f2, f3⟩ | ⟨vs2', l2, t2', he, _⟩
        · rw [e1]
          simp only [doRes, dictI]
          walk_at "dz"
          unfold w_law_run_t2
          walk_at "dz"
          exact wrong "wrong" (.inl rfl) f1 f2 f3
        · rw [e2] at he; cases he
      · rcases M.step hs hz with ⟨he, _⟩ | ⟨vs2', l2, t2', he, hh⟩
        · rw [e2] at he; cases he
        rw [e2] at he
        cases he
        rw [e1]
        simp only [doRes, dictI, e4]
        rcases hh with ⟨hw, f1, f2, f3⟩ | ⟨hw, M2, lt⟩
        · simp only [hw, Bool.false_eq_true, if_false]
          walk_at "dz"
          unfold w_law_run_t2
          walk_at "dz"
          exact wrong "leak" (.inr rfl) f1 f2 f3
        · simp only [hw, if_true]
          walk_at "dz"
          unfold w_law_run_t2
          walk_at "dz"
          unfold w_law_run_t1
          walk_at "dz"
          rw [pairs_iK, sortD_pr]
          refine ⟨by simp [iK, flatD], srt_pr _ (by omega), by omega, ?_, ?_⟩
          · rw [hP]
            rw [← e3] at M2
            exact ⟨_, _, _, _, _, _, _, _, _, _, M2, e5, rfl, .inr rfl, rfl⟩
          · rw [mt, mt, tot_rev, tot_app, tot_rev]
            rw [tot_cons] at lt
            show tot vs.length T < tot vs.length T + tot vs.length [p]
            rw [tot_cons]
            omega
    · obtain ⟨w', i', j', hc'⟩ : ∃ w' i' j', CondIs vs'.length c w' i' j' := ⟨w, i, j, by rw [M.hn]; exact hc⟩
      walk_at "dz"
      refine ⟨vs', c, w', i', j', rfl, by omega, hc', ?_⟩
      rw [condB_is hc']
      show boolQ _ _
      have Mb := M.branch hba hbb hz
      cases hcb : condB vs' c with
      | true =>
        rw [hcb] at Mb
        simp only [if_true] at Mb
        obtain ⟨M2, lt⟩ := Mb
        have ln := tot_len M2.pt
        have l2 := M2.sz
        rw [List.length_append] at ln
        walk_at "dz"
        refine ⟨by rw [List.length_reverse, List.length_reverse]; omega, ?_, ?_⟩
        · rw [hP, ← List.reverse_append]
          exact ⟨_, _, _, _, _, _, _, _, _, _, M2, nda, ea, ha, rfl⟩
        · rw [mt, mt, ← List.reverse_append, tot_rev, tot_app vs.length T.reverse, tot_rev]
          rw [tot_cons] at lt
          refine Nat.lt_of_lt_of_le lt ?_
          rw [tot_cons]
          omega
      | false =>
        rw [hcb] at Mb
        simp only [Bool.false_eq_true, if_false] at Mb
        obtain ⟨M2, lt⟩ := Mb
        have ln := tot_len M2.pt
        have l2 := M2.sz
        rw [List.length_append] at ln
        walk_at "dz"
        refine ⟨by rw [List.length_reverse, List.length_reverse]; omega, ?_, ?_⟩
        · rw [hP, ← List.reverse_append]
          exact ⟨_, _, _, _, _, _, _, _, _, _, M2, nda, ea, ha, rfl⟩
        · rw [mt, mt, ← List.reverse_append, tot_rev, tot_app vs.length T.reverse, tot_rev]
          rw [tot_cons] at lt
          refine Nat.lt_of_lt_of_le lt ?_
          rw [tot_cons]
          omega
def c_law_outcome : Ct := fun rs Q _ => ∃ l vs cs, rs = [.s (.tuple l), .s (stD vs cs)] ∧ RIn vs cs l ∧ Q (.s (outR vs cs l))
theorem d_law_outcome {K : Frag} {cl : Ad} : ∀ rs Q E, c_law_outcome rs Q E → w_law_outcome K cl c_law_run (rho N_law_outcome.length rs) { nx := fun _ => Q (.s .none), rt := Q, er := fun cls _ => E cls } := by
  rintro rs Q E ⟨l, vs, cs, rfl, ri, q⟩
  unfold w_law_outcome
  walk_at "dz"
  refine ⟨l, vs, cs, rfl, ri, ?_⟩
  unfold lawRunD
  walk_at "dz"
  refine ⟨run_sh, ?_⟩
  unfold outR at q
  by_cases h : (RunR vs cs l).1 = "end"
  · rw [if_pos h] at q
    rw [if_pos (by rw [h]; rfl), at_getLast _ (by simp)]
    exact ⟨_, rfl, q⟩
  · rw [if_neg h] at q
    rw [if_neg (by simpa using h)]
    exact q

theorem ndAll_le : ∀ {xs : List D} {c : Nat}, (∀ x ∈ xs, nd x ≤ c) → ndAll xs ≤ c * xs.length
  | [], c, _ => by simp [ndAll]
  | x :: xs, c, h => by
    simp only [ndAll, List.length_cons]
    have h1 := h x List.mem_cons_self
    have h2 := ndAll_le (xs := xs) (c := c) fun y hy => h y (List.mem_cons_of_mem _ hy)
    rw [Nat.mul_succ]
    omega
theorem plainAll_of : ∀ {xs : List D}, (∀ x ∈ xs, plainD x = true) → plainAll xs = true
  | [], _ => by simp [plainAll]
  | x :: xs, h => by simp only [plainAll, h x List.mem_cons_self, plainAll_of fun y hy => h y (List.mem_cons_of_mem _ hy), Bool.and_self]
/-- a plain thing of so much -/
structure Small (d : D) (n c : Nat) : Prop where
  p : plainD d = true
  dep : PyData.depth d ≤ n
  c : nd d ≤ c
theorem small_int (i : Int) (n : Nat) : Small (.int i) n 1 := ⟨by simp [plainD], by simp [PyData.depth], by simp [nd]⟩
theorem small_bool (i : Bool) (n : Nat) : Small (.bool i) n 1 := ⟨by simp [plainD], by simp [PyData.depth], by simp [nd]⟩
theorem small_str {x : Str} (h : Sh (.str x)) (n : Nat) : Small (.str x) n 1 := ⟨by simp only [plainD]; exact h.n.1, by simp [PyData.depth], by simp [nd]⟩
theorem small_tup {l : List D} {n c : Nat} (h : ∀ x ∈ l, Small x n c) : Small (.tuple l) (n + 1) (c * l.length + 1) := by
  refine ⟨by simp only [plainD]; exact plainAll_of fun x hx => (h x hx).p, ?_, ?_⟩
  · have := depthAll_le (xs := l) (n := n) fun x hx => (h x hx).dep
    simp only [PyData.depth]
    omega
  · have := ndAll_le (xs := l) (c := c) fun x hx => (h x hx).c
    simp only [nd]
    omega
theorem Small.up {d : D} {n c n' c' : Nat} (h : Small d n c) (a : n ≤ n') (b : c ≤ c') : Small d n' c' := ⟨h.p, Nat.le_trans h.dep a, Nat.le_trans h.c b⟩
theorem same_go {a : D} {n c : Nat} (h : Small a n c) (hn : n ≤ 60) (hc : c ≤ 100000) {Q : R → Prop} {X : Value → Prop} (q : Q (.s (.bool true))) : c_same [.s a, .s a] Q X :=
  ⟨a, a, rfl, plain_lay _ h.p, h.p, Nat.le_trans h.dep hn, Nat.le_trans h.dep hn, Nat.le_trans h.c hc, by rw [same_refl _ h.p]; exact q⟩
theorem small_st {vs : List Int} {cs : List (Int × Int)} (h1 : vs.length ≤ 4) (h2 : cs.length ≤ 200) : Small (stD vs cs) 3 2000 := by
  refine (small_tup (n := 2) (c := 701) (l := [.tuple (vs.map .int), .tuple (cs.map prD)]) fun x hx => ?_).up (by omega) (by simp)
  simp only [List.mem_cons, List.not_mem_nil, or_false] at hx
  rcases hx with rfl | rfl
  · refine (small_tup (n := 0) (c := 1) fun x hx => ?_).up (by omega) (by rw [List.length_map]; omega)
    obtain ⟨i, _, rfl⟩ := List.mem_map.mp hx
    exact small_int _ _
  · refine (small_tup (n := 1) (c := 3) fun x hx => ?_).up (by omega) (by rw [List.length_map]; omega)
    obtain ⟨p, _, rfl⟩ := List.mem_map.mp hx
    refine (small_tup (n := 0) (c := 1) (l := [.int p.1, .int p.2]) fun x hx => ?_).up (by omega) (by simp)
    simp only [List.mem_cons, List.not_mem_nil, or_false] at hx
    rcases hx with rfl | rfl <;> exact small_int _ _
theorem flat_mem {vs : List Int} {cs : List (Int × Int)} : (∀ v ∈ vs, v ∈ flatSt vs cs) ∧ ∀ p ∈ cs, p.1 ∈ flatSt vs cs ∧ p.2 ∈ flatSt vs cs := by
  refine ⟨fun v h => List.mem_append_left _ h, fun p h => ?_⟩
  unfold flatSt flatCs
  exact ⟨List.mem_append_right _ (List.mem_flatMap.mpr ⟨p, h, by simp⟩), List.mem_append_right _ (List.mem_flatMap.mpr ⟨p, h, by simp⟩)⟩
theorem mem_flat {vs : List Int} {cs : List (Int × Int)} {x : Int} (h : x ∈ flatSt vs cs) : x ∈ vs ∨ ∃ p ∈ cs, x = p.1 ∨ x = p.2 := by
  unfold flatSt flatCs at h
  rcases List.mem_append.mp h with h | h
  · exact .inl h
  · obtain ⟨p, hp, h⟩ := List.mem_flatMap.mp h
    simp only [List.mem_cons, List.not_mem_nil, or_false] at h
    exact .inr ⟨p, hp, h⟩
structure FarIs (vs : List Int) (cs : List (Int × Int)) (far : Int) : Prop where
  v : ∀ v ∈ vs, v < far
  c : ∀ p ∈ cs, p.1 < far ∧ p.2 < far
  a : 0 < far
  b : far ≤ 1001
theorem far_is {m : Int} {vs : List Int} {cs : List (Int × Int)} (ok : StOk m vs cs) : FarIs vs cs (topOf (flatSt vs cs) + 1) := by
  obtain ⟨a1, a2, a3⟩ := foldl_max (flatSt vs cs) 0
  have e : topOf (flatSt vs cs) = (flatSt vs cs).foldl max 0 := rfl
  rw [e]
  refine ⟨fun v h => ?_, fun p h => ?_, by omega, ?_⟩
  · have := a2 v (flat_mem.1 v h); omega
  · have h1 := a2 p.1 ((flat_mem (vs := vs)).2 p h).1
    have h2 := a2 p.2 ((flat_mem (vs := vs)).2 p h).2
    omega
  · rcases a3 with h | h
    · omega
    · rcases mem_flat h with h | ⟨p, hp, h⟩
      · have := ok.sm.1 _ h; omega
      · have := ok.sm.2 p hp; omega
theorem OkCs.far {vs : List Int} {cs : List (Int × Int)} {far z : Int} (h : OkCs cs) (f : FarIs vs cs far) (few : cs.length ≤ 19) (z0 : 0 ≤ z) (z1 : z ≤ 1000000) : OkCs (cs ++ [(far, z)]) := by
  refine ⟨by rw [List.length_append, List.length_singleton]; omega, fun p hp => ?_, ?_⟩
  · rcases List.mem_append.mp hp with hp | hp
    · exact h.rng p hp
    · rw [List.mem_singleton.mp hp]
      have := f.a
      have := f.b
      exact ⟨by omega, by show far ≤ 1000000; omega, z0, z1⟩
  · rw [List.pairwise_append]
    refine ⟨h.srt, by simp, fun p hp q hq => ?_⟩
    rw [List.mem_singleton.mp hq]
    exact (f.c p hp).1
theorem runF_size {n : Int} : ∀ (f : Nat) (T : List D) (vs : List Int) (cs : List (Int × Int)) (t : Int), (keysI cs).Nodup → (∀ p ∈ T, IsPt n p) → (runF f T vs cs t).2.1.length ≤ tot n T ∧ (runF f T vs cs t).2.2.length ≤ f ∧
    ∀ x ∈ (runF f T vs cs t).2.2, ∃ vs' cs', x = stD vs' cs' ∧ vs'.length = vs.length ∧ cs'.length ≤ cs.length + f ∧ cs'.Pairwise fun p q => p.1 < q.1
  | 0, T, vs, cs, t, _, _ => ⟨Nat.zero_le _, Nat.le_refl _, fun x h => (nomatch h)⟩
  | f + 1, [], vs, cs, t, _, _ => ⟨Nat.zero_le _, Nat.zero_le _, fun x h => (nomatch h)⟩
  | f + 1, p :: r, vs, cs, t, nd, hp => by
    have hr : ∀ q ∈ r, IsPt n q := fun q hq => hp q (List.mem_cons_of_mem _ hq)
    rw [tot_cons]
    rcases part_is (hp p List.mem_cons_self) with ⟨w, v, o, hs, hz⟩ | ⟨c, w, i, j, a, b, rfl, hc, ha, hb, hz⟩
    · rw [runF_step hs, hz]
      cases he : eff vs cs t w v o with
      | none => exact ⟨by show 1 ≤ _; omega, Nat.zero_le _, fun x h => (nomatch h)⟩
      | some z =>
        obtain ⟨vs', l', t'⟩ := z
        dsimp only
        cases hw : wholeB vs' l' with
        | false => rw [if_neg Bool.false_ne_true]; exact ⟨by show 1 ≤ _; omega, Nat.zero_le _, fun x h => (nomatch h)⟩
        | true =>
          rw [if_pos rfl]
          obtain ⟨nd2, ll⟩ := eff_few nd he
          have nds : (keysI (sortP l')).Nodup := ((sortP_perm l').map _).symm.nodup nd2
          obtain ⟨i1, i2, i3⟩ := runF_size f r vs' (sortP l') t' nds hr
          have e1 := eff_vs he
          have e2 := (sortP_perm l').length_eq
          refine ⟨by simp only [List.length_cons]; omega, by simp only [List.length_cons]; omega, fun x h => ?_⟩
          rcases List.mem_cons.mp h with rfl | h
          · exact ⟨vs', sortP l', rfl, e1, by omega, sortP_srt nd2⟩
          · obtain ⟨vs2, cs2, e, a1, a2, a3⟩ := i3 x h
            exact ⟨vs2, cs2, e, by omega, by omega, a3⟩
    · rw [runF_br, hz]
      split
      · obtain ⟨i1, i2, i3⟩ := runF_size f (a ++ r) vs cs t nd fun q hq => (List.mem_append.mp hq).elim (ha q) (hr q)
        rw [tot_app] at i1
        exact ⟨by omega, by omega, fun x h => by obtain ⟨u, v, e, a1, a2, a3⟩ := i3 x h; exact ⟨u, v, e, a1, by omega, a3⟩⟩
      · obtain ⟨i1, i2, i3⟩ := runF_size f (b ++ r) vs cs t nd fun q hq => (List.mem_append.mp hq).elim (hb q) (hr q)
        rw [tot_app] at i1
        exact ⟨by omega, by omega, fun x h => by obtain ⟨u, v, e, a1, a2, a3⟩ := i3 x h; exact ⟨u, v, e, a1, by omega, a3⟩⟩
theorem steps_size {n : Int} : ∀ (l : List D) (t : Int), (∀ s ∈ l, isStep n s = true) → t + l.length ≤ 24 → sizeL (ptD n 4) l t = some (t + l.length)
  | [], t, _, _ => by simp [sizeL]
  | p :: l, t, h, ht => by
    rw [List.length_cons] at ht
    have e : ptD n 4 p = some 1 := by unfold ptD; rw [if_pos (h p List.mem_cons_self)]
    unfold sizeL
    rw [e]
    show (if t + 1 > 24 then none else sizeL (ptD n 4) l (t + 1)) = _
    rw [if_neg (by omega), steps_size l (t + 1) (fun s hs => h s (List.mem_cons_of_mem _ hs)) (by omega), List.length_cons]
    congr 1
    omega
theorem is_isStep {n : Int} {d : D} {w : Str} {v o : Int} (h : StepIs n d w v o) : isStep n d = true := by
  obtain ⟨h1, h2, h⟩ := h
  rcases h with ⟨rfl, rfl, a, b⟩ | ⟨rfl, rfl, a, b⟩ | ⟨rfl, rfl, a, b⟩ | ⟨rfl, rfl, _⟩ | ⟨rfl, rfl, _⟩
  all_goals simp only [isStep, Bool.and_eq_true, Bool.not_eq_true']
  · exact ⟨⟨⟨by decide +kernel, within_yes h1 (by omega)⟩, by decide +kernel⟩, by rw [if_neg (by decide +kernel)]; exact within_yes a (by omega)⟩
  · exact ⟨⟨⟨by decide +kernel, within_yes h1 (by omega)⟩, by decide +kernel⟩, by rw [if_pos (by decide +kernel)]; exact within_yes a (by omega)⟩
  · exact ⟨⟨⟨by decide +kernel, within_yes h1 (by omega)⟩, by decide +kernel⟩, by rw [if_neg (by decide +kernel)]; exact within_yes a (by omega)⟩
  · exact ⟨⟨by decide +kernel, within_yes h1 (by omega)⟩, by decide +kernel⟩
  · exact ⟨⟨by decide +kernel, within_yes h1 (by omega)⟩, by decide +kernel⟩
theorem prog_of {n : Int} {l : List D} {z : Int} (hl : l.length ≤ 24) (h : sizeL (ptD n 4) l 0 = some z) : isProg n (.tuple l) = true := by
  unfold isProg
  rw [szD_eq]
  show (if l.length ≤ 24 then sizeL (ptD n 4) l 0 else none).isSome = true
  rw [if_pos hl, h]
  rfl
theorem prog_bad {n : Int} {l : List D} {p : D} (h : ptD n 4 p = none) : isProg n (.tuple (l ++ [p])) = false := by
  cases e : isProg n (.tuple (l ++ [p])) with
  | false => rfl
  | true =>
    obtain ⟨l', e', _, hs⟩ := prog_len e
    cases e'
    have := sizeL_mem hs p (by simp)
    rw [h] at this
    cases this

/-! loops, judged -/
theorem st_of {d : D} (h : isSt d = true) : ∃ vs cs, d = stD vs cs ∧ OkVs vs ∧ OkCs cs := by
  unfold isSt at h
  split at h
  · rename_i a b
    rw [Bool.and_eq_true] at h
    obtain ⟨h1, h2⟩ := h
    cases a with
    | tuple l =>
      simp only [isVs, Bool.and_eq_true, decide_eq_true_eq, List.all_eq_true] at h1
      cases b with
      | tuple m =>
        simp only [isCells, Bool.and_eq_true, decide_eq_true_eq, List.all_eq_true] at h2
        have ev : ∀ l : List D, (∀ x ∈ l, within x 0 1000000 = true) → ∃ vs : List Int, l = vs.map PyData.int ∧ ∀ v ∈ vs, 0 ≤ v ∧ v ≤ 1000000 := fun l => by
          induction l with
          | nil => intro _; exact ⟨[], rfl, fun v h => nomatch h⟩
          | cons x l ih =>
            intro hx
            obtain ⟨i, rfl, h⟩ := within_is (hx x List.mem_cons_self)
            obtain ⟨vs, rfl, hv⟩ := ih fun y hy => hx y (List.mem_cons_of_mem _ hy)
            exact ⟨i :: vs, rfl, fun v hv' => (List.mem_cons.mp hv').elim (fun e => by rw [e]; exact h) (hv v)⟩
        have ec : ∀ l : List D, (∀ x ∈ l, isCell x = true) → ∃ cs : List (Int × Int), l = cs.map prD ∧ ∀ p ∈ cs, 1 ≤ p.1 ∧ p.1 ≤ 1000000 ∧ 0 ≤ p.2 ∧ p.2 ≤ 1000000 := fun l => by
          induction l with
          | nil => intro _; exact ⟨[], rfl, fun v h => nomatch h⟩
          | cons x l ih =>
            intro hx
            have hc := hx x List.mem_cons_self
            unfold isCell at hc
            split at hc
            · rw [Bool.and_eq_true] at hc
              obtain ⟨i, rfl, h⟩ := within_is hc.1
              obtain ⟨j, rfl, h'⟩ := within_is hc.2
              obtain ⟨cs, rfl, hv⟩ := ih fun y hy => hx y (List.mem_cons_of_mem _ hy)
              exact ⟨(i, j) :: cs, rfl, fun p hp => (List.mem_cons.mp hp).elim (fun e => by rw [e]; exact ⟨h.1, h.2, h'.1, h'.2⟩) (hv p)⟩
            · cases hc
        obtain ⟨vs, rfl, hv⟩ := ev l h1.2
        obtain ⟨cs, rfl, hc⟩ := ec m h2.1.2
        have asc : ∀ cs : List (Int × Int), ascD (cs.map prD) = true → cs.Pairwise fun p q => p.1 < q.1 := fun cs => by
          induction cs with
          | nil => intro _; exact .nil
          | cons p r ih =>
            intro h
            cases r with
            | nil => simp
            | cons q r =>
              have h' : (decide (p.1 < q.1) && ascD ((q :: r).map prD)) = true := h
              rw [Bool.and_eq_true, decide_eq_true_eq] at h'
              have t := ih h'.2
              refine List.pairwise_cons.mpr ⟨fun z hz => ?_, t⟩
              rcases List.mem_cons.mp hz with rfl | hz
              · exact h'.1
              · have := (List.pairwise_cons.mp t).1 z hz
                omega
        exact ⟨vs, cs, rfl, ⟨by simpa using h1.1, hv⟩, ⟨by simpa using h2.1.1, hc, asc cs h2.2⟩⟩
      | _ => simp [isCells] at h2
    | _ => simp [isVs] at h1
  · cases h
def c_is_many : Ct := fun rs Q _ => ∃ d, rs = [.s d] ∧ Q (.s (.bool (within d 0 4)))
theorem d_is_many {K : Frag} {cl : Ad} : ∀ rs Q E, c_is_many rs Q E → w_is_many K cl c_within (rho N_is_many.length rs) { nx := fun _ => Q (.s .none), rt := Q, er := fun cls _ => E cls } := by
  rintro rs Q E ⟨d, rfl, q⟩
  unfold w_is_many
  walk_at "dz"
  exact ⟨d, 0, 4, rfl, q⟩
def c_need_many (cl : Ad) : Ct := fun rs Q E => ∃ d, rs = [.s d] ∧ if within d 0 4 = true then Q (.s .none) else E (.ref cl.c_BadMany)
theorem d_need_many {K : Frag} {cl : Ad} : ∀ rs Q E, c_need_many cl rs Q E → w_need_many K cl c_is_many (rho N_need_many.length rs) { nx := fun _ => Q (.s .none), rt := Q, er := fun cls _ => E cls } := by
  rintro rs Q E ⟨d, rfl, q⟩
  unfold w_need_many
  walk_at "dz"
  refine ⟨d, rfl, ?_⟩
  walk_at "dz"
  cases h : within d 0 4 <;> rw [h] at q <;> simpa using q
def iOf : D → Int
  | .int i => i
  | _ => 0
def vsOf : D → List Int
  | .tuple [.tuple l, _] => l.map iOf
  | _ => []
def prOf : D → Int × Int
  | .tuple [a, b] => (iOf a, iOf b)
  | _ => (0, 0)
def csOf : D → List (Int × Int)
  | .tuple [_, .tuple l] => l.map prOf
  | _ => []
theorem vsOf_st (vs : List Int) (cs : List (Int × Int)) : vsOf (stD vs cs) = vs := by
  show (vs.map PyData.int).map iOf = vs
  rw [List.map_map]
  exact List.map_id' vs
theorem csOf_st (vs : List Int) (cs : List (Int × Int)) : csOf (stD vs cs) = cs := by
  show (cs.map prD).map prOf = cs
  rw [List.map_map]
  exact List.map_id' cs
def wholeS (n : Int) (d : D) : Bool := isSt d && decide (((vsOf d).length : Int) = n) && wholeB (vsOf d) (csOf d)
def c_is_whole_state : Ct := fun rs Q _ => ∃ n d, rs = [.s (.int n), .s d] ∧ Q (.s (.bool (wholeS n d)))
theorem d_is_whole_state {K : Frag} {cl : Ad} : ∀ rs Q E, c_is_whole_state rs Q E → w_is_whole_state K cl c_is_state_of c_is_whole_of (rho N_is_whole_state.length rs) { nx := fun _ => Q (.s .none), rt := Q, er := fun cls _ => E cls } := by
  rintro rs Q E ⟨n, d, rfl, q⟩
  unfold w_is_whole_state
  walk_at "dz"
  refine ⟨d, rfl, ?_⟩
  walk_at "dz"
  unfold wholeS at q
  cases h : isSt d with
  | false => rw [h] at q; simpa using q
  | true =>
    obtain ⟨vs, cs, rfl, ov, oc⟩ := st_of h
    rw [h, vsOf_st, csOf_st] at q
    simp only [if_true]
    have es : stD vs cs = .tuple [.tuple (vs.map .int), .tuple (cs.map prD)] := rfl
    rw [es]
    walk_at "dz"
    rw [← es, List.length_map]
    by_cases hn : (vs.length : Int) = n
    · rw [decide_eq_true hn, Bool.true_and, Bool.true_and] at q
      rw [if_pos (beq_iff_eq.mpr hn)]
      exact ⟨vs, cs, rfl, keys_nd oc.srt, by have := oc.few; omega, q⟩
    · rw [decide_eq_false hn] at q
      rw [if_neg (fun z => hn (beq_iff_eq.mp z))]
      exact q
def isLoop (n : Int) : D → Bool
  | .tuple [c, p] => isCond n c && isProg n p
  | _ => false
theorem isLoop_row {n : Int} {d : D} (h : isRow d 2 2 = false) : isLoop n d = false := by
  unfold isLoop
  split
  · simp [isRow] at h
  · rfl
def c_is_loop_of : Ct := fun rs Q _ => ∃ n d, rs = [.s (.int n), .s d] ∧ Q (.s (.bool (isLoop n d)))
theorem d_is_loop_of {K : Frag} {cl : Ad} : ∀ rs Q E, c_is_loop_of rs Q E → w_is_loop_of K cl c_is_row c_is_condition_of c_is_program_of (rho N_is_loop_of.length rs) { nx := fun _ => Q (.s .none), rt := Q, er := fun cls _ => E cls } := by
  rintro rs Q E ⟨n, d, rfl, q⟩
  unfold w_is_loop_of
  walk_at "dz"
  refine ⟨d, 2, 2, rfl, ?_⟩
  walk_at "dz"
  cases hr : isRow d 2 2 with
  | false => rw [isLoop_row hr] at q; simpa using q
  | true =>
    obtain ⟨l, rfl, h1, h2⟩ := rowI_cases hr
    match l, h1, h2 with
    | [a, b], _, _ =>
      simp only [if_true]
      walk_at "dz"
      refine ⟨n, a, rfl, ?_⟩
      walk_at "dz"
      simp only [isLoop] at q
      cases ha : isCond n a with
      | false => rw [ha] at q; simpa using q
      | true =>
        rw [ha, Bool.true_and] at q
        simp only [if_true]
        exact ⟨n, b, rfl, q⟩
    | [], h1, _ => simp at h1
    | [_], h1, _ => simp at h1
    | _ :: _ :: _ :: _, _, h2 => simp at h2; omega
def loopB (m d : D) : Bool := match m with
  | .int n => isLoop n d
  | _ => false
def c_is_loop (cl : Ad) : Ct := fun rs Q E => ∃ m d, rs = [.s m, .s d] ∧ if within m 0 4 = true then Q (.s (.bool (loopB m d))) else E (.ref cl.c_BadMany)
theorem d_is_loop {K : Frag} {cl : Ad} : ∀ rs Q E, c_is_loop cl rs Q E → w_is_loop K cl (c_need_many cl) c_is_loop_of (rho N_is_loop.length rs) { nx := fun _ => Q (.s .none), rt := Q, er := fun cls _ => E cls } := by
  rintro rs Q E ⟨m, d, rfl, q⟩
  unfold w_is_loop
  walk_at "dz"
  refine ⟨m, rfl, ?_⟩
  cases h : within m 0 4 with
  | false => rw [h] at q; simpa using q
  | true =>
    obtain ⟨n, rfl, _⟩ := within_is h
    rw [h] at q
    simp only [if_true] at q ⊢
    walk_at "dz"
    exact ⟨n, d, rfl, q⟩
def c_need_loop (cl : Ad) : Ct := fun rs Q E => ∃ m d, rs = [.s m, .s d] ∧ if within m 0 4 = true then (if loopB m d = true then Q (.s .none) else E (.ref cl.c_BadLoop)) else E (.ref cl.c_BadMany)
theorem d_need_loop {K : Frag} {cl : Ad} : ∀ rs Q E, c_need_loop cl rs Q E → w_need_loop K cl (c_need_many cl) c_is_loop_of (rho N_need_loop.length rs) { nx := fun _ => Q (.s .none), rt := Q, er := fun cls _ => E cls } := by
  rintro rs Q E ⟨m, d, rfl, q⟩
  unfold w_need_loop
  walk_at "dz"
  refine ⟨m, rfl, ?_⟩
  cases h : within m 0 4 with
  | false => rw [h] at q; simpa using q
  | true =>
    obtain ⟨n, rfl, _⟩ := within_is h
    rw [h] at q
    simp only [if_true] at q ⊢
    walk_at "dz"
    refine ⟨n, d, rfl, ?_⟩
    walk_at "dz"
    have q2 : if isLoop n d = true then Q (.s .none) else E (.ref cl.c_BadLoop) := q
    cases h' : isLoop n d <;> rw [h'] at q2 <;> simpa using q2

/-! loops, run -/
structure LIn (vs : List Int) (cs : List (Int × Int)) (c : D) (l : List D) : Prop where
  c : ∃ w i j, CondIs vs.length c w i j
  v4 : vs.length ≤ 4
  srt : cs.Pairwise fun p q => p.1 < q.1
  few : cs.length ≤ 150
  pt : ∀ p ∈ l, IsPt vs.length p
  sz : tot vs.length l ≤ 30
theorem LIn.rin {vs : List Int} {cs : List (Int × Int)} {c : D} {l : List D} (h : LIn vs cs c l) : RIn vs cs l := ⟨h.v4, h.srt, h.few, h.pt, h.sz⟩
def lastR (vs : List Int) (cs : List (Int × Int)) (l : List D) : D := (stD vs cs :: (RunR vs cs l).2.2).getLast (by simp)
theorem run_last {vs : List Int} {cs : List (Int × Int)} {c : D} {l : List D} (h : LIn vs cs c l) : ∃ vs' cs', lastR vs cs l = stD vs' cs' ∧ vs'.length = vs.length ∧ cs'.length ≤ cs.length + 31 ∧ cs'.Pairwise fun p q => p.1 < q.1 := by
  obtain ⟨_, _, b3⟩ := runF_size (n := vs.length) 31 l vs cs (topOf (flatSt vs cs)) (keys_nd h.srt) h.pt
  have hm : lastR vs cs l ∈ stD vs cs :: (RunR vs cs l).2.2 := List.getLast_mem _
  rcases List.mem_cons.mp hm with e | hm
  · exact ⟨vs, cs, e, rfl, by omega, h.srt⟩
  · exact b3 _ hm
def loopF (c : D) (l : List D) : Nat → Int → List Int → List (Int × Int) → Option D
  | 0, t, vs, cs => some (.tuple [.str (if condB vs c = true then "long" else "end"), stD vs cs, .int t])
  | f + 1, t, vs, cs => if condB vs c = true then
      (if (RunR vs cs l).1 = "end" then (if (csOf (lastR vs cs l)).length > 150 then none else loopF c l f (t + 1) (vsOf (lastR vs cs l)) (csOf (lastR vs cs l)))
       else some (.tuple [.str (RunR vs cs l).1, stD vs cs, .int (t + 1)]))
    else some (.tuple [.str "end", stD vs cs, .int t])
theorem loopF_no {c : D} {l : List D} {f : Nat} {t : Int} {vs : List Int} {cs : List (Int × Int)} (h : condB vs c = false) : loopF c l f t vs cs = some (.tuple [.str "end", stD vs cs, .int t]) := by
  cases f <;> simp [loopF, h]
theorem loopF_long {c : D} {l : List D} {t : Int} {vs : List Int} {cs : List (Int × Int)} (h : condB vs c = true) : loopF c l 0 t vs cs = some (.tuple [.str "long", stD vs cs, .int t]) := by simp [loopF, h]
theorem loopF_go {c : D} {l : List D} {f : Nat} {t : Int} {vs : List Int} {cs : List (Int × Int)} (h : condB vs c = true) : loopF c l (f + 1) t vs cs =
    if (RunR vs cs l).1 = "end" then (if (csOf (lastR vs cs l)).length > 150 then none else loopF c l f (t + 1) (vsOf (lastR vs cs l)) (csOf (lastR vs cs l)))
       else some (.tuple [.str (RunR vs cs l).1, stD vs cs, .int (t + 1)]) := by simp [loopF, h]
theorem outR_is (vs : List Int) (cs : List (Int × Int)) (l : List D) : outR vs cs l = if (RunR vs cs l).1 = "end" then .tuple [.str "end", lastR vs cs l] else .tuple [.str (RunR vs cs l).1, .int (((RunR vs cs l).2.1.length : Int) - 1)] := rfl
theorem LIn.next {vs vs' : List Int} {cs cs' : List (Int × Int)} {c : D} {l : List D} (h : LIn vs cs c l) (e : vs'.length = vs.length) (s : cs'.Pairwise fun p q => p.1 < q.1) (few : cs'.length ≤ 150) : LIn vs' cs' c l :=
  ⟨by rw [e]; exact h.c, by rw [e]; exact h.v4, s, few, by rw [e]; exact h.pt, by rw [e]; exact h.sz⟩
def oGo (o : Option D) (Q : R → Prop) (E : Prop) : Prop := match o with
  | some d => Q (.s d)
  | none => E
def muT (i : Nat) (most : Int) (ρ : Rho) : Nat := match ρ[i]? with
  | some (some (.s (.int t))) => (most - t).toNat
  | _ => 0
def c_looped (cl : Ad) : Ct := fun rs Q E => ∃ c l vs cs most, rs = [.s (.tuple [c, .tuple l]), .s (stD vs cs), .s (.int most)] ∧ LIn vs cs c l ∧ 0 ≤ most ∧ most ≤ 1000 ∧ oGo (loopF c l most.toNat 0 vs cs) Q (E (.ref cl.c_TooGreat))
theorem d_looped {K : Frag} {cl : Ad} : ∀ rs Q E, c_looped cl rs Q E → w_looped K cl c_condition_in c_outcome_in (rho N_looped.length rs) { nx := fun _ => Q (.s .none), rt := Q, er := fun cls _ => E cls } := by
  rintro rs Q E ⟨c, l, vs, cs, most, rfl, li, m0, m1, q⟩
  unfold w_looped
  walk_at "dz"
  unfold w_looped_t8
  walk_at "dz"
  obtain ⟨L, eL⟩ : ∃ L, L = loopF c l most.toNat 0 vs cs := ⟨_, rfl⟩
  rw [← eL] at q
  obtain ⟨P, hP⟩ : ∃ P : Rho → Prop, P = fun (ρ : Rho) => ∃ (f : Nat) (t : Int) (vs' : List Int) (cs' : List (Int × Int)) (x4 : Option R), LIn vs' cs' c l ∧ t + f = most ∧ 0 ≤ t ∧ loopF c l f t vs' cs' = L ∧ ρ = [some (.s (.tuple [c, .tuple l])), some (.s (stD vs' cs')), some (.s (.int most)), some (.s (.int t)), x4] := ⟨_, rfl⟩
  refine while_go P (muT 3 most) (by rw [hP]; exact ⟨most.toNat, 0, vs, cs, none, li, by omega, by omega, eL.symm, rfl⟩) ?_
  intro ρ hρ
  rw [hP] at hρ
  obtain ⟨f, t, vs', cs', x4, li, hf, t0, hL, rfl⟩ := hρ
  obtain ⟨w, i, j, hc⟩ := li.c
  walk_at "dz"
  refine ⟨vs', cs', c, w, i, j, rfl, by have := li.v4; omega, hc, ?_⟩
  rw [condB_is hc]
  show boolQ _ _
  walk_at "dz"
  cases hcb : condB vs' c with
  | false =>
    rw [if_neg Bool.false_ne_true]
    unfold w_looped_t7
    walk_at "dz"
    rw [loopF_no hcb] at hL
    rw [← hL] at q
    exact q
  | true =>
    rw [if_pos rfl]
    unfold w_looped_b6
    walk_at "dz"
    cases f with
    | zero =>
      have e : t = most := by omega
      subst e
      rw [if_pos (beq_iff_eq.mpr rfl)]
      rw [loopF_long hcb] at hL
      rw [← hL] at q
      exact q
    | succ f =>
      have e : t ≠ most := by omega
      rw [if_neg (fun z => e (beq_iff_eq.mp z))]
      unfold w_looped_t5
      walk_at "dz"
      refine ⟨l, vs', cs', rfl, li.rin, ?_⟩
      rw [loopF_go hcb] at hL
      rw [outR_is]
      by_cases he : (RunR vs' cs' l).1 = "end"
      · rw [if_pos he] at hL ⊢
        obtain ⟨vs2, cs2, el, e1, e2, e3⟩ := run_last li
        rw [el, vsOf_st, csOf_st] at hL
        rw [el]
        walk_at "dz"
        unfold w_looped_t4
        walk_at "dz"
        unfold w_looped_t3
        walk_at "dz"
        unfold w_looped_t2
        have es : stD vs2 cs2 = .tuple [.tuple (vs2.map .int), .tuple (cs2.map prD)] := rfl
        rw [es]
        walk_at "dz"
        unfold w_looped_t1
        walk_at "dz"
        rw [← es, List.length_map]
        by_cases hg : cs2.length > 150
        · rw [if_pos hg] at hL
          rw [if_pos (decide_eq_true (by omega))]
          rw [← hL] at q
          exact q
        · rw [if_neg hg] at hL
          rw [if_neg (by simp; omega)]
          refine ⟨?_, ?_⟩
          · rw [hP]
            exact ⟨f, t + 1, vs2, cs2, _, li.next e1 e3 (by omega), by omega, by omega, hL, rfl⟩
          · show (most - (t + 1)).toNat < (most - t).toNat
            omega
      · rw [if_neg he] at hL ⊢
        have sh := run_sh (vs := vs') (cs := cs') (l := l)
        walk_at "dz"
        unfold w_looped_t4
        walk_at "dz"
        unfold w_looped_t3
        walk_at "dz"
        refine ⟨sh, ?_⟩
        rw [if_pos (by simpa using he)]
        rw [← hL] at q
        exact q
def c_law_loop_run : Ct := fun rs Q _ => ∃ c l vs cs most, rs = [.s (.tuple [c, .tuple l]), .s (stD vs cs), .s (.int most), .s (.int 150)] ∧ LIn vs cs c l ∧ 0 ≤ most ∧ most ≤ 1000 ∧ oGo (loopF c l most.toNat 0 vs cs) Q (Q (.s .none))
theorem d_law_loop_run {K : Frag} {cl : Ad} : ∀ rs Q E, c_law_loop_run rs Q E → w_law_loop_run K cl c_law_told_condition c_law_outcome (rho N_law_loop_run.length rs) { nx := fun _ => Q (.s .none), rt := Q, er := fun cls _ => E cls } := by
  rintro rs Q E ⟨c, l, vs, cs, most, rfl, li, m0, m1, q⟩
  unfold w_law_loop_run
  walk_at "dz"
  obtain ⟨L, eL⟩ : ∃ L, L = loopF c l most.toNat 0 vs cs := ⟨_, rfl⟩
  rw [← eL] at q
  refine ⟨by omega, by omega, for_go (fun i (ρ : Rho) => ∃ (f : Nat) (vs' : List Int) (cs' : List (Int × Int)) (x4 x5 : Option R), LIn vs' cs' c l ∧ (i : Int) + f = most ∧ loopF c l f i vs' cs' = L ∧ ρ = [some (.s (.tuple [c, .tuple l])), some (.s (stD vs' cs')), some (.s (.int most)), some (.s (.int 150)), x4, x5]) ?_ ?_ ?_⟩
  · exact ⟨most.toNat, vs, cs, none, none, li, by omega, eL.symm, rfl⟩
  · rintro k d ρ hd ⟨f, vs', cs', x4, x5, li, hf, hL, rfl⟩
    obtain ⟨rfl, _⟩ := range0_at hd
    obtain ⟨w, i, j, hc⟩ := li.c
    have es : stD vs' cs' = .tuple [.tuple (vs'.map .int), .tuple (cs'.map prD)] := rfl
    rw [es]
    walk_at "dz"
    unfold w_law_loop_run_b6
    walk_at "dz"
    rw [← es]
    refine ⟨vs', c, w, i, j, rfl, by have := li.v4; omega, hc, ?_⟩
    rw [condB_is hc]
    show boolQ _ _
    walk_at "dz"
    cases hcb : condB vs' c with
    | false =>
      rw [if_pos (by rfl)]
      rw [loopF_no hcb] at hL
      rw [← hL] at q
      exact q
    | true =>
      rw [if_neg (by decide)]
      unfold w_law_loop_run_t5
      walk_at "dz"
      cases f with
      | zero =>
        have e : (k : Int) = most := by omega
        rw [if_pos (beq_iff_eq.mpr e)]
        unfold w_law_loop_run_t7
        walk_at "dz"
        rw [loopF_long hcb] at hL
        rw [← hL, e] at q
        exact q
      | succ f =>
        have e : (k : Int) ≠ most := by omega
        rw [if_neg (fun z => e (beq_iff_eq.mp z))]
        unfold w_law_loop_run_t4
        walk_at "dz"
        refine ⟨l, vs', cs', rfl, li.rin, ?_⟩
        rw [loopF_go hcb] at hL
        rw [outR_is]
        by_cases he : (RunR vs' cs' l).1 = "end"
        · rw [if_pos he] at hL ⊢
          obtain ⟨vs2, cs2, el, e1, e2, e3⟩ := run_last li
          rw [el, vsOf_st, csOf_st] at hL
          rw [el]
          walk_at "dz"
          unfold w_law_loop_run_t3
          walk_at "dz"
          unfold w_law_loop_run_t2
          have es2 : stD vs2 cs2 = .tuple [.tuple (vs2.map .int), .tuple (cs2.map prD)] := rfl
          rw [es2]
          walk_at "dz"
          unfold w_law_loop_run_t1
          walk_at "dz"
          rw [← es2, List.length_map]
          by_cases hg : cs2.length > 150
          · rw [if_pos hg] at hL
            rw [if_pos (decide_eq_true (by omega))]
            rw [← hL] at q
            exact q
          · rw [if_neg hg] at hL
            rw [if_neg (by simp; omega)]
            exact ⟨f, vs2, cs2, _, _, li.next e1 e3 (by omega), by omega, by rw [← hL]; rfl, rfl, rfl, rfl⟩
        · rw [if_neg he] at hL ⊢
          have sh := run_sh (vs := vs') (cs := cs') (l := l)
          walk_at "dz"
          unfold w_law_loop_run_t3
          walk_at "dz"
          refine ⟨sh, ?_⟩
          rw [if_pos (by simpa using he)]
          rw [← hL] at q
          exact q
  · rintro ρ ⟨f, vs', cs', x4, x5, li, hf, hL, rfl⟩
    rw [range_len] at hf
    omega
/-! run_loop: what it tells, or its errors -/
def c_run_loop (cl : Ad) : Ct := fun rs Q E => ∃ m d s mo, rs = [.s m, .s d, .s s, .s mo] ∧ ((within m 0 4 = false ∧ E (.ref cl.c_BadMany)) ∨ ∃ n, m = .int n ∧ within m 0 4 = true ∧ ((isLoop n d = false ∧ E (.ref cl.c_BadLoop)) ∨ (isLoop n d = true ∧ ((wholeS n s = false ∧ E (.ref cl.c_BadState)) ∨ (wholeS n s = true ∧
  ((within mo 0 200 = false ∧ E (.ref cl.c_BadMost)) ∨ ∃ most c l vs cs, mo = .int most ∧ 0 ≤ most ∧ most ≤ 200 ∧ d = .tuple [c, .tuple l] ∧ s = stD vs cs ∧ LIn vs cs c l ∧ oGo (loopF c l most.toNat 0 vs cs) Q (E (.ref cl.c_TooGreat))))))))
theorem d_run_loop {K : Frag} {cl : Ad} : ∀ rs Q E, c_run_loop cl rs Q E → w_run_loop K cl c_within c_is_whole_state (c_need_loop cl) (c_looped cl) (rho N_run_loop.length rs) { nx := fun _ => Q (.s .none), rt := Q, er := fun cls _ => E cls } := by
  rintro rs Q E ⟨m, d, s, mo, rfl, h⟩
  unfold w_run_loop
  walk_at "dz"
  refine ⟨m, d, rfl, ?_⟩
  rcases h with ⟨h, q⟩ | ⟨n, rfl, hm, h⟩
  · rw [if_neg (by rw [h]; decide)]
    exact q
  · rw [if_pos hm]
    show if isLoop n d = true then _ else _
    rcases h with ⟨h, q⟩ | ⟨hl, h⟩
    · rw [if_neg (by rw [h]; decide)]
      exact q
    · rw [if_pos hl]
      walk_at "dz"
      refine ⟨n, s, rfl, ?_⟩
      walk_at "dz"
      rcases h with ⟨h, q⟩ | ⟨hs, h⟩
      · rw [h]
        exact q
      · rw [hs, if_neg (by decide)]
        walk_at "dz"
        refine ⟨mo, 0, 200, rfl, ?_⟩
        walk_at "dz"
        rcases h with ⟨h, q⟩ | ⟨most, c, l, vs, cs, rfl, m0, m1, rfl, rfl, li, q⟩
        · rw [h]
          exact q
        · rw [within_yes m0 m1, if_neg (by decide)]
          walk_at "dz"
          exact ⟨c, l, vs, cs, most, rfl, li, m0, by omega, q⟩

/-! drawn loops -/
theorem sizeL_shift {f : D → Option Int} : ∀ (l : List D) (t m z : Int), 0 ≤ m → sizeL f l (t + m) = some z → sizeL f l t = some (z - m)
  | [], t, m, z, _, h => by cases h; simp [sizeL]
  | p :: l, t, m, z, hm, h => by
    unfold sizeL at h ⊢
    cases e : f p with
    | none => simp [e] at h
    | some k =>
      simp only [e] at h ⊢
      by_cases q : t + m + k > 24
      · rw [if_pos q] at h; cases h
      · rw [if_neg q] at h
        rw [if_neg (by omega)]
        exact sizeL_shift l (t + k) m z hm (by rw [show t + k + m = t + m + k by omega]; exact h)
theorem sizeL_le {f : D → Option Int} : ∀ {l : List D} {t z : Int}, sizeL f l t = some z → t ≤ 24 → z ≤ 24
  | [], t, z, h, ht => by cases h; exact ht
  | p :: l, t, z, h, ht => by
    unfold sizeL at h
    split at h
    · cases h
    · split at h
      · cases h
      · exact sizeL_le h (by omega)
theorem size_nn {n : Int} {k : Nat} {l : List D} {z : Int} (h : sizeL (ptD n k) l 0 = some z) : 0 ≤ z := by
  have hp : ∀ p ∈ l, ∃ m, ptD n k p = some m ∧ 1 ≤ m := fun p hp => by
    obtain ⟨m, hm⟩ := Option.isSome_iff_exists.mp (sizeL_mem (by rw [h]; rfl) p hp)
    exact ⟨m, hm, pt_pos hm⟩
  have e := sizeL_sum l 0 z h
  rw [Int.zero_add] at e
  rw [e]
  clear h e
  induction l with
  | nil => exact Int.le_refl _
  | cons p l ih =>
    rw [List.map_cons, List.sum_cons]
    obtain ⟨m, e, hm⟩ := hp p List.mem_cons_self
    have := ih fun q hq => hp q (List.mem_cons_of_mem _ hq)
    rw [e]
    show 0 ≤ m + _
    omega
theorem size_tail {n : Int} {k : Nat} {p : D} {l : List D} {z : Int} (h : sizeL (ptD n k) (p :: l) 0 = some z) : ∃ z', sizeL (ptD n k) l 0 = some z' ∧ z' ≤ z := by
  obtain ⟨m, hm⟩ := Option.isSome_iff_exists.mp (sizeL_mem (by rw [h]; rfl) p List.mem_cons_self)
  have hp := pt_pos hm
  unfold sizeL at h
  simp only [hm] at h
  by_cases q : 0 + m > 24
  · rw [if_pos q] at h; cases h
  · rw [if_neg q] at h
    exact ⟨z - m, sizeL_shift l 0 m z (by omega) h, by omega⟩
theorem loop_ok {n : Int} {c : D} {l : List D} {z : Int} (hc : isCond n c = true) (hl : l.length ≤ 24) (h : sizeL (ptD n 4) l 0 = some z) : isLoop n (.tuple [c, .tuple l]) = true := by
  show (isCond n c && isProg n (.tuple l)) = true
  rw [hc, prog_of hl h]
  rfl
theorem loop_steps {n : Int} {c : D} {l : List D} (hc : isCond n c = true) (hl : l.length ≤ 24) (hs : ∀ s ∈ l, isStep n s = true) : isLoop n (.tuple [c, .tuple l]) = true :=
  loop_ok hc hl (steps_size l 0 hs (by omega))
theorem loop_parts {n : Int} {d : D} (h : isLoop n d = true) : ∃ c l, d = .tuple [c, .tuple l] ∧ isCond n c = true ∧ (∀ p ∈ l, IsPt n p) ∧ (tot n l : Int) ≤ 24 := by
  unfold isLoop at h
  split at h
  · rename_i c p
    rw [Bool.and_eq_true] at h
    obtain ⟨l, rfl, hl, hs⟩ := prog_len h.2
    obtain ⟨z, hz⟩ := Option.isSome_iff_exists.mp hs
    obtain ⟨a, b⟩ := parts_of (by decide) hz
    exact ⟨c, l, rfl, h.1, a, by rw [b]; exact sizeL_le hz (by decide)⟩
  · cases h
def c_law_rise (k : Nat) : Ct := fun rs Q _ => ∃ (n : Int) (l : List D) (z t : Int), rs = [.s (.tuple l), .s (.int t)] ∧ sizeL (ptD n k) l 0 = some z ∧ ∀ r, (l = [] → r = t) → Q (.s (.int r))
theorem d_law_rise {K : Frag} {cl : Ad} (k : Nat) (c : Ct) (hc : ∀ k', k = k' + 1 → c = c_law_rise k') : ∀ rs Q E, c_law_rise k rs Q E → w_law_rise K cl c (rho N_law_rise.length rs) { nx := fun _ => Q (.s .none), rt := Q, er := fun cls _ => E cls } := by
  rintro rs Q E ⟨n, l, z, t, rfl, hz, q⟩
  unfold w_law_rise
  walk_at "dz"
  refine for_go (fun i (ρ : Rho) => ∃ (t' : Int) (x2 : Option R), (i = 0 → t' = t) ∧ ρ = [some (.s (.tuple l)), some (.s (.int t')), x2]) ⟨t, none, fun _ => rfl, rfl⟩ ?_ ?_
  · rintro i d ρ hd ⟨t', x2, _, rfl⟩
    have hm : d ∈ l := List.mem_reverse.mp (List.mem_of_getElem? hd)
    obtain ⟨m, hm⟩ := Option.isSome_iff_exists.mp (sizeL_mem (by rw [hz]; rfl) d hm)
    walk_at "dz"
    unfold w_law_rise_b1
    walk_at "dz"
    rcases pt_cases hm with ⟨w, r, rfl, hw, hi, hs, rfl⟩ | ⟨k', cc, a, b, x, y, hk, rfl, _, ha, hb, rfl⟩
    · walk_at "dz"
      obtain ⟨w', hw', ew⟩ : ∃ w' : Str, w = .str w' ∧ w' ∈ (["set", "follow", "put", "new", "free"] : List Str) := by
        unfold isStep at hs
        split at hs
        · rename_i e; cases e; simp only [Bool.and_eq_true] at hs; exact word_cases (ws := ["set", "follow", "put", "new", "free"]) hs.1.1
        · rename_i e; cases e; simp only [Bool.and_eq_true] at hs; exact word_cases (ws := ["set", "follow", "put", "new", "free"]) hs.1.1.1
        · cases hs
      subst hw'
      simp only [List.mem_cons, List.not_mem_nil, or_false] at ew
      rcases ew with rfl | rfl | rfl | rfl | rfl <;> walk_at "dz"
      all_goals exact ⟨_, _, fun h => h.elim, rfl, rfl⟩
    · rw [hc k' hk]
      obtain ⟨la, rfl, hla, hsa⟩ := sz_tuple ha
      obtain ⟨lb, rfl, hlb, hsb⟩ := sz_tuple hb
      walk_at "dz"
      refine ⟨n, la, x, t', rfl, hsa, fun r1 _ => ?_⟩
      walk_at "dz"
      refine ⟨n, lb, y, t', rfl, hsb, fun r2 _ => ?_⟩
      walk_at "dz"
      exact ⟨_, _, fun h => h.elim, rfl, rfl⟩
  · rintro ρ ⟨t', x2, h0, rfl⟩
    walk_at "dz"
    refine q t' fun e => h0 ?_
    rw [e]; rfl
def muL4 (ρ : Rho) : Nat := match (ρ[4]? : Option (Option R)) with
  | some (some (R.s (.tuple l))) => l.length
  | _ => 0
def c_law_light : Ct := fun rs Q _ => ∃ n : Int, rs = [.g, .s (.int n), .s (.int 3), .s (.int 2)] ∧ 1 ≤ n ∧ n ≤ 4 ∧ ∀ (l : List D) (z : Int), l.length ≤ 12 → sizeL (ptD n 2) l 0 = some z → 0 ≤ z → z ≤ 3 → Q (.s (.tuple l))
theorem d_law_light_program {K : Frag} {cl : Ad} : ∀ rs Q E, c_law_light rs Q E → w_law_light_program K cl (c_law_program 2) (c_law_rise 2) (rho N_law_light_program.length rs) { nx := fun _ => Q (.s .none), rt := Q, er := fun cls _ => E cls } := by
  rintro rs Q E ⟨n, rfl, n1, n4, q⟩
  unfold w_law_light_program
  walk_at "dz"
  refine ⟨n, 3, rfl, n1, n4, by decide, by decide, by decide, fun l z hl hz z0 z1 => ?_⟩
  walk_at "dz"
  refine while_go (fun ρ => ∃ (l : List D) (z : Int), ρ = [some .g, some (.s (.int n)), some (.s (.int 3)), some (.s (.int 2)), some (.s (.tuple l))] ∧ l.length ≤ 12 ∧ sizeL (ptD n 2) l 0 = some z ∧ z ≤ 3) muL4 ⟨l, z, rfl, hl, hz, z1⟩ ?_
  rintro ρ ⟨l, z, rfl, hl, hz, z1⟩
  have z0 := size_nn hz
  walk_at "dz"
  have out : ∀ (P : Prop), P = Q (.s (.tuple l)) → P := fun P e => by rw [e]; exact q l z hl hz z0 z1
  refine ite_both (fun _ => ?_) (fun _ => out _ rfl)
  refine ⟨n, l, z, 2, rfl, hz, fun r hr => ?_⟩
  walk_at "dz"
  refine ite_both (fun h => ?_) (fun _ => out _ rfl)
  have h := of_decide_eq_true h
  unfold w_law_light_program_b1
  walk_at "dz"
  rw [cut_drop1]
  cases l with
  | nil => have := hr rfl; omega
  | cons p l =>
    obtain ⟨z', hz', le⟩ := size_tail hz
    refine ⟨⟨l, z', rfl, by rw [List.length_cons] at hl; omega, hz', by omega⟩, ?_⟩
    show l.length < (p :: l).length
    simp
theorem st_set {n v o : Int} (v0 : 0 ≤ v) (v1 : v < n) (o0 : -1 ≤ o) (o1 : o < n) : isStep n (.tuple [.str "set", .int v, .int o]) = true := is_isStep (w := "set") ⟨v0, v1, .inl ⟨rfl, rfl, o0, o1⟩⟩
theorem st_follow {n v o : Int} (v0 : 0 ≤ v) (v1 : v < n) (o0 : 0 ≤ o) (o1 : o < n) : isStep n (.tuple [.str "follow", .int v, .int o]) = true := is_isStep (w := "follow") ⟨v0, v1, .inr (.inl ⟨rfl, rfl, o0, o1⟩)⟩
theorem st_put {n v o : Int} (v0 : 0 ≤ v) (v1 : v < n) (o0 : -1 ≤ o) (o1 : o < n) : isStep n (.tuple [.str "put", .int v, .int o]) = true := is_isStep (w := "put") ⟨v0, v1, .inr (.inr (.inl ⟨rfl, rfl, o0, o1⟩))⟩
theorem st_new {n v : Int} (v0 : 0 ≤ v) (v1 : v < n) : isStep n (.tuple [.str "new", .int v]) = true := is_isStep (w := "new") (o := v) ⟨v0, v1, .inr (.inr (.inr (.inl ⟨rfl, rfl, rfl⟩)))⟩
theorem st_free {n v : Int} (v0 : 0 ≤ v) (v1 : v < n) : isStep n (.tuple [.str "free", .int v]) = true := is_isStep (w := "free") (o := v) ⟨v0, v1, .inr (.inr (.inr (.inr ⟨rfl, rfl, rfl⟩)))⟩
theorem cd_same {n i j : Int} (i0 : -1 ≤ i) (i1 : i < n) (j0 : -1 ≤ j) (j1 : j < n) : isCond n (.tuple [.str "same", .int i, .int j]) = true := cond_ok (by decide +kernel) i0 i1 j0 j1
theorem cd_unlike {n i j : Int} (i0 : -1 ≤ i) (i1 : i < n) (j0 : -1 ≤ j) (j1 : j < n) : isCond n (.tuple [.str "unlike", .int i, .int j]) = true := cond_ok (by decide +kernel) i0 i1 j0 j1
theorem all1 {P : D → Prop} {a : D} (h : P a) : ∀ x ∈ [a], P x := fun x hx => by rw [List.mem_singleton.mp hx]; exact h
theorem allC {P : D → Prop} {a : D} {l : List D} (h : P a) (hl : ∀ x ∈ l, P x) : ∀ x ∈ a :: l, P x := fun x hx => by
  rcases List.mem_cons.mp hx with rfl | hx
  · exact h
  · exact hl x hx
def toldL (v w : Int) : List D := [
  .tuple [.tuple [.str "unlike", .int w, .int (-1)], .tuple [.tuple [.str "follow", .int w, .int w]]],
  .tuple [.tuple [.str "unlike", .int v, .int (-1)], .tuple [.tuple [.str "follow", .int w, .int v], .tuple [.str "free", .int v], .tuple [.str "set", .int v, .int w]]],
  .tuple [.tuple [.str "unlike", .int w, .int v], .tuple [.tuple [.str "follow", .int w, .int w]]],
  .tuple [.tuple [.str "unlike", .int v, .int (-1)], .tuple [.tuple [.str "free", .int v], .tuple [.str "set", .int v, .int (-1)]]],
  .tuple [.tuple [.str "same", .int v, .int (-1)], .tuple [.tuple [.str "new", .int v]]],
  .tuple [.tuple [.str "same", .int v, .int w], .tuple [.tuple [.str "new", .int w], .tuple [.str "put", .int w, .int v]]]]
theorem told_ok {n v w : Int} (v0 : 0 ≤ v) (v1 : v < n) (w0 : 0 ≤ w) (w1 : w < n) : ∀ d ∈ toldL v w, isLoop n d = true := by
  unfold toldL
  refine allC ?_ (allC ?_ (allC ?_ (allC ?_ (allC ?_ (all1 ?_)))))
  · exact loop_steps (cd_unlike (by omega) w1 (by omega) (by omega)) (by simp) (all1 (st_follow w0 w1 w0 w1))
  · exact loop_steps (cd_unlike (by omega) v1 (by omega) (by omega)) (by simp) (allC (st_follow w0 w1 v0 v1) (allC (st_free v0 v1) (all1 (st_set v0 v1 (by omega) w1))))
  · exact loop_steps (cd_unlike (by omega) w1 (by omega) v1) (by simp) (all1 (st_follow w0 w1 w0 w1))
  · exact loop_steps (cd_unlike (by omega) v1 (by omega) (by omega)) (by simp) (allC (st_free v0 v1) (all1 (st_set v0 v1 (by omega) (by omega))))
  · exact loop_steps (cd_same (by omega) v1 (by omega) (by omega)) (by simp) (all1 (st_new v0 v1))
  · exact loop_steps (cd_same (by omega) v1 (by omega) w1) (by simp) (allC (st_new w0 w1) (all1 (st_put w0 w1 (by omega) v1)))
def c_law_told_loops : Ct := fun rs Q _ => ∃ v w : Int, rs = [.s (.int v), .s (.int w)] ∧ Q (.l true (toldL v w))
theorem d_law_told_loops {K : Frag} {cl : Ad} : ∀ rs Q E, c_law_told_loops rs Q E → w_law_told_loops K cl (rho N_law_told_loops.length rs) { nx := fun _ => Q (.s .none), rt := Q, er := fun cls _ => E cls } := by
  rintro rs Q E ⟨v, w, rfl, q⟩
  unfold w_law_told_loops
  walk_at "dz"
  exact q
def c_law_told_loop : Ct := fun rs Q _ => ∃ n : Int, rs = [.g, .s (.int n)] ∧ 1 ≤ n ∧ n ≤ 4 ∧ ∀ d, isLoop n d = true → Q (.s d)
theorem d_law_told_loop {K : Frag} {cl : Ad} : ∀ rs Q E, c_law_told_loop rs Q E → w_law_told_loop K cl c_pick c_law_condition c_law_light c_law_told_loops (rho N_law_told_loop.length rs) { nx := fun _ => Q (.s .none), rt := Q, er := fun cls _ => E cls } := by
  rintro rs Q E ⟨n, rfl, n1, n4, q⟩
  unfold w_law_told_loop
  walk_at "dz"
  refine ⟨by omega, by omega, fun v v0 v1 => ⟨by decide, by decide, fun kd k0 k1 => ?_⟩⟩
  walk_at "dz"
  refine ite_both (fun h => ?_) (fun _ => ?_)
  · have h := of_decide_eq_true h
    refine ⟨by omega, v, _, rfl, ?_⟩
    walk_at "dz"
    obtain ⟨d, hd, hm⟩ : ∃ d, atI (toldL v ((v + 1) % n)) kd = some d ∧ d ∈ toldL v ((v + 1) % n) := by
      have : kd = 0 ∨ kd = 1 ∨ kd = 2 ∨ kd = 3 ∨ kd = 4 ∨ kd = 5 := by omega
      rcases this with rfl | rfl | rfl | rfl | rfl | rfl <;> exact ⟨_, rfl, by simp [toldL]⟩
    exact ⟨d, hd, q d (told_ok v0 v1 (Int.emod_nonneg _ (by omega)) (Int.emod_lt_of_pos _ (by omega)) d hm)⟩
  · refine ⟨n, rfl, n1, n4, fun w a b hw a0 a1 b0 b1 => ?_⟩
    walk_at "dz"
    refine ⟨n, rfl, n1, n4, fun l z hl hz z0 z1 => ?_⟩
    walk_at "dz"
    exact q _ (loop_ok (cond_ok hw a0 a1 b0 b1) (by omega) (size_up hz 2))

/-! grown chains -/
def chainC (far : Int) (n : Nat) : List (Int × Int) := (List.range n).map (fun (k : Nat) => (far + 1 + (k : Int), far + 1 + (k : Int) + 1)) ++ [(far + 1 + (n : Int), 0)]
theorem chainC_len (far : Int) (n : Nat) : (chainC far n).length = n + 1 := by simp [chainC]
theorem chainC_keys (far : Int) (n : Nat) : keysI (chainC far n) = (List.range (n + 1)).map fun (k : Nat) => far + 1 + (k : Int) := by
  rw [range_succ_map]
  unfold keysI chainC
  rw [List.map_append, List.map_map]
  rfl
theorem chainC_srt (far : Int) (n : Nat) : (chainC far n).Pairwise fun p q => p.1 < q.1 := by
  have : (keysI (chainC far n)).Pairwise fun a b => a < b := by
    rw [chainC_keys, List.pairwise_map]
    exact List.Pairwise.imp (fun h => by omega) List.pairwise_lt_range
  unfold keysI at this
  rwa [List.pairwise_map] at this
theorem chainC_get (far : Int) (n k : Nat) (hk : k < n) : iGet (chainC far n) (far + 1 + (k : Int)) = some (far + 1 + (k : Int) + 1) :=
  (iGet_mem (keys_nd (chainC_srt far n))).mpr (List.mem_append_left _ (List.mem_map.mpr ⟨k, List.mem_range.mpr hk, rfl⟩))
theorem chainC_end (far : Int) (n : Nat) : iGet (chainC far n) (far + 1 + (n : Int)) = some 0 :=
  (iGet_mem (keys_nd (chainC_srt far n))).mpr (List.mem_append_right _ (List.mem_singleton.mpr rfl))
theorem chainC_nil {far : Int} (h : 0 ≤ far) (n : Nat) : iGet (chainC far n) 0 = none := by
  cases e : iGet (chainC far n) 0 with
  | none => rfl
  | some v =>
    have := (iGet_mem (keys_nd (chainC_srt far n))).mp e
    have : (0 : Int) ∈ keysI (chainC far n) := List.mem_map.mpr ⟨_, this, rfl⟩
    rw [chainC_keys] at this
    obtain ⟨k, _, e⟩ := List.mem_map.mp this
    omega
theorem chainC_chase {far : Int} (h : 0 ≤ far) (n : Nat) : ∀ (d k m : Nat), k + d = n → d + 2 ≤ m → chase (iGet (chainC far n)) m ((List.range k).map fun (k : Nat) => far + 1 + (k : Int)) (far + 1 + (k : Int)) = (List.range (n + 1)).map fun (k : Nat) => far + 1 + (k : Int)
  | d, k, 0, _, hm => by omega
  | 0, k, m + 1, hk, hm => by
    have e : k = n := by omega
    subst e
    rw [chase_go (chainC_end far k) (by
      intro z
      obtain ⟨j, hj, e⟩ := List.mem_map.mp z
      rw [List.mem_range] at hj
      omega), chase_stop (.inl (chainC_nil h k)), range_succ_map]
  | d + 1, k, m + 1, hk, hm => by
    rw [chase_go (chainC_get far n k (by omega)) (by
      intro z
      obtain ⟨j, hj, e⟩ := List.mem_map.mp z
      rw [List.mem_range] at hj
      omega)]
    have := chainC_chase h n d (k + 1) m (by omega) (by omega)
    rw [range_succ_map] at this
    rw [show far + 1 + (k : Int) + 1 = far + 1 + ((k + 1 : Nat) : Int) by omega]
    exact this
theorem chainC_whole {far x : Int} (h : 0 ≤ far) (n : Nat) (hx : x = 0 ∨ x = far + 1 + n) : wholeB [far + 1, x] (chainC far n) = true := by
  unfold wholeB reach
  rw [decide_eq_true_iff, List.foldl_cons, List.foldl_cons, List.foldl_nil, chainC_len]
  have := chainC_chase h n n 0 (n + 1 + 1) (by omega) (by omega)
  rw [List.range_zero, List.map_nil, show far + 1 + ((0 : Nat) : Int) = far + 1 by omega] at this
  rw [this, chase_stop]
  · simp
  · rcases hx with rfl | rfl
    · exact .inl (chainC_nil h n)
    · exact .inr (List.mem_map.mpr ⟨n, List.mem_range.mpr (by omega), rfl⟩)
theorem chainC_ok {far : Int} {n : Nat} (h : 0 ≤ far) (h1 : far + n + 1 ≤ 1000000) (hn : n + 1 ≤ 150) : OkCs (chainC far n) := by
  refine ⟨by rw [chainC_len]; exact hn, fun p hp => ?_, chainC_srt far n⟩
  unfold chainC at hp
  rcases List.mem_append.mp hp with hp | hp
  · obtain ⟨k, hk, rfl⟩ := List.mem_map.mp hp
    rw [List.mem_range] at hk
    refine ⟨?_, ?_, ?_, ?_⟩ <;> dsimp only <;> omega
  · rw [List.mem_singleton.mp hp]
    refine ⟨?_, ?_, ?_, ?_⟩ <;> dsimp only <;> omega
theorem wholeS_ok {n : Int} {vs : List Int} {cs : List (Int × Int)} (hn : (vs.length : Int) = n) (ov : OkVs vs) (oc : OkCs cs) (hw : wholeB vs cs = true) : wholeS n (stD vs cs) = true := by
  unfold wholeS
  rw [isSt_ok ov oc, vsOf_st, csOf_st, decide_eq_true hn, hw]
  rfl
abbrev pushL : List D := [.tuple [.str "new", .int 1], .tuple [.str "put", .int 1, .int 0], .tuple [.str "set", .int 0, .int 1]]
abbrev pullL : List D := [.tuple [.str "follow", .int 1, .int 0], .tuple [.str "free", .int 0], .tuple [.str "set", .int 0, .int 1]]
theorem push_ok : ∀ s ∈ pushL, isStep 2 s = true := allC (st_new (by decide) (by decide)) (allC (st_put (by decide) (by decide) (by decide) (by decide)) (all1 (st_set (by decide) (by decide) (by decide) (by decide))))
theorem pull_ok : ∀ s ∈ pullL, isStep 2 s = true := allC (st_follow (by decide) (by decide) (by decide) (by decide)) (allC (st_free (by decide) (by decide)) (all1 (st_set (by decide) (by decide) (by decide) (by decide))))
theorem rep_mem {α : Type} {n : Nat} {l : List α} {x : α} (h : x ∈ (List.replicate n l).flatten) : x ∈ l := by
  obtain ⟨m, hm, hx⟩ := List.mem_flatten.mp h
  rw [List.eq_of_mem_replicate hm] at hx
  exact hx
theorem rep_len {α : Type} (n : Nat) (l : List α) : (List.replicate n l).flatten.length = n * l.length := by simp
theorem fMul_t (xs : List D) (j : Int) (Q : R → Prop) : fMul (.s (.tuple xs)) (.s (.int j)) Q = (xs ≠ [] ∧ 0 ≤ j ∧ j ≤ 1000 ∧ xs.length ≤ 1000 ∧ Q (.s (.tuple (List.replicate j.toNat xs).flatten))) := by simp [fMul]
def c_law_grown : Ct := fun rs Q _ => rs = [.g] ∧ ∀ (d s : D) (most : Int), isLoop 2 d = true → wholeS 2 s = true → 0 ≤ most → most ≤ 200 → Q (.s (.tuple [d, s, .int most]))
theorem d_law_grown {K : Frag} {cl : Ad} : ∀ rs Q E, c_law_grown rs Q E → w_law_grown K cl c_pick (rho N_law_grown.length rs) { nx := fun _ => Q (.s .none), rt := Q, er := fun cls _ => E cls } := by
  rintro rs Q E ⟨rfl, q⟩
  unfold w_law_grown
  walk_at "dz"
  refine ⟨by decide, by decide, fun r r0 r1 => ⟨by decide, by decide, fun fr f0 f1 => ?_⟩⟩
  obtain ⟨n, hn⟩ : ∃ n : Nat, (n : Int) = 150 - r - 1 := ⟨(150 - r - 1).toNat, by omega⟩
  have hcount : 150 - r = 1 + (n : Int) := by omega
  obtain ⟨far, hfar, far0, far1⟩ : ∃ far : Int, atI [PyData.int 0, PyData.int 999840] fr = some (.int far) ∧ 0 ≤ far ∧ far ≤ 999840 := by
    have : fr = 0 ∨ fr = 1 := by omega
    rcases this with rfl | rfl
    · exact ⟨0, rfl, by decide, by decide⟩
    · exact ⟨999840, rfl, by decide, by decide⟩
  refine ⟨_, hfar, ?_⟩
  walk_at "dz"
  unfold w_law_grown_t8
  walk_at "dz"
  refine ⟨by decide, by decide, fun pu p0 p1 => ⟨by decide, by decide, fun ta t0 t1 => ?_⟩⟩
  unfold w_law_grown_t7
  walk_at "dz"
  unfold w_law_grown_t6
  walk_at "dz"
  unfold w_law_grown_t5
  walk_at "dz"
  refine ⟨⟨by decide, by decide, by omega, by omega⟩, ?_⟩
  refine lc_go (fun k => ((List.range k).map fun (j : Nat) => (far + 1 + (j : Int), far + 1 + (j : Int) + 1)).map prD) rfl (fun k d hd => ?_) ?_
  · obtain ⟨rfl, hk⟩ := range_at hd
    rw [gwN1]
    refine ⟨by simp, ?_⟩
    simp only [putA, wipeR, List.set_cons_succ, List.set_cons_zero]
    walk_at "dz"
    refine ⟨by rw [List.length_map, List.length_map, List.length_range]; omega, ?_⟩
    rw [range_succ_map, List.map_append, show far + (1 + (k : Int)) = far + 1 + (k : Int) by omega]
    rfl
  rw [range_len, show (150 - r - 1).toNat = n by omega]
  walk_at "dz"
  refine ⟨by simp; omega, ?_⟩
  rw [show far + (150 - r) = far + 1 + (n : Int) by omega]
  have ec : ((List.range n).map fun (j : Nat) => (far + 1 + (j : Int), far + 1 + (j : Int) + 1)).map prD ++ [PyData.tuple [.int (far + 1 + (n : Int)), .int 0]] = (chainC far n).map prD := by
    unfold chainC
    rw [List.map_append]
    rfl
  rw [ec]
  unfold w_law_grown_t4
  walk_at "dz"
  refine ⟨by decide, by decide, fun xr x0 x1 => ?_⟩
  rw [show far + (150 - r) = far + 1 + (n : Int) by omega]
  obtain ⟨x, hx, hx'⟩ : ∃ x : Int, atI [PyData.int 0, PyData.int (far + 1 + (n : Int))] xr = some (.int x) ∧ (x = 0 ∨ x = far + 1 + n) := by
    have : xr = 0 ∨ xr = 1 := by omega
    rcases this with rfl | rfl
    · exact ⟨0, rfl, .inl rfl⟩
    · exact ⟨_, rfl, .inr rfl⟩
  refine ⟨_, hx, ?_⟩
  walk_at "dz"
  unfold w_law_grown_t3
  walk_at "dz"
  refine ⟨by decide, by decide, fun mo mo0 mo1 => ?_⟩
  have hs : wholeS 2 (stD [far + 1, x] (chainC far n)) = true := wholeS_ok rfl ⟨by simp, fun v hv => by
    simp only [List.mem_cons, List.not_mem_nil, or_false] at hv
    omega⟩ (chainC_ok far0 (by omega) (by omega)) (chainC_whole far0 n hx')
  have fin : ∀ most : Int, 0 ≤ most → most ≤ 200 → w_law_grown_t1 K cl c_pick [some .g, some (.s (.int (150 - r))), some (.s (.int far)), some (.s (.int (1 + pu))), some (.s (.int ta)), some (.s (.tuple pushL)), some (.s (.tuple pullL)), some (.l true ((chainC far n).map prD)), none, some (.s (stD [far + 1, x] (chainC far n))), some (.s (.int most))] { nx := fun _ => Q (.s .none), rt := Q, er := fun cls _ => E cls } := fun most m0 m1 => by
    unfold w_law_grown_t1
    walk_at "dz"
    rw [fMul_t]
    refine ⟨by simp, by omega, by omega, by decide, ?_⟩
    walk_at "dz"
    rw [fMul_t]
    refine ⟨by simp, by omega, by omega, by decide, ?_⟩
    walk_at "dz"
    refine ⟨by rw [rep_len, rep_len]; simp; omega, ?_⟩
    refine q _ _ most (loop_steps (cd_same (by decide) (by decide) (by decide) (by decide)) ?_ fun s hs => ?_) hs m0 m1
    · rw [List.length_append, rep_len, rep_len]
      simp
      omega
    · rcases List.mem_append.mp hs with hs | hs
      · exact push_ok s (rep_mem hs)
      · exact pull_ok s (rep_mem hs)
  unfold w_law_grown_t2
  walk_at "dz"
  refine ite_both (fun h => ?_) (fun _ => fin mo mo0 (by omega))
  have h := of_decide_eq_true h
  refine ⟨by decide, by decide, fun a a0 a1 => ?_⟩
  refine ite_both (fun _ => ?_) (fun _ => fin mo mo0 (by omega))
  refine ⟨⟨by omega, by omega⟩, by decide, by decide, fun b b0 b1 => ?_⟩
  have d1 : 0 ≤ (150 - (150 - r)) / (1 + pu - ta) := Int.ediv_nonneg (by omega) (by omega)
  have d2 : (150 - (150 - r)) / (1 + pu - ta) ≤ 150 - (150 - r) := Int.ediv_le_self _ (by omega)
  exact fin _ (by omega) (by omega)

/-! right runs, refusals -/
theorem loopF_small {c : D} {l : List D} : ∀ (f : Nat) (t : Int) (vs : List Int) (cs : List (Int × Int)) (d : D), LIn vs cs c l → loopF c l f t vs cs = some d → ∃ w vs' cs' t', d = .tuple [.str w, stD vs' cs', .int t'] ∧ Sh (.str w) ∧ vs'.length ≤ 4 ∧ cs'.length ≤ 200
  | 0, t, vs, cs, d, li, h => by
    cases h
    refine ⟨_, vs, cs, t, rfl, ?_, li.v4, by have := li.few; omega⟩
    split <;> exact sh_of (by decide +kernel)
  | f + 1, t, vs, cs, d, li, h => by
    cases hc : condB vs c with
    | false =>
      rw [loopF_no hc] at h
      cases h
      exact ⟨_, vs, cs, t, rfl, sh_words _ (by simp), li.v4, by have := li.few; omega⟩
    | true =>
      rw [loopF_go hc] at h
      by_cases he : (RunR vs cs l).1 = "end"
      · rw [if_pos he] at h
        obtain ⟨vs2, cs2, el, e1, e2, e3⟩ := run_last li
        rw [el, vsOf_st, csOf_st] at h
        by_cases hg : cs2.length > 150
        · rw [if_pos hg] at h; cases h
        · rw [if_neg hg] at h
          exact loopF_small f _ _ _ d (li.next e1 e3 (by omega)) h
      · rw [if_neg he] at h
        cases h
        exact ⟨_, vs, cs, _, rfl, run_sh, li.v4, by have := li.few; omega⟩
theorem small_run {w : Str} {vs : List Int} {cs : List (Int × Int)} {t : Int} (h : Sh (.str w)) (h1 : vs.length ≤ 4) (h2 : cs.length ≤ 200) : Small (.tuple [.str w, stD vs cs, .int t]) 4 7000 := by
  refine (small_tup (n := 3) (c := 2000) fun x hx => ?_).up (by omega) (by simp)
  simp only [List.mem_cons, List.not_mem_nil, or_false] at hx
  rcases hx with rfl | rfl | rfl
  · exact (small_str h 0).up (by omega) (by omega)
  · exact small_st h1 h2
  · exact (small_int _ 0).up (by omega) (by omega)
theorem whole_is {n : Int} {s : D} (h : wholeS n s = true) : ∃ vs cs, s = stD vs cs ∧ OkVs vs ∧ OkCs cs ∧ (vs.length : Int) = n ∧ wholeB vs cs = true := by
  unfold wholeS at h
  simp only [Bool.and_eq_true, decide_eq_true_eq] at h
  obtain ⟨vs, cs, rfl, ov, oc⟩ := st_of h.1.1
  rw [vsOf_st, csOf_st] at h
  exact ⟨vs, cs, rfl, ov, oc, h.1.2, h.2⟩
theorem loop_in {n : Int} {d s : D} (hl : isLoop n d = true) (hs : wholeS n s = true) : ∃ c l vs cs, d = .tuple [c, .tuple l] ∧ s = stD vs cs ∧ LIn vs cs c l := by
  obtain ⟨c, l, rfl, hc, hp, ht⟩ := loop_parts hl
  obtain ⟨vs, cs, rfl, ov, oc, rfl, _⟩ := whole_is hs
  exact ⟨c, l, vs, cs, rfl, rfl, isCond_is hc, ov.few, oc.srt, oc.few, hp, by omega⟩
def c_right_run : Ct := fun rs Q _ => ∃ (n : Int) (d s : D) (most : Int), rs = [.s (.int n), .s d, .s s, .s (.int most)] ∧ 0 ≤ n ∧ n ≤ 4 ∧ isLoop n d = true ∧ wholeS n s = true ∧ 0 ≤ most ∧ most ≤ 200 ∧ Q (.s (.bool true))
theorem d_law_right_run {K : Frag} {mg : Str → Option Value} {cl : Ad} (T : Txt K mg cl) : ∀ rs Q E, c_right_run rs Q E → w_law_right_run K cl (c_run_loop cl) c_same c_law_loop_run (rho N_law_right_run.length rs) { nx := fun _ => Q (.s .none), rt := Q, er := fun cls _ => E cls } := by
  rintro rs Q E ⟨n, d, s, most, rfl, n0, n4, hl, hs, m0, m1, q⟩
  obtain ⟨c, l, vs, cs, rfl, rfl, li⟩ := loop_in hl hs
  unfold w_law_right_run
  walk_at "dz"
  refine ⟨c, l, vs, cs, most, rfl, li, m0, by omega, ?_⟩
  have call : ∀ Q2 E2, oGo (loopF c l most.toNat 0 vs cs) Q2 (E2 (.ref cl.c_TooGreat)) → c_run_loop cl [.s (.int n), .s (.tuple [c, .tuple l]), .s (stD vs cs), .s (.int most)] Q2 E2 := fun Q2 E2 h =>
    ⟨_, _, _, _, rfl, .inr ⟨n, rfl, within_yes n0 n4, .inr ⟨hl, .inr ⟨hs, .inr ⟨most, c, l, vs, cs, rfl, m0, m1, rfl, rfl, li, h⟩⟩⟩⟩⟩
  cases e : loopF c l most.toNat 0 vs cs with
  | none =>
    show keepQ _ _
    walk_at "dz"
    refine call _ _ ?_
    rw [e]
    show wHand _ _ _ _ _
    simp only [wHand, T.e_TooGreat_TooGreat, Option.some.injEq, exists_eq_left', true_implies, Bool.true_eq_false, false_implies, and_true, Bool.false_eq_true, true_and]
    walk_at "dz"
    exact q
  | some d =>
    obtain ⟨w, vs', cs', t', rfl, sw, v4, c2⟩ := loopF_small _ _ _ _ _ li e
    show keepQ _ _
    walk_at "dz"
    refine call _ _ ?_
    rw [e]
    show keepQ _ _
    walk_at "dz"
    exact same_go (small_run sw v4 c2) (by omega) (by omega) q
def RefW (m d s mo : D) (w : Str) : Prop := (within m 0 4 = false ∧ w = "many") ∨ ∃ n, m = .int n ∧ within m 0 4 = true ∧ ((isLoop n d = false ∧ w = "loop") ∨ (isLoop n d = true ∧ ((wholeS n s = false ∧ w = "state") ∨ (wholeS n s = true ∧ within mo 0 200 = false ∧ w = "most"))))
def c_law_refused : Ct := fun rs Q _ => ∃ m d s mo w, rs = [.s m, .s d, .s s, .s mo] ∧ RefW m d s mo w ∧ Q (.s (.str w))
theorem d_law_refused {K : Frag} {mg : Str → Option Value} {cl : Ad} (T : Txt K mg cl) : ∀ rs Q E, c_law_refused rs Q E → w_law_refused K cl (c_run_loop cl) (rho N_law_refused.length rs) { nx := fun _ => Q (.s .none), rt := Q, er := fun cls _ => E cls } := by
  rintro rs Q E ⟨m, d, s, mo, w, rfl, h, q⟩
  unfold w_law_refused
  walk_at "dz"
  rcases h with ⟨h, rfl⟩ | ⟨n, rfl, hm, ⟨h, rfl⟩ | ⟨hl, ⟨h, rfl⟩ | ⟨hs, h, rfl⟩⟩⟩
  · refine ⟨m, d, s, mo, rfl, .inl ⟨h, ?_⟩⟩
    simp only [wHand, T.e_BadMany_BadMany, Option.some.injEq, exists_eq_left', true_implies, Bool.true_eq_false, false_implies, and_true, Bool.false_eq_true, true_and]
    walk_at "dz"
    exact q
  · refine ⟨_, d, s, mo, rfl, .inr ⟨n, rfl, hm, .inl ⟨h, ?_⟩⟩⟩
    simp only [wHand, T.e_BadLoop_BadMany, T.e_BadLoop_BadLoop, Option.some.injEq, exists_eq_left', true_implies, Bool.true_eq_false, false_implies, and_true, Bool.false_eq_true, true_and]
    walk_at "dz"
    exact q
  · refine ⟨_, d, s, mo, rfl, .inr ⟨n, rfl, hm, .inr ⟨hl, .inl ⟨h, ?_⟩⟩⟩⟩
    simp only [wHand, T.e_BadState_BadMany, T.e_BadState_BadLoop, T.e_BadState_BadState, Option.some.injEq, exists_eq_left', true_implies, Bool.true_eq_false, false_implies, and_true, Bool.false_eq_true, true_and]
    walk_at "dz"
    exact q
  · refine ⟨_, d, s, mo, rfl, .inr ⟨n, rfl, hm, .inr ⟨hl, .inr ⟨hs, .inl ⟨h, ?_⟩⟩⟩⟩⟩
    simp only [wHand, T.e_BadMost_BadMany, T.e_BadMost_BadLoop, T.e_BadMost_BadState, T.e_BadMost_BadMost, Option.some.injEq, exists_eq_left', true_implies, Bool.true_eq_false, false_implies, and_true, Bool.false_eq_true, true_and]
    walk_at "dz"
    exact q
def c_bad_many : Ct := fun rs Q _ => ∃ d, rs = [.s d] ∧ within d 0 4 = false ∧ Q (.s (.bool true))
theorem d_law_bad_many {K : Frag} {mg : Str → Option Value} {cl : Ad} (T : Txt K mg cl) : ∀ rs Q E, c_bad_many rs Q E → w_law_bad_many K cl (c_is_loop cl) (rho N_law_bad_many.length rs) { nx := fun _ => Q (.s .none), rt := Q, er := fun cls _ => E cls } := by
  rintro rs Q E ⟨d, rfl, h, q⟩
  unfold w_law_bad_many
  walk_at "dz"
  refine ⟨d, _, rfl, ?_⟩
  rw [if_neg (by rw [h]; decide)]
  simp only [wHand, T.e_BadMany_BadMany, Option.some.injEq, exists_eq_left', true_implies, Bool.true_eq_false, false_implies, and_true, Bool.false_eq_true, true_and]
  walk_at "dz"
  exact q

/-! things near loops -/
theorem lpc {n : Int} {c p : D} (h : isCond n c = false) : isLoop n (.tuple [c, p]) = false := by
  show (isCond n c && isProg n p) = false
  rw [h]; rfl
theorem lpp {n : Int} {c p : D} (h : isProg n p = false) : isLoop n (.tuple [c, p]) = false := by
  show (isCond n c && isProg n p) = false
  rw [h, Bool.and_false]
theorem pt_none {n : Int} {p : D} (h : isStep n p = false) (h' : brD n 4 p = none) : ptD n 4 p = none := by
  unfold ptD
  rw [h, if_neg Bool.false_ne_true, h']
theorem prog_one {n : Int} {p : D} (h : ptD n 4 p = none) : isProg n (.tuple [p]) = false := prog_bad (l := []) h
theorem steps_sizeK {n : Int} (k : Nat) : ∀ (l : List D) (t : Int), (∀ s ∈ l, isStep n s = true) → t + l.length ≤ 24 → sizeL (ptD n k) l t = some (t + l.length)
  | [], t, _, _ => by simp [sizeL]
  | p :: l, t, h, ht => by
    rw [List.length_cons] at ht
    have e : ptD n k p = some 1 := by unfold ptD; rw [if_pos (h p List.mem_cons_self)]
    unfold sizeL
    rw [e]
    show (if t + 1 > 24 then none else sizeL (ptD n k) l (t + 1)) = _
    rw [if_neg (by omega), steps_sizeK k l (t + 1) (fun s hs => h s (List.mem_cons_of_mem _ hs)) (by omega), List.length_cons]
    congr 1
    omega
theorem sz_of {n : Int} {k : Nat} {l : List D} {z : Int} (hl : l.length ≤ 24) (h : sizeL (ptD n k) l 0 = some z) : szD n k (.tuple l) = some z := by
  rw [szD_eq]
  show (if l.length ≤ 24 then sizeL (ptD n k) l 0 else none) = _
  rw [if_pos hl, h]
theorem sz_steps {n : Int} {k : Nat} {l : List D} (hl : l.length ≤ 24) (hs : ∀ s ∈ l, isStep n s = true) : szD n k (.tuple l) = some (l.length : Int) := by
  have := sz_of (n := n) (k := k) hl (steps_sizeK k l 0 hs (by omega))
  rw [this, Int.zero_add]
theorem if_word : isWord (.str "if") [.str "if"] = true := by decide +kernel
theorem pt_br {n : Int} {k : Nat} {c a b : D} {x y : Int} (hc : isCond n c = true) (ha : szD n k a = some x) (hb : szD n k b = some y) : ptD n (k + 1) (.tuple [.str "if", c, a, b]) = some (1 + x + y) := by
  unfold ptD
  rw [show isStep n (.tuple [.str "if", c, a, b]) = false from rfl, if_neg Bool.false_ne_true]
  simp only [brD, branchOf, if_word, hc, Bool.and_self, if_true, ha, hb]
theorem sz_one {n : Int} {k : Nat} {p : D} {x : Int} (h : ptD n k p = some x) (hx : x ≤ 24) : szD n k (.tuple [p]) = some x := by
  refine sz_of (by simp) ?_
  simp only [sizeL, h]
  rw [if_neg (by omega), Int.zero_add]
theorem sz_nil (n : Int) (k : Nat) : szD n k (.tuple []) = some 0 := by rw [szD_eq]; rfl
def deepB (c : D) : Nat → List D
  | 0 => [.tuple [.str "free", .int 0]]
  | k + 1 => [.tuple [.str "if", c, .tuple (deepB c k), .tuple []]]
def deepG (c : D) : Nat → List D
  | 0 => [.tuple [.str "free", .int 0]]
  | k + 1 => [.tuple [.str "if", c, .tuple [], .tuple (deepG c k)]]
theorem deepB_not {n : Int} (c : D) : ∀ (k j : Nat), j < k → szD n j (.tuple (deepB c k)) = none
  | 0, j, h => by omega
  | k + 1, j, h => by
    have hp : ptD n j (.tuple [.str "if", c, .tuple (deepB c k), .tuple []]) = none := by
      unfold ptD
      rw [show isStep n (.tuple [.str "if", c, .tuple (deepB c k), .tuple []]) = false from rfl, if_neg Bool.false_ne_true]
      cases j with
      | zero => rfl
      | succ j =>
        simp only [brD, branchOf]
        rw [deepB_not c k j (by omega)]
        split <;> rfl
    rw [szD_eq]
    show (if (deepB c (k + 1)).length ≤ 24 then sizeL (ptD n j) (deepB c (k + 1)) 0 else none) = none
    rw [if_pos (by simp [deepB])]
    simp only [deepB, sizeL, hp]
theorem deepG_is {n : Int} (n1 : 1 ≤ n) {c : D} (hc : isCond n c = true) : ∀ (k j : Nat), k ≤ j → k ≤ 20 → szD n j (.tuple (deepG c k)) = some ((k : Int) + 1)
  | 0, j, _, _ => sz_steps (l := [.tuple [.str "free", .int 0]]) (by simp) (all1 (st_free (by decide) (by omega)))
  | k + 1, j, h, h20 => by
    obtain ⟨j, rfl⟩ : ∃ i, j = i + 1 := ⟨j - 1, by omega⟩
    have := pt_br hc (sz_nil n j) (deepG_is n1 hc k j (by omega) (by omega))
    refine (sz_one this (by omega)).trans ?_
    congr 1
    omega
abbrev newD : D := .tuple [.str "new", .int 0]
theorem news_ok {n : Int} (n1 : 1 ≤ n) (k : Nat) : ∀ s ∈ (List.replicate k [newD]).flatten, isStep n s = true := fun s hs => by
  rw [List.mem_singleton.mp (rep_mem hs)]
  exact st_new (by decide) (by omega)
theorem news_len (k : Nat) : (List.replicate k [newD]).flatten.length = k := by rw [rep_len]; simp
theorem wide_is {n : Int} (n1 : 1 ≤ n) {c : D} (hc : isCond n c = true) (a b : Nat) (ha : a ≤ 24) (hb : b ≤ 24) : ptD n 4 (.tuple [.str "if", c, .tuple (List.replicate a [newD]).flatten, .tuple (List.replicate b [newD]).flatten]) = some (1 + a + b) := by
  have h1 := sz_steps (n := n) (k := 3) (l := (List.replicate a [newD]).flatten) (by rw [news_len]; exact ha) (news_ok n1 a)
  have h2 := sz_steps (n := n) (k := 3) (l := (List.replicate b [newD]).flatten) (by rw [news_len]; exact hb) (news_ok n1 b)
  rw [news_len] at h1 h2
  exact pt_br hc h1 h2
theorem prog_great {n : Int} {p : D} {l : List D} {x : Int} (hp : ptD n 4 p = some x) (h : sizeL (ptD n 4) l x = none ∨ 24 < x) : isProg n (.tuple (p :: l)) = false := by
  unfold isProg
  rw [szD_eq]
  show (if (p :: l).length ≤ 24 then sizeL (ptD n 4) (p :: l) 0 else none).isSome = false
  by_cases q : (p :: l).length ≤ 24
  · rw [if_pos q]
    simp only [sizeL, hp]
    by_cases z : 0 + x > 24
    · rw [if_pos z]; rfl
    · rw [if_neg z]
      rcases h with h | h
      · rw [Int.zero_add, h]; rfl
      · omega
  · rw [if_neg q]; rfl
theorem within_up {d : D} {a b b' : Int} (h : within d a b = true) (hb : b ≤ b') : within d a b' = true := by
  obtain ⟨i, rfl, h1, h2⟩ := within_is h
  exact within_yes h1 (by omega)
theorem step_up {n : Int} {d : D} (h : isStep n d = true) : isStep (n + 1) d = true := by
  unfold isStep at h ⊢
  split at h
  · simp only [Bool.and_eq_true] at h ⊢
    exact ⟨⟨h.1.1, within_up h.1.2 (by omega)⟩, h.2⟩
  · simp only [Bool.and_eq_true] at h ⊢
    exact ⟨⟨⟨h.1.1.1, within_up h.1.1.2 (by omega)⟩, h.1.2⟩, within_up h.2 (by omega)⟩
  · cases h
theorem cond_up {n : Int} {d : D} (h : isCond n d = true) : isCond (n + 1) d = true := by
  unfold isCond at h ⊢
  split at h
  · simp only [Bool.and_eq_true] at h ⊢
    exact ⟨⟨h.1.1, within_up h.1.2 (by omega)⟩, within_up h.2 (by omega)⟩
  · cases h
theorem pt_upN {n : Int} : ∀ (k : Nat) (p : D) (z : Int), ptD n k p = some z → ptD (n + 1) k p = some z
  | 0, p, z, h => by
    unfold ptD at h ⊢
    cases e : isStep n p with
    | true => rw [e] at h; rw [step_up e]; simpa using h
    | false => rw [e] at h; simp [brD] at h
  | k + 1, p, z, h => by
    rcases pt_cases h with ⟨w, r, rfl, _, _, hs, rfl⟩ | ⟨k', c, a, b, x, y, hk, rfl, ns, ha, hb, rfl⟩
    · unfold ptD
      rw [step_up hs]
      rfl
    · cases hk
      have hc : isCond n c = true := by
        unfold ptD at h
        rw [ns, if_neg Bool.false_ne_true] at h
        simp only [brD, branchOf] at h
        split at h
        · rename_i hh; simp only [Bool.and_eq_true] at hh; exact hh.2
        · cases h
      rw [szD_eq] at ha hb
      exact pt_br (cond_up hc) (by rw [szD_eq]; exact row_mono (pt_upN k) _ _ ha) (by rw [szD_eq]; exact row_mono (pt_upN k) _ _ hb)
theorem loop_up {n : Int} {d : D} (h : isLoop n d = true) : isLoop (n + 1) d = true := by
  unfold isLoop at h ⊢
  split at h
  · rename_i c p
    rw [Bool.and_eq_true] at h ⊢
    refine ⟨cond_up h.1, ?_⟩
    have h2 := h.2
    unfold isProg at h2 ⊢
    obtain ⟨z, hz⟩ := Option.isSome_iff_exists.mp h2
    rw [szD_eq] at hz ⊢
    rw [row_mono (pt_upN 4) _ _ hz]
    rfl
  · cases h

theorem cd_no1 {n i j : Int} {w : Str} (h : i < -1 ∨ n ≤ i) : isCond n (.tuple [.str w, .int i, .int j]) = false := by
  have : within (.int i) (-1) (n - 1) = false := by simp [within]; omega
  simp [isCond, this]
theorem cd_no2 {n i j : Int} {w : Str} (h : j < -1 ∨ n ≤ j) : isCond n (.tuple [.str w, .int i, .int j]) = false := by
  have : within (.int j) (-1) (n - 1) = false := by simp [within]; omega
  simp [isCond, this]
theorem st_no {n v : Int} {w : Str} (h : v < 0 ∨ n ≤ v) : isStep n (.tuple [.str w, .int v]) = false := by
  have : within (.int v) 0 (n - 1) = false := by simp [within]; omega
  simp [isStep, this]
theorem st_no3 {n v : Int} {o : D} {w : Str} (h : v < 0 ∨ n ≤ v) : isStep n (.tuple [.str w, .int v, o]) = false := by
  have : within (.int v) 0 (n - 1) = false := by simp [within]; omega
  simp [isStep, this]
theorem pt_no {n : Int} {p : D} (h : isStep n p = false) (h' : ∀ g, branchOf g n p = none) : ptD n 4 p = none := pt_none h (h' _)
theorem lst_go {rs : List R} {ds : List D} {Q : R → Prop} (h : dats rs = some ds) (hl : ds.length ≤ 16777216) (q : Q (.l true ds)) : lstQ rs Q := ⟨ds, h, hl, q⟩
theorem tup_go {rs : List R} {ds : List D} {Q : R → Prop} (h : dats rs = some ds) (hl : ds.length ≤ 16777216) (q : Q (.s (.tuple ds))) : tupQ rs Q := ⟨ds, h, hl, q⟩
theorem none_end {K : Frag} {cl : Ad} {n : Int} {w : Str} {i j : Int} {l : List D} {Q : R → Prop} {E : Value → Prop} (n1 : 1 ≤ n) (hc : isCond n (.tuple [.str w, .int i, .int j]) = true)
    (q : ∀ ds, (∀ x ∈ ds, isLoop n x = false) → ds.length ≤ 100 → Q (.l true ds)) (L : List D) (hL : ∀ x ∈ L, isLoop n x = false) (hl : L.length ≤ 50) :
    w_law_none_t4 K cl [some (.s (.int n)), some (.s (.tuple [.tuple [.str w, .int i, .int j], .tuple l])), some (.s (.tuple [.str w, .int i, .int j])), some (.s (.tuple l)), some (.l true L), some (.s (.tuple [.tuple [.str "free", .int 0]])), none, none]
      { nx := fun _ => Q (.s .none), rt := Q, er := fun cls _ => E cls } := by
  unfold w_law_none_t4
  walk_at "dz"
  refine ⟨by decide, by decide, for_go (fun k (ρ : Rho) => ∃ x6, ρ = [some (.s (.int n)), some (.s (.tuple [.tuple [.str w, .int i, .int j], .tuple l])), some (.s (.tuple [.str w, .int i, .int j])), some (.s (.tuple l)), some (.l true L), some (.s (.tuple (deepB (.tuple [.str w, .int i, .int j]) k))), x6, none]) ⟨none, rfl⟩ ?_ ?_⟩
  · rintro k d ρ hd ⟨x6, rfl⟩
    walk_at "dz"
    unfold w_law_none_b1
    walk_at "dz"
    exact ⟨_, rfl, rfl⟩
  rintro ρ ⟨x6, rfl⟩
  rw [range_len]
  unfold w_law_none_t3
  walk_at "dz"
  rw [fMul_t]
  refine ⟨by simp, by decide, by decide, by simp, ?_⟩
  walk_at "dz"
  rw [fMul_t]
  refine ⟨by simp, by decide, by decide, by simp, ?_⟩
  walk_at "dz"
  unfold w_law_none_t2
  walk_at "dz"
  rw [fMul_t]
  refine ⟨by simp, by decide, by decide, by simp, ?_⟩
  walk_at "dz"
  rw [fMul_t]
  refine ⟨by simp, by decide, by decide, by simp, ?_⟩
  walk_at "dz"
  refine ⟨by omega, q _ (fun x hx => ?_) (by rw [List.length_append]; show L.length + 3 ≤ 100; omega)⟩
  rcases List.mem_append.mp hx with h | h
  · exact hL x h
  · clear hx
    revert x h
    have e12 : Int.toNat 12 = 12 := rfl
    have e11 : Int.toNat 11 = 11 := rfl
    refine fun x hx => allC (P := fun x => isLoop n x = false) ?_ (allC ?_ (all1 ?_)) x hx
    · refine lpp ?_
      unfold isProg
      show (szD n 4 (.tuple (deepB (.tuple [.str w, .int i, .int j]) 5))).isSome = false
      rw [deepB_not _ 5 4 (by omega)]
      rfl
    · refine lpp (prog_great (wide_is n1 hc 11 12 (by omega) (by omega)) (.inl ?_))
      have e : ptD n 4 newD = some 1 := by unfold ptD; rw [st_new (by decide) (by omega)]; rfl
      simp only [sizeL, e]
      rfl
    · exact lpp (prog_great (wide_is n1 hc 12 12 (by omega) (by omega)) (.inr (by decide)))
def c_law_none : Ct := fun rs Q _ => ∃ (n : Int) (c : D) (l : List D), rs = [.s (.int n), .s (.tuple [c, .tuple l])] ∧ 1 ≤ n ∧ isCond n c = true ∧ ∀ ds, (∀ x ∈ ds, isLoop n x = false) → ds.length ≤ 100 → Q (.l true ds)
theorem d_law_none {K : Frag} {cl : Ad} : ∀ rs Q E, c_law_none rs Q E → w_law_none K cl (rho N_law_none.length rs) { nx := fun _ => Q (.s .none), rt := Q, er := fun cls _ => E cls } := by
  rintro rs Q E ⟨n, c, l, rfl, n1, hc, q⟩
  obtain ⟨w, i, j, hw, rfl, i0, i1, j0, j1⟩ := isCond_is hc
  have s1 : DL.cutD [PyData.tuple [.str w, .int i, .int j], .tuple l] none (some 1) = [PyData.tuple [.str w, .int i, .int j]] := rfl
  have s2 : DL.cutD [PyData.str w, .int i, .int j] (some 1) none = [PyData.int i, .int j] := rfl
  have s3 : DL.cutD [PyData.str w, .int i, .int j] none (some 2) = [PyData.str w, .int i] := rfl
  unfold w_law_none
  walk_at "dz"
  unfold w_law_none_t10
  walk_at "dz"
  rw [s1]
  refine lst_go rfl (by simp) ?_
  walk_at "dz"
  unfold w_law_none_t9
  walk_at "dz"
  rw [s2, s3]
  refine ⟨by simp, ?_⟩
  unfold w_law_none_t8
  walk_at "dz"
  unfold w_law_none_t7
  walk_at "dz"
  unfold w_law_none_t6
  walk_at "dz"
  rw [fMul_t]
  refine ⟨by simp, by decide, by decide, by simp, ?_⟩
  walk_at "dz"
  unfold w_law_none_t5
  walk_at "dz"
  refine none_end n1 hc q _ ?_ (by simp)
  have pe : isProg n (.tuple [.str w, .int i, .int j]) = false := by
    unfold isProg
    rw [szD_eq]
    have : ptD n 4 (.str w) = none := rfl
    simp only [rowSize, sizeL, this]
    rfl
  refine allC ?_ (allC ?_ (allC ?_ (allC ?_ (allC ?_ (allC ?_ (allC ?_ (allC ?_ (allC ?_ (allC ?_ ?_)))))))))
  · rfl
  · rfl
  · rfl
  · rfl
  · rfl
  · rfl
  · rfl
  · exact lpc rfl
  · exact lpp rfl
  · exact lpp pe
  refine allC ?_ (allC ?_ (allC ?_ (allC ?_ (allC ?_ ?_))))
  · refine lpc ?_
    simp [isCond, show isWord (.str "alike") [.str "same", .str "unlike"] = false from by decide +kernel]
  · exact lpc rfl
  · exact lpc rfl
  · exact lpc rfl
  · exact lpp rfl
  refine allC ?_ (allC ?_ (allC ?_ (allC ?_ ?_)))
  · exact lpc (cd_no1 (.inr (by omega)))
  · exact lpc (cd_no2 (.inl (by decide)))
  · refine lpc ?_
    simp [isCond, within]
  · exact lpp (prog_one (pt_no rfl fun _ => rfl))
  refine allC ?_ (allC ?_ (allC ?_ (allC ?_ ?_)))
  · exact lpp (prog_one (pt_no (st_no (.inr (by omega))) fun _ => rfl))
  · refine lpp (prog_one (pt_no ?_ fun _ => rfl))
    simp [isStep, show isWord (.str "new") W2 = true from by decide +kernel]
  · refine lpp (prog_one (pt_no ?_ fun _ => rfl))
    simp [isStep, within, show PyData.eqv (.str "follow") (.str "follow") = true from by decide +kernel]
  · exact lpp (prog_one (pt_no (st_no3 (.inl (by decide))) fun _ => rfl))
  refine allC ?_ (allC ?_ (all1 ?_))
  · refine lpp ?_
    unfold isProg
    rw [szD_eq]
    show (if (List.replicate (Int.toNat 25) [newD]).flatten.length ≤ 24 then sizeL (ptD n 4) (List.replicate (Int.toNat 25) [newD]).flatten 0 else none).isSome = false
    rw [if_neg (by rw [news_len]; decide)]
    rfl
  · refine lpp (prog_one (pt_no ?_ fun _ => rfl))
    simp [isStep, within]
  · exact lpp (prog_one (pt_no rfl fun _ => rfl))

def c_law_judged : Ct := fun rs Q _ => ∃ (n : Int) (d : D), rs = [.s (.int n), .s d] ∧ 1 ≤ n ∧ n ≤ 3 ∧ isLoop n d = true ∧ Q (.s (.bool true))
theorem d_law_judged {K : Frag} {cl : Ad} : ∀ rs Q E, c_law_judged rs Q E → w_law_judged K cl (c_is_loop cl) c_law_none (rho N_law_judged.length rs) { nx := fun _ => Q (.s .none), rt := Q, er := fun cls _ => E cls } := by
  rintro rs Q E ⟨n, d, rfl, n1, n3, hl, q⟩
  obtain ⟨c, l, rfl, hc, _⟩ := loop_parts hl
  have wn : within (.int n) 0 4 = true := within_yes (by omega) (by omega)
  have wn1 : within (.int (n + 1)) 0 4 = true := within_yes (by omega) (by omega)
  unfold w_law_judged
  walk_at "dz"
  unfold w_law_judged_t7
  walk_at "dz"
  unfold w_law_judged_t6
  walk_at "dz"
  refine ⟨by decide, by decide, for_go (fun i (ρ : Rho) => ∃ x4, ρ = [some (.s (.int n)), some (.s (.tuple [c, .tuple l])), some (.s c), some (.s (.tuple (deepG c i))), x4, none, none, none]) ⟨none, rfl⟩ ?_ ?_⟩
  · rintro i d ρ hd ⟨x4, rfl⟩
    walk_at "dz"
    unfold w_law_judged_b1
    walk_at "dz"
    exact ⟨_, rfl, rfl⟩
  rintro ρ ⟨x4, rfl⟩
  rw [range_len]
  unfold w_law_judged_t5
  walk_at "dz"
  rw [fMul_t]
  refine ⟨by simp, by decide, by decide, by simp, ?_⟩
  walk_at "dz"
  rw [fMul_t]
  refine ⟨by simp, by decide, by decide, by simp, ?_⟩
  walk_at "dz"
  unfold w_law_judged_t4
  walk_at "dz"
  rw [fMul_t]
  refine ⟨by simp, by decide, by decide, by simp, ?_⟩
  walk_at "dz"
  unfold w_law_judged_t3
  walk_at "dz"
  refine lc_go (fun _ => []) rfl (fun k d hd => ?_) ?_
  · have good : isLoop n d = true := by
      have hm := List.mem_of_getElem? hd
      revert hm
      refine fun hm => allC (P := fun x => isLoop n x = true) ?_ (allC ?_ (allC ?_ (allC ?_ (all1 ?_)))) d hm
      · exact hl
      · exact loop_steps (l := []) (cd_same (by decide) (by omega) (by decide) (by omega)) (by simp) fun s h => nomatch h
      · exact loop_steps hc (by rw [news_len]; decide) (news_ok n1 _)
      · show (isCond n c && isProg n (.tuple (deepG c (Int.toNat 4)))) = true
        unfold isProg
        show (isCond n c && (szD n 4 (.tuple (deepG c 4))).isSome) = true
        rw [hc, deepG_is n1 hc 4 4 (by omega) (by omega)]
        rfl
      · have := sz_one (k := 4) (wide_is n1 hc 11 12 (by omega) (by omega)) (by decide)
        show (isCond n c && isProg n _) = true
        unfold isProg
        rw [hc]
        have e : szD n 4 (.tuple [.tuple [.str "if", c, .tuple (List.replicate (Int.toNat 11) [newD]).flatten, .tuple (List.replicate (Int.toNat 12) [newD]).flatten]]) = some (1 + 11 + 12) := this
        rw [e]
        rfl
    rw [gwN1]
    refine ⟨by simp, ?_⟩
    simp only [putA, wipeR, List.set_cons_succ, List.set_cons_zero]
    walk_at "dz"
    refine ⟨.int n, d, rfl, ?_⟩
    rw [if_pos wn]
    show fIs _ (.s (.bool (isLoop n d))) _ _
    rw [good]
    walk_at "dz"
  · walk_at "dz"
    refine ⟨.int (n + 1), _, rfl, ?_⟩
    rw [if_pos wn1]
    rw [show loopB (.int (n + 1)) (.tuple [c, .tuple l]) = true from loop_up hl]
    walk_at "dz"
    unfold w_law_judged_t2
    walk_at "dz"
    refine ⟨n, c, l, rfl, n1, hc, fun ds hds hlen => ?_⟩
    walk_at "dz"
    refine lc_go (fun _ => []) rfl (fun k d hd => ?_) ?_
    · rw [gwN1]
      refine ⟨by simp, ?_⟩
      simp only [putA, wipeR, List.set_cons_succ, List.set_cons_zero]
      walk_at "dz"
      refine ⟨.int n, d, rfl, ?_⟩
      rw [if_pos wn]
      show fIs _ (.s (.bool (isLoop n d))) _ _
      rw [hds d (List.mem_of_getElem? hd)]
      walk_at "dz"
    · walk_at "dz"
      exact q

theorem whole_nil : wholeS 0 (stD [] []) = true := wholeS_ok (vs := []) (cs := []) rfl ⟨by simp, fun v h => (nomatch h)⟩ ⟨by simp, fun v h => (nomatch h), .nil⟩ (by decide)
def ringC (n : Nat) : List (Int × Int) := (List.range n).map (fun (k : Nat) => ((1 : Int) + (k : Int), (1 : Int) + (k : Int) + 1)) ++ [(1 + (n : Int), 1)]
theorem ring_whole {n : Nat} (h : n < 5) : wholeS 1 (stD [1] (ringC n)) = true := by
  have : n = 0 ∨ n = 1 ∨ n = 2 ∨ n = 3 ∨ n = 4 := by omega
  refine wholeS_ok rfl ⟨by simp, fun v h => by rw [List.mem_singleton.mp h]; omega⟩ ⟨?_, ?_, ?_⟩ ?_
  · unfold ringC; simp; omega
  · rcases this with rfl | rfl | rfl | rfl | rfl <;> decide
  · rcases this with rfl | rfl | rfl | rfl | rfl <;> decide
  · rcases this with rfl | rfl | rfl | rfl | rfl <;> decide
theorem d_law {K : Frag} {mg : Str → Option Value} {cl : Ad} (T : Txt K mg cl) (ns : List Int) (hns : ns.length ≤ 63) :
    w_law K cl c_pick (c_places false) (c_law_whole_state 5) c_law_condition (c_law_program 2) c_law_told_loop c_law_grown c_right_run c_law_refused c_bad_many c_law_judged
      (some (.s (.list (ns.map PyData.int))) :: some .g :: List.replicate (N_law.length - 2) none) { nx := fun _ => False, rt := fun r => r = .s (.bool true) } := by
  unfold w_law
  walk_at "dz"
  unfold w_law_t20
  walk_at "dz"
  refine ⟨0, _, _, 200, rfl, by decide, by decide, loop_steps (l := []) (cd_same (by decide) (by decide) (by decide) (by decide)) (by simp) (fun s h => nomatch h), whole_nil, by decide, by decide, ?_⟩
  walk_at "dz"
  refine ⟨0, _, _, 3, rfl, by decide, by decide, loop_steps (l := []) (cd_unlike (by decide) (by decide) (by decide) (by decide)) (by simp) (fun s h => nomatch h), whole_nil, by decide, by decide, ?_⟩
  walk_at "dz"
  unfold w_law_t19
  walk_at "dz"
  refine ⟨by split <;> omega, by split <;> omega, ?_⟩
  refine for_go (fun i (ρ : Rho) => ∃ v3 v4 v5 v6 v7 v8 v9 v10 v11 v12, ρ = [some (.s (.list (ns.map PyData.int))), some .g, some (.s (stD [] [])), v3, v4, v5, v6, v7, v8, v9, v10, v11, v12]) ⟨_, _, _, _, _, _, _, _, _, _, rfl⟩ ?_ ?_
  · rintro i d ρ hd ⟨v3, v4, v5, v6, v7, v8, v9, v10, v11, v12, rfl⟩
    obtain ⟨rfl, _⟩ := range0_at hd
    walk_at "dz"
    unfold w_law_b12
    walk_at "dz"
    refine ⟨by decide, by decide, fun m m0 m1 => ?_⟩
    unfold w_law_t11
    walk_at "dz"
    refine ⟨1 + m, rfl, by omega, by omega, fun w a b hw a0 a1 b0 b1 => ?_⟩
    walk_at "dz"
    refine ⟨1 + m, 6, rfl, by omega, by omega, by decide, by decide, by decide, fun l z hl hz z0 z1 => ?_⟩
    walk_at "dz"
    refine ⟨by decide, by decide, fun most q0 q1 => ?_⟩
    have lk := loop_ok (cond_ok hw a0 a1 b0 b1) (by omega) (size_up hz 2)
    obtain ⟨R0, eR⟩ : ∃ R0, R0 = (PyData.tuple [.tuple [w, .int a, .int b], .tuple l]) := ⟨_, rfl⟩
    have go : ∀ d, isLoop (1 + m) d = true → w_law_t9 K cl c_pick (c_places false) (c_law_whole_state 5) c_law_condition (c_law_program 2) c_law_told_loop c_law_grown c_right_run c_law_refused c_bad_many c_law_judged
        [some (.s (.list (ns.map PyData.int))), some .g, some (.s (stD [] [])), some (.s (.int i)), some (.s (.int (1 + m))), some (.s d), some (.s (.int most)), v7, v8, v9, v10, v11, v12]
        { nx := fun ρ2 => ∃ v3 v4 v5 v6 v7 v8 v9 v10 v11 v12, ρ2 = [some (.s (.list (ns.map PyData.int))), some .g, some (.s (stD [] [])), v3, v4, v5, v6, v7, v8, v9, v10, v11, v12], rt := fun r => r = .s (.bool true),
          bk := fun ρ' => w_law_t18 K cl c_pick (c_places false) (c_law_whole_state 5) c_law_condition (c_law_program 2) c_law_told_loop c_law_grown c_right_run c_law_refused c_bad_many c_law_judged ρ' { nx := fun _ => False, rt := fun r => r = .s (.bool true) },
          ct := fun ρ2 => ∃ v3 v4 v5 v6 v7 v8 v9 v10 v11 v12, ρ2 = [some (.s (.list (ns.map PyData.int))), some .g, some (.s (stD [] [])), v3, v4, v5, v6, v7, v8, v9, v10, v11, v12] } := by
      intro d hl
      obtain ⟨c, l, rfl, hc, _⟩ := loop_parts hl
      unfold w_law_t9
      walk_at "dz"
      refine ⟨1 + m, rfl, by decide, by omega, by omega, fun vs cs ok few hwh => ?_⟩
      have hs : wholeS (1 + m) (stD vs cs) = true := wholeS_ok ok.len ok.ov ok.oc hwh
      have es : stD vs cs = .tuple [.tuple (vs.map .int), .tuple (cs.map prD)] := rfl
      walk_at "dz"
      unfold w_law_t8
      walk_at "dz"
      refine ⟨1 + m, _, _, most, rfl, by omega, by omega, hl, hs, q0, by omega, ?_⟩
      walk_at "dz"
      refine ⟨1 + m, _, _, 0, rfl, by omega, by omega, hl, hs, by decide, by decide, ?_⟩
      walk_at "dz"
      unfold w_law_t7
      walk_at "dz"
      have rest : w_law_t6 K cl c_pick (c_places false) (c_law_whole_state 5) c_law_condition (c_law_program 2) c_law_told_loop c_law_grown c_right_run c_law_refused c_bad_many c_law_judged
          [some (.s (.list (ns.map PyData.int))), some .g, some (.s (stD [] [])), some (.s (.int i)), some (.s (.int (1 + m))), some (.s (.tuple [c, .tuple l])), some (.s (.int most)), some (.s (stD vs cs)), v8, v9, v10, v11, v12]
          { nx := fun ρ2 => ∃ v3 v4 v5 v6 v7 v8 v9 v10 v11 v12, ρ2 = [some (.s (.list (ns.map PyData.int))), some .g, some (.s (stD [] [])), v3, v4, v5, v6, v7, v8, v9, v10, v11, v12], rt := fun r => r = .s (.bool true),
            bk := fun ρ' => w_law_t18 K cl c_pick (c_places false) (c_law_whole_state 5) c_law_condition (c_law_program 2) c_law_told_loop c_law_grown c_right_run c_law_refused c_bad_many c_law_judged ρ' { nx := fun _ => False, rt := fun r => r = .s (.bool true) },
            ct := fun ρ2 => ∃ v3 v4 v5 v6 v7 v8 v9 v10 v11 v12, ρ2 = [some (.s (.list (ns.map PyData.int))), some .g, some (.s (stD [] [])), v3, v4, v5, v6, v7, v8, v9, v10, v11, v12] } := by
        have wm : within (.int (1 + m)) 0 4 = true := within_yes (by omega) (by omega)
        unfold w_law_t6
        rw [es]
        walk_at "dz"
        rw [← es]
        refine ⟨vs, cs, rfl, ok.ov.few, by omega, fun ns' hs' => ?_⟩
        walk_at "dz"
        have l3 := hs'.2.2
        refine ⟨by rw [List.length_map]; omega, true, 0 :: ns', rfl, by simp, fun x h1 h2 => ?_⟩
        rw [top_eq hs' h1 h2]
        obtain ⟨far, ef⟩ : ∃ far, far = topOf (flatSt vs cs) + 1 := ⟨_, rfl⟩
        have F : FarIs vs cs far := by rw [ef]; exact far_is ok
        walk_at "dz"
        rw [← ef]
        refine ⟨by rw [List.length_map]; omega, ?_⟩
        have el : PyData.tuple [.tuple (vs.map .int), .tuple (cs.map prD ++ [.tuple [.int far, .int 0]])] = stD vs (cs ++ [(far, 0)]) := by unfold stD; rw [List.map_append]; rfl
        rw [el]
        have wl : wholeS (1 + m) (stD vs (cs ++ [(far, 0)])) = false := by
          unfold wholeS
          rw [vsOf_st, csOf_st, loose_not F.v F.c, Bool.and_false]
        unfold w_law_t5
        walk_at "dz"
        refine ⟨.int 5, .none, .none, .none, "many", rfl, .inl ⟨rfl, rfl⟩, ?_⟩
        walk_at "dz"
        refine ⟨.bool true, _, _, _, "many", rfl, .inl ⟨rfl, rfl⟩, ?_⟩
        walk_at "dz"
        refine ⟨.int (1 + m), .none, .none, .none, "loop", rfl, .inr ⟨_, rfl, wm, .inl ⟨rfl, rfl⟩⟩, ?_⟩
        walk_at "dz"
        unfold w_law_t4
        walk_at "dz"
        refine ⟨.int (1 + m), _, _, _, "loop", rfl, .inr ⟨_, rfl, wm, .inl ⟨rfl, rfl⟩⟩, ?_⟩
        walk_at "dz"
        refine ⟨.int (1 + m), _, _, _, "state", rfl, .inr ⟨_, rfl, wm, .inr ⟨hl, .inl ⟨rfl, rfl⟩⟩⟩, ?_⟩
        walk_at "dz"
        unfold w_law_t3
        walk_at "dz"
        refine ⟨.int (1 + m), _, _, _, "state", rfl, .inr ⟨_, rfl, wm, .inr ⟨hl, .inl ⟨wl, rfl⟩⟩⟩, ?_⟩
        rw [es]
        walk_at "dz"
        rw [← es]
        refine ⟨.int (1 + m), _, _, _, "state", rfl, .inr ⟨_, rfl, wm, .inr ⟨hl, .inl ⟨rfl, rfl⟩⟩⟩, ?_⟩
        walk_at "dz"
        unfold w_law_t2
        walk_at "dz"
        refine lc_go (fun k => List.replicate k (.str "most")) rfl (fun k d hd => ?_) ?_
        · rw [gwN1]
          refine ⟨by simp, ?_⟩
          show wYes _ _ _
          simp only [putA, wipeR, List.set_cons_succ, List.set_cons_zero]
          walk_at "dz"
          have hb : within d 0 200 = false := by
            have hm := List.mem_of_getElem? hd
            simp only [List.mem_cons, List.not_mem_nil, or_false] at hm
            rcases hm with rfl | rfl | rfl | rfl <;> rfl
          refine ⟨.int (1 + m), _, _, d, "most", rfl, .inr ⟨_, rfl, wm, .inr ⟨hl, .inr ⟨hs, hb, rfl⟩⟩⟩, ?_⟩
          walk_at "dz"
          have hk := get_lt hd
          refine ⟨by rw [List.length_replicate]; simp at hk; omega, ?_⟩
          rw [← List.replicate_succ, List.replicate_succ']
        · walk_at "dz"
          unfold w_law_t1
          walk_at "dz"
          refine lst_go rfl (by decide) ?_
          walk_at "dz"
          have ee : (PyData.list [.str "many", .str "many", .str "loop", .str "loop", .str "state", .str "state", .str "state", .str "most", .str "most", .str "most", .str "most"]).eqv (PyData.list [.str "many", .str "many", .str "loop", .str "loop", .str "state", .str "state", .str "state", .str "most", .str "most", .str "most", .str "most"]) = true := by decide +kernel
          have se : Sh (PyData.list [.str "many", .str "many", .str "loop", .str "loop", .str "state", .str "state", .str "state", .str "most", .str "most", .str "most", .str "most"]) := by unfold Sh; decide +kernel
          rw [ee]
          refine ⟨se, se, ?_⟩
          rw [if_neg (by decide)]
          exact ⟨_, _, _, _, _, _, _, _, _, _, rfl, rfl, rfl, rfl, rfl, rfl, rfl, rfl, rfl, rfl⟩
      refine ite_both (fun _ => ?_) (fun _ => rest)
      refine ⟨1 + m, _, rfl, by omega, by omega, hl, ?_⟩
      walk_at "dz"
      exact rest
    unfold w_law_t10
    walk_at "dz"
    refine ⟨by decide, by decide, fun r r0 r1 => ?_⟩
    refine ite_both (fun _ => ?_) (fun _ => go _ lk)
    refine ⟨1 + m, rfl, by omega, by omega, fun d hd => ?_⟩
    show keepQ _ _
    walk_at "dz"
    exact go d hd
  · rintro ρ ⟨v3, v4, v5, v6, v7, v8, v9, v10, v11, v12, rfl⟩
    unfold w_law_t18
    walk_at "dz"
    refine ⟨rfl, fun d s most hl hs m0 m1 => ?_⟩
    walk_at "dz"
    unfold w_law_t17
    walk_at "dz"
    refine ⟨2, d, s, most, rfl, by decide, by decide, hl, hs, m0, m1, ?_⟩
    walk_at "dz"
    unfold w_law_t16
    walk_at "dz"
    refine ⟨by decide, by decide, fun sz s0 s1 => ?_⟩
    obtain ⟨n, hn⟩ : ∃ n : Nat, sz = (n : Int) := ⟨sz.toNat, by omega⟩
    subst hn
    unfold w_law_t15
    walk_at "dz"
    refine ⟨⟨by decide, by decide, by omega, by omega⟩, ?_⟩
    refine lc_go (fun k => ((List.range k).map fun (k : Nat) => ((1 : Int) + (k : Int), (1 : Int) + (k : Int) + 1)).map prD) rfl (fun k d hd => ?_) ?_
    · obtain ⟨rfl, hk⟩ := range_at hd
      rw [gwN1]
      refine ⟨by simp, ?_⟩
      show wYes _ _ _
      simp only [putA, wipeR, List.set_cons_succ, List.set_cons_zero]
      walk_at "dz"
      refine ⟨by rw [List.length_map, List.length_map, List.length_range]; omega, ?_⟩
      rw [range_succ_map, List.map_append]
      rfl
    rw [range_len, show ((1 : Int) + (n : Int) - 1).toNat = n by omega]
    walk_at "dz"
    refine ⟨by simp; omega, ?_⟩
    have ec : ((List.range n).map fun (k : Nat) => ((1 : Int) + (k : Int), (1 : Int) + (k : Int) + 1)).map prD ++ [PyData.tuple [.int (1 + (n : Int)), .int 1]] = (ringC n).map prD := by
      unfold ringC
      rw [List.map_append]
      rfl
    rw [ec]
    unfold w_law_t14
    walk_at "dz"
    refine ⟨1, _, _, 200, rfl, by decide, by decide, loop_steps (cd_unlike (by decide) (by decide) (by decide) (by decide)) (by simp) (all1 (st_follow (by decide) (by decide) (by decide) (by decide))), ring_whole (by omega), by decide, by decide, ?_⟩
    walk_at "dz"
    unfold w_law_t13
    walk_at "dz"
    refine lc_go (fun _ => []) rfl (fun k d hd => ?_) ?_
    · rw [gwN1]
      refine ⟨by simp, ?_⟩
      simp only [putA, wipeR, List.set_cons_succ, List.set_cons_zero]
      walk_at "dz"
      have hb : within d 0 4 = false := by
        have hm := List.mem_of_getElem? hd
        simp only [List.mem_cons, List.not_mem_nil, or_false] at hm
        rcases hm with rfl | rfl | rfl | rfl | rfl <;> rfl
      refine ⟨d, rfl, hb, ?_⟩
      walk_at "dz"
    · walk_at "dz"

local macro_rules | `(tactic| walk_at "hx") => `(tactic| (intro h; first | (obtain ⟨e, _⟩ := h; cases e; rfl) | (refine Or.elim h ?_ ?_ <;> walk_at "hx") | (obtain ⟨_, h1⟩ := h; revert h1; walk_at "hx")))
local macro_rules | `(tactic| walk_at "hl") => `(tactic| (intro rs Q E; walk_at "hx"))
theorem all_ok {P : Program} {wd : World} {K : Frag} {mg : Str → Option Value} {base : Heap} {cl : Ad} (T : Txt K mg cl) : FnOk P wd K mg base CX0 19 cl.f_law cl.d_law P_law (spLaw K) := by
  have G_law_pick := ok_law_pick (P := P) (wd := wd) (base := base) T
  have G_is_int := ok_is_int (P := P) (wd := wd) (base := base) T (k := 0) (by walk_at "hl") (d_is_int)
  have G_within := ok_within (P := P) (wd := wd) (base := base) T (k := 1) G_is_int (by decide) (by walk_at "hl") (d_within)
  have G_is_row := ok_is_row (P := P) (wd := wd) (base := base) T (k := 0) (by walk_at "hl") (d_is_row)
  have G_is_word := ok_is_word (P := P) (wd := wd) (base := base) T (k := 0) (by walk_at "hl") (d_is_word)
  have G_is_many := ok_is_many (P := P) (wd := wd) (base := base) T (k := 2) G_within (by decide) (by walk_at "hl") (d_is_many)
  have G_need_many := ok_need_many (P := P) (wd := wd) (base := base) T (k := 3) G_is_many (by decide) (by walk_at "hl") (d_need_many)
  have G_is_cell := ok_is_cell (P := P) (wd := wd) (base := base) T (k := 2) G_within (by decide) G_is_row (by decide) (by walk_at "hl") (d_is_cell)
  have G_are_cells := ok_are_cells (P := P) (wd := wd) (base := base) T (k := 3) G_is_row (by decide) G_is_cell (by decide) (by walk_at "hl") (d_are_cells)
  have G_is_state_of := ok_is_state_of (P := P) (wd := wd) (base := base) T (k := 4) G_within (by decide) G_is_row (by decide) G_are_cells (by decide) (by walk_at "hl") (d_is_state_of)
  have G_places_of := ok_places_of (P := P) (wd := wd) (base := base) T (k := 0) (by walk_at "hl") (d_places_of)
  have G_state_from := ok_state_from (P := P) (wd := wd) (base := base) T (k := 0) (by walk_at "hl") (d_state_from)
  have G_reached_by := ok_reached_by (P := P) (wd := wd) (base := base) T (k := 0) (by walk_at "hl") (d_reached_by)
  have G_is_whole_of := ok_is_whole_of (P := P) (wd := wd) (base := base) T (k := 1) G_reached_by (by decide) (by walk_at "hl") (d_is_whole_of)
  have G_is_step_of := ok_is_step_of (P := P) (wd := wd) (base := base) T (k := 2) G_within (by decide) G_is_row (by decide) G_is_word (by decide) (by walk_at "hl") (d_is_step_of)
  have G_is_condition_of := ok_is_condition_of (P := P) (wd := wd) (base := base) T (k := 2) G_within (by decide) G_is_row (by decide) G_is_word (by decide) (by walk_at "hl") (d_is_condition_of)
  have G_condition_in := ok_condition_in (P := P) (wd := wd) (base := base) T (k := 0) (by walk_at "hl") (d_condition_in)
  have G_top_of := ok_top_of (P := P) (wd := wd) (base := base) T (k := 1) G_places_of (by decide) (by walk_at "hl") (d_top_of)
  have G_step_in := ok_step_in (P := P) (wd := wd) (base := base) T (k := 2) G_state_from (by decide) G_is_whole_of (by decide) (by walk_at "hl") (d_step_in)
  have G_is_whole_state := ok_is_whole_state (P := P) (wd := wd) (base := base) T (k := 5) G_is_state_of (by decide) G_is_whole_of (by decide) (by walk_at "hl") (d_is_whole_state)
  have G_is_branch := ok_is_branch (P := P) (wd := wd) (base := base) T (k := 0) (by walk_at "hl") (d_is_branch)
  have G_B0 := ok_branch_size (P := P) (wd := wd) (base := base) T (k := 3) G_is_row (by decide) G_is_word (by decide) G_is_condition_of (by decide) (fn_never (k := 0)) (by decide) (by walk_at "hl") (d_branch_size 0 c_never (fun k e => by cases e))
  have G_S0 := ok_size_of (P := P) (wd := wd) (base := base) T (k := 4) G_is_row (by decide) G_is_step_of (by decide) G_B0 (by decide) (by walk_at "hl") (d_size_of 0)
  have G_B1 := ok_branch_size (P := P) (wd := wd) (base := base) T (k := 5) G_is_row (by decide) G_is_word (by decide) G_is_condition_of (by decide) G_S0 (by decide) (by walk_at "hl") (d_branch_size 1 (c_size_of 0) (fun k e => by cases e; rfl))
  have G_S1 := ok_size_of (P := P) (wd := wd) (base := base) T (k := 6) G_is_row (by decide) G_is_step_of (by decide) G_B1 (by decide) (by walk_at "hl") (d_size_of 1)
  have G_B2 := ok_branch_size (P := P) (wd := wd) (base := base) T (k := 7) G_is_row (by decide) G_is_word (by decide) G_is_condition_of (by decide) G_S1 (by decide) (by walk_at "hl") (d_branch_size 2 (c_size_of 1) (fun k e => by cases e; rfl))
  have G_S2 := ok_size_of (P := P) (wd := wd) (base := base) T (k := 8) G_is_row (by decide) G_is_step_of (by decide) G_B2 (by decide) (by walk_at "hl") (d_size_of 2)
  have G_B3 := ok_branch_size (P := P) (wd := wd) (base := base) T (k := 9) G_is_row (by decide) G_is_word (by decide) G_is_condition_of (by decide) G_S2 (by decide) (by walk_at "hl") (d_branch_size 3 (c_size_of 2) (fun k e => by cases e; rfl))
  have G_S3 := ok_size_of (P := P) (wd := wd) (base := base) T (k := 10) G_is_row (by decide) G_is_step_of (by decide) G_B3 (by decide) (by walk_at "hl") (d_size_of 3)
  have G_B4 := ok_branch_size (P := P) (wd := wd) (base := base) T (k := 11) G_is_row (by decide) G_is_word (by decide) G_is_condition_of (by decide) G_S3 (by decide) (by walk_at "hl") (d_branch_size 4 (c_size_of 3) (fun k e => by cases e; rfl))
  have G_S4 := ok_size_of (P := P) (wd := wd) (base := base) T (k := 12) G_is_row (by decide) G_is_step_of (by decide) G_B4 (by decide) (by walk_at "hl") (d_size_of 4)
  have G_is_program_of := ok_is_program_of (P := P) (wd := wd) (base := base) T (k := 13) G_S4 (by decide) (by walk_at "hl") (d_is_program_of)
  have G_course_in := ok_course_in (P := P) (wd := wd) (base := base) T (k := 3) G_condition_in (by decide) G_top_of (by decide) G_step_in (by decide) G_is_branch (by decide) (by walk_at "hl") (d_course_in)
  have G_outcome_in := ok_outcome_in (P := P) (wd := wd) (base := base) T (k := 4) G_course_in (by decide) (by walk_at "hl") (d_outcome_in)
  have G_is_loop_of := ok_is_loop_of (P := P) (wd := wd) (base := base) T (k := 14) G_is_row (by decide) G_is_condition_of (by decide) G_is_program_of (by decide) (by walk_at "hl") (d_is_loop_of)
  have G_is_loop := ok_is_loop (P := P) (wd := wd) (base := base) T (k := 15) G_need_many (by decide) G_is_loop_of (by decide) (by walk_at "hl") (d_is_loop)
  have G_need_loop := ok_need_loop (P := P) (wd := wd) (base := base) T (k := 15) G_need_many (by decide) G_is_loop_of (by decide) (by walk_at "hl") (d_need_loop)
  have G_looped := ok_looped (P := P) (wd := wd) (base := base) T (k := 5) G_condition_in (by decide) G_outcome_in (by decide) (by walk_at "hl") (d_looped)
  have G_run_loop := ok_run_loop (P := P) (wd := wd) (base := base) T (k := 16) G_within (by decide) G_is_whole_state (by decide) G_need_loop (by decide) G_looped (by decide) (by walk_at "hl") (d_run_loop)
  have G_law_same := ok_law_same (P := P) (wd := wd) (base := base) T (k := 0) (by walk_at "hl") (d_law_same)
  have G_law_places := ok_law_places (P := P) (wd := wd) (base := base) T (k := 0) (by walk_at "hl") (d_law_places)
  have G_law_state := ok_law_state (P := P) (wd := wd) (base := base) T (k := 1) G_law_pick (by decide) (by walk_at "hl") (d_law_state 5)
  have G_law_whole := ok_law_whole (P := P) (wd := wd) (base := base) T (k := 0) (by walk_at "hl") (d_law_whole)
  have G_law_whole_state := ok_law_whole_state (P := P) (wd := wd) (base := base) T (k := 2) G_law_state (by decide) G_law_whole (by decide) (by walk_at "hl") (d_law_whole_state 5)
  have G_law_step := ok_law_step (P := P) (wd := wd) (base := base) T (k := 1) G_law_pick (by decide) (by walk_at "hl") (d_law_step)
  have G_law_condition := ok_law_condition (P := P) (wd := wd) (base := base) T (k := 1) G_law_pick (by decide) (by walk_at "hl") (d_law_condition)
  have G_Z0 := ok_law_size (P := P) (wd := wd) (base := base) T (k := 0) (fn_never (k := 0)) (by decide) (by walk_at "hl") (d_law_size 0 c_never (fun k e => by cases e))
  have G_Z1 := ok_law_size (P := P) (wd := wd) (base := base) T (k := 1) G_Z0 (by decide) (by walk_at "hl") (d_law_size 1 (c_law_size 0) (fun k e => by cases e; rfl))
  have G_Z2 := ok_law_size (P := P) (wd := wd) (base := base) T (k := 2) G_Z1 (by decide) (by walk_at "hl") (d_law_size 2 (c_law_size 1) (fun k e => by cases e; rfl))
  have G_Z3 := ok_law_size (P := P) (wd := wd) (base := base) T (k := 3) G_Z2 (by decide) (by walk_at "hl") (d_law_size 3 (c_law_size 2) (fun k e => by cases e; rfl))
  have G_P0 := ok_law_program (P := P) (wd := wd) (base := base) T (k := 4) G_law_pick (by decide) G_law_step (by decide) G_law_condition (by decide) G_Z3 (by decide) (fn_never (k := 0)) (by decide) (by walk_at "hl") (d_law_program 0 c_never (fun k e => by cases e))
  have G_P1 := ok_law_program (P := P) (wd := wd) (base := base) T (k := 5) G_law_pick (by decide) G_law_step (by decide) G_law_condition (by decide) G_Z3 (by decide) G_P0 (by decide) (by walk_at "hl") (d_law_program 1 (c_law_program 0) (fun k e => by cases e; rfl))
  have G_P2 := ok_law_program (P := P) (wd := wd) (base := base) T (k := 6) G_law_pick (by decide) G_law_step (by decide) G_law_condition (by decide) G_Z3 (by decide) G_P1 (by decide) (by walk_at "hl") (d_law_program 2 (c_law_program 1) (fun k e => by cases e; rfl))
  have G_R0 := ok_law_rise (P := P) (wd := wd) (base := base) T (k := 0) (fn_never (k := 0)) (by decide) (by walk_at "hl") (d_law_rise 0 c_never (fun k e => by cases e))
  have G_R1 := ok_law_rise (P := P) (wd := wd) (base := base) T (k := 1) G_R0 (by decide) (by walk_at "hl") (d_law_rise 1 (c_law_rise 0) (fun k e => by cases e; rfl))
  have G_R2 := ok_law_rise (P := P) (wd := wd) (base := base) T (k := 2) G_R1 (by decide) (by walk_at "hl") (d_law_rise 2 (c_law_rise 1) (fun k e => by cases e; rfl))
  have G_law_light_program := ok_law_light_program (P := P) (wd := wd) (base := base) T (k := 7) G_P2 (by decide) G_R2 (by decide) (by walk_at "hl") (d_law_light_program)
  have G_law_told_loops := ok_law_told_loops (P := P) (wd := wd) (base := base) T (k := 0) (by walk_at "hl") (d_law_told_loops)
  have G_law_told_loop := ok_law_told_loop (P := P) (wd := wd) (base := base) T (k := 8) G_law_pick (by decide) G_law_condition (by decide) G_law_light_program (by decide) G_law_told_loops (by decide) (by walk_at "hl") (d_law_told_loop)
  have G_law_reached := ok_law_reached (P := P) (wd := wd) (base := base) T (k := 0) (by walk_at "hl") (d_law_reached)
  have G_law_do := ok_law_do (P := P) (wd := wd) (base := base) T (k := 1) G_law_reached (by decide) (by walk_at "hl") (d_law_do)
  have G_law_told_condition := ok_law_told_condition (P := P) (wd := wd) (base := base) T (k := 0) (by walk_at "hl") (d_law_told_condition)
  have G_law_run := ok_law_run (P := P) (wd := wd) (base := base) T (k := 2) G_law_places (by decide) G_law_do (by decide) G_law_told_condition (by decide) (by walk_at "hl") (d_law_run)
  have G_law_outcome := ok_law_outcome (P := P) (wd := wd) (base := base) T (k := 3) G_law_run (by decide) (by walk_at "hl") (d_law_outcome)
  have G_law_loop_run := ok_law_loop_run (P := P) (wd := wd) (base := base) T (k := 4) G_law_told_condition (by decide) G_law_outcome (by decide) (by walk_at "hl") (d_law_loop_run)
  have G_law_grown := ok_law_grown (P := P) (wd := wd) (base := base) T (k := 1) G_law_pick (by decide) (by walk_at "hl") (d_law_grown)
  have G_law_right_run := ok_law_right_run (P := P) (wd := wd) (base := base) T (k := 17) G_run_loop (by decide) G_law_same (by decide) G_law_loop_run (by decide) (by walk_at "hl") (d_law_right_run T)
  have G_law_refused := ok_law_refused (P := P) (wd := wd) (base := base) T (k := 17) G_run_loop (by decide) (by walk_at "hl") (d_law_refused T)
  have G_law_bad_many := ok_law_bad_many (P := P) (wd := wd) (base := base) T (k := 16) G_is_loop (by decide) (by walk_at "hl") (d_law_bad_many T)
  have G_law_none := ok_law_none (P := P) (wd := wd) (base := base) T (k := 0) (by walk_at "hl") (d_law_none)
  have G_law_judged := ok_law_judged (P := P) (wd := wd) (base := base) T (k := 16) G_is_loop (by decide) G_law_none (by decide) (by walk_at "hl") (d_law_judged)
  exact ok_law (P := P) (wd := wd) (base := base) T (k := 18) (by decide) G_law_pick (by decide) G_law_places (by decide) G_law_whole_state (by decide) G_law_condition (by decide) G_P2 (by decide) G_law_told_loop (by decide) G_law_grown (by decide) G_law_right_run (by decide) G_law_refused (by decide) G_law_bad_many (by decide) G_law_judged (by decide) (d_law T)
theorem all_mk {P : Program} {wd : World} {K : Frag} {mg : Str → Option Value} {cl : Ad} (e : cl.f_law = cl.f_law) (T : Txt K mg cl) {fa : Addr} (hfa : mg "law" = some (.ref fa)) :
    ∃ fd : FuncData, (∀ (s : Shared) (v : Value), BindsTo s fd ⟨[v], []⟩ [("script", v)]) ∧ ∀ base : Heap, K.In base → base.Ns mainGlobals mg → FnOk P wd K mg base CX0 19 fa fd ["script"] (spLaw K) := by
  have z := hfa.symm.trans T.m_law
  cases z
  refine ⟨cl.d_law, ?_, fun base _ _ => all_ok T⟩
  obtain ⟨⟨_, _, _, _, _, _, _, _, _, e, _⟩, _⟩ := T.F_law
  rw [e]
  exact fun s v => .of_eq rfl
theorem walk {l : PySem.W.OpenLaw} {q : Program} {loose : List Str} {XP : (Str → Option Value) → Heap → Prop} {YP : World → Heap → Prop} {d : DefRec} {K : Params → PySem.W.Frag} (hn : l.most = some 63) (hdf : d.params.defaults = [])
    (hY : ∀ (w : World) (h : Heap), YP w h → (K w.params).In h)
    (F : ∀ (w : World) (mg : Str → Option Value) (fa : Addr) (h : Heap), (K w.params).In h → h.Ns mainGlobals mg → mg d.name = some (.ref fa) →
      ∃ fd : FuncData, (∀ (s : Shared) (u : Value), BindsTo s fd ⟨[u], []⟩ [("script", u)]) ∧ ∀ base : Heap, (K w.params).In base → base.Ns mainGlobals mg → FnOk l.prog w (K w.params) mg base CX0 19 fa fd ["script"] (spLaw (K w.params))) :
    PySem.W.WalkO q loose XP YP l.row.toRowW d [] (fun f vs => PySem.call f vs) :=
  L2.walk_of (n := 63) (k := 19) (x := "script") (CX := fun _ => CX0) (sp := fun w => spLaw (K w.params)) hn (by decide) hdf ⟨rfl, by decide, by decide⟩ hY F (fun _ _ a ns hl _ hS => ⟨a, ns, rfl, hS, hl, fun _ => rfl⟩) fun _ _ _ _ _ z => z

end LK
open PySem PySem.W PyProof.Rows in
set_option maxRecDepth 100000 in
set_option maxHeartbeats 0 in
theorem PySem.Challenge.cw_heapsworn_k65_loops_judged_and_run_holds : PySem.Challenge.rw_heapsworn_k65_loops_judged_and_run.Holds := by
  w_on; o_law; k_head; (case hw => w_witness2)
  k_fill
  refine LK.walk (l := PySem.Challenge.rw_heapsworn_k65_loops_judged_and_run) rfl rfl (fun w h Y => PySem.W.kIn_of Y) ?F
  case F =>
    intro w mg fa h KX G hmg
    refine' LK.all_mk rfl (LK.txt_mk KX G ?g_HeapError ?x_HeapError ?k_HeapError ?s_HeapError ?t_HeapError ?g_BadMany ?x_BadMany ?k_BadMany ?s_BadMany ?t_BadMany ?g_BadState ?x_BadState ?k_BadState ?s_BadState ?t_BadState ?g_BadLoop ?x_BadLoop ?k_BadLoop ?s_BadLoop ?t_BadLoop ?g_BadMost ?x_BadMost ?k_BadMost ?s_BadMost ?t_BadMost ?g_TooGreat ?x_TooGreat ?k_TooGreat ?s_TooGreat ?t_TooGreat ?e_HeapError_BadMany ?e_HeapError_BadState ?e_HeapError_BadLoop ?e_HeapError_BadMost ?e_HeapError_TooGreat ?e_BadMany_BadMany ?e_BadMany_BadState ?e_BadMany_BadLoop ?e_BadMany_BadMost ?e_BadMany_TooGreat ?e_BadState_BadMany ?e_BadState_BadState ?e_BadState_BadLoop ?e_BadState_BadMost ?e_BadState_TooGreat ?e_BadLoop_BadMany ?e_BadLoop_BadState ?e_BadLoop_BadLoop ?e_BadLoop_BadMost ?e_BadLoop_TooGreat ?e_BadMost_BadMany ?e_BadMost_BadState ?e_BadMost_BadLoop ?e_BadMost_BadMost ?e_BadMost_TooGreat ?e_TooGreat_BadMany ?e_TooGreat_BadState ?e_TooGreat_BadLoop ?e_TooGreat_BadMost ?e_TooGreat_TooGreat ?m_is_int ?F_is_int ?m_within ?F_within ?m_is_row ?F_is_row ?m_is_word ?F_is_word ?m_is_many ?F_is_many ?m_need_many ?F_need_many ?m_is_cell ?F_is_cell ?m_are_cells ?F_are_cells ?m_is_state_of ?F_is_state_of ?m_places_of ?F_places_of ?m_state_from ?F_state_from ?m_reached_by ?F_reached_by ?m_is_whole_of ?F_is_whole_of ?m_is_step_of ?F_is_step_of ?m_is_condition_of ?F_is_condition_of ?m_condition_in ?F_condition_in ?m_top_of ?F_top_of ?m_step_in ?F_step_in ?m_is_whole_state ?F_is_whole_state ?m_is_branch ?F_is_branch ?m_size_of ?F_size_of ?m_branch_size ?F_branch_size ?m_is_program_of ?F_is_program_of ?m_course_in ?F_course_in ?m_outcome_in ?F_outcome_in ?m_is_loop_of ?F_is_loop_of ?m_is_loop ?F_is_loop ?m_need_loop ?F_need_loop ?m_looped ?F_looped ?m_run_loop ?F_run_loop ?m_law_deck ?F_law_deck ?m_law_pick ?F_law_pick ?m_law_same ?F_law_same ?m_law_places ?F_law_places ?m_law_state ?F_law_state ?m_law_whole ?F_law_whole ?m_law_whole_state ?F_law_whole_state ?m_law_step ?F_law_step ?m_law_condition ?F_law_condition ?m_law_size ?F_law_size ?m_law_program ?F_law_program ?m_law_rise ?F_law_rise ?m_law_light_program ?F_law_light_program ?m_law_told_loops ?F_law_told_loops ?m_law_told_loop ?F_law_told_loop ?m_law_reached ?F_law_reached ?m_law_do ?F_law_do ?m_law_told_condition ?F_law_told_condition ?m_law_run ?F_law_run ?m_law_outcome ?F_law_outcome ?m_law_loop_run ?F_law_loop_run ?m_law_grown ?F_law_grown ?m_law_right_run ?F_law_right_run ?m_law_refused ?F_law_refused ?m_law_bad_many ?F_law_bad_many ?m_law_none ?F_law_none ?m_law_judged ?F_law_judged ?m_law ?F_law ?n_all ?n_bool ?n_dict ?n_int ?n_isinstance ?n_len ?n_list ?n_max ?n_min ?n_range ?n_set ?n_sorted ?n_str ?n_sum ?n_tuple ?n_zip ?v_DEEPEST ?v_LAST_PLACE ?v_MOST_CELLS ?v_MOST_PARTS ?v_MOST_TURNS ?v_MOST_VARIABLES ?v_WORDS ?l_WORDS) hmg
    (case g_HeapError => k_is)
    (case x_HeapError => k_exc)
    (case k_HeapError => k_is)
    (case s_HeapError => k_is)
    (case t_HeapError => k_is)
    (case g_BadMany => k_is)
    (case x_BadMany => k_exc)
    (case k_BadMany => k_is)
    (case s_BadMany => k_is)
    (case t_BadMany => k_is)
    (case g_BadState => k_is)
    (case x_BadState => k_exc)
    (case k_BadState => k_is)
    (case s_BadState => k_is)
    (case t_BadState => k_is)
    (case g_BadLoop => k_is)
    (case x_BadLoop => k_exc)
    (case k_BadLoop => k_is)
    (case s_BadLoop => k_is)
    (case t_BadLoop => k_is)
    (case g_BadMost => k_is)
    (case x_BadMost => k_exc)
    (case k_BadMost => k_is)
    (case s_BadMost => k_is)
    (case t_BadMost => k_is)
    (case g_TooGreat => k_is)
    (case x_TooGreat => k_exc)
    (case k_TooGreat => k_is)
    (case s_TooGreat => k_is)
    (case t_TooGreat => k_is)
    (case e_HeapError_BadMany => first | rfl | k_is)
    (case e_HeapError_BadState => first | rfl | k_is)
    (case e_HeapError_BadLoop => first | rfl | k_is)
    (case e_HeapError_BadMost => first | rfl | k_is)
    (case e_HeapError_TooGreat => first | rfl | k_is)
    (case e_BadMany_BadMany => first | rfl | k_is)
    (case e_BadMany_BadState => first | rfl | k_is)
    (case e_BadMany_BadLoop => first | rfl | k_is)
    (case e_BadMany_BadMost => first | rfl | k_is)
    (case e_BadMany_TooGreat => first | rfl | k_is)
    (case e_BadState_BadMany => first | rfl | k_is)
    (case e_BadState_BadState => first | rfl | k_is)
    (case e_BadState_BadLoop => first | rfl | k_is)
    (case e_BadState_BadMost => first | rfl | k_is)
    (case e_BadState_TooGreat => first | rfl | k_is)
    (case e_BadLoop_BadMany => first | rfl | k_is)
    (case e_BadLoop_BadState => first | rfl | k_is)
    (case e_BadLoop_BadLoop => first | rfl | k_is)
    (case e_BadLoop_BadMost => first | rfl | k_is)
    (case e_BadLoop_TooGreat => first | rfl | k_is)
    (case e_BadMost_BadMany => first | rfl | k_is)
    (case e_BadMost_BadState => first | rfl | k_is)
    (case e_BadMost_BadLoop => first | rfl | k_is)
    (case e_BadMost_BadMost => first | rfl | k_is)
    (case e_BadMost_TooGreat => first | rfl | k_is)
    (case e_TooGreat_BadMany => first | rfl | k_is)
    (case e_TooGreat_BadState => first | rfl | k_is)
    (case e_TooGreat_BadLoop => first | rfl | k_is)
    (case e_TooGreat_BadMost => first | rfl | k_is)
    (case e_TooGreat_TooGreat => first | rfl | k_is)
    (case m_is_int => k_is)
    (case F_is_int => (refine' L2.fun_mk ?l ?c ?k; (case l => k_is); (case c => k_is); (case k => k_is)))
    (case m_within => k_is)
    (case F_within => (refine' L2.fun_mk ?l ?c ?k; (case l => k_is); (case c => k_is); (case k => k_is)))
    (case m_is_row => k_is)
    (case F_is_row => (refine' L2.fun_mk ?l ?c ?k; (case l => k_is); (case c => k_is); (case k => k_is)))
    (case m_is_word => k_is)
    (case F_is_word => (refine' L2.fun_mk ?l ?c ?k; (case l => k_is); (case c => k_is); (case k => k_is)))
    (case m_is_many => k_is)
    (case F_is_many => (refine' L2.fun_mk ?l ?c ?k; (case l => k_is); (case c => k_is); (case k => k_is)))
    (case m_need_many => k_is)
    (case F_need_many => (refine' L2.fun_mk ?l ?c ?k; (case l => k_is); (case c => k_is); (case k => k_is)))
    (case m_is_cell => k_is)
    (case F_is_cell => (refine' L2.fun_mk ?l ?c ?k; (case l => k_is); (case c => k_is); (case k => k_is)))
    (case m_are_cells => k_is)
    (case F_are_cells => (refine' L2.fun_mk ?l ?c ?k; (case l => k_is); (case c => k_is); (case k => k_is)))
    (case m_is_state_of => k_is)
    (case F_is_state_of => (refine' L2.fun_mk ?l ?c ?k; (case l => k_is); (case c => k_is); (case k => k_is)))
    (case m_places_of => k_is)
    (case F_places_of => (refine' L2.fun_mk ?l ?c ?k; (case l => k_is); (case c => k_is); (case k => k_is)))
    (case m_state_from => k_is)
    (case F_state_from => (refine' L2.fun_mk ?l ?c ?k; (case l => k_is); (case c => k_is); (case k => k_is)))
    (case m_reached_by => k_is)
    (case F_reached_by => (refine' L2.fun_mk ?l ?c ?k; (case l => k_is); (case c => k_is); (case k => k_is)))
    (case m_is_whole_of => k_is)
    (case F_is_whole_of => (refine' L2.fun_mk ?l ?c ?k; (case l => k_is); (case c => k_is); (case k => k_is)))
    (case m_is_step_of => k_is)
    (case F_is_step_of => (refine' L2.fun_mk ?l ?c ?k; (case l => k_is); (case c => k_is); (case k => k_is)))
    (case m_is_condition_of => k_is)
    (case F_is_condition_of => (refine' L2.fun_mk ?l ?c ?k; (case l => k_is); (case c => k_is); (case k => k_is)))
    (case m_condition_in => k_is)
    (case F_condition_in => (refine' L2.fun_mk ?l ?c ?k; (case l => k_is); (case c => k_is); (case k => k_is)))
    (case m_top_of => k_is)
    (case F_top_of => (refine' L2.fun_mk ?l ?c ?k; (case l => k_is); (case c => k_is); (case k => k_is)))
    (case m_step_in => k_is)
    (case F_step_in => (refine' L2.fun_mk ?l ?c ?k; (case l => k_is); (case c => k_is); (case k => k_is)))
    (case m_is_whole_state => k_is)
    (case F_is_whole_state => (refine' L2.fun_mk ?l ?c ?k; (case l => k_is); (case c => k_is); (case k => k_is)))
    (case m_is_branch => k_is)
    (case F_is_branch => (refine' L2.fun_mk ?l ?c ?k; (case l => k_is); (case c => k_is); (case k => k_is)))
    (case m_size_of => k_is)
    (case F_size_of => (refine' L2.fun_mk ?l ?c ?k; (case l => k_is); (case c => k_is); (case k => k_is)))
    (case m_branch_size => k_is)
    (case F_branch_size => (refine' L2.fun_mk ?l ?c ?k; (case l => k_is); (case c => k_is); (case k => k_is)))
    (case m_is_program_of => k_is)
    (case F_is_program_of => (refine' L2.fun_mk ?l ?c ?k; (case l => k_is); (case c => k_is); (case k => k_is)))
    (case m_course_in => k_is)
    (case F_course_in => (refine' L2.fun_mk ?l ?c ?k; (case l => k_is); (case c => k_is); (case k => k_is)))
    (case m_outcome_in => k_is)
    (case F_outcome_in => (refine' L2.fun_mk ?l ?c ?k; (case l => k_is); (case c => k_is); (case k => k_is)))
    (case m_is_loop_of => k_is)
    (case F_is_loop_of => (refine' L2.fun_mk ?l ?c ?k; (case l => k_is); (case c => k_is); (case k => k_is)))
    (case m_is_loop => k_is)
    (case F_is_loop => (refine' L2.fun_mk ?l ?c ?k; (case l => k_is); (case c => k_is); (case k => k_is)))
    (case m_need_loop => k_is)
    (case F_need_loop => (refine' L2.fun_mk ?l ?c ?k; (case l => k_is); (case c => k_is); (case k => k_is)))
    (case m_looped => k_is)
    (case F_looped => (refine' L2.fun_mk ?l ?c ?k; (case l => k_is); (case c => k_is); (case k => k_is)))
    (case m_run_loop => k_is)
    (case F_run_loop => (refine' L2.fun_mk ?l ?c ?k; (case l => k_is); (case c => k_is); (case k => k_is)))
    (case m_law_deck => k_is)
    (case F_law_deck => (refine' L2.fun_mk ?l ?c ?k; (case l => k_is); (case c => k_is); (case k => k_is)))
    (case m_law_pick => k_is)
    (case F_law_pick => (refine' L2.fun_mk ?l ?c ?k; (case l => k_is); (case c => k_is); (case k => k_is)))
    (case m_law_same => k_is)
    (case F_law_same => (refine' L2.fun_mk ?l ?c ?k; (case l => k_is); (case c => k_is); (case k => k_is)))
    (case m_law_places => k_is)
    (case F_law_places => (refine' L2.fun_mk ?l ?c ?k; (case l => k_is); (case c => k_is); (case k => k_is)))
    (case m_law_state => k_is)
    (case F_law_state => (refine' L2.fun_mk ?l ?c ?k; (case l => k_is); (case c => k_is); (case k => k_is)))
    (case m_law_whole => k_is)
    (case F_law_whole => (refine' L2.fun_mk ?l ?c ?k; (case l => k_is); (case c => k_is); (case k => k_is)))
    (case m_law_whole_state => k_is)
    (case F_law_whole_state => (refine' L2.fun_mk ?l ?c ?k; (case l => k_is); (case c => k_is); (case k => k_is)))
    (case m_law_step => k_is)
    (case F_law_step => (refine' L2.fun_mk ?l ?c ?k; (case l => k_is); (case c => k_is); (case k => k_is)))
    (case m_law_condition => k_is)
    (case F_law_condition => (refine' L2.fun_mk ?l ?c ?k; (case l => k_is); (case c => k_is); (case k => k_is)))
    (case m_law_size => k_is)
    (case F_law_size => (refine' L2.fun_mk ?l ?c ?k; (case l => k_is); (case c => k_is); (case k => k_is)))
    (case m_law_program => k_is)
    (case F_law_program => (refine' L2.fun_mk ?l ?c ?k; (case l => k_is); (case c => k_is); (case k => k_is)))
    (case m_law_rise => k_is)
    (case F_law_rise => (refine' L2.fun_mk ?l ?c ?k; (case l => k_is); (case c => k_is); (case k => k_is)))
    (case m_law_light_program => k_is)
    (case F_law_light_program => (refine' L2.fun_mk ?l ?c ?k; (case l => k_is); (case c => k_is); (case k => k_is)))
    (case m_law_told_loops => k_is)
    (case F_law_told_loops => (refine' L2.fun_mk ?l ?c ?k; (case l => k_is); (case c => k_is); (case k => k_is)))
    (case m_law_told_loop => k_is)
    (case F_law_told_loop => (refine' L2.fun_mk ?l ?c ?k; (case l => k_is); (case c => k_is); (case k => k_is)))
    (case m_law_reached => k_is)
    (case F_law_reached => (refine' L2.fun_mk ?l ?c ?k; (case l => k_is); (case c => k_is); (case k => k_is)))
    (case m_law_do => k_is)
    (case F_law_do => (refine' L2.fun_mk ?l ?c ?k; (case l => k_is); (case c => k_is); (case k => k_is)))
    (case m_law_told_condition => k_is)
    (case F_law_told_condition => (refine' L2.fun_mk ?l ?c ?k; (case l => k_is); (case c => k_is); (case k => k_is)))
    (case m_law_run => k_is)
    (case F_law_run => (refine' L2.fun_mk ?l ?c ?k; (case l => k_is); (case c => k_is); (case k => k_is)))
    (case m_law_outcome => k_is)
    (case F_law_outcome => (refine' L2.fun_mk ?l ?c ?k; (case l => k_is); (case c => k_is); (case k => k_is)))
    (case m_law_loop_run => k_is)
    (case F_law_loop_run => (refine' L2.fun_mk ?l ?c ?k; (case l => k_is); (case c => k_is); (case k => k_is)))
    (case m_law_grown => k_is)
    (case F_law_grown => (refine' L2.fun_mk ?l ?c ?k; (case l => k_is); (case c => k_is); (case k => k_is)))
    (case m_law_right_run => k_is)
    (case F_law_right_run => (refine' L2.fun_mk ?l ?c ?k; (case l => k_is); (case c => k_is); (case k => k_is)))
    (case m_law_refused => k_is)
    (case F_law_refused => (refine' L2.fun_mk ?l ?c ?k; (case l => k_is); (case c => k_is); (case k => k_is)))
    (case m_law_bad_many => k_is)
    (case F_law_bad_many => (refine' L2.fun_mk ?l ?c ?k; (case l => k_is); (case c => k_is); (case k => k_is)))
    (case m_law_none => k_is)
    (case F_law_none => (refine' L2.fun_mk ?l ?c ?k; (case l => k_is); (case c => k_is); (case k => k_is)))
    (case m_law_judged => k_is)
    (case F_law_judged => (refine' L2.fun_mk ?l ?c ?k; (case l => k_is); (case c => k_is); (case k => k_is)))
    (case m_law => k_is)
    (case F_law => (refine' L2.fun_mk ?l ?c ?k; (case l => k_is); (case c => k_is); (case k => k_is)))
    (case n_all => k_is)
    (case n_bool => k_is)
    (case n_dict => k_is)
    (case n_int => k_is)
    (case n_isinstance => k_is)
    (case n_len => k_is)
    (case n_list => k_is)
    (case n_max => k_is)
    (case n_min => k_is)
    (case n_range => k_is)
    (case n_set => k_is)
    (case n_sorted => k_is)
    (case n_str => k_is)
    (case n_sum => k_is)
    (case n_tuple => k_is)
    (case n_zip => k_is)
    (case v_DEEPEST => k_is)
    (case v_LAST_PLACE => k_is)
    (case v_MOST_CELLS => k_is)
    (case v_MOST_PARTS => k_is)
    (case v_MOST_TURNS => k_is)
    (case v_MOST_VARIABLES => k_is)
    (case v_WORDS => k_is)
    (case l_WORDS => k_is)
