import PyProof.Rows.All
import Wide.All
import OpenK.AllK
import Wide.FinOn
import HandS.ForMost
import HandS.ForExc
import HandS.IsInst
import HandS.TryMany
import HandS.Deep
import HandS.TupAny
import HandS.TupMul
import HandS.Conv
import HandS.More
import HandS.Style
import HandS.Small
import HandS.WordsDict
import HandS.Zip
import KE.KDictPairs
import HandS.TupLe
import KE.SortData
import HandS.DictTup
import HandS.SetBool
import HandS.SetFor
import HandS.Strs
import PyProof.Rows.SortShellAny
import PyProof.AutoSeq1
import PyProof.EqAt
import HandS.DictComp
import HandS.Wide
import KE.SortCalls
import KE.DataMinMax
import HandS.SortKw
import PySem.Challenge.RW_heapsworn_k12_statements_judged
set_option Elab.async false
set_option linter.all false
set_option maxRecDepth 100000
set_option maxHeartbeats 4000000
/-! The data layer: tuples that are known to have no dict of their own (dict(t) asks for its keys by name). -/
namespace DL
open PySem PySem.Spec PyProof.Rows L2
abbrev Frag := PySem.W.Frag
def Neat (o : Obj) : Prop := o.cls = .type "tuple" ∧ o.dict = none
/-- the tuple at a, a neat one -/
def SqN (K : Frag) (H : Hp) (a : Addr) (xs : List V) : Prop := (∃ o, H a = some (.frz o (.tup xs)) ∧ Neat o) ∨
  ∃ (o : Obj) (its : Array Value) (n : Nat), K.lookup a = some o ∧ Neat o ∧ o.data = .seq its n ∧ its.size ≤ sizeLine ∧ Vals xs its.toList
theorem SqN.t {K : Frag} {H : Hp} {a : Addr} {xs : List V} (h : SqN K H a xs) : SqT K H a xs := by
  rcases h with ⟨o, h, _⟩ | ⟨o, its, n, h1, h2, h3, h4, h5⟩
  · exact .inl (.inr ⟨o, h⟩)
  · exact .inr ⟨o, its, n, h1, h2.1, h3, h4, h5⟩
theorem SqN.up {K : Frag} {H H' : Hp} (e : Same H H') {a : Addr} {xs : List V} (h : SqN K H a xs) : SqN K H' a xs := by
  rcases h with ⟨o, h, n⟩ | h
  · exact .inl ⟨o, e _ _ h, n⟩
  · exact .inr h
/-- every new tuple that a rule below makes -/
def NewT (xs : List V) (H : Hp) (Q : VK) : Prop := ∀ p o, H p = none → Neat o → Q (.ref p) (upd H p (.frz o (.tup xs)))
section
variable {X : Cx}
theorem new_t {pins : List (Addr × Obj)} {σ : L2.St} {H : Hp} {s : Shared} {h' : Heap} {its : List Value} {xs : List V} {Q : VK} (I : Inv X pins σ H { s with heap := h' }) (r : Vals xs its) (hz : xs.length ≤ sizeLine) (q : NewT xs H Q) :
    EP X pins σ Q (.ref h'.objs.size) { s with heap := h'.push { cls := .type "tuple", data := .seq its.toArray } } := by
  have hf : H h'.objs.size = none := I.hok.fresh (Nat.le_refl _)
  have there : (h'.push { cls := .type "tuple", data := .seq its.toArray }).get? h'.objs.size = some { cls := .type "tuple", data := .seq its.toArray } := Heap.get?_push_size _ rfl
  have obj : ObjOk X.prog X.w (upd H h'.objs.size (.frz { cls := .type "tuple", data := .seq its.toArray } (.tup xs))) (h'.push { cls := .type "tuple", data := .seq its.toArray }) h'.objs.size (.frz { cls := .type "tuple", data := .seq its.toArray } (.tup xs)) :=
    ⟨there, hz, its, r, _, there, rfl, _, rfl⟩
  exact ⟨.ref h'.objs.size, _, I.laid (t' := s.toks) (fun _ _ z => Heap.get?_push_of_some _ z) (Nat.le_refl _) obj, rfl, q _ _ hf ⟨rfl, rfl⟩⟩
def tTupN (t : TA) : TE := fun σ H Q => t σ H fun xs H1 => xs.length ≤ sizeLine ∧ NewT xs H1 Q
theorem peN_tup {es : List Expr} {t : TA} {x1} {pos : Pos} (h : PA X es t) : PE X (.Tuple es x1 pos) (tTupN t) :=
  ⟨fun pins s σ H Q I hq => wpAny_Tuple_spliced (thn (h.run pos pins s σ H _ I hq) fun us s1 ⟨xs, H1, I1, r, z, q⟩ => ⟨r.length ▸ z, new_t I1 r z q⟩)⟩
theorem callN_tuple : CallR X (.type "tuple") (fun vs H Q => ∃ p ys, vs = [.ref p] ∧ ((SqL X.K H p ys ∧ NewT ys H Q) ∨ (SqT X.K H p ys ∧ Q (.ref p) H))) := by
  intro pins s σ H vs us Q I r ⟨p, ys, ev, h⟩
  subst ev
  obtain ⟨u, eu, rx⟩ := vals1 r
  subst eu
  cases rx
  rcases h with ⟨hq, q⟩ | ⟨hq, q⟩
  · obtain ⟨its, r', pl, hz⟩ := I.list hq
    have hl := r'.length
    exact call_tuple_list pl.isList (fun h' kp => new_t (I.kept (t' := s.toks) kp) r' hz q) (by rw [List.size_toArray]; omega)
  · obtain ⟨its, _, pl, _⟩ := I.tuple hq
    exact call_tuple_same pl ⟨.ref p, H, I, rfl, q⟩
def rCatN (K : Frag) : R2 := fun x y H Q => ∃ a b xs ys, x = .ref a ∧ y = .ref b ∧ SqT K H a xs ∧ SqT K H b ys ∧ xs.length + ys.length ≤ sizeLine ∧ (xs = [] → Q (.ref b) H) ∧ (xs ≠ [] → ys = [] → Q (.ref a) H) ∧ (xs ≠ [] → ys ≠ [] → NewT (xs ++ ys) H Q)
theorem opN_cat : OpR X (binaryOp .Add) (rCatN X.K) := by
  intro pins s σ H x y v u Q I rx ry ⟨a, b, xs, ys, ex, ey, ha, hb, hz, q0, q1, q2⟩
  subst ex ey
  by_cases hx : xs = []
  · exact op_catA pins s σ H _ _ v u Q I rx ry ⟨a, b, xs, ys, rfl, rfl, ha, hb, hz, q0, fun z => absurd hx z, fun z => absurd hx z⟩
  · cases rx
    cases ry
    obtain ⟨its, r1, p1, _⟩ := I.tuple ha
    obtain ⟨jts, r2, p2, _⟩ := I.tuple hb
    exact HT.cat_tup p1 p2 (fun z => hx (r1.nil_iff.mp z)) (fun z => ⟨.ref a, H, I, rfl, q1 hx (r2.nil_iff.mp z)⟩) (fun z => new_t I (r1.append r2) (by rw [List.length_append]; exact hz) (q2 hx fun w => z (r2.nil_iff.mpr w))) (by rw [← r1.length, ← r2.length]; exact hz)
def rSlN (K : Frag) : V → Option Int → Option Int → Hp → VK → Prop := fun x lo hi H Q => ∃ a xs, x = .ref a ∧ SqT K H a xs ∧
  (HT.sIx xs.length 0 lo = 0 ∧ HT.sIx xs.length xs.length hi = xs.length → Q (.ref a) H) ∧ (¬ (HT.sIx xs.length 0 lo = 0 ∧ HT.sIx xs.length xs.length hi = xs.length) → NewT (cutV xs lo hi) H Q)
theorem slN_tup : L2.SlR X (rSlN X.K) := by
  intro pins s σ H x v vl vu lo hi sl Q I rx hs pl pu ⟨a, xs, ex, hx, q1, q2⟩
  subst ex
  by_cases hw : HT.sIx xs.length 0 lo = 0 ∧ HT.sIx xs.length xs.length hi = xs.length
  · exact sl_tupA pins s σ H _ v vl vu lo hi sl Q I rx hs pl pu ⟨a, xs, rfl, hx, q1, fun z => absurd hw z⟩
  · cases rx
    obtain ⟨its, r, ht, hz⟩ := I.tuple hx
    have e1 : its.toArray.size = xs.length := by rw [List.size_toArray]; exact r.length.symm
    refine ⟨"tuple", _, PyProof.Rows.slot_tuple_getitem.lookup, ht.typeIs, HT.getItem_tuple_cut ht hs pl pu (by rw [e1]; exact hw) ?_ (by rw [e1]; exact hz)⟩
    rw [e1]
    exact new_t I ((r.drop _).take _) (Nat.le_trans (cutV_length xs lo hi) hz) (q2 hw)
theorem tuple_mul1 (l : Addr) (items : Array Value) (n : Nat) (dd : Option Addr) (sl : Array (Option Value)) (x : Int) (u : Tok) (c0 : (decide (x < -(2 ^ 63)) || decide (x ≥ 2 ^ 63)) = false) (c1 : (items.isEmpty || x == 1) = true) :
    Meets (Builtin.«tuple.__mul__» ⟨[.ref l, .int x u], []⟩) (fun _ R s => s.heap.get? l = some { cls := .type "tuple", dict := dd, data := .seq items n, slots := sl } ∧ R (.ok (.ret (Value.ref l))) s) :=
  .of_wp fun prog w A R s h => by
    obtain ⟨hp, g, d, tk, os⟩ := s
    obtain ⟨hl, h⟩ := h
    have f1 := AutoSeq1.idx_int
    wp_walk using wpAny_loadPart' hl
    repeat (first
      | (refine wpAny_ite_false (decide_eq_false (by rw [c0]; exact Bool.false_ne_true)) ?_; wp_walk using wpAny_loadPart' hl)
      | (refine wpAny_ite_true (decide_eq_true (by rw [c1])) ?_; wp_walk using wpAny_loadPart' hl))
    exact ⟨_, rfl, h⟩
theorem tuple_mul0 (l : Addr) (items : Array Value) (n : Nat) (dd : Option Addr) (sl : Array (Option Value)) (x : Int) (u : Tok) (c0 : (decide (x < -(2 ^ 63)) || decide (x ≥ 2 ^ 63)) = false) (c1 : (items.isEmpty || x == 1) = false) (c2 : (decide (x ≤ 0) || items.isEmpty) = true) :
    Meets (Builtin.«tuple.__mul__» ⟨[.ref l, .int x u], []⟩) (fun _ R s => s.heap.get? l = some { cls := .type "tuple", dict := dd, data := .seq items n, slots := sl } ∧
      R (.ok (.ret (Value.ref s.heap.objs.size))) { s with heap := s.heap.push { cls := Value.type "tuple", data := Data.seq #[] }, toks := s.toks }) :=
  .of_wp fun prog w A R s h => by
    obtain ⟨hp, g, d, tk, os⟩ := s
    obtain ⟨hl, h⟩ := h
    have f1 := AutoSeq1.idx_int
    wp_walk using wpAny_loadPart' hl
    repeat (first
      | (refine wpAny_ite_false (decide_eq_false (by rw [c0]; exact Bool.false_ne_true)) ?_; wp_walk using wpAny_loadPart' hl)
      | (refine wpAny_ite_false (decide_eq_false (by rw [c1]; exact Bool.false_ne_true)) ?_; wp_walk using wpAny_loadPart' hl)
      | (refine wpAny_ite_true (decide_eq_true (by rw [c2])) ?_; wp_walk using wpAny_loadPart' hl))
    exact ⟨_, rfl, h⟩
def rRepN (K : Frag) : R2 := fun x y H Q => ∃ l k xs, x = .ref l ∧ y = .int k ∧ SqT K H l xs ∧ xs ≠ [] ∧ 2 ≤ k ∧ k ≤ 1000 ∧ xs.length ≤ 1000 ∧ NewT (List.replicate k.toNat xs).flatten H Q
theorem opN_rep : OpR X (binaryOp .Mult) (rRepN X.K) := by
  intro pins s σ H x y v u Q I rx ry ⟨l, k, xs, ex, ey, hT, hne, g1, g2, gz, q⟩
  subst ex ey
  cases rx
  obtain ⟨t, rfl⟩ := ry
  obtain ⟨its, r, ⟨⟨cls, dd, data, sl⟩, ho, hc, n, hd⟩, _⟩ := I.tuple hT
  obtain rfl : cls = .type "tuple" := hc
  obtain rfl : data = .seq its.toArray n := hd
  have e0 : its.length = xs.length := r.length.symm
  have full : its.toArray.isEmpty = false := by
    cases its with
    | nil => exact absurd (List.eq_nil_of_length_eq_zero (by rw [← e0]; rfl)) hne
    | cons _ _ => rfl
  have n0 : its.toArray.size = xs.length := by rw [List.size_toArray, e0]
  have prod : k.toNat * xs.length ≤ 1000 * 1000 := Nat.mul_le_mul (by omega) gz
  have many : ((its.toArray.size : Nat) : Int) * k ≤ 1000000 := by
    rw [n0]
    exact Int.le_trans (Int.mul_le_mul_of_nonneg_right (show ((xs.length : Nat) : Int) ≤ 1000 by omega) (by omega)) (by omega)
  have fl : (List.replicate k.toNat xs).flatten.length ≤ sizeLine := by rw [PyProof.Rows.lm_len_rep_flat, sizeLine_eq]; omega
  have fl' : (List.replicate k.toNat its).flatten.toArray.size ≤ sizeLine := by rw [List.size_toArray, PyProof.Rows.lm_len_rep_flat, e0, sizeLine_eq]; omega
  have w0 : (decide (k < -(2 ^ 63)) || decide (k ≥ 2 ^ 63)) = false := by simp only [decide_eq_false (show ¬ k < -(2 ^ 63) by omega), decide_eq_false (show ¬ k ≥ 2 ^ 63 by omega), Bool.or_self]
  have w1 : (its.toArray.isEmpty || k == 1) = false := by simp only [full, Bool.false_or]; exact beq_eq_false_iff_ne.mpr (by omega)
  have w2 : (decide (k ≤ 0) || its.toArray.isEmpty) = false := by simp only [full, Bool.or_false]; exact decide_eq_false (by omega)
  have w4 : Builtin.Tuple.tupleTooMany (((its.toArray.size : Nat) : Int) * k) = false := by unfold Builtin.Tuple.tupleTooMany; rw [sizeLine_eq]; exact decide_eq_false (by omega)
  have TT : s.TypeIs (.ref l) "tuple" := ⟨_, ho, rfl⟩
  have fin : EP X pins σ Q (.ref s.heap.objs.size) { s with heap := s.heap.push { cls := .type "tuple", data := .seq (List.replicate k.toNat its).flatten.toArray } } := new_t I (r.rep k.toNat) fl q
  have back := int_rmul_tuple k t l its.toArray n dd sl
  have forth := tuple_mulW l its.toArray n dd sl k t w0 w1 w2 (by omega) w4 (by rw [size_rep]; exact fl')
  exact wpAny_binaryOp_repeat_ref (by decide) TT (fun s' => typeIs_int s' k t) noFill_tuple_mul F.fills_int_mul F.slot_int_rmul repeat_tuple F.slot_int_index.lookup
    (call_meets F.slot_int_rmul (typeIs_int s k t) F.entry_int_rmul (F.args_int_rmul_2 _ _) back
      ⟨ho, rfl, TT, call_meets F.slot_tuple_mul TT F.entry_tuple_mul (F.args_tuple_mul_2 _ _) forth ⟨ho, by rw [size_rep]; exact fin⟩⟩)
/-- once, or never -/
def rRepN1 (K : Frag) : R2 := fun x y H Q => ∃ l k xs, x = .ref l ∧ y = .int k ∧ SqT K H l xs ∧ xs ≠ [] ∧ ((k = 1 ∧ Q (.ref l) H) ∨ (k = 0 ∧ NewT [] H Q))
theorem opN_rep1 : OpR X (binaryOp .Mult) (rRepN1 X.K) := by
  intro pins s σ H x y v u Q I rx ry ⟨l, k, xs, ex, ey, hT, hne, h⟩
  subst ex ey
  cases rx
  obtain ⟨t, rfl⟩ := ry
  obtain ⟨its, r, ⟨⟨cls, dd, data, sl⟩, ho, hc, n, hd⟩, _⟩ := I.tuple hT
  obtain rfl : cls = .type "tuple" := hc
  obtain rfl : data = .seq its.toArray n := hd
  have e0 : its.length = xs.length := r.length.symm
  have full : its.toArray.isEmpty = false := by
    cases its with
    | nil => exact absurd (List.eq_nil_of_length_eq_zero (by rw [← e0]; rfl)) hne
    | cons _ _ => rfl
  have TT : s.TypeIs (.ref l) "tuple" := ⟨_, ho, rfl⟩
  have back := int_rmul_tuple k t l its.toArray n dd sl
  rcases h with ⟨rfl, q⟩ | ⟨rfl, q⟩
  · have fin : EP X pins σ Q (.ref l) s := ⟨.ref l, H, I, rfl, q⟩
    have forth := tuple_mul1 l its.toArray n dd sl 1 t (by decide) (by rw [full]; decide)
    exact wpAny_binaryOp_repeat_ref (by decide) TT (fun s' => typeIs_int s' 1 t) noFill_tuple_mul F.fills_int_mul F.slot_int_rmul repeat_tuple F.slot_int_index.lookup
      (call_meets F.slot_int_rmul (typeIs_int s 1 t) F.entry_int_rmul (F.args_int_rmul_2 _ _) back
        ⟨ho, rfl, TT, call_meets F.slot_tuple_mul TT F.entry_tuple_mul (F.args_tuple_mul_2 _ _) forth ⟨ho, fin⟩⟩)
  · have fin : EP X pins σ Q (.ref s.heap.objs.size) { s with heap := s.heap.push { cls := .type "tuple", data := .seq ([] : List Value).toArray } } := new_t I .nil (Nat.zero_le _) q
    have forth := tuple_mul0 l its.toArray n dd sl 0 t (by decide) (by rw [full]; decide) (by simp)
    exact wpAny_binaryOp_repeat_ref (by decide) TT (fun s' => typeIs_int s' 0 t) noFill_tuple_mul F.fills_int_mul F.slot_int_rmul repeat_tuple F.slot_int_index.lookup
      (call_meets F.slot_int_rmul (typeIs_int s 0 t) F.entry_int_rmul (F.args_int_rmul_2 _ _) back
        ⟨ho, rfl, TT, call_meets F.slot_tuple_mul TT F.entry_tuple_mul (F.args_tuple_mul_2 _ _) forth ⟨ho, fin⟩⟩)
end
/-! zip of two tuples, with neat pairs -/
def ItzN (K : Frag) (a b : Addr) : It := { RZ.ItzT K a b with yld := fun i H v H' => ∃ T o x y, v = .ref T ∧ H T = none ∧ Neat o ∧ H' = upd H T (.frz o (.tup [x, y])) ∧ (∀ xs, SqT K H a xs → xs[i]? = some x) ∧ ∀ ys, SqT K H b ys → ys[i]? = some y }
theorem turn_zipN {P : Program} {w : World} {K : Frag} {elts : List Expr} {kk : Nat} {tpos : Pos} {a b z t1 t2 i1 i2 : Addr} (D : ZipApart z t1 t2 i1 i2 a b) :
    Turn P w K (.Tuple elts kk tpos) (ItzN K a b) [z, t1, t2, i1, i2] z (fun i h => IsZip h z t1 t2 .none ∧ IsPair h t1 (.ref i1) (.ref i2) ∧ (∃ x y, IsPair h t2 x y) ∧ h.IsTupleIter i1 a i ∧ h.IsTupleIter i2 b i) :=
  let old := RZ.turn_zipT (P := P) (w := w) (K := K) (elts := elts) (kk := kk) (tpos := tpos) D
  { mem := old.mem, obj := old.obj, keep := old.keep, done := old.done, self := old.self
    item := by
      intro X hP hw hK hc i pins s σ H E I hf st hg
      subst hP hw hK
      obtain ⟨hz, hp, ⟨x0, y0, hq⟩, g1, g2⟩ := st
      obtain ⟨xs, ys, x, y, qx, qy, ex, ey⟩ := hg
      obtain ⟨its, rv, p, _⟩ := I.tuple qx
      obtain ⟨jts, rw', q, _⟩ := I.tuple qy
      obtain ⟨u, eu, ru⟩ := rv.get ex
      obtain ⟨v, ev, rv'⟩ := rw'.get ey
      have below : ∀ c ∈ [z, t1, t2, i1, i2], c < s.heap.objs.size := fun c hcm => let ⟨_, e, _⟩ := old.obj i s.heap ⟨hz, hp, ⟨x0, y0, hq⟩, g1, g2⟩ c hcm; Heap.lt_size e
      refine RZ.pyNext_zipT_item D hz hp hq g1 g2 p q (x := u) (y := v) (by simpa using eu) (by simpa using ev) fun h' z' q' g1' g2' made hsz hk => ⟨_, rfl, wpAny_letOwnedTupleGo_zip (s := { s with heap := h' }) z' fun h'' z'' sb => ?_⟩
      have made2 : h''.get? s.heap.objs.size = some { cls := .type "tuple", data := .seq #[u, v] } := (sb.2 _ (Nat.ne_of_gt (below z (by simp)))).trans made
      have obj : ObjOk X.prog X.w (upd H s.heap.objs.size (.frz { cls := .type "tuple", data := .seq #[u, v] } (.tup [x, y]))) h'' s.heap.objs.size (.frz { cls := .type "tuple", data := .seq #[u, v] } (.tup [x, y])) :=
        ⟨made2, by show 2 ≤ sizeLine; decide, [u, v], .cons ru (.cons rv' .nil), _, made2, rfl, _, rfl⟩
      have stays : ∀ c o, c ∉ [z, t1, t2, i1, i2] → s.heap.get? c = some o → h''.get? c = some o := fun c o hn e =>
        (sb.2 c fun e' => hn (by simp [e'])).trans (hk c o (fun e' => hn (by simp [e'])) (fun e' => hn (by simp [e'])) (fun e' => hn (by simp [e'])) (fun e' => hn (by simp [e'])) e)
      have I1 := I.turnedNew (t' := s.toks) (ch := [z, t1, t2, i1, i2]) stays hf (Nat.le_refl _) obj
      refine ⟨.ref s.heap.objs.size, _, I1, rfl, ⟨_, _, x, y, rfl, I.hok.fresh (Nat.le_refl _), ⟨rfl, rfl⟩, rfl, fun l hl => by rw [I.tuple_inj hl qx]; exact ex, fun l hl => by rw [I.tuple_inj hl qy]; exact ey⟩, ⟨z'', ?_, ⟨u, v, ?_⟩, ?_, ?_⟩, fun c hcm => ?_⟩
      · exact (sb.2 _ D.TIz).trans (hk _ _ D.TIz D.TITO D.TIi1 D.TIi2 hp)
      · exact (sb.2 _ D.TOz).trans q'
      · exact g1'.at fun o e => (sb.2 _ D.i1z).trans e
      · exact g2'.at fun o e => (sb.2 _ D.i2z).trans e
      · rw [upd_ne (Nat.ne_of_lt (below c hcm))]
        exact (hf c hcm).1 }
def iZipN (K : Frag) (ta : TA) : TI := fun σ H R => ta σ H fun vs H1 => ∃ a b xs ys, vs = [.ref a, .ref b] ∧ SqT K H1 a xs ∧ SqT K H1 b ys ∧ R (ItzN K a b) H1
theorem pi_zipN {X : Cx} {e e2 : Expr} {ta : TA} {p pos tpos : Pos} {elts : List Expr} {kk : Nat} (hg : Gl X "zip") (hm : X.mg "zip" = none) (ha : PA X [e, e2] ta)
    (hs : starEach [e, e2] X.env = (false, eval e X.env) :: starEach [e2] X.env := by rfl) (hpl : (backTo pos (starEach [e2] X.env)).any (·.1) = false := by rfl) : PI X (.Tuple elts kk tpos) (.Call (.Name "zip" p) [e, e2] [] pos) (iZipN X.K ta) := by
  refine ⟨fun pins s σ H R I h => Call_ (ld_blt I hg hm PyProof.Rows.boot_zip (PyProof.Rows.callWith_type1 (thn (ha.run pos pins s σ H _ I h) fun us s1 ⟨vs, H1, I1, r1, q1⟩ => ?_) hs hpl))⟩
  obtain ⟨a, b, xs, ys, ev, hx, hy, q⟩ := q1
  subst ev
  obtain ⟨u, v, eu, ru, rv⟩ : ∃ u v, us = [u, v] ∧ RelV (.ref a) u ∧ RelV (.ref b) v := by
    cases r1 with
    | cons r t =>
      cases t with
      | cons r' t => cases t; exact ⟨_, _, rfl, r, r'⟩
  subst eu
  cases ru
  cases rv
  obtain ⟨its, _, p1, _⟩ := I1.tuple hx
  obtain ⟨jts, _, p2, _⟩ := I1.tuple hy
  obtain ⟨_, o1, _⟩ := id p1
  obtain ⟨_, o2, _⟩ := id p2
  refine RZ.call_zipT (show s1.heap.IsTuple a its.toArray from p1) (show s1.heap.IsTuple b jts.toArray from p2) fun h' hz hp hq g1 g2 _ hk => wpAny_pyIter_zip hz ?_
  refine ⟨s1.heap.objs.size + 4, [s1.heap.objs.size + 4, s1.heap.objs.size + 2, s1.heap.objs.size + 3, s1.heap.objs.size, s1.heap.objs.size + 1], _, _, H1, rfl, I1.kept (t' := s1.toks) hk,
    turn_zipN (PySem.W.ktu_apart s1.heap.objs.size a b (Heap.lt_size o1) (Heap.lt_size o2)), ⟨hz, hp, ⟨_, _, hq⟩, g1, g2⟩, fun c hcm => ?_, q⟩
  have le : s1.heap.objs.size ≤ c := by
    simp only [List.mem_cons, List.not_mem_nil, or_false] at hcm
    rcases hcm with rfl | rfl | rfl | rfl | rfl <;> first | exact Nat.le_refl _ | exact Nat.le_add_right _ _
  exact I1.fpOk le (I1.hok.fresh le)
end DL

set_option Elab.async false
set_option linter.all false
set_option maxRecDepth 100000
/-! The data layer: readings of the hand layer over plain data (PyData), with tuples as values, lists and dicts of one's own by slot, and a hidden ghost (the deck). -/
namespace DL
open PySem PySem.Spec PyProof.Rows L2

abbrev D := PyData
/-- what a value is known as: a datum; a list with stable items; a dict; the ghost. own: a fresh one, of one's own -/
inductive R where
  | s (d : D)
  | l (own : Bool) (xs : List D)
  | k (own : Bool) (kvs : List (Key × D))
  | t (own : Bool) (kvs : List (List Key × D))
  | z (kvs : List (Key × D))
  | g
  | h
abbrev Rho := List (Option R)

/-- the ghost: where it stands, what holds of it, the value that is handed about -/
structure Gh where
  at_ : List Addr
  ok : Hp → Prop
  val : V
  stay : ∀ H H' : Hp, (∀ a ∈ at_, H' a = H a) → ok H → ok H'
  here : ∀ H : Hp, ok H → ∀ a ∈ at_, H a ≠ none
def G0 : Gh := ⟨[], fun _ => True, .non, fun _ _ _ _ => trivial, fun _ _ _ h => nomatch h⟩
/-- the deck: [cells, what is left of a great cell, a mixed number] -/
def deckOk (a c : Addr) (H : Hp) : Prop := ∃ (cells : List Int) (s m : Int), H a = some (.lst [.ref c, .int s, .int m]) ∧ H c = some (.lst (cells.map V.int)) ∧ (∀ x ∈ cells, 0 ≤ x ∧ x < 10 ^ 60) ∧ 0 ≤ s ∧ s < 10 ^ 60 ∧ 0 ≤ m ∧ m < 2147483647 ∧ cells.length ≤ 1000
def deckG (a c : Addr) : Gh := ⟨[a, c], deckOk a c, .ref a, fun H H' h ⟨cells, s, m, h1, h2, h3⟩ => ⟨cells, s, m, by rw [h a (by simp)]; exact h1, by rw [h c (by simp)]; exact h2, h3⟩,
  fun H ⟨cells, s, m, h1, h2, h3⟩ b hb => by
    rcases List.mem_cons.mp hb with rfl | hb
    · rw [h1]; exact fun z => nomatch z
    · rcases List.mem_cons.mp hb with rfl | hb
      · rw [h2]; exact fun z => nomatch z
      · cases hb⟩
/-- a source: {"cells", "at", "turn"}; n more draws are let -/
def srcTop : Int := 2 ^ 4000
def srcOk (d c : Addr) (n : Nat) (H : Hp) : Prop := ∃ (cells : List Int) (i : Nat) (t : Int), H d = some (.dK [(.inr "cells", .ref c), (.inr "at", .int i), (.inr "turn", .int t)]) ∧ H c = some (.lst (cells.map V.int)) ∧ (∀ x ∈ cells, 0 ≤ x ∧ x < 10 ^ 60) ∧ i < cells.length ∧ cells.length ≤ 63 ∧ 0 ≤ t ∧ t + (n : Int) ≤ srcTop
def srcG (d c : Addr) (n : Nat) : Gh := ⟨[d, c], srcOk d c n, .non, fun H H' h ⟨cells, i, t, h1, h2, h3⟩ => ⟨cells, i, t, by rw [h d (by simp)]; exact h1, by rw [h c (by simp)]; exact h2, h3⟩,
  fun H ⟨cells, i, t, h1, h2, h3⟩ b hb => by
    rcases List.mem_cons.mp hb with rfl | hb
    · rw [h1]; exact fun z => nomatch z
    · rcases List.mem_cons.mp hb with rfl | hb
      · rw [h2]; exact fun z => nomatch z
      · cases hb⟩
def hide (G : Gh) (H : Hp) : Hp := fun a => if a ∈ G.at_ then none else H a
section
variable {G : Gh} {H H' B : Hp} {a p : Addr} {o : HO}
theorem hide_in (h : a ∈ G.at_) : hide G H a = none := if_pos h
theorem hide_out (h : a ∉ G.at_) : hide G H a = H a := if_neg h
theorem hide_some (h : hide G H a = some o) : a ∉ G.at_ ∧ H a = some o := by
  by_cases q : a ∈ G.at_
  · rw [hide_in q] at h; cases h
  · rw [hide_out q] at h; exact ⟨q, h⟩
theorem hide_free (h : H a = none) : hide G H a = none := by
  by_cases q : a ∈ G.at_
  · exact hide_in q
  · rw [hide_out q]; exact h
theorem hide_upd (h : p ∉ G.at_) : hide G (upd H p o) = upd (hide G H) p o := by
  funext b
  by_cases q : b = p
  · subst q; rw [hide_out h, upd_same, upd_same]
  · by_cases z : b ∈ G.at_
    · rw [hide_in z, upd_ne q, hide_in z]
    · rw [hide_out z, upd_ne q, upd_ne q, hide_out z]
theorem ghost_upd (h : p ∉ G.at_) (q : G.ok H) : G.ok (upd H p o) := G.stay _ _ (fun b hb => upd_ne (fun e => h (e ▸ hb))) q
end

def kD : Key → D
  | .inl i => .int i
  | .inr x => .str x
/-! data in the heap, dicts that nobody changes among them -/
mutual
inductive Dp (K : Frag) (H : Hp) : V → D → Prop
  | non : Dp K H .non .none
  | bl (b : Bool) : Dp K H (.bl b) (.bool b)
  | int (i : Int) : Dp K H (.int i) (.int i)
  | str (x : Str) : Dp K H (.str x) (.str x)
  | lst {a : Addr} {xs : List V} {ds : List D} : SqL K H a xs → DpAll K H xs ds → Dp K H (.ref a) (.list ds)
  | tup {a : Addr} {xs : List V} {ds : List D} : SqN K H a xs → DpAll K H xs ds → Dp K H (.ref a) (.tuple ds)
  | dic {a : Addr} {xs : List (Key × V)} {ds : List (D × D)} : H a = some (.dK xs) → DpKv K H xs ds → Dp K H (.ref a) (.dict ds)
inductive DpAll (K : Frag) (H : Hp) : List V → List D → Prop
  | nil : DpAll K H [] []
  | cons {v : V} {vs : List V} {d : D} {ds : List D} : Dp K H v d → DpAll K H vs ds → DpAll K H (v :: vs) (d :: ds)
inductive DpKv (K : Frag) (H : Hp) : List (Key × V) → List (D × D) → Prop
  | nil : DpKv K H [] []
  | cons {k : Key} {v : V} {vs : List (Key × V)} {d : D} {ds : List (D × D)} : Dp K H v d → DpKv K H vs ds → DpKv K H ((k, v) :: vs) ((kD k, d) :: ds)
end
/-- lists of one key kind and their values -/
inductive KvP (K : Frag) (B : Hp) {κ : Type} : List (κ × V) → List (κ × D) → Prop
  | nil : KvP K B [] []
  | cons {k : κ} {x : V} {d : D} {xs : List (κ × V)} {ds : List (κ × D)} : Dp K B x d → KvP K B xs ds → KvP K B ((k, x) :: xs) ((k, d) :: ds)

end DL
namespace L2
open PySem PySem.Spec PyProof.Rows
section
variable {K : PySem.W.Frag} {H H' : Hp}
theorem Same.sqL (e : Same H H') {a : Addr} {xs : List V} (h : SqL K H a xs) : SqL K H' a xs := Same.seq e h
theorem Same.sqT (e : Same H H') {a : Addr} {xs : List V} (h : SqT K H a xs) : SqT K H' a xs := by
  rcases h with (h | ⟨o, h⟩) | h
  · exact .inl (.inl (e _ _ h))
  · exact .inl (.inr ⟨o, e _ _ h⟩)
  · exact .inr h
end
end L2
namespace DL
open PySem PySem.Spec PyProof.Rows L2
section
variable {K : PySem.W.Frag} {H H' : Hp}
mutual
theorem Dp.mono (e : Same H H') : ∀ {x : V} {d : PyData}, Dp K H x d → Dp K H' x d
  | _, _, .non => .non
  | _, _, .bl b => .bl b
  | _, _, .int i => .int i
  | _, _, .str x => .str x
  | _, _, .lst h t => .lst (Same.sqL e h) (DpAll.mono e t)
  | _, _, .tup h t => .tup (h.up e) (DpAll.mono e t)
  | _, _, .dic h t => .dic (e _ _ h) (DpKv.mono e t)
theorem DpAll.mono (e : Same H H') : ∀ {xs : List V} {ds : List PyData}, DpAll K H xs ds → DpAll K H' xs ds
  | _, _, .nil => .nil
  | _, _, .cons h t => .cons (Dp.mono e h) (DpAll.mono e t)
theorem DpKv.mono (e : Same H H') : ∀ {xs : List (Key × V)} {ds : List (D × D)}, DpKv K H xs ds → DpKv K H' xs ds
  | _, _, .nil => .nil
  | _, _, .cons h t => .cons (Dp.mono e h) (DpKv.mono e t)
end
mutual
theorem Dp.old : ∀ {d : D} {x : V}, Dp K H x d → d.canLay0 = true → L2.Dp K H x d
  | _, _, .non, _ => .non
  | _, _, .bl b, _ => .bl b
  | _, _, .int i, _ => .int i
  | _, _, .str x, _ => .str x
  | _, _, .lst h t, c => .lst h (DpAll.old t (by simpa only [PyData.canLay0] using c))
  | _, _, .tup h t, c => .tup h.t (DpAll.old t (by simpa only [PyData.canLay0] using c))
theorem DpAll.old : ∀ {ds : List D} {xs : List V}, DpAll K H xs ds → PyData.canLayAll0 ds = true → L2.DpAll K H xs ds
  | _, _, .nil, _ => .nil
  | _, _, .cons h t, c => have c' := Bool.and_eq_true_iff.mp (by simpa only [PyData.canLayAll0] using c); .cons (Dp.old h c'.1) (DpAll.old t c'.2)
end
theorem DpAll.length : ∀ {xs : List V} {ds : List PyData}, DpAll K H xs ds → xs.length = ds.length
  | _, _, .nil => rfl
  | _, _, .cons _ t => congrArg (· + 1) (DpAll.length t)
theorem DpAll.append : ∀ {xs ys : List V} {ds es : List PyData}, DpAll K H xs ds → DpAll K H ys es → DpAll K H (xs ++ ys) (ds ++ es)
  | _, _, _, _, .nil, h => h
  | _, _, _, _, .cons h t, h' => .cons h (DpAll.append t h')
theorem DpAll.get : ∀ {xs : List V} {ds : List PyData} {i : Nat} {d : PyData}, DpAll K H xs ds → ds[i]? = some d → ∃ x, xs[i]? = some x ∧ Dp K H x d
  | _, _, _, _, .nil, e => by simp at e
  | _, _, 0, _, .cons h _, e => by simp at e; subst e; exact ⟨_, by simp, h⟩
  | _, _, i + 1, _, .cons _ t, e => by
    obtain ⟨x, h1, h2⟩ := DpAll.get (i := i) t (by simpa using e)
    exact ⟨x, by simpa using h1, h2⟩
theorem DpAll.get' : ∀ {xs : List V} {ds : List PyData} {i : Nat} {x : V}, DpAll K H xs ds → xs[i]? = some x → ∃ d, ds[i]? = some d ∧ Dp K H x d
  | _, _, _, _, .nil, e => by simp at e
  | _, _, 0, _, .cons h _, e => by simp at e; subst e; exact ⟨_, by simp, h⟩
  | _, _, i + 1, _, .cons _ t, e => by
    obtain ⟨x, h1, h2⟩ := DpAll.get' (i := i) t (by simpa using e)
    exact ⟨x, by simpa using h1, h2⟩
theorem DpAll.take : ∀ {xs : List V} {ds : List PyData} (n : Nat), DpAll K H xs ds → DpAll K H (xs.take n) (ds.take n)
  | _, _, 0, _ => .nil
  | _, _, _ + 1, .nil => .nil
  | _, _, n + 1, .cons h t => .cons h (DpAll.take n t)
theorem DpAll.drop : ∀ {xs : List V} {ds : List PyData} (n : Nat), DpAll K H xs ds → DpAll K H (xs.drop n) (ds.drop n)
  | _, _, 0, h => h
  | _, _, _ + 1, .nil => .nil
  | _, _, n + 1, .cons _ t => DpAll.drop n t
theorem DpAll.set : ∀ {xs : List V} {ds : List PyData} {x : V} {d : PyData} (n : Nat), DpAll K H xs ds → Dp K H x d → DpAll K H (xs.set n x) (ds.set n d)
  | _, _, _, _, _, .nil, _ => .nil
  | _, _, _, _, 0, .cons _ t, r => .cons r t
  | _, _, _, _, n + 1, .cons h t, r => .cons h (DpAll.set n t r)
theorem DpAll.reverse : ∀ {xs : List V} {ds : List PyData}, DpAll K H xs ds → DpAll K H xs.reverse ds.reverse
  | _, _, .nil => .nil
  | _, _, .cons h t => by rw [List.reverse_cons, List.reverse_cons]; exact DpAll.append (DpAll.reverse t) (.cons h .nil)
theorem DpAll.ints : ∀ (ns : List Int), DpAll K H (ns.map V.int) (ns.map PyData.int)
  | [] => .nil
  | n :: ns => .cons (.int n) (DpAll.ints ns)
theorem old_ints : ∀ (ns : List Int), L2.DpAll K H (ns.map V.int) (ns.map PyData.int)
  | [] => .nil
  | n :: ns => .cons (.int n) (old_ints ns)
theorem DpAll.ints' : ∀ {xs : List V} {ns : List Int}, DpAll K H xs (ns.map PyData.int) → xs = ns.map V.int
  | _, [], .nil => rfl
  | _, n :: ns, .cons h t => by cases h; rw [DpAll.ints' t]; rfl
theorem DpAll.bls' : ∀ {xs : List V} {bs : List Bool}, DpAll K H xs (bs.map PyData.bool) → xs = bs.map V.bl
  | _, [], .nil => rfl
  | _, n :: ns, .cons h t => by cases h; rw [DpAll.bls' t]; rfl
end
section
variable {K : Frag} {H H' : Hp}
theorem KvP.mono {κ : Type} (e : Same H H') : ∀ {xs : List (κ × V)} {ds : List (κ × D)}, KvP K H xs ds → KvP K H' xs ds
  | _, _, .nil => .nil
  | _, _, .cons h t => .cons (Dp.mono e h) (KvP.mono e t)
end
section
variable {K : Frag} {H : Hp}
def kvD (kvs : List (Key × D)) : List (D × D) := kvs.map fun p => (kD p.1, p.2)
theorem KvP.kv : ∀ {xs : List (Key × V)} {ds : List (Key × D)}, KvP K H xs ds → DpKv K H xs (kvD ds)
  | _, _, .nil => .nil
  | _, _, .cons h t => .cons h (KvP.kv t)
theorem kD_inj : ∀ {a b : Key}, kD a = kD b → a = b
  | .inl _, .inl _, e => by cases e; rfl
  | .inr _, .inr _, e => by cases e; rfl
  | .inl _, .inr _, e => by cases e
  | .inr _, .inl _, e => by cases e
theorem DpKv.pk : ∀ {ds : List (Key × D)} {xs : List (Key × V)}, DpKv K H xs (kvD ds) → KvP K H xs ds
  | [], _, .nil => .nil
  | (k, d) :: ds, _, h => by
    generalize e : kvD ((k, d) :: ds) = l at h
    cases h with
    | nil => cases e
    | @cons k' v vs d' ds' h t =>
      have e1 : kD k = kD k' := congrArg Prod.fst (List.cons.inj e).1
      have e2 : d = d' := congrArg Prod.snd (List.cons.inj e).1
      have e3 : kvD ds = ds' := (List.cons.inj e).2
      subst e2 e3
      rw [kD_inj e1]
      exact .cons h (DpKv.pk t)
end
/-! ### steps and states -/
/-- from (B, H) to (B', H'): what was stable stays, what was tracked stays (but for the ghost), and what was not stable does not become so if it stood there -/
structure Stp (G : Gh) (B H B' H' : Hp) : Prop where
  bb : Same B B'
  hh : Same (hide G H) (hide G H')
  nw : ∀ a o, B a = none → hide G H a = some o → B' a = none
section
variable {G : Gh} {B H B1 H1 B2 H2 : Hp}
theorem Stp.refl (G : Gh) (B H : Hp) : Stp G B H B H := ⟨Same.refl _, Same.refl _, fun _ _ h _ => h⟩
theorem Stp.trans (s : Stp G B H B1 H1) (t : Stp G B1 H1 B2 H2) : Stp G B H B2 H2 :=
  ⟨s.bb.trans t.bb, s.hh.trans t.hh, fun a o h1 h2 => t.nw a o (s.nw a o h1 h2) (s.hh a o h2)⟩
/-- a new object, not stable -/
theorem Stp.new {p : Addr} {o : HO} (h : H p = none) : Stp G B H B (upd H p o) := ⟨Same.refl _, fun a u e => by
    obtain ⟨z, e⟩ := hide_some e
    rw [hide_out z, upd_ne (ne_of_none e h)]; exact e, fun _ _ h _ => h⟩
/-- a new object, stable at once -/
theorem Stp.newS {p : Addr} {o : HO} (h : H p = none) (hb : B p = none) : Stp G B H (upd B p o) (upd H p o) := ⟨fun a u e => by
    rw [upd_ne (ne_of_none e hb)]; exact e, (Stp.new (G := G) (B := B) h).hh, fun a u h1 h2 => by
    rw [upd_ne (ne_of_none (hide_some h2).2 h)]; exact h1⟩
end

/-- a dict that nobody changes any more: walked, looked into -/
def LkD (K : Frag) (B : Hp) (x : V) (ds : List (Key × D)) : Prop := ∃ p xs o, x = .ref p ∧ B p = some (.frz o (.dK xs)) ∧ KvP K B xs ds
theorem LkD.mono {K : Frag} {B B' : Hp} {x : V} {ds : List (Key × D)} (s : Same B B') (h : LkD K B x ds) : LkD K B' x ds :=
  let ⟨p, xs, o, e, h1, h2⟩ := h; ⟨p, xs, o, e, s _ _ h1, KvP.mono s h2⟩
/-- what a slot's value is -/
def SlotR (K : Frag) (G : Gh) (B0 H0 B H : Hp) (x : V) : R → Prop
  | .s d => Dp K B x d
  | .l false ds => ∃ p xs, x = .ref p ∧ hide G H0 p = some (.lst xs) ∧ DpAll K B xs ds
  | .l true ds => ∃ p xs, x = .ref p ∧ H p = some (.lst xs) ∧ DpAll K B xs ds ∧ B p = none ∧ p ∉ G.at_ ∧ hide G H0 p = none
  | .k false ds => ∃ p xs, x = .ref p ∧ hide G H0 p = some (.dK xs) ∧ KvP K B xs ds
  | .k true ds => ∃ p xs, x = .ref p ∧ H p = some (.dK xs) ∧ KvP K B xs ds ∧ B p = none ∧ p ∉ G.at_ ∧ hide G H0 p = none
  | .t false ds => ∃ p xs, x = .ref p ∧ hide G H0 p = some (.dT xs) ∧ KvP K B xs ds
  | .t true ds => ∃ p xs, x = .ref p ∧ H p = some (.dT xs) ∧ KvP K B xs ds ∧ B p = none ∧ p ∉ G.at_ ∧ hide G H0 p = none
  | .g => ∃ a c, x = .ref a ∧ G = deckG a c
  | .h => ∃ d c n, x = .ref d ∧ G = srcG d c n
  | .z ds => LkD K B x ds
def owns : R → Bool
  | .l true _ | .k true _ | .t true _ => true
  | _ => false
structure Stt (K : Frag) (G : Gh) (B0 H0 B H : Hp) (σ : L2.St) (ρ : Rho) : Prop where
  len : ρ.length = σ.length
  bh : Same B (hide G H)
  gok : G.ok H
  st : Stp G B0 H0 B H
  sl : ∀ (i : Nat) (r : R), ρ[i]? = some (some r) → ∃ x, σ[i]? = some (some x) ∧ SlotR K G B0 H0 B H x r
  dis : ∀ (i j : Nat) (r u : R) (x : V), i ≠ j → ρ[i]? = some (some r) → ρ[j]? = some (some u) → owns r = true → owns u = true → σ[i]? = some (some x) → σ[j]? = some (some x) → False

/-- what an expression's value is, from H on -/
def Rs (K : Frag) (G : Gh) (H B' H' : Hp) (x : V) : R → Prop
  | .s d => Dp K B' x d
  | .l own ds => ∃ p xs, x = .ref p ∧ hide G H' p = some (.lst xs) ∧ DpAll K B' xs ds ∧ (own = true → B' p = none ∧ hide G H p = none)
  | .k own ds => ∃ p xs, x = .ref p ∧ hide G H' p = some (.dK xs) ∧ KvP K B' xs ds ∧ (own = true → B' p = none ∧ hide G H p = none)
  | .t own ds => ∃ p xs, x = .ref p ∧ hide G H' p = some (.dT xs) ∧ KvP K B' xs ds ∧ (own = true → B' p = none ∧ hide G H p = none)
  | .g => ∃ a c, x = .ref a ∧ G = deckG a c
  | .h => ∃ d c n, x = .ref d ∧ G = srcG d c n
  | .z ds => LkD K B' x ds

section
variable {K : Frag} {G : Gh} {B0 H0 B H B' H' B1 H1 : Hp} {σ : L2.St} {ρ : Rho} {x : V} {r : R}
theorem SlotR.step (h : SlotR K G B0 H0 B H x r) (s : Stp G B H B' H') : SlotR K G B0 H0 B' H' x r := by
  have up : ∀ {p : Addr} {o : HO}, H p = some o → p ∉ G.at_ → H' p = some o := fun {p o} e z => by
    have := s.hh p o (by rw [hide_out z]; exact e)
    exact (hide_some this).2
  match r, h with
  | .s d, h => exact Dp.mono s.bb h
  | .l false ds, ⟨p, xs, e, h1, h2⟩ => exact ⟨p, xs, e, h1, DpAll.mono s.bb h2⟩
  | .l true ds, ⟨p, xs, e, h1, h2, h3, h4, h5⟩ => exact ⟨p, xs, e, up h1 h4, DpAll.mono s.bb h2, s.nw p _ h3 (by rw [hide_out h4]; exact h1), h4, h5⟩
  | .k false ds, ⟨p, xs, e, h1, h2⟩ => exact ⟨p, xs, e, h1, KvP.mono s.bb h2⟩
  | .k true ds, ⟨p, xs, e, h1, h2, h3, h4, h5⟩ => exact ⟨p, xs, e, up h1 h4, KvP.mono s.bb h2, s.nw p _ h3 (by rw [hide_out h4]; exact h1), h4, h5⟩
  | .t false ds, ⟨p, xs, e, h1, h2⟩ => exact ⟨p, xs, e, h1, KvP.mono s.bb h2⟩
  | .t true ds, ⟨p, xs, e, h1, h2, h3, h4, h5⟩ => exact ⟨p, xs, e, up h1 h4, KvP.mono s.bb h2, s.nw p _ h3 (by rw [hide_out h4]; exact h1), h4, h5⟩
  | .g, h => exact h
  | .h, h => exact h
  | .z ds, h => exact LkD.mono s.bb h
theorem Stt.step (h : Stt K G B0 H0 B H σ ρ) (s : Stp G B H B' H') (bh : Same B' (hide G H')) (gok : G.ok H') : Stt K G B0 H0 B' H' σ ρ :=
  ⟨h.len, bh, gok, h.st.trans s, fun i r e => let ⟨x, e1, e2⟩ := h.sl i r e; ⟨x, e1, e2.step s⟩, h.dis⟩
theorem Rs.step (h : Rs K G H B1 H1 x r) (s : Stp G B1 H1 B' H') : Rs K G H B' H' x r := by
  match r, h with
  | .s d, h => exact Dp.mono s.bb h
  | .l own ds, ⟨p, xs, e, h1, h2, h3⟩ =>
    exact ⟨p, xs, e, s.hh _ _ h1, DpAll.mono s.bb h2, fun o => let ⟨a, b⟩ := h3 o; ⟨s.nw p _ a h1, b⟩⟩
  | .k own ds, ⟨p, xs, e, h1, h2, h3⟩ => exact ⟨p, xs, e, s.hh _ _ h1, KvP.mono s.bb h2, fun o => let ⟨a, b⟩ := h3 o; ⟨s.nw p _ a h1, b⟩⟩
  | .t own ds, ⟨p, xs, e, h1, h2, h3⟩ => exact ⟨p, xs, e, s.hh _ _ h1, KvP.mono s.bb h2, fun o => let ⟨a, b⟩ := h3 o; ⟨s.nw p _ a h1, b⟩⟩
  | .g, h => exact h
  | .h, h => exact h
  | .z ds, h => exact LkD.mono s.bb h
/-- from an earlier start -/
theorem Rs.from (h : Rs K G H1 B' H' x r) (s : Stp G B H B1 H1) : Rs K G H B' H' x r := by
  have fr : ∀ {p : Addr}, hide G H1 p = none → hide G H p = none := fun e => s.hh.free e
  match r, h with
  | .s d, h => exact h
  | .l own ds, ⟨p, xs, e, h1, h2, h3⟩ => exact ⟨p, xs, e, h1, h2, fun o => let ⟨a, b⟩ := h3 o; ⟨a, fr b⟩⟩
  | .k own ds, ⟨p, xs, e, h1, h2, h3⟩ => exact ⟨p, xs, e, h1, h2, fun o => let ⟨a, b⟩ := h3 o; ⟨a, fr b⟩⟩
  | .t own ds, ⟨p, xs, e, h1, h2, h3⟩ => exact ⟨p, xs, e, h1, h2, fun o => let ⟨a, b⟩ := h3 o; ⟨a, fr b⟩⟩
  | .g, h => exact h
  | .h, h => exact h
  | .z ds, h => exact h
theorem Stt.notG (h : Stt K G B0 H0 B H σ ρ) {p : Addr} (e : H p = none) : p ∉ G.at_ := fun z => G.here _ h.gok _ z e
theorem Stt.freeB (h : Stt K G B0 H0 B H σ ρ) {p : Addr} (e : H p = none) : B p = none := h.bh.free (hide_free e)
/-- a slot read: never as one's own -/
def peek : R → R
  | .l _ xs => .l false xs
  | .k _ xs => .k false xs
  | .t _ xs => .t false xs
  | r => r
theorem SlotR.rs (h : SlotR K G B0 H0 B H x r) (s : Stp G B0 H0 B H) : Rs K G H B H x (peek r) := by
  match r, h with
  | .s d, h => exact h
  | .l false ds, ⟨p, xs, e, h1, h2⟩ => exact ⟨p, xs, e, s.hh _ _ h1, h2, fun o => by cases o⟩
  | .l true ds, ⟨p, xs, e, h1, h2, h3, h4, h5⟩ => exact ⟨p, xs, e, by rw [hide_out h4]; exact h1, h2, fun o => by cases o⟩
  | .k false ds, ⟨p, xs, e, h1, h2⟩ => exact ⟨p, xs, e, s.hh _ _ h1, h2, fun o => by cases o⟩
  | .k true ds, ⟨p, xs, e, h1, h2, h3, h4, h5⟩ => exact ⟨p, xs, e, by rw [hide_out h4]; exact h1, h2, fun o => by cases o⟩
  | .t false ds, ⟨p, xs, e, h1, h2⟩ => exact ⟨p, xs, e, s.hh _ _ h1, h2, fun o => by cases o⟩
  | .t true ds, ⟨p, xs, e, h1, h2, h3, h4, h5⟩ => exact ⟨p, xs, e, by rw [hide_out h4]; exact h1, h2, fun o => by cases o⟩
  | .g, h => exact h
  | .h, h => exact h
  | .z ds, h => exact h
/-- the owner of an object is away from all that is stable or older -/
theorem SlotR.own (h : SlotR K G B0 H0 B H x r) (o : owns r = true) : ∃ p u, x = .ref p ∧ H p = some u ∧ B p = none ∧ p ∉ G.at_ ∧ hide G H0 p = none := by
  match r, h with
  | .l true ds, ⟨p, xs, e, h1, h2, h3, h4, h5⟩ => exact ⟨p, _, e, h1, h3, h4, h5⟩
  | .k true ds, ⟨p, xs, e, h1, h2, h3, h4, h5⟩ => exact ⟨p, _, e, h1, h3, h4, h5⟩
  | .t true ds, ⟨p, xs, e, h1, h2, h3, h4, h5⟩ => exact ⟨p, _, e, h1, h3, h4, h5⟩
  | .s d, _ => cases o
  | .l false ds, _ => cases o
  | .k false ds, _ => cases o
  | .t false ds, _ => cases o
  | .g, _ => cases o
  | .h, _ => cases o
  | .z ds, _ => cases o
/-- what may be kept in a slot: data, and what is fresh -/
def keeps : R → Bool
  | .s _ => true
  | .g => true
  | .h => true
  | .z _ => true
  | .l o _ | .k o _ | .t o _ => o
theorem Rs.own_new (h : Rs K G H B' H' x r) (o : owns r = true) : ∃ p, x = .ref p ∧ hide G H p = none := by
  match r, o, h with
  | .l true ds, _, ⟨p, xs, e, h1, h2, h3⟩ => exact ⟨p, e, (h3 rfl).2⟩
  | .k true ds, _, ⟨p, xs, e, h1, h2, h3⟩ => exact ⟨p, e, (h3 rfl).2⟩
  | .t true ds, _, ⟨p, xs, e, h1, h2, h3⟩ => exact ⟨p, e, (h3 rfl).2⟩
theorem Rs.own_at (h : Rs K G H B' H' x r) (o : owns r = true) : ∃ p u, x = .ref p ∧ hide G H' p = some u := by
  match r, o, h with
  | .l true ds, _, ⟨p, xs, e, h1, h2, h3⟩ => exact ⟨p, _, e, h1⟩
  | .k true ds, _, ⟨p, xs, e, h1, h2, h3⟩ => exact ⟨p, _, e, h1⟩
  | .t true ds, _, ⟨p, xs, e, h1, h2, h3⟩ => exact ⟨p, _, e, h1⟩
/-- a kept result as a slot's value -/
theorem Rs.slot (hr : Rs K G H B' H' x r) (k : keeps r = true) (s : Same (hide G H0) (hide G H)) : SlotR K G B0 H0 B' H' x r := by
  match r, k, hr with
  | .s d, _, hr => exact hr
  | .l true ds, _, ⟨p, xs, e, h1, h2, h3⟩ => obtain ⟨a, b⟩ := h3 rfl; obtain ⟨z, y⟩ := hide_some h1; exact ⟨p, xs, e, y, h2, a, z, s.free b⟩
  | .k true ds, _, ⟨p, xs, e, h1, h2, h3⟩ => obtain ⟨a, b⟩ := h3 rfl; obtain ⟨z, y⟩ := hide_some h1; exact ⟨p, xs, e, y, h2, a, z, s.free b⟩
  | .t true ds, _, ⟨p, xs, e, h1, h2, h3⟩ => obtain ⟨a, b⟩ := h3 rfl; obtain ⟨z, y⟩ := hide_some h1; exact ⟨p, xs, e, y, h2, a, z, s.free b⟩
  | .g, _, hr => exact hr
  | .h, _, hr => exact hr
  | .z ds, _, hr => exact hr
/-- a new object is away from the slots' own ones -/
theorem Stt.away (h : Stt K G B0 H0 B H σ ρ) (hr : Rs K G H B' H' x r) (o1 : owns r = true) (j : Nat) (u : R) (y : V) (e1 : ρ[j]? = some (some u)) (o2 : owns u = true) (e2 : σ[j]? = some (some y)) : y ≠ x := by
  intro e3
  obtain ⟨z, f1, f2⟩ := h.sl j u e1
  rw [f1] at e2; cases e2
  obtain ⟨p, ob, ep, f3, f4, f5, f6⟩ := f2.own o2
  obtain ⟨q, eq, hq⟩ := hr.own_new o1
  rw [ep, eq] at e3
  cases e3
  rw [hide_out f5, f3] at hq; cases hq
/-- a slot is filled, in general -/
theorem Stt.fillG (hn : Stt K G B0 H0 B' H' σ ρ) (base : SlotR K G B0 H0 B' H' x r) (i : Nat) (hi : i < σ.length)
    (apart : ∀ (j : Nat) (u : R) (y : V), j ≠ i → ρ[j]? = some (some u) → owns r = true → owns u = true → σ[j]? = some (some y) → y = x → False) :
    Stt K G B0 H0 B' H' (σ.set i (some x)) (ρ.set i (some r)) := by
  have hi' : i < ρ.length := by rw [hn.len]; exact hi
  refine ⟨by simp [hn.len], hn.bh, hn.gok, hn.st, fun j u e => ?_, fun j m u v y hjm e1 e2 o1 o2 e3 e4 => ?_⟩
  · by_cases q : j = i
    · subst q
      rw [List.getElem?_set_self hi'] at e; cases e
      exact ⟨x, List.getElem?_set_self hi, base⟩
    · rw [List.getElem?_set_ne (Ne.symm q)] at e ⊢
      exact hn.sl j u e
  · by_cases qj : j = i
    · subst qj
      rw [List.getElem?_set_self hi'] at e1; cases e1
      rw [List.getElem?_set_self hi] at e3; cases e3
      rw [List.getElem?_set_ne hjm] at e2 e4
      exact apart m v _ (Ne.symm hjm) e2 o1 o2 e4 rfl
    · rw [List.getElem?_set_ne (Ne.symm qj)] at e1 e3
      by_cases qm : m = i
      · subst qm
        rw [List.getElem?_set_self hi'] at e2; cases e2
        rw [List.getElem?_set_self hi] at e4; cases e4
        exact apart j u _ qj e1 o2 o1 e3 rfl
      · rw [List.getElem?_set_ne (Ne.symm qm)] at e2 e4
        exact hn.dis j m u v y hjm e1 e2 o1 o2 e3 e4
theorem Stt.fill (h : Stt K G B0 H0 B H σ ρ) (s : Stp G B H B' H') (hn : Stt K G B0 H0 B' H' σ ρ) (k : keeps r = true) (hr : Rs K G H B' H' x r) (i : Nat) (hi : i < σ.length) :
    Stt K G B0 H0 B' H' (σ.set i (some x)) (ρ.set i (some r)) :=
  hn.fillG (hr.slot k h.st.hh) i hi fun j u y _ e1 o1 o2 e2 e3 => h.away hr o1 j u y e1 o2 e2 e3
/-- what stands in a slot of one's own is written -/
theorem Stt.mut {i : Nat} {p : Addr} {o : HO} {r' : R} (h : Stt K G B0 H0 B H σ ρ) (e1 : ρ[i]? = some (some r)) (ho : owns r = true) (e2 : σ[i]? = some (some (.ref p))) (hr : SlotR K G B0 H0 B (upd H p o) (.ref p) r') :
    Stt K G B0 H0 B (upd H p o) σ (ρ.set i (some r')) := by
  obtain ⟨x, f1, f2⟩ := h.sl i r e1
  rw [e2] at f1; cases f1
  obtain ⟨q, u, eq, h1, h2, h3, h4⟩ := f2.own ho
  cases eq
  have hi : i < ρ.length := (List.getElem?_eq_some_iff.mp e1).1
  have hu : hide G (upd H p o) = upd (hide G H) p o := hide_upd h3
  refine ⟨by rw [List.length_set]; exact h.len, fun b v e => ?_, ghost_upd h3 h.gok, ⟨h.st.bb, fun b v e => ?_, h.st.nw⟩, fun j v e => ?_, fun j m v w y hjm z1 z2 o1 o2 z3 z4 => ?_⟩
  · rw [hu, upd_ne (ne_of_none e h2)]; exact h.bh _ _ e
  · rw [hu, upd_ne (ne_of_none e h4)]; exact h.st.hh _ _ e
  · by_cases qj : j = i
    · subst qj
      rw [List.getElem?_set_self hi] at e; cases e
      exact ⟨_, e2, hr⟩
    · rw [List.getElem?_set_ne (Ne.symm qj)] at e
      obtain ⟨y, g1, g2⟩ := h.sl j v e
      refine ⟨y, g1, ?_⟩
      have ne : ∀ q, y = .ref q → owns v = true → q ≠ p := fun q ey ov eqp => by
        subst ey; subst eqp
        exact h.dis j i v r _ qj e e1 ov ho g1 e2
      match v, g2, ne with
      | .s d, g2, _ => exact g2
      | .l false ds, g2, _ => exact g2
      | .l true ds, ⟨q, xs, e, k1, k2, k3, k4, k5⟩, ne => exact ⟨q, xs, e, by rw [upd_ne (ne q e rfl)]; exact k1, k2, k3, k4, k5⟩
      | .k false ds, g2, _ => exact g2
      | .k true ds, ⟨q, xs, e, k1, k2, k3, k4, k5⟩, ne => exact ⟨q, xs, e, by rw [upd_ne (ne q e rfl)]; exact k1, k2, k3, k4, k5⟩
      | .t false ds, g2, _ => exact g2
      | .t true ds, ⟨q, xs, e, k1, k2, k3, k4, k5⟩, ne => exact ⟨q, xs, e, by rw [upd_ne (ne q e rfl)]; exact k1, k2, k3, k4, k5⟩
      | .g, g2, _ => exact g2
      | .h, g2, _ => exact g2
      | .z ds, g2, _ => exact g2
  · by_cases qj : j = i
    · subst qj
      rw [List.getElem?_set_ne hjm] at z2
      exact h.dis j m r w y hjm e1 z2 ho o2 z3 z4
    · rw [List.getElem?_set_ne (Ne.symm qj)] at z1
      by_cases qm : m = i
      · subst qm
        exact h.dis j m v r y hjm z1 e1 o1 ho z3 z4
      · rw [List.getElem?_set_ne (Ne.symm qm)] at z2
        exact h.dis j m v w y hjm z1 z2 o1 o2 z3 z4
/-- an object of one's own becomes stable -/
theorem Stt.freezeG {i : Nat} {d : D} {p : Addr} {o : HO} (h : Stt K G B0 H0 B H σ ρ) (e1 : ρ[i]? = some (some r)) (ho : owns r = true) (f1 : σ[i]? = some (some (.ref p))) (h1 : H p = some o) (h3 : B p = none) (h4 : p ∉ G.at_) (h5 : hide G H0 p = none)
    (hd : Same B (upd B p o) → Dp K (upd B p o) (.ref p) d) : ∃ B', Stt K G B0 H0 B' H σ (ρ.set i (some (.s d))) ∧ Same B B' := by
  have hi : i < ρ.length := (List.getElem?_eq_some_iff.mp e1).1
  have bb : Same B (upd B p o) := fun b u e => by rw [upd_ne (ne_of_none e h3)]; exact e
  have bh : Same (upd B p o) (hide G H) := fun b u e => by
    by_cases z : b = p
    · subst z; rw [upd_same] at e; cases e; rw [hide_out h4]; exact h1
    · rw [upd_ne z] at e; exact h.bh _ _ e
  refine ⟨upd B p o, ⟨by rw [List.length_set]; exact h.len, bh, h.gok, ⟨h.st.bb.trans bb, h.st.hh, fun b u z1 z2 => ?_⟩, fun j v e => ?_, fun j m v w y hjm z1 z2 o1 o2 z3 z4 => ?_⟩, bb⟩
  · rw [upd_ne (ne_of_none z2 h5)]; exact h.st.nw b u z1 z2
  · by_cases qj : j = i
    · subst qj
      rw [List.getElem?_set_self hi] at e; cases e
      exact ⟨_, f1, hd bb⟩
    · rw [List.getElem?_set_ne (Ne.symm qj)] at e
      obtain ⟨y, g1, g2⟩ := h.sl j v e
      refine ⟨y, g1, ?_⟩
      have ne : ∀ q, y = .ref q → owns v = true → q ≠ p := fun q ey ov eqp => by
        subst ey; subst eqp
        exact h.dis j i v _ _ qj e e1 ov ho g1 f1
      match v, g2, ne with
      | .s d, g2, _ => exact Dp.mono bb g2
      | .l false ds, ⟨q, xs, e, k1, k2⟩, _ => exact ⟨q, xs, e, k1, DpAll.mono bb k2⟩
      | .l true ds, ⟨q, xs, e, k1, k2, k3, k4, k5⟩, ne => exact ⟨q, xs, e, k1, DpAll.mono bb k2, by rw [upd_ne (ne q e rfl)]; exact k3, k4, k5⟩
      | .k false ds, ⟨q, xs, e, k1, k2⟩, _ => exact ⟨q, xs, e, k1, KvP.mono bb k2⟩
      | .k true ds, ⟨q, xs, e, k1, k2, k3, k4, k5⟩, ne => exact ⟨q, xs, e, k1, KvP.mono bb k2, by rw [upd_ne (ne q e rfl)]; exact k3, k4, k5⟩
      | .t false ds, ⟨q, xs, e, k1, k2⟩, _ => exact ⟨q, xs, e, k1, KvP.mono bb k2⟩
      | .t true ds, ⟨q, xs, e, k1, k2, k3, k4, k5⟩, ne => exact ⟨q, xs, e, k1, KvP.mono bb k2, by rw [upd_ne (ne q e rfl)]; exact k3, k4, k5⟩
      | .g, g2, _ => exact g2
      | .h, g2, _ => exact g2
      | .z ds, g2, _ => exact LkD.mono bb g2
  · by_cases qj : j = i
    · subst qj
      rw [List.getElem?_set_self hi] at z1; cases z1; cases o1
    · rw [List.getElem?_set_ne (Ne.symm qj)] at z1
      by_cases qm : m = i
      · subst qm
        rw [List.getElem?_set_self hi] at z2; cases z2; cases o2
      · rw [List.getElem?_set_ne (Ne.symm qm)] at z2
        exact h.dis j m v w y hjm z1 z2 o1 o2 z3 z4
theorem Stt.freeze {i : Nat} {ds : List D} (h : Stt K G B0 H0 B H σ ρ) (e1 : ρ[i]? = some (some (.l true ds))) : ∃ B', Stt K G B0 H0 B' H σ (ρ.set i (some (.s (.list ds)))) ∧ Same B B' := by
  obtain ⟨x, f1, ⟨p, xs, rfl, h1, h2, h3, h4, h5⟩⟩ := h.sl i _ e1
  exact h.freezeG e1 rfl f1 h1 h3 h4 h5 fun bb => .lst (.inl (.inl upd_same)) (DpAll.mono bb h2)
theorem Stt.freezeK {i : Nat} {ds : List (Key × D)} (h : Stt K G B0 H0 B H σ ρ) (e1 : ρ[i]? = some (some (.k true ds))) : ∃ B', Stt K G B0 H0 B' H σ (ρ.set i (some (.s (.dict (kvD ds))))) ∧ Same B B' := by
  obtain ⟨x, f1, ⟨p, xs, rfl, h1, h2, h3, h4, h5⟩⟩ := h.sl i _ e1
  exact h.freezeG e1 rfl f1 h1 h3 h4 h5 fun bb => .dic upd_same (KvP.kv (KvP.mono bb h2))
end
end DL

set_option Elab.async false
set_option linter.all false
set_option maxRecDepth 100000
/-! The data layer: expressions. -/
namespace DL
open PySem PySem.Spec PyProof.Rows L2

/-- a weakest precondition over data: of an expression, a test, an argument list -/
abbrev EW := Rho → (R → Prop) → (Value → Prop) → Prop
abbrev TW := Rho → (Bool → Prop) → (Value → Prop) → Prop
abbrev AW := Rho → (List R → Prop) → (Value → Prop) → Prop

inductive RsAll (K : Frag) (G : Gh) (H B' H' : Hp) : List V → List R → Prop
  | nil : RsAll K G H B' H' [] []
  | cons {x : V} {r : R} {xs : List V} {rs : List R} : Rs K G H B' H' x r → RsAll K G H B' H' xs rs → RsAll K G H B' H' (x :: xs) (r :: rs)

/-- results of one's own stand apart -/
def Apart : List V → List R → Prop
  | x :: xs, r :: rs => (owns r = true → ∀ (j : Nat) (u : R), rs[j]? = some u → owns u = true → xs[j]? ≠ some x) ∧ Apart xs rs
  | _, _ => True
theorem RsAll.get {K : Frag} {G : Gh} {H B' H' : Hp} : ∀ {xs : List V} {rs : List R} {j : Nat} {u : R}, RsAll K G H B' H' xs rs → rs[j]? = some u → ∃ y, xs[j]? = some y ∧ Rs K G H B' H' y u
  | _, _, _, _, .nil, e => by simp at e
  | _, _, 0, _, .cons h _, e => by simp at e; subst e; exact ⟨_, by simp, h⟩
  | _, _, j + 1, _, .cons _ t, e => by
    obtain ⟨y, h1, h2⟩ := RsAll.get (j := j) t (by simpa using e)
    exact ⟨y, by simpa using h1, h2⟩
/-- the readings that such words make -/
def TDe (K : Frag) (W : WX) (w : EW) : TE := fun σ H Q => ∃ (G : Gh) (B0 H0 B : Hp) (ρ : Rho) (Qd : R → Prop) (Qe : Value → Prop), Stt K G B0 H0 B H σ ρ ∧ w ρ Qd Qe ∧
  (∀ r x B' H', Stt K G B0 H0 B' H' σ ρ → Stp G B H B' H' → Rs K G H B' H' x r → Qd r → Q x H') ∧ (∀ cls d B' H', Qe cls → Stt K G B0 H0 B' H' σ ρ → Stp G B H B' H' → W cls d σ H')
def TDt (K : Frag) (W : WX) (w : TW) : TT := fun σ H Q => ∃ (G : Gh) (B0 H0 B : Hp) (ρ : Rho) (Qd : Bool → Prop) (Qe : Value → Prop), Stt K G B0 H0 B H σ ρ ∧ w ρ Qd Qe ∧
  (∀ b B' H', Stt K G B0 H0 B' H' σ ρ → Stp G B H B' H' → Qd b → Q b H') ∧ (∀ cls d B' H', Qe cls → Stt K G B0 H0 B' H' σ ρ → Stp G B H B' H' → W cls d σ H')
def TDa (K : Frag) (W : WX) (w : AW) : TA := fun σ H Q => ∃ (G : Gh) (B0 H0 B : Hp) (ρ : Rho) (Qd : List R → Prop) (Qe : Value → Prop), Stt K G B0 H0 B H σ ρ ∧ w ρ Qd Qe ∧
  (∀ rs xs B' H', Stt K G B0 H0 B' H' σ ρ → Stp G B H B' H' → RsAll K G H B' H' xs rs → Apart xs rs → Qd rs → Q xs H') ∧ (∀ cls d B' H', Qe cls → Stt K G B0 H0 B' H' σ ρ → Stp G B H B' H' → W cls d σ H')
abbrev PD (X : Cx) (W : WX) (e : Expr) (w : EW) : Prop := PE X e (TDe X.K W w)
abbrev PDt (X : Cx) (W : WX) (e : Expr) (w : TW) : Prop := PT X e (TDt X.K W w)
abbrev PDa (X : Cx) (W : WX) (es : List Expr) (w : AW) : Prop := PA X es (TDa X.K W w)

theorem pe_imp {X : Cx} {e : Expr} {t t' : TE} (h : PE X e t) (i : ∀ σ H Q, t' σ H Q → t σ H Q) : PE X e t' := ⟨fun pins s σ H Q I q => h.run pins s σ H Q I (i _ _ _ q)⟩
theorem pt_imp {X : Cx} {e : Expr} {t t' : TT} (h : PT X e t) (i : ∀ σ H Q, t' σ H Q → t σ H Q) : PT X e t' := ⟨fun pins s σ H Q I q => h.run pins s σ H Q I (i _ _ _ q)⟩
theorem pa_imp {X : Cx} {es : List Expr} {t t' : TA} (h : PA X es t) (i : ∀ σ H Q, t' σ H Q → t σ H Q) : PA X es t' := ⟨fun c pins s σ H Q I q => h.run c pins s σ H Q I (i _ _ _ q)⟩

section
variable {K : Frag} {G : Gh} {H B' H' B1 H1 B : Hp} {xs : List V} {rs : List R}
theorem RsAll.step (s : Stp G B1 H1 B' H') : ∀ {xs : List V} {rs : List R}, RsAll K G H B1 H1 xs rs → RsAll K G H B' H' xs rs
  | _, _, .nil => .nil
  | _, _, .cons h t => .cons (h.step s) (RsAll.step s t)
theorem RsAll.from (s : Stp G B H B1 H1) : ∀ {xs : List V} {rs : List R}, RsAll K G H1 B' H' xs rs → RsAll K G H B' H' xs rs
  | _, _, .nil => .nil
  | _, _, .cons h t => .cons (h.from s) (RsAll.from s t)
end

def erT {K : Frag} {W : WX} {G : Gh} {B0 H0 B H B1 H1 : Hp} {σ : L2.St} {ρ : Rho} {Qe : Value → Prop} (er : ∀ cls d B' H', Qe cls → Stt K G B0 H0 B' H' σ ρ → Stp G B H B' H' → W cls d σ H') (s1 : Stp G B H B1 H1) :
    ∀ cls d B' H', Qe cls → Stt K G B0 H0 B' H' σ ρ → Stp G B1 H1 B' H' → W cls d σ H' := fun cls d B' H' q S s => er cls d B' H' q S (s1.trans s)
/-! ### what a value is taken for -/
/-- a datum that may be stored -/
def R.dat : R → Option D
  | .s d => some d
  | _ => none
/-- a datum to be looked at -/
def R.look : R → Option D
  | .s d => some d
  | .l _ xs => some (.list xs)
  | _ => none
/-- the items of a list -/
def R.lst : R → Option (List D)
  | .l _ xs => some xs
  | _ => none
/-- the items of a list or a tuple -/
def R.seq : R → Option (List D)
  | .l _ xs => some xs
  | .s (.list xs) => some xs
  | .s (.tuple xs) => some xs
  | _ => none
def dats : List R → Option (List D)
  | [] => some []
  | r :: rs => match r.dat, dats rs with
    | some d, some ds => some (d :: ds)
    | _, _ => none
section
variable {K : Frag} {G : Gh} {H B' H' : Hp} {x : V} {r : R} {d : D}
theorem Rs.dat (h : Rs K G H B' H' x r) (e : r.dat = some d) : Dp K B' x d := by
  cases r with
  | s d' => cases e; exact h
  | _ => cases e
theorem hide_le (H : Hp) : Same (hide G H) H := fun a o e => (hide_some e).2
theorem Rs.look (h : Rs K G H B' H' x r) (e : r.look = some d) (bh : Same B' (hide G H')) : Dp K H' x d := by
  cases r with
  | s d' => cases e; exact Dp.mono (bh.trans (hide_le H')) h
  | l own xs =>
    cases e
    obtain ⟨p, vs, rfl, h1, h2, _⟩ := h
    exact .lst (.inl (.inl (hide_some h1).2)) (DpAll.mono (bh.trans (hide_le H')) h2)
  | _ => cases e
theorem dats_all : ∀ {xs : List V} {rs : List R} {ds : List D}, RsAll K G H B' H' xs rs → dats rs = some ds → DpAll K B' xs ds
  | _, _, _, .nil, e => by cases e; exact .nil
  | _, _, _, .cons (r := r) (rs := rs) h t, e => by
    unfold dats at e
    cases q : r.dat with
    | none => rw [q] at e; cases e
    | some d =>
      cases z : dats rs with
      | none => rw [q, z] at e; cases e
      | some ds =>
        rw [q, z] at e
        cases e
        exact .cons (h.dat q) (dats_all t z)
/-- the items of a list or tuple: where they stand, stable -/
theorem Rs.seq {ds : List D} (h : Rs K G H B' H' x r) (e : r.seq = some ds) (bh : Same B' (hide G H')) : ∃ p xs, x = .ref p ∧ DpAll K B' xs ds ∧ (SqL K H' p xs ∨ SqT K H' p xs) := by
  have up := bh.trans (hide_le H')
  cases r with
  | s d' =>
    cases d' with
    | list es =>
      cases e
      cases h with
      | lst h1 h2 => exact ⟨_, _, rfl, h2, .inl (Same.sqL up h1)⟩
    | tuple es =>
      cases e
      cases h with
      | tup h1 h2 => exact ⟨_, _, rfl, h2, .inr (Same.sqT up h1.t)⟩
    | _ => cases e
  | l own xs =>
    cases e
    obtain ⟨p, vs, rfl, h1, h2, _⟩ := h
    exact ⟨p, vs, rfl, h2, .inl (.inl (.inl (hide_some h1).2))⟩
  | _ => cases e
end

/-! ### dicts with int and text keys -/
def ofK : D → Option Key
  | .int i => some (.inl i)
  | .str x => some (.inr x)
  | _ => none
theorem ofK_kD : ∀ k : Key, ofK (kD k) = some k
  | .inl _ => rfl
  | .inr _ => rfl
theorem ofK_eq : ∀ {d : D} {k : Key}, ofK d = some k → d = kD k
  | .int _, _, e => by cases e; rfl
  | .str _, _, e => by cases e; rfl
  | .none, _, e => by cases e
  | .bool _, _, e => by cases e
  | .list _, _, e => by cases e
  | .tuple _, _, e => by cases e
  | .dict _, _, e => by cases e
def unK : List (D × D) → Option (List (Key × D))
  | [] => some []
  | (a, d) :: r => match ofK a, unK r with
    | some k, some s => some ((k, d) :: s)
    | _, _ => none
theorem unK_kvD : ∀ kvs : List (Key × D), unK (kvD kvs) = some kvs
  | [] => rfl
  | (k, d) :: r => by
    show (match ofK (kD k), unK (kvD r) with | some k, some s => some ((k, d) :: s) | _, _ => none) = _
    rw [ofK_kD, unK_kvD r]
theorem unK_eq : ∀ {l : List (D × D)} {kvs : List (Key × D)}, unK l = some kvs → l = kvD kvs
  | [], _, e => by cases e; rfl
  | (a, d) :: r, kvs, e => by
    unfold unK at e
    cases h1 : ofK a with
    | none => rw [h1] at e; cases e
    | some k =>
      cases h2 : unK r with
      | none => rw [h1, h2] at e; cases e
      | some s =>
        rw [h1, h2] at e
        cases e
        rw [unK_eq h2, ofK_eq h1]
        rfl
def kGet (kvs : List (Key × D)) (k : Key) : Option D := (kvs.find? fun p => decide (p.1 = k)).map (·.2)
def kPut (kvs : List (Key × D)) (k : Key) (d : D) : List (Key × D) := if (kvs.any fun p => decide (p.1 = k)) = true then kvs.map (fun p => if p.1 = k then (p.1, d) else p) else kvs ++ [(k, d)]
def kDrop (kvs : List (Key × D)) (k : Key) : List (Key × D) := kvs.filter fun p => decide (p.1 ≠ k)
def kMerge (kvs more : List (Key × D)) : List (Key × D) := more.foldl (fun acc p => kPut acc p.1 p.2) kvs
section
variable {K : Frag} {H : Hp}
theorem KvP.length : ∀ {xs : List (Key × V)} {ds : List (Key × D)}, KvP K H xs ds → xs.length = ds.length
  | _, _, .nil => rfl
  | _, _, .cons _ t => congrArg (· + 1) (KvP.length t)
theorem KvP.append : ∀ {xs ys : List (Key × V)} {ds es : List (Key × D)}, KvP K H xs ds → KvP K H ys es → KvP K H (xs ++ ys) (ds ++ es)
  | _, _, _, _, .nil, h => h
  | _, _, _, _, .cons h t, h' => .cons h (KvP.append t h')
theorem KvP.find (k : Key) : ∀ {xs : List (Key × V)} {ds : List (Key × D)}, KvP K H xs ds → (valV xs k = none ∧ kGet ds k = none) ∨ ∃ v d, valV xs k = some v ∧ kGet ds k = some d ∧ Dp K H v d
  | _, _, .nil => .inl ⟨rfl, rfl⟩
  | _, _, .cons (k := k') (x := x) (d := d) (xs := xs) (ds := ds) h t => by
    by_cases e : k' = k
    · refine .inr ⟨x, d, valV_pos (p := (k', x)) e, ?_, h⟩
      simp [kGet, e]
    · rw [valV_neg (p := (k', x)) e]
      have z : kGet ((k', d) :: ds) k = kGet ds k := by simp [kGet, List.find?_cons, e]
      rw [z]
      exact KvP.find k t
theorem KvP.any (k : Key) : ∀ {xs : List (Key × V)} {ds : List (Key × D)}, KvP K H xs ds → (xs.any fun p => decide (p.1 = k)) = ds.any fun p => decide (p.1 = k)
  | _, _, .nil => rfl
  | _, _, .cons h t => by rw [List.any_cons, List.any_cons, KvP.any k t]
theorem KvP.subst {v : V} {d : D} (k : Key) (hv : Dp K H v d) : ∀ {xs : List (Key × V)} {ds : List (Key × D)}, KvP K H xs ds → KvP K H (xs.map fun p => if p.1 = k then (p.1, v) else p) (ds.map fun p => if p.1 = k then (p.1, d) else p)
  | _, _, .nil => .nil
  | _, _, .cons (k := k') (x := x) (d := d') h t => by
    rw [List.map_cons, List.map_cons]
    by_cases e : k' = k
    · simp only [e, if_true]; exact .cons hv (KvP.subst k hv t)
    · simp only [e, if_false]; exact .cons h (KvP.subst k hv t)
theorem KvP.put {v : V} {d : D} {xs : List (Key × V)} {ds : List (Key × D)} (h : KvP K H xs ds) (k : Key) (hv : Dp K H v d) : KvP K H (putK xs k v) (kPut ds k d) := by
  unfold putK kPut
  rw [h.any k]
  by_cases e : (ds.any fun p => decide (p.1 = k)) = true
  · rw [if_pos e, if_pos e]; exact h.subst k hv
  · rw [if_neg e, if_neg e]; exact h.append (.cons hv .nil)
theorem KvP.drop (k : Key) : ∀ {xs : List (Key × V)} {ds : List (Key × D)}, KvP K H xs ds → KvP K H (dropK xs k) (kDrop ds k)
  | _, _, .nil => .nil
  | _, _, .cons (k := k') (x := x) (d := d') (xs := xs) (ds := ds) h t => by
    by_cases e : k' = k
    · have z1 : dropK ((k', x) :: xs) k = dropK xs k := by simp [dropK, e]
      have z2 : kDrop ((k', d') :: ds) k = kDrop ds k := by simp [kDrop, e]
      rw [z1, z2]; exact KvP.drop k t
    · have z1 : dropK ((k', x) :: xs) k = (k', x) :: dropK xs k := by simp [dropK, e]
      have z2 : kDrop ((k', d') :: ds) k = (k', d') :: kDrop ds k := by simp [kDrop, e]
      rw [z1, z2]; exact .cons h (KvP.drop k t)
theorem KvP.merge : ∀ {more : List (Key × V)} {md : List (Key × D)} {xs : List (Key × V)} {ds : List (Key × D)}, KvP K H more md → KvP K H xs ds → KvP K H (mergeK xs more) (kMerge ds md)
  | _, _, _, _, .nil, h => h
  | _, _, xs, ds, .cons (k := k) (x := x) (d := d) (xs := ms) (ds := md) hd t, h => have z : KvP K H (mergeK (putK xs k x) ms) (kMerge (kPut ds k d) md) := KvP.merge t (h.put k hd); z
end
/-- what is known of a dict -/
def R.kv : R → Option (List (Key × D))
  | .k _ kvs => some kvs
  | .s (.dict es) => unK es
  | .z kvs => some kvs
  | _ => none
/-- what is known of a dict that is not locked -/
def R.kvE : R → Option (List (Key × D))
  | .k _ kvs => some kvs
  | .s (.dict es) => unK es
  | _ => none
theorem Rs.kvE {K : Frag} {G : Gh} {H B' H' : Hp} {x : V} {r : R} {kvs : List (Key × D)} (h : Rs K G H B' H' x r) (e : r.kvE = some kvs) (bh : Same B' (hide G H')) : ∃ p xs, x = .ref p ∧ H' p = some (.dK xs) ∧ KvP K B' xs kvs := by
  cases r with
  | s d =>
    cases d with
    | dict l =>
      cases h with
      | dic h1 h2 =>
        have e2 := unK_eq (show unK l = some kvs from e)
        subst e2
        exact ⟨_, _, rfl, (hide_some (bh _ _ h1)).2, h2.pk⟩
    | _ => cases e
  | k own l =>
    cases e
    obtain ⟨p, xs, rfl, h1, h2, _⟩ := h
    exact ⟨p, xs, rfl, (hide_some h1).2, h2⟩
  | _ => cases e
theorem Rs.kv {K : Frag} {G : Gh} {H B' H' : Hp} {x : V} {r : R} {kvs : List (Key × D)} (h : Rs K G H B' H' x r) (e : r.kv = some kvs) (bh : Same B' (hide G H')) : ∃ p xs, x = .ref p ∧ Rd H' p (.dK xs) ∧ KvP K B' xs kvs := by
  cases r with
  | s d =>
    cases d with
    | dict l =>
      obtain ⟨p, xs, e1, e2, e3⟩ := h.kvE (kvs := kvs) e bh
      exact ⟨p, xs, e1, .inl e2, e3⟩
    | _ => cases e
  | k own l =>
    obtain ⟨p, xs, e1, e2, e3⟩ := h.kvE (kvs := kvs) e bh
    exact ⟨p, xs, e1, .inl e2, e3⟩
  | z l =>
    cases e
    obtain ⟨p, xs, o, rfl, h1, h2⟩ := h
    exact ⟨p, xs, rfl, .inr ⟨o, (hide_some (bh _ _ h1)).2⟩, h2⟩
  | _ => cases e

/-! ### names, constants -/
def wVar (i : Nat) : EW := fun ρ Q _ => ∃ r, ρ[i]? = some (some r) ∧ Q (peek r)
def wC (r : R) : EW := fun _ Q _ => Q r
section
variable {X : Cx} {W : WX} {e a b c : Expr} {es : List Expr} {wa wb wc w : EW} {ws : AW} {wt wt' : TW} {pos : Pos}
theorem pd_var {i : Nat} (h : PE X e (tVar i)) : PD X W e (wVar i) := pe_imp h fun σ H Q ⟨G, B0, H0, B, ρ, Qd, Qe, S, ⟨r, e1, q⟩, ok, _⟩ => by
  obtain ⟨x, e2, hr⟩ := S.sl i r e1
  exact ⟨x, e2, ok _ _ _ _ S (Stp.refl ..) (hr.rs S.st) q⟩
theorem pd_const {v : V} {d : D} (h : PE X e (tC v)) (hd : ∀ B, Dp X.K B v d) : PD X W e (wC (.s d)) := pe_imp h fun σ H Q ⟨G, B0, H0, B, ρ, Qd, Qe, S, q, ok, _⟩ =>
  ok (.s d) _ _ _ S (Stp.refl ..) (hd B) q
theorem pd_int {i : Int} {j pos} : PD X W (.Constant (.int i) j pos) (wC (.s (.int i))) := pd_const pe_int fun _ => .int i
theorem pd_bl {b : Bool} {j pos} : PD X W (.Constant (.bool b) j pos) (wC (.s (.bool b))) := pd_const pe_bl fun _ => .bl b
theorem pd_non {j pos} : PD X W (.Constant .none j pos) (wC (.s .none)) := pd_const pe_non fun _ => .non
theorem pd_str {z : Str} {j pos} : PD X W (.Constant (.str z) j pos) (wC (.s (.str z))) := pd_const pe_str fun _ => .str z
/-- an exception class of the module, or a type, is no datum: they stand only where they are named -/
theorem pd_weak {w w' : EW} (h : PD X W e w) (i : ∀ ρ Q E, w' ρ Q E → w ρ Q E) : PD X W e w' := pe_imp h fun σ H Q ⟨G, B0, H0, B, ρ, Qd, Qe, S, q, r⟩ => ⟨G, B0, H0, B, ρ, Qd, Qe, S, i _ _ _ q, r⟩

/-! ### arguments, displays -/
def wNil : AW := fun _ Q _ => Q []
def wCons (w : EW) (ws : AW) : AW := fun ρ Q E => w ρ (fun r => ws ρ (fun rs => Q (r :: rs)) E) E
theorem pda_nil : PDa X W [] wNil := pa_imp pa_nil fun σ H Q ⟨G, B0, H0, B, ρ, Qd, Qe, S, q, ok, _⟩ => ok _ _ _ _ S (Stp.refl ..) .nil trivial q
theorem pda_cons (ha : PD X W e w) (hr : PDa X W es ws) (hs : starEach (e :: es) X.env = (false, eval e X.env) :: starEach es X.env := by rfl) : PDa X W (e :: es) (wCons w ws) :=
  pa_imp (pa_cons ha hr hs) fun σ H Q ⟨G, B0, H0, B, ρ, Qd, Qe, S, q, ok, er⟩ => by
    refine ⟨G, B0, H0, B, ρ, _, Qe, S, q, fun r x B1 H1 S1 s1 r1 q1 => ?_, er⟩
    refine ⟨G, B0, H0, B1, ρ, _, Qe, S1, q1, fun rs xs B2 H2 S2 s2 r2 a2 q2 => ok _ _ _ _ S2 (s1.trans s2) (.cons (r1.step s2) (r2.from s1)) ⟨fun o1 j u e1 o2 e2 => ?_, a2⟩ q2, erT er s1⟩
    obtain ⟨y, f1, f2⟩ := r2.get e1
    rw [e2] at f1; cases f1
    obtain ⟨p, ep, hp⟩ := f2.own_new o2
    obtain ⟨q', v, eq, hq⟩ := r1.own_at o1
    rw [ep] at eq; cases eq
    rw [hp] at hq; cases hq
/-- a fresh list that is stored: from now on a datum -/
def frz : R → R
  | .l true xs => .s (.list xs)
  | .k true kvs => .s (.dict (kvD kvs))
  | r => r
def wFrz (w : EW) : EW := fun ρ Q E => w ρ (fun r => Q (frz r)) E
theorem pd_frz (h : PD X W e w) : PD X W e (wFrz w) := pe_imp h fun σ H Q ⟨G, B0, H0, B, ρ, Qd, Qe, S, q, ok, er⟩ => by
  refine ⟨G, B0, H0, B, ρ, _, Qe, S, q, fun r x B1 H1 S1 s1 r1 q1 => ?_, er⟩
  cases r with
  | l own ds =>
    cases own with
    | false => exact ok _ _ _ _ S1 s1 r1 q1
    | true =>
      obtain ⟨p, xs, rfl, h1, h2, h3⟩ := r1
      obtain ⟨hb, hn⟩ := h3 rfl
      have bb : Same B1 (upd B1 p (.lst xs)) := fun b o e => by rw [upd_ne (ne_of_none e hb)]; exact e
      have bh : Same (upd B1 p (.lst xs)) (hide G H1) := fun b o e => by
        by_cases z : b = p
        · subst z; rw [upd_same] at e; cases e; exact h1
        · rw [upd_ne z] at e; exact S1.bh _ _ e
      have s2 : Stp G B H (upd B1 p (.lst xs)) H1 := ⟨s1.bb.trans bb, s1.hh, fun b o e1 e2 => by
        rw [upd_ne (ne_of_none e2 hn)]; exact s1.nw b o e1 e2⟩
      exact ok (.s (.list ds)) _ _ _ (S.step s2 bh S1.gok) s2 (.lst (.inl (.inl upd_same)) (DpAll.mono bb h2)) q1
  | k own ds =>
    cases own with
    | false => exact ok _ _ _ _ S1 s1 r1 q1
    | true =>
      obtain ⟨p, xs, rfl, h1, h2, h3⟩ := r1
      obtain ⟨hb, hn⟩ := h3 rfl
      have bb : Same B1 (upd B1 p (.dK xs)) := fun b o e => by rw [upd_ne (ne_of_none e hb)]; exact e
      have bh : Same (upd B1 p (.dK xs)) (hide G H1) := fun b o e => by
        by_cases z : b = p
        · subst z; rw [upd_same] at e; cases e; exact h1
        · rw [upd_ne z] at e; exact S1.bh _ _ e
      have s2 : Stp G B H (upd B1 p (.dK xs)) H1 := ⟨s1.bb.trans bb, s1.hh, fun b o e1 e2 => by
        rw [upd_ne (ne_of_none e2 hn)]; exact s1.nw b o e1 e2⟩
      exact ok (.s (.dict (kvD ds))) _ _ _ (S.step s2 bh S1.gok) s2 (.dic upd_same (KvP.kv (KvP.mono bb h2))) q1
  | _ => exact ok _ _ _ _ S1 s1 r1 q1
def wTup (ws : AW) : EW := fun ρ Q E => ws ρ (fun rs => ∃ ds, dats rs = some ds ∧ ds.length ≤ 16777216 ∧ Q (.s (.tuple ds))) E
def wLst (ws : AW) : EW := fun ρ Q E => ws ρ (fun rs => ∃ ds, dats rs = some ds ∧ ds.length ≤ 16777216 ∧ Q (.l true ds)) E
theorem line_eq : sizeLine = 16777216 := sizeLine_eq
/-- a new object that nobody else has: the state behind it, stable or not -/
theorem Stt.new {K : Frag} {G : Gh} {B0 H0 B H : Hp} {σ : L2.St} {ρ : Rho} {p : Addr} {o : HO} (S : Stt K G B0 H0 B H σ ρ) (h : H p = none) : Stt K G B0 H0 B (upd H p o) σ ρ := have hg := S.notG h
  S.step (Stp.new h) (fun b u e => by rw [hide_upd hg, upd_ne (ne_of_none e (S.freeB h))]; exact S.bh _ _ e) (ghost_upd hg S.gok)
theorem Stt.newS {K : Frag} {G : Gh} {B0 H0 B H : Hp} {σ : L2.St} {ρ : Rho} {p : Addr} {o : HO} (S : Stt K G B0 H0 B H σ ρ) (h : H p = none) : Stt K G B0 H0 (upd B p o) (upd H p o) σ ρ := have hg := S.notG h
  S.step (Stp.newS h (S.freeB h)) (fun b u e => by
    rw [hide_upd hg]
    by_cases z : b = p
    · subst z; rw [upd_same] at e ⊢; exact e
    · rw [upd_ne z] at e ⊢; exact S.bh _ _ e) (ghost_upd hg S.gok)
end
end DL

set_option Elab.async false
set_option linter.all false
set_option maxRecDepth 100000
/-! The data layer: operators, comparisons, subscripts, built-ins. -/
namespace DL
open PySem PySem.Spec PyProof.Rows L2

abbrev F1 := R → (R → Prop) → Prop
abbrev F2 := R → R → (R → Prop) → Prop
abbrev FL := List R → (R → Prop) → Prop
/-- what an operation finds, and what it hands on -/
structure Ctx (K : Frag) (G : Gh) (B H : Hp) : Prop where
  bh : Same B (hide G H)
  ok : G.ok H
def Cont (K : Frag) (G : Gh) (B H : Hp) (Qd : R → Prop) (Q : VK) : Prop := ∀ r z B' H', Stp G B H B' H' → Same B' (hide G H') → G.ok H' → Rs K G H B' H' z r → Qd r → Q z H'
def lift1 (K : Frag) (f : F1) : V → Hp → VK → Prop := fun x H Q => ∃ G Hs B a Qd, Ctx K G B H ∧ Rs K G Hs B H x a ∧ f a Qd ∧ Cont K G B H Qd Q
def lift2 (K : Frag) (f : F2) : R2 := fun x y H Q => ∃ G Hs B a b Qd, Ctx K G B H ∧ Rs K G Hs B H x a ∧ Rs K G Hs B H y b ∧ f a b Qd ∧ Cont K G B H Qd Q
def liftL (K : Frag) (f : FL) : List V → Hp → VK → Prop := fun xs H Q => ∃ G Hs B rs Qd, Ctx K G B H ∧ RsAll K G Hs B H xs rs ∧ f rs Qd ∧ Cont K G B H Qd Q
section
variable {K : Frag} {G : Gh} {B H : Hp} {Qd : R → Prop} {Q : VK}
theorem Cont.here (c : Ctx K G B H) (k : Cont K G B H Qd Q) {z : V} {r : R} (h : Rs K G H B H z r) (q : Qd r) : Q z H := k r z B H (Stp.refl ..) c.bh c.ok h q
theorem Cont.dat (c : Ctx K G B H) (k : Cont K G B H Qd Q) {z : V} {d : D} (h : Dp K B z d) (q : Qd (.s d)) : Q z H := k (.s d) z B H (Stp.refl ..) c.bh c.ok h q
theorem Ctx.notG (c : Ctx K G B H) {p : Addr} (e : H p = none) : p ∉ G.at_ := fun z => G.here _ c.ok _ z e
theorem Ctx.free (c : Ctx K G B H) {p : Addr} (e : H p = none) : B p = none := c.bh.free (hide_free e)
/-- a new tuple -/
theorem Cont.tup (c : Ctx K G B H) (k : Cont K G B H Qd Q) {xs : List V} {ds : List D} (h : DpAll K B xs ds) (q : Qd (.s (.tuple ds))) : NewT xs H Q := fun p o hp hn => by
  have s : Stp G B H (upd B p (.frz o (.tup xs))) (upd H p (.frz o (.tup xs))) := Stp.newS hp (c.free hp)
  refine k (.s (.tuple ds)) _ _ _ s (fun b u e => ?_) (ghost_upd (c.notG hp) c.ok) (.tup (.inl ⟨o, upd_same, hn⟩) (DpAll.mono s.bb h)) q
  rw [hide_upd (c.notG hp)]
  by_cases z : b = p
  · subst z; rw [upd_same] at e ⊢; exact e
  · rw [upd_ne z] at e ⊢; exact c.bh _ _ e
/-- a new list -/
theorem Cont.lst (c : Ctx K G B H) (k : Cont K G B H Qd Q) {p : Addr} (hp : H p = none) {xs : List V} {ds : List D} (h : DpAll K B xs ds) (q : Qd (.l true ds)) : Q (.ref p) (upd H p (.lst xs)) := by
  have g := c.notG hp
  refine k (.l true ds) _ B _ (Stp.new hp) (fun b u e => ?_) (ghost_upd g c.ok) ⟨p, xs, rfl, by rw [hide_out g, upd_same], h, fun _ => ⟨c.free hp, hide_free hp⟩⟩ q
  rw [hide_upd g, upd_ne (ne_of_none e (c.free hp))]; exact c.bh _ _ e
/-- a new dict -/
theorem Cont.dk (c : Ctx K G B H) (k : Cont K G B H Qd Q) {p : Addr} (hp : H p = none) {xs : List (Key × V)} {ds : List (Key × D)} (h : KvP K B xs ds) (q : Qd (.k true ds)) : Q (.ref p) (upd H p (.dK xs)) := by
  have g := c.notG hp
  refine k (.k true ds) _ B _ (Stp.new hp) (fun b u e => ?_) (ghost_upd g c.ok) ⟨p, xs, rfl, by rw [hide_out g, upd_same], h, fun _ => ⟨c.free hp, hide_free hp⟩⟩ q
  rw [hide_upd g, upd_ne (ne_of_none e (c.free hp))]; exact c.bh _ _ e
theorem Ctx.le (c : Ctx K G B H) : Same B H := c.bh.trans (hide_le H)
end

def wOp (f : F2) (wa wb : EW) : EW := fun ρ Q E => wa ρ (fun x => wb ρ (fun y => f x y Q) E) E
def wUn (f : F1) (wa : EW) : EW := fun ρ Q E => wa ρ (fun x => f x Q) E
def wCall1 (f : FL) (ws : AW) : EW := fun ρ Q E => ws ρ (fun rs => f rs Q) E
def wMeth (f : R → FL) (w : EW) (ws : AW) : EW := fun ρ Q E => w ρ (fun r => ws ρ (fun rs => f r rs Q) E) E

section
variable {X : Cx} {W : WX} {e a b c : Expr} {es : List Expr} {wa wb wc w : EW} {ws : AW} {wt wt' : TW} {pos : Pos}
/-- the end of two parts -/
theorem op_core {f : F2} {t : TE} (h : PE X e (tOp (lift2 X.K f) (TDe X.K W wa) (TDe X.K W wb))) : PD X W e (wOp f wa wb) :=
  pe_imp h fun σ H Q ⟨G, B0, H0, B, ρ, Qd, Qe, S, q, ok, er⟩ => by
    refine ⟨G, B0, H0, B, ρ, _, Qe, S, q, fun r x B1 H1 S1 s1 r1 q1 => ?_, er⟩
    refine ⟨G, B0, H0, B1, ρ, _, Qe, S1, q1, fun r' y B2 H2 S2 s2 r2 q2 => ?_, erT er s1⟩
    exact ⟨G, H, B2, r, r', _, ⟨S2.bh, S2.gok⟩, r1.step s2, r2.from s1, q2, fun r3 z B3 H3 s3 bh gk rz qz => ok _ _ _ _ (S2.step s3 bh gk) ((s1.trans s2).trans s3) (rz.from (s1.trans s2)) qz⟩
theorem pd_op {op : Operator} {f : F2} (ho : OpR X (binaryOp op) (lift2 X.K f)) (ha : PD X W a wa) (hb : PD X W b wb) : PD X W (.BinOp a op b pos) (wOp f wa wb) := op_core (t := fun _ _ _ => True) (pe_op ho ha hb)
theorem pd_cmp {op : CmpOp} {f : F2} (ho : OpR X (compareOp op) (lift2 X.K f)) (ha : PD X W a wa) (hb : PD X W b wb) (hm : behindInMarks op b = false) : PD X W (.Compare a [op] [b] pos) (wOp f wa wb) :=
  op_core (t := fun _ _ _ => True) (pe_cmpR ho ha hb hm)
theorem pd_ix {f : F2} (hr : IxR X (lift2 X.K f)) (ha : PD X W a wa) (hb : PD X W b wb) (hs : PlainIx b) : PD X W (.Subscript a b pos) (wOp f wa wb) := op_core (t := fun _ _ _ => True) (pe_ix hr ha hb hs)
theorem pd_un {op : UnaryOp} {f : F1} (ho : UnR X (unaryOp op) (lift1 X.K f)) (ha : PD X W a wa) : PD X W (.UnaryOp op a pos) (wUn f wa) :=
  pe_imp (pe_un ho ha) fun σ H Q ⟨G, B0, H0, B, ρ, Qd, Qe, S, q, ok, er⟩ => by
    refine ⟨G, B0, H0, B, ρ, _, Qe, S, q, fun r x B1 H1 S1 s1 r1 q1 => ?_, er⟩
    exact ⟨G, H, B1, r, _, ⟨S1.bh, S1.gok⟩, r1, q1, fun r3 z B3 H3 s3 bh gk rz qz => ok _ _ _ _ (S1.step s3 bh gk) (s1.trans s3) (rz.from s1) qz⟩
/-- a built-in called by its name -/
theorem call_core {f : FL} {t : TA} (h : PE X e (tCB (liftL X.K f) (TDa X.K W ws))) : PD X W e (wCall1 f ws) :=
  pe_imp h fun σ H Q ⟨G, B0, H0, B, ρ, Qd, Qe, S, q, ok, er⟩ => by
    refine ⟨G, B0, H0, B, ρ, _, Qe, S, q, fun rs xs B1 H1 S1 s1 r1 _ q1 => ?_, er⟩
    exact ⟨G, H, B1, rs, _, ⟨S1.bh, S1.gok⟩, r1, q1, fun r3 z B3 H3 s3 bh gk rz qz => ok _ _ _ _ (S1.step s3 bh gk) (s1.trans s3) (rz.from s1) qz⟩

/-! ### a test -/
def wTst (w : EW) : TW := fun ρ Q E => w ρ (fun r => ∃ b, r = .s (.bool b) ∧ Q b) E
theorem pdt_val (h : PD X W e w) (he : ∀ whole, isTrue e X.env whole = (do let v ← whole; standAt e.pos; holding [v] (truthy v)) := by intro _; rfl) : PDt X W e (wTst w) :=
  pt_imp (pt_val h he) fun σ H Q ⟨G, B0, H0, B, ρ, Qd, Qe, S, q, ok, er⟩ => by
    refine ⟨G, B0, H0, B, ρ, _, Qe, S, q, fun r x B1 H1 S1 s1 r1 q1 => ?_, er⟩
    obtain ⟨b, rfl, q1⟩ := q1
    cases (show Dp X.K B1 x (.bool b) from r1)
    exact ⟨b, rfl, ok _ _ _ S1 s1 q1⟩
theorem pdt_cmp {op : CmpOp} {f : F2} (ho : OpR X (compareOp op) (lift2 X.K f)) (ha : PD X W a wa) (hb : PD X W b wb) (hm : behindInMarks op b = false) : PDt X W (.Compare a [op] [b] pos) (wTst (wOp f wa wb)) :=
  pt_imp (pt_cmpR ho ha hb hm) fun σ H Q ⟨G, B0, H0, B, ρ, Qd, Qe, S, q, ok, er⟩ => by
    refine ⟨G, B0, H0, B, ρ, _, Qe, S, q, fun r x B1 H1 S1 s1 r1 q1 => ?_, er⟩
    refine ⟨G, B0, H0, B1, ρ, _, Qe, S1, q1, fun r' y B2 H2 S2 s2 r2 q2 => ?_, erT er s1⟩
    refine ⟨G, H, B2, r, r', _, ⟨S2.bh, S2.gok⟩, r1.step s2, r2.from s1, q2, fun r3 z B3 H3 s3 bh gk rz qz => ?_⟩
    obtain ⟨k, rfl, qz⟩ := qz
    cases (show Dp X.K B3 z (.bool k) from rz)
    exact ⟨k, rfl, ok _ _ _ (S2.step s3 bh gk) ((s1.trans s2).trans s3) qz⟩
def wAndT (t u : TW) : TW := fun ρ Q E => t ρ (fun b => if b = true then u ρ Q E else Q false) E
def wOrT (t u : TW) : TW := fun ρ Q E => t ρ (fun b => if b = true then Q true else u ρ Q E) E
def wNotT (t : TW) : TW := fun ρ Q E => t ρ (fun b => Q (!b)) E
/-- a chain of and, or: whatever its 'whole' is -/
abbrev PDw (X : Cx) (W : WX) (e : Expr) (w : TW) : Prop := PW X e (TDt X.K W w)
theorem pw_imp {X : Cx} {e : Expr} {t t' : TT} (h : PW X e t) (i : ∀ σ H Q, t' σ H Q → t σ H Q) : PW X e t' := ⟨fun c pins s σ H Q I q => h.run c pins s σ H Q I (i _ _ _ q)⟩
theorem pdw_and {rest : List Expr} (ha : PDt X W a wt) (hb : PDw X W (.BoolOp .And (b :: rest) pos) wt') : PDw X W (.BoolOp .And (a :: b :: rest) pos) (wAndT wt wt') :=
  pw_imp (pw_and ha hb) fun σ H Q ⟨G, B0, H0, B, ρ, Qd, Qe, S, q, ok, er⟩ => by
    refine ⟨G, B0, H0, B, ρ, _, Qe, S, q, fun k B1 H1 S1 s1 q1 => ?_, er⟩
    cases k with
    | true => exact iteT ⟨G, B0, H0, B1, ρ, _, Qe, S1, (if_pos rfl).mp q1, fun k B2 H2 S2 s2 q2 => ok _ _ _ S2 (s1.trans s2) q2, erT er s1⟩
    | false => exact iteF (ok _ _ _ S1 s1 ((if_neg Bool.false_ne_true).mp q1))
theorem pdw_or {rest : List Expr} (ha : PDt X W a wt) (hb : PDw X W (.BoolOp .Or (b :: rest) pos) wt') : PDw X W (.BoolOp .Or (a :: b :: rest) pos) (wOrT wt wt') :=
  pw_imp (pw_or ha hb) fun σ H Q ⟨G, B0, H0, B, ρ, Qd, Qe, S, q, ok, er⟩ => by
    refine ⟨G, B0, H0, B, ρ, _, Qe, S, q, fun k B1 H1 S1 s1 q1 => ?_, er⟩
    cases k with
    | true => exact iteT (ok _ _ _ S1 s1 ((if_pos rfl).mp q1))
    | false => exact iteF ⟨G, B0, H0, B1, ρ, _, Qe, S1, (if_neg Bool.false_ne_true).mp q1, fun k B2 H2 S2 s2 q2 => ok _ _ _ S2 (s1.trans s2) q2, erT er s1⟩
theorem pdw_and1 (ha : PDt X W a wt) : PDw X W (.BoolOp .And [a] pos) wt := pw_and1 ha
theorem pdw_or1 (ha : PDt X W a wt) : PDw X W (.BoolOp .Or [a] pos) wt := pw_or1 ha
theorem pdt_w (h : PDw X W e wt) : PDt X W e wt := h.pt
theorem pdt_not (ha : PDt X W a wt) : PDt X W (.UnaryOp .Not a pos) (wNotT wt) :=
  pt_imp (pt_not ha) fun σ H Q ⟨G, B0, H0, B, ρ, Qd, Qe, S, q, ok, er⟩ => ⟨G, B0, H0, B, ρ, _, Qe, S, q, fun k B1 H1 S1 s1 q1 => ok _ _ _ S1 s1 q1, er⟩

/-! ### and, or, not, if as values -/
def wAndV (wa wb : EW) : EW := fun ρ Q E => wa ρ (fun r => ∃ b, r = .s (.bool b) ∧ if b = true then wb ρ Q E else Q (.s (.bool false))) E
def wOrV (wa wb : EW) : EW := fun ρ Q E => wa ρ (fun r => ∃ b, r = .s (.bool b) ∧ if b = true then Q (.s (.bool true)) else wb ρ Q E) E
def wNotV (wa : EW) : EW := fun ρ Q E => wa ρ (fun r => ∃ b, r = .s (.bool b) ∧ Q (.s (.bool (!b)))) E
def wIf (t : TW) (wa wb : EW) : EW := fun ρ Q E => t ρ (fun b => if b = true then wa ρ Q E else wb ρ Q E) E
theorem pd_one {op} (h : PD X W a w) : PD X W (.BoolOp op [a] pos) w := pe_one h
theorem pd_and {rest : List Expr} (ha : PD X W a wa) (hb : PD X W (.BoolOp .And (b :: rest) pos) wb) : PD X W (.BoolOp .And (a :: b :: rest) pos) (wAndV wa wb) :=
  pe_imp (pe_and ha hb) fun σ H Q ⟨G, B0, H0, B, ρ, Qd, Qe, S, q, ok, er⟩ => by
    refine ⟨G, B0, H0, B, ρ, _, Qe, S, q, fun r x B1 H1 S1 s1 r1 q1 => ?_, er⟩
    obtain ⟨k, rfl, q1⟩ := q1
    cases (show Dp X.K B1 x (.bool k) from r1)
    refine ⟨k, rfl, ?_⟩
    cases k with
    | true => exact iteT ⟨G, B0, H0, B1, ρ, _, Qe, S1, (if_pos rfl).mp q1, fun r y B2 H2 S2 s2 r2 q2 => ok _ _ _ _ S2 (s1.trans s2) (r2.from s1) q2, erT er s1⟩
    | false => exact iteF (ok (.s (.bool false)) _ _ _ S1 s1 (.bl false) ((if_neg Bool.false_ne_true).mp q1))
theorem pd_or {rest : List Expr} (ha : PD X W a wa) (hb : PD X W (.BoolOp .Or (b :: rest) pos) wb) : PD X W (.BoolOp .Or (a :: b :: rest) pos) (wOrV wa wb) :=
  pe_imp (pe_or ha hb) fun σ H Q ⟨G, B0, H0, B, ρ, Qd, Qe, S, q, ok, er⟩ => by
    refine ⟨G, B0, H0, B, ρ, _, Qe, S, q, fun r x B1 H1 S1 s1 r1 q1 => ?_, er⟩
    obtain ⟨k, rfl, q1⟩ := q1
    cases (show Dp X.K B1 x (.bool k) from r1)
    refine ⟨k, rfl, ?_⟩
    cases k with
    | true => exact iteT (ok (.s (.bool true)) _ _ _ S1 s1 (.bl true) ((if_pos rfl).mp q1))
    | false => exact iteF ⟨G, B0, H0, B1, ρ, _, Qe, S1, (if_neg Bool.false_ne_true).mp q1, fun r y B2 H2 S2 s2 r2 q2 => ok _ _ _ _ S2 (s1.trans s2) (r2.from s1) q2, erT er s1⟩
theorem pd_not (ha : PD X W a wa) : PD X W (.UnaryOp .Not a pos) (wNotV wa) :=
  pe_imp (pe_not ha) fun σ H Q ⟨G, B0, H0, B, ρ, Qd, Qe, S, q, ok, er⟩ => by
    refine ⟨G, B0, H0, B, ρ, _, Qe, S, q, fun r x B1 H1 S1 s1 r1 q1 => ?_, er⟩
    obtain ⟨k, rfl, q1⟩ := q1
    cases (show Dp X.K B1 x (.bool k) from r1)
    exact ⟨k, rfl, ok (.s (.bool (!k))) _ _ _ S1 s1 (.bl _) q1⟩
theorem pd_if {t : Expr} (hc : PDt X W t wt) (ha : PD X W a wa) (hb : PD X W b wb) : PD X W (.IfExp t a b pos) (wIf wt wa wb) :=
  pe_imp (pe_ifExp hc ha hb) fun σ H Q ⟨G, B0, H0, B, ρ, Qd, Qe, S, q, ok, er⟩ => by
    refine ⟨G, B0, H0, B, ρ, _, Qe, S, q, fun k B1 H1 S1 s1 q1 => ?_, er⟩
    cases k with
    | true => exact iteT ⟨G, B0, H0, B1, ρ, _, Qe, S1, (if_pos rfl).mp q1, fun r y B2 H2 S2 s2 r2 q2 => ok _ _ _ _ S2 (s1.trans s2) (r2.from s1) q2, erT er s1⟩
    | false => exact iteF ⟨G, B0, H0, B1, ρ, _, Qe, S1, (if_neg Bool.false_ne_true).mp q1, fun r y B2 H2 S2 s2 r2 q2 => ok _ _ _ _ S2 (s1.trans s2) (r2.from s1) q2, erT er s1⟩
/-- a chain of two comparisons -/
def wChain (f f' : F2) (wa wb wc : EW) : EW := fun ρ Q E => wa ρ (fun x => wb ρ (fun y => f x y fun r => ∃ k, r = .s (.bool k) ∧ if k = true then wc ρ (fun z => f' y z Q) E else Q (.s (.bool false))) E) E
theorem pd_chain {f f' : F2} (h : PE X e (tChain (lift2 X.K f) (lift2 X.K f') (TDe X.K W wa) (TDe X.K W wb) (TDe X.K W wc))) : PD X W e (wChain f f' wa wb wc) :=
  pe_imp h fun σ H Q ⟨G, B0, H0, B, ρ, Qd, Qe, S, q, ok, er⟩ => by
    refine ⟨G, B0, H0, B, ρ, _, Qe, S, q, fun r x B1 H1 S1 s1 r1 q1 => ?_, er⟩
    refine ⟨G, B0, H0, B1, ρ, _, Qe, S1, q1, fun r' y B2 H2 S2 s2 r2 q2 => ?_, erT er s1⟩
    have s12 := s1.trans s2
    refine ⟨G, H, B2, r, r', _, ⟨S2.bh, S2.gok⟩, r1.step s2, r2.from s1, q2, fun r3 z B3 H3 s3 bh gk rz qz => ?_⟩
    obtain ⟨k, rfl, qz⟩ := qz
    cases (show Dp X.K B3 z (.bool k) from rz)
    have S3 := S2.step s3 bh gk
    have s13 := s12.trans s3
    refine ⟨k, rfl, ?_⟩
    cases k with
    | false => exact iteF (ok (.s (.bool false)) _ _ _ S3 s13 (.bl false) ((if_neg Bool.false_ne_true).mp qz))
    | true =>
      refine iteT ⟨G, B0, H0, B3, ρ, _, Qe, S3, (if_pos rfl).mp qz, fun r4 w4 B4 H4 S4 s4 r4' q4 => ?_, erT er s13⟩
      exact ⟨G, H, B4, r', r4, _, ⟨S4.bh, S4.gok⟩, (r2.from s1).step (s3.trans s4), r4'.from s13, q4, fun r5 z5 B5 H5 s5 bh5 gk5 rz5 qz5 =>
        ok _ _ _ _ (S4.step s5 bh5 gk5) ((s13.trans s4).trans s5) (rz5.from (s13.trans s4)) qz5⟩
theorem pdt_chain {f f' : F2} (h : PT X e (tTest (tChain (lift2 X.K f) (lift2 X.K f') (TDe X.K W wa) (TDe X.K W wb) (TDe X.K W wc)))) : PDt X W e (wTst (wChain f f' wa wb wc)) :=
  pt_imp h fun σ H Q ⟨G, B0, H0, B, ρ, Qd, Qe, S, q, ok, er⟩ => by
    refine ⟨G, B0, H0, B, ρ, _, Qe, S, q, fun r x B1 H1 S1 s1 r1 q1 => ?_, er⟩
    refine ⟨G, B0, H0, B1, ρ, _, Qe, S1, q1, fun r' y B2 H2 S2 s2 r2 q2 => ?_, erT er s1⟩
    have s12 := s1.trans s2
    refine ⟨G, H, B2, r, r', _, ⟨S2.bh, S2.gok⟩, r1.step s2, r2.from s1, q2, fun r3 z B3 H3 s3 bh gk rz qz => ?_⟩
    obtain ⟨k, rfl, qz⟩ := qz
    cases (show Dp X.K B3 z (.bool k) from rz)
    have S3 := S2.step s3 bh gk
    have s13 := s12.trans s3
    refine ⟨k, rfl, ?_⟩
    cases k with
    | false =>
      obtain ⟨b, e, q⟩ := (if_neg Bool.false_ne_true).mp qz
      cases e
      exact iteF ⟨false, rfl, ok _ _ _ S3 s13 q⟩
    | true =>
      refine iteT ⟨G, B0, H0, B3, ρ, _, Qe, S3, (if_pos rfl).mp qz, fun r4 w4 B4 H4 S4 s4 r4' q4 => ?_, erT er s13⟩
      refine ⟨G, H, B4, r', r4, _, ⟨S4.bh, S4.gok⟩, (r2.from s1).step (s3.trans s4), r4'.from s13, q4, fun r5 z5 B5 H5 s5 bh5 gk5 rz5 qz5 => ?_⟩
      obtain ⟨b, rfl, q⟩ := qz5
      cases (show Dp X.K B5 z5 (.bool b) from rz5)
      exact ⟨b, rfl, ok _ _ _ (S4.step s5 bh5 gk5) ((s13.trans s4).trans s5) q⟩
end
end DL

set_option Elab.async false
set_option linter.all false
set_option maxRecDepth 100000
/-! The data layer: what operators, comparisons and built-ins do with data. -/
namespace DL
open PySem PySem.Spec PyProof.Rows L2

def R.isS : R → Bool
  | .s _ => true
  | _ => false
section
variable {K : Frag} {G : Gh} {Hs B H : Hp} {x : V}
theorem Rs.int {i : Int} (h : Rs K G Hs B H x (.s (.int i))) : x = .int i := by cases (show Dp K B x (.int i) from h); rfl
theorem Rs.bool {i : Bool} (h : Rs K G Hs B H x (.s (.bool i))) : x = .bl i := by cases (show Dp K B x (.bool i) from h); rfl
theorem Rs.str {i : Str} (h : Rs K G Hs B H x (.s (.str i))) : x = .str i := by cases (show Dp K B x (.str i) from h); rfl
theorem Rs.none (h : Rs K G Hs B H x (.s .none)) : x = .non := by cases (show Dp K B x .none from h); rfl
theorem Rs.tup {ds : List D} (h : Rs K G Hs B H x (.s (.tuple ds))) : ∃ p xs, x = .ref p ∧ SqN K B p xs ∧ DpAll K B xs ds := by
  cases (show Dp K B x (.tuple ds) from h) with
  | tup h1 h2 => exact ⟨_, _, rfl, h1, h2⟩
theorem RsAll.one {xs : List V} {r : R} (h : RsAll K G Hs B H xs [r]) : ∃ x, xs = [x] ∧ Rs K G Hs B H x r := by
  cases h with
  | cons h1 h2 => cases h2; exact ⟨_, rfl, h1⟩
theorem RsAll.two {xs : List V} {r u : R} (h : RsAll K G Hs B H xs [r, u]) : ∃ x y, xs = [x, y] ∧ Rs K G Hs B H x r ∧ Rs K G Hs B H y u := by
  cases h with
  | cons h1 h2 => cases h2 with
    | cons h2 h3 => cases h3; exact ⟨_, _, rfl, h1, h2⟩
end

/-! ### + - * // % ** -/
def fAdd : F2 := fun a b Q => match a with
  | .s (.int i) => ∃ j, b = .s (.int j) ∧ Q (.s (.int (i + j)))
  | .s (.str x) => ∃ y, b = .s (.str y) ∧ x.length + y.length ≤ 16777216 ∧ Q (.s (.str (x ++ y)))
  | .s (.tuple xs) => ∃ ys, b = .s (.tuple ys) ∧ xs.length + ys.length ≤ 16777216 ∧ Q (.s (.tuple (xs ++ ys)))
  | .l _ xs => ∃ o ys, b = .l o ys ∧ xs.length + ys.length ≤ 16777216 ∧ Q (.l true (xs ++ ys))
  | _ => False
def fInt (C : Int → Int → Prop) (g : Int → Int → Int) : F2 := fun a b Q => ∃ i j, a = .s (.int i) ∧ b = .s (.int j) ∧ C i j ∧ Q (.s (.int (g i j)))
abbrev fSub : F2 := fInt (fun _ _ => True) (· - ·)
def fMul : F2 := fun a b Q => match a with
  | .s (.int i) => ∃ j, b = .s (.int j) ∧ CMul i j ∧ Q (.s (.int (i * j)))
  | .s (.tuple xs) => ∃ j, b = .s (.int j) ∧ xs ≠ [] ∧ 0 ≤ j ∧ j ≤ 1000 ∧ xs.length ≤ 1000 ∧ Q (.s (.tuple (List.replicate j.toNat xs).flatten))
  | _ => False
abbrev fDiv : F2 := fInt CDiv (· / ·)
abbrev fMod : F2 := fInt (fun _ j => 0 < j) (· % ·)
abbrev fPow : F2 := fInt CPow (fun i j => i ^ j.toNat)
def fNeg : F1 := fun a Q => ∃ i, a = .s (.int i) ∧ Q (.s (.int (-i)))
section
variable {X : Cx}
theorem DpAll.flat {K : Frag} {H : Hp} {xs : List V} {ds : List D} (h : DpAll K H xs ds) (n : Nat) : DpAll K H (List.replicate n xs).flatten (List.replicate n ds).flatten := by
  induction n with
  | zero => exact .nil
  | succ n ih =>
    rw [List.replicate_succ, List.replicate_succ, List.flatten_cons, List.flatten_cons]
    exact h.append ih
theorem DpAll.nil_of {K : Frag} {H : Hp} {xs : List V} (h : DpAll K H xs []) : xs = [] := by cases h; rfl
theorem o_add : OpR X (binaryOp .Add) (lift2 X.K fAdd) := by
  intro pins s σ H x y v u Q I rx ry hh
  obtain ⟨G, Hs, B, a, b, Qd, c, ra, rb, q, k⟩ := hh
  unfold fAdd at q
  split at q
  · obtain ⟨j, rfl, q⟩ := q
    cases ra.int; cases rb.int
    exact op_add pins s σ H _ _ v u Q I rx ry ⟨_, _, rfl, rfl, k.dat c (.int _) q⟩
  · obtain ⟨j, rfl, hz, q⟩ := q
    cases ra.str; cases rb.str
    exact op_add_str pins s σ H _ _ v u Q I rx ry ⟨_, _, rfl, rfl, by rw [line_eq]; exact hz, k.dat c (.str _) q⟩
  · obtain ⟨ys, rfl, hz, q⟩ := q
    obtain ⟨p1, xs1, rfl, h1, h2⟩ := ra.tup
    obtain ⟨p2, xs2, rfl, h3, h4⟩ := rb.tup
    refine opN_cat pins s σ H _ _ v u Q I rx ry ⟨p1, p2, xs1, xs2, rfl, rfl, (h1.up c.le).t, (h3.up c.le).t, by rw [line_eq, h2.length, h4.length]; exact hz, fun e => ?_, fun _ e => ?_, fun _ _ => ?_⟩
    · subst e
      have := h2.length
      rename_i xs0
      obtain rfl : xs0 = [] := List.eq_nil_of_length_eq_zero this.symm
      exact k.dat c (.tup h3 h4) q
    · subst e
      obtain rfl : ys = [] := List.eq_nil_of_length_eq_zero h4.length.symm
      rw [List.append_nil] at q
      exact k.dat c (.tup h1 h2) q
    · exact k.tup c (h2.append h4) q
  · obtain ⟨o, ys, rfl, hz, q⟩ := q
    obtain ⟨p1, xs1, rfl, h1, h2, _⟩ := ra
    obtain ⟨p2, xs2, rfl, h3, h4, _⟩ := rb
    exact op_cat pins s σ H _ _ v u Q I rx ry ⟨p1, p2, xs1, xs2, rfl, rfl, (hide_some h1).2, (hide_some h3).2, by rw [line_eq, h2.length, h4.length]; exact hz, fun p hp => k.lst c hp (h2.append h4) q⟩
  · exact q.elim
theorem o_int {f : Value → Value → Sem Value} {C : Int → Int → Prop} {g : Int → Int → Int} (h : OpR X f (rI C fun i j => .int (g i j))) : OpR X f (lift2 X.K (fInt C g)) := by
  intro pins s σ H x y v u Q I rx ry hh
  obtain ⟨G, Hs, B, a, b, Qd, c, ra, rb, ⟨i, j, rfl, rfl, hc, q⟩, k⟩ := hh
  cases ra.int; cases rb.int
  exact h pins s σ H _ _ v u Q I rx ry ⟨i, j, rfl, rfl, hc, k.dat c (.int _) q⟩
theorem o_sub : OpR X (binaryOp .Sub) (lift2 X.K fSub) := o_int fun pins s σ H x y v u Q I rx ry ⟨i, j, e1, e2, _, q⟩ => op_sub pins s σ H x y v u Q I rx ry ⟨i, j, e1, e2, q⟩
theorem o_div : OpR X (binaryOp .FloorDiv) (lift2 X.K fDiv) := o_int op_fdiv
theorem o_mod : OpR X (binaryOp .Mod) (lift2 X.K fMod) := o_int op_mod
theorem o_pow : OpR X (binaryOp .Pow) (lift2 X.K fPow) := o_int op_pow
theorem o_mul : OpR X (binaryOp .Mult) (lift2 X.K fMul) := by
  intro pins s σ H x y v u Q I rx ry hh
  obtain ⟨G, Hs, B, a, b, Qd, c, ra, rb, q, k⟩ := hh
  unfold fMul at q
  split at q
  · obtain ⟨j, rfl, hc, q⟩ := q
    cases ra.int; cases rb.int
    exact op_mul pins s σ H _ _ v u Q I rx ry ⟨_, _, rfl, rfl, hc, k.dat c (.int _) q⟩
  · obtain ⟨j, rfl, hn, h2, h3, h4, q⟩ := q
    obtain ⟨p1, xs1, rfl, h5, h6⟩ := ra.tup
    cases rb.int
    have ne : xs1 ≠ [] := fun e => hn (by subst e; exact List.eq_nil_of_length_eq_zero h6.length.symm)
    by_cases j2 : 2 ≤ j
    · exact opN_rep pins s σ H _ _ v u Q I rx ry ⟨p1, j, xs1, rfl, rfl, (h5.up c.le).t, ne, j2, h3, by rw [h6.length]; exact h4, k.tup c (h6.flat _) q⟩
    · refine opN_rep1 pins s σ H _ _ v u Q I rx ry ⟨p1, j, xs1, rfl, rfl, (h5.up c.le).t, ne, ?_⟩
      by_cases j1 : j = 1
      · subst j1
        rw [show (List.replicate (1 : Int).toNat _).flatten = _ from List.append_nil _] at q
        exact .inl ⟨rfl, k.dat c (.tup h5 h6) q⟩
      · obtain rfl : j = 0 := by omega
        exact .inr ⟨rfl, k.tup c .nil q⟩
  · exact q.elim
theorem o_neg : UnR X (unaryOp .USub) (lift1 X.K fNeg) := by
  intro pins s σ H x v Q I rx hh
  obtain ⟨G, Hs, B, a, Qd, c, ra, ⟨i, rfl, q⟩, k⟩ := hh
  cases ra.int
  exact un_neg pins s σ H _ v Q I rx ⟨i, rfl, k.dat c (.int _) q⟩
end

/-! ### comparisons -/
def Sh (d : D) : Prop := SeqAt.shaped d = true
theorem sh_of {d : D} (h : SeqAt.shaped d = true) : Sh d := h
def fEq : F2 := fun a b Q => ∃ d e, a.look = some d ∧ b.look = some e ∧ Sh d ∧ Sh e ∧ Q (.s (.bool (PyData.eqv d e)))
def fNe : F2 := fun a b Q => ∃ d e, a.look = some d ∧ b.look = some e ∧ Sh d ∧ Sh e ∧ Q (.s (.bool (!PyData.eqv d e)))
def fCmp (g : Int → Int → Bool) : F2 := fun a b Q => ∃ i j, a = .s (.int i) ∧ b = .s (.int j) ∧ Q (.s (.bool (g i j)))
abbrev fLe : F2 := fCmp fun i j => decide (i ≤ j)
abbrev fGt : F2 := fCmp fun i j => decide (j < i)
abbrev fGe : F2 := fCmp fun i j => decide (j ≤ i)
def fLt : F2 := fun a b Q => match a with
  | .s (.int i) => ∃ j, b = .s (.int j) ∧ Q (.s (.bool (decide (i < j))))
  | .s (.tuple xs) => ∃ ns ms, xs = List.map PyData.int ns ∧ b = .s (.tuple (List.map PyData.int ms)) ∧ Q (.s (.bool (HT.lexLt ns ms)))
  | _ => False
def R.isN : R → Bool
  | .s .none => true
  | _ => false
/-- is None, is True, is False -/
def fIs (neg : Bool) : F2 := fun a b Q => match b with
  | .s .none => a.isS = true ∧ Q (.s (.bool (neg != a.isN)))
  | .s (.bool k) => ∃ j, a = .s (.bool j) ∧ Q (.s (.bool (neg != (j == k))))
  | _ => False
def flatD : D → Bool
  | .none | .bool _ | .int _ | .str _ => true
  | _ => false
def inD (d : D) (ds : List D) : Bool := ds.any fun z => PyData.eqv z d
/-- x in a list or tuple of flat items -/
def fIn (neg : Bool) : F2 := fun a b Q => (∃ d ds, a = .s d ∧ b.seq = some ds ∧ flatD d = true ∧ ds.all flatD = true ∧ Q (.s (.bool (neg != inD d ds)))) ∨
  ∃ d kvs k, a = .s d ∧ b.kv = some kvs ∧ ofK d = some k ∧ Q (.s (.bool (neg != (kGet kvs k).isSome)))
section
variable {X : Cx} {K : Frag} {H : Hp}
theorem flatV_of {x : V} {d : D} (h : Dp K H x d) (f : flatD d = true) : flatV x = true := by cases h <;> first | rfl | cases f
theorem eqV_of {x y : V} {d e : D} (h : Dp K H x d) (h' : Dp K H y e) (f : flatD d = true) (f' : flatD e = true) : eqV x y = PyData.eqv d e := by
  cases h <;> cases h' <;> first | rfl | cases f | cases f'
theorem flatAll_of : ∀ {xs : List V} {ds : List D}, DpAll K H xs ds → ds.all flatD = true → xs.all flatV = true
  | _, _, .nil, _ => rfl
  | _, _, .cons h t, f => by
    rw [List.all_cons, Bool.and_eq_true] at f ⊢
    exact ⟨flatV_of h f.1, flatAll_of t f.2⟩
theorem inV_of {x : V} {d : D} (h : Dp K H x d) (f : flatD d = true) : ∀ {xs : List V} {ds : List D}, DpAll K H xs ds → ds.all flatD = true → inV x xs = inD d ds
  | _, _, .nil, _ => rfl
  | _, _, .cons h1 t, g => by
    rw [List.all_cons, Bool.and_eq_true] at g
    unfold inV inD
    rw [List.any_cons, List.any_cons, eqV_of h1 h g.1 f]
    congr 1
    exact inV_of h f t g.2
theorem o_eq (hu : X.A.units + 64 < cLine) : OpR X (compareOp .Eq) (lift2 X.K fEq) := by
  intro pins s σ H x y v u Q I rx ry hh
  obtain ⟨G, Hs, B, a, b, Qd, c, ra, rb, ⟨d, e, h1, h2, h3, h4, q⟩, k⟩ := hh
  exact op_eqD hu pins s σ H _ _ v u Q I rx ry ⟨d, e, (ra.look h1 c.bh).old (SeqAt.canLay_of_shaped h3), (rb.look h2 c.bh).old (SeqAt.canLay_of_shaped h4), h3, h4, k.dat c (.bl _) q⟩
theorem o_ne (hu : X.A.units + 64 < cLine) : OpR X (compareOp .NotEq) (lift2 X.K fNe) := by
  intro pins s σ H x y v u Q I rx ry hh
  obtain ⟨G, Hs, B, a, b, Qd, c, ra, rb, ⟨d, e, h1, h2, h3, h4, q⟩, k⟩ := hh
  exact op_neD hu pins s σ H _ _ v u Q I rx ry ⟨d, e, (ra.look h1 c.bh).old (SeqAt.canLay_of_shaped h3), (rb.look h2 c.bh).old (SeqAt.canLay_of_shaped h4), h3, h4, k.dat c (.bl _) q⟩
theorem o_cmp {f : Value → Value → Sem Value} {g : Int → Int → Bool} (h : OpR X f (rI0 fun i j => .bl (g i j))) : OpR X f (lift2 X.K (fCmp g)) := by
  intro pins s σ H x y v u Q I rx ry hh
  obtain ⟨G, Hs, B, a, b, Qd, c, ra, rb, ⟨i, j, rfl, rfl, q⟩, k⟩ := hh
  cases ra.int; cases rb.int
  exact h pins s σ H _ _ v u Q I rx ry ⟨i, j, rfl, rfl, k.dat c (.bl _) q⟩
theorem o_le : OpR X (compareOp .LtE) (lift2 X.K fLe) := o_cmp op_le
theorem o_gt : OpR X (compareOp .Gt) (lift2 X.K fGt) := o_cmp op_gt
theorem o_ge : OpR X (compareOp .GtE) (lift2 X.K fGe) := o_cmp op_ge
theorem o_lt (hu : X.A.units < cLine) : OpR X (compareOp .Lt) (lift2 X.K fLt) := by
  intro pins s σ H x y v u Q I rx ry hh
  obtain ⟨G, Hs, B, a, b, Qd, c, ra, rb, q, k⟩ := hh
  unfold fLt at q
  split at q
  · obtain ⟨j, rfl, q⟩ := q
    cases ra.int; cases rb.int
    exact op_lt pins s σ H _ _ v u Q I rx ry ⟨_, _, rfl, rfl, k.dat c (.bl _) q⟩
  · obtain ⟨ns, ms, rfl, rfl, q⟩ := q
    obtain ⟨p1, xs1, rfl, h1, h2⟩ := ra.tup
    obtain ⟨p2, xs2, rfl, h3, h4⟩ := rb.tup
    cases h2.ints'; cases h4.ints'
    exact op_ltT hu pins s σ H _ _ v u Q I rx ry ⟨p1, p2, ns, ms, rfl, rfl, (h1.up c.le).t, (h3.up c.le).t, k.dat c (.bl _) q⟩
  · exact q.elim
theorem Dp.none_iff {B : Hp} {x : V} {d : D} (h : Dp K B x d) : decide (x = V.non) = (R.s d).isN := by
  cases h <;> rfl
theorem o_is : OpR X (compareOp .Is) (lift2 X.K (fIs false)) := by
  intro pins s σ H x y v u Q I rx ry hh
  obtain ⟨G, Hs, B, a, b, Qd, c, ra, rb, q, k⟩ := hh
  unfold fIs at q
  split at q
  · obtain ⟨h, q⟩ := q
    cases rb.none
    cases a with
    | s d =>
      have e := Dp.none_iff (K := X.K) (B := B) (x := x) (d := d) ra
      refine op_isN pins s σ H _ _ v u Q I rx ry ⟨rfl, ?_⟩
      rw [e]
      exact k.dat c (.bl _) (by simpa using q)
    | _ => cases h
  · obtain ⟨j, rfl, q⟩ := q
    cases ra.bool; cases rb.bool
    refine op_is_bl pins s σ H _ _ v u Q I rx ry ⟨_, _, rfl, rfl, ?_⟩
    exact k.dat c (.bl _) (by simpa [Bool.beq_eq_decide_eq] using q)
  · exact q.elim
theorem o_isNot : OpR X (compareOp .IsNot) (lift2 X.K (fIs true)) := by
  intro pins s σ H x y v u Q I rx ry hh
  obtain ⟨G, Hs, B, a, b, Qd, c, ra, rb, q, k⟩ := hh
  unfold fIs at q
  split at q
  · obtain ⟨h, q⟩ := q
    cases rb.none
    cases a with
    | s d =>
      have e := Dp.none_iff (K := X.K) (B := B) (x := x) (d := d) ra
      refine op_notN pins s σ H _ _ v u Q I rx ry ⟨rfl, ?_⟩
      rw [e]
      exact k.dat c (.bl _) (by simpa using q)
    | _ => cases h
  · obtain ⟨j, rfl, q⟩ := q
    cases ra.bool; cases rb.bool
    refine op_isnot_bl pins s σ H _ _ v u Q I rx ry ⟨_, _, rfl, rfl, ?_⟩
    exact k.dat c (.bl _) (by simpa [Bool.beq_eq_decide_eq] using q)
  · exact q.elim
theorem kV_of {K : Frag} {B : Hp} {x : V} {d : D} {k : Key} (h : Dp K B x d) (e : ofK d = some k) : x = kV k := by
  cases ofK_eq e
  cases k with
  | inl i => cases h; rfl
  | inr z => cases h; rfl
/-- what stands at a key -/
theorem dget_of {K : Frag} {H B : Hp} {p : Addr} {xs : List (Key × V)} {kvs : List (Key × D)} (k : Key) (h1 : Rd H p (.dK xs)) (h2 : KvP K B xs kvs) : ∃ o, DGet H p (kV k) o ∧ o.isSome = (kGet kvs k).isSome ∧ ∀ d, kGet kvs k = some d → ∃ v, o = some v ∧ Dp K B v d := by
  refine ⟨valV xs k, .inl ⟨xs, k, h1, rfl, rfl⟩, ?_, fun d e => ?_⟩
  · rcases h2.find k with ⟨a, b⟩ | ⟨v, d, a, b, _⟩
    · rw [a, b]; rfl
    · rw [a, b]; rfl
  · rcases h2.find k with ⟨a, b⟩ | ⟨v, d', a, b, c⟩
    · rw [b] at e; cases e
    · rw [b] at e; cases e; exact ⟨v, a, c⟩
theorem o_in (hu : X.A.units + 64 < cLine) : OpR X (compareOp .In) (lift2 X.K (fIn false)) := by
  intro pins s σ H x y v u Q I rx ry hh
  obtain ⟨G, Hs, B, a, b, Qd, c, ra, rb, ⟨d, ds, rfl, h2, h3, h4, q⟩ | ⟨d, kvs, k', rfl, h2, h3, q⟩, k⟩ := hh
  · obtain ⟨p, xs, rfl, h5, h6⟩ := rb.seq h2 c.bh
    refine op_in_seq pins s σ H _ _ v u Q I rx ry ⟨p, xs, rfl, h6, flatV_of (show Dp X.K B x d from ra) h3, flatAll_of h5 h4, ?_⟩
    rw [if_neg Bool.false_ne_true, inV_of (show Dp X.K B x d from ra) h3 h5 h4]
    exact k.dat c (.bl _) (by simpa using q)
  · obtain ⟨p, xs, rfl, h5, h6⟩ := rb.kv h2 c.bh
    cases kV_of (show Dp X.K B x d from ra) h3
    obtain ⟨o, h7, h8, _⟩ := dget_of k' h5 h6
    cases ry
    refine d_in (by omega) I h7 rx fun s' I' => ⟨.bl o.isSome, H, I', rfl, ?_⟩
    rw [h8]
    exact k.dat c (.bl _) (by simpa using q)
theorem o_notIn (hu : X.A.units + 64 < cLine) : OpR X (compareOp .NotIn) (lift2 X.K (fIn true)) := by
  intro pins s σ H x y v u Q I rx ry hh
  obtain ⟨G, Hs, B, a, b, Qd, c, ra, rb, ⟨d, ds, rfl, h2, h3, h4, q⟩ | ⟨d, kvs, k', rfl, h2, h3, q⟩, k⟩ := hh
  · obtain ⟨p, xs, rfl, h5, h6⟩ := rb.seq h2 c.bh
    refine op_notIn_seq pins s σ H _ _ v u Q I rx ry ⟨p, xs, rfl, h6, flatV_of (show Dp X.K B x d from ra) h3, flatAll_of h5 h4, ?_⟩
    rw [if_pos rfl, inV_of (show Dp X.K B x d from ra) h3 h5 h4]
    exact k.dat c (.bl _) (by simpa using q)
  · obtain ⟨p, xs, rfl, h5, h6⟩ := rb.kv h2 c.bh
    cases kV_of (show Dp X.K B x d from ra) h3
    obtain ⟨o, h7, h8, _⟩ := dget_of k' h5 h6
    cases ry
    refine d_notIn (by omega) I h7 rx fun s' I' => ⟨.bl (!o.isSome), H, I', rfl, ?_⟩
    rw [h8]
    exact k.dat c (.bl _) (by simpa using q)
end

/-! ### subscripts, slices -/
def fIx : F2 := fun a b Q => (∃ ds i d, a.seq = some ds ∧ b = .s (.int i) ∧ atI ds i = some d ∧ Q (.s d)) ∨
  ∃ kvs e k d, a.kv = some kvs ∧ b = .s e ∧ ofK e = some k ∧ kGet kvs k = some d ∧ Q (.s d)
section
variable {X : Cx} {K : Frag} {H : Hp}
theorem DpAll.atI {xs : List V} {ds : List D} {i : Int} {d : D} (h : DpAll K H xs ds) (e : L2.atI ds i = some d) : ∃ x, L2.atI xs i = some x ∧ Dp K H x d := by
  unfold L2.atI at e ⊢
  rw [h.length]
  cases q : ixN ds.length i with
  | none => rw [q] at e; cases e
  | some j =>
    rw [q] at e
    obtain ⟨x, h1, h2⟩ := h.get e
    exact ⟨x, h1, h2⟩
theorem o_ix (hu : X.A.units + 64 < cLine) : IxR X (lift2 X.K fIx) := by
  intro value slice pins s σ H x y v u Q I rx ry hh hs
  obtain ⟨G, Hs, B, a, b, Qd, c, ra, rb, ⟨ds, i, d, h1, rfl, h2, q⟩ | ⟨kvs, e, k', d, h1, rfl, h2, h3, q⟩, k⟩ := hh
  case inr =>
    obtain ⟨p, xs, rfl, h5, h6⟩ := ra.kv h1 c.bh
    cases kV_of (show Dp X.K B y e from rb) h2
    obtain ⟨o, h7, h8, h9⟩ := dget_of k' h5 h6
    obtain ⟨z, rfl, h10⟩ := h9 d h3
    cases rx
    have hT : s.TypeIs (.ref p) "dict" := by
      obtain ⟨_, _, _, _, dd⟩ := dk_rd I.hok h5
      exact dd.typeIs
    exact tail_any hT slot_dict_getitem.lookup (d_getItem (by omega) I h7 ry fun w' s' I' rw' => ⟨z, H, I', rw', k.dat c h10 q⟩) hs
  obtain ⟨p, xs, rfl, h3, h4⟩ := ra.seq h1 c.bh
  cases rb.int
  obtain ⟨z, h5, h6⟩ := h3.atI h2
  have fin : Q z H := k.dat c h6 q
  rcases h4 with h4 | h4
  · exact ix_list value slice pins s σ H _ _ v u Q I rx ry ⟨p, xs, i, z, rfl, rfl, h4, h5, fin⟩ hs
  · exact ix_tup value slice pins s σ H _ _ v u Q I rx ry ⟨p, xs, i, z, rfl, rfl, h4, h5, fin⟩ hs
end
end DL

set_option Elab.async false
set_option linter.all false
set_option maxRecDepth 100000
/-! The data layer: statements, defs, calls. -/
namespace DL
open PySem PySem.Spec PyProof.Rows L2

structure DEnds where
  nx : Rho → Prop
  rt : R → Prop
  bk : Rho → Prop := fun _ => False
  ct : Rho → Prop := fun _ => False
  er : Value → Rho → Prop := fun _ _ => False
abbrev SW := Rho → DEnds → Prop

/-- how data's ends are the layer's ends -/
structure Links (K : Frag) (W : WX) (G : Gh) (B0 H0 B : Hp) (E : DEnds) (D : Ends) : Prop where
  nx : ∀ ρ' σ' B' H', Stt K G B0 H0 B' H' σ' ρ' → Same B B' → E.nx ρ' → D.nx σ' H'
  bk : ∀ ρ' σ' B' H', Stt K G B0 H0 B' H' σ' ρ' → Same B B' → E.bk ρ' → D.bk σ' H'
  ct : ∀ ρ' σ' B' H', Stt K G B0 H0 B' H' σ' ρ' → Same B B' → E.ct ρ' → D.ct σ' H'
  rt : ∀ r x B' H', Stp G B0 H0 B' H' → Same B' (hide G H') → G.ok H' → Rs K G H0 B' H' x r → E.rt r → D.rt x H'
  er : ∀ cls d ρ' σ' B' H', Stt K G B0 H0 B' H' σ' ρ' → Same B B' → E.er cls ρ' → W cls d σ' H'
theorem Links.up {K : Frag} {W : WX} {G : Gh} {B0 H0 B B1 : Hp} {E : DEnds} {D : Ends} (l : Links K W G B0 H0 B E D) (s : Same B B1) : Links K W G B0 H0 B1 E D :=
  ⟨fun a b c d e f => l.nx a b c d e (s.trans f), fun a b c d e f => l.bk a b c d e (s.trans f), fun a b c d e f => l.ct a b c d e (s.trans f), l.rt, fun a b c d e f g h => l.er a b c d e f g (s.trans h)⟩
def TDs (K : Frag) (W : WX) (w : SW) : TS := fun D σ H => ∃ (G : Gh) (B0 H0 B : Hp) (ρ : Rho) (E : DEnds), Stt K G B0 H0 B H σ ρ ∧ w ρ E ∧ Links K W G B0 H0 B E D
abbrev PSD (X : Cx) (W : WX) (st : Stmt) (w : SW) : Prop := PS X st (TDs X.K W w)
abbrev PSDs (X : Cx) (W : WX) (st : List Stmt) (w : SW) : Prop := PSs X st (TDs X.K W w)
theorem ps_imp {X : Cx} {st : Stmt} {t t' : TS} (h : PS X st t) (i : ∀ D σ H, t' D σ H → t D σ H) : PS X st t' := ⟨fun pins s σ H D I q => h.run pins s σ H D I (i _ _ _ q)⟩
theorem pss_imp {X : Cx} {st : List Stmt} {t t' : TS} (h : PSs X st t) (i : ∀ D σ H, t' D σ H → t D σ H) : PSs X st t' := ⟨fun pins s σ H D I q => h.run pins s σ H D I (i _ _ _ q)⟩

def wNext : SW := fun ρ E => E.nx ρ
def wSeq (w u : SW) : SW := fun ρ E => w ρ { E with nx := fun ρ' => u ρ' E }
section
variable {X : Cx} {W : WX} {e a b c : Expr} {st : Stmt} {rest : List Stmt} {es : List Expr} {wa wb wc w : EW} {ws : AW} {wt wt' : TW} {v u : SW} {pos : Pos}
theorem pds_nil : PSDs X W [] wNext := pss_imp pss_nil fun D σ H ⟨G, B0, H0, B, ρ, E, S, q, l⟩ => l.nx _ _ _ _ S (Same.refl _) q
theorem pds_one (h : PSD X W st v) : PSDs X W [st] v := pss_one h
theorem pds_cons (h : PSD X W st v) (hr : PSDs X W rest u) : PSDs X W (st :: rest) (wSeq v u) := pss_imp (pss_cons h hr) fun D σ H ⟨G, B0, H0, B, ρ, E, S, q, l⟩ =>
  ⟨G, B0, H0, B, ρ, _, S, q, ⟨fun ρ' σ' B' H' S' s q' => ⟨G, B0, H0, B', ρ', E, S', q', l.up s⟩, l.bk, l.ct, l.rt, l.er⟩⟩
theorem pds_pass : PSD X W (.Pass pos) wNext := ps_imp ps_pass fun D σ H ⟨G, B0, H0, B, ρ, E, S, q, l⟩ => l.nx _ _ _ _ S (Same.refl _) q
def wBreak : SW := fun ρ E => E.bk ρ
def wCont : SW := fun ρ E => E.ct ρ
theorem pds_break : PSD X W (.Break pos) wBreak := ps_imp ps_break fun D σ H ⟨G, B0, H0, B, ρ, E, S, q, l⟩ => l.bk _ _ _ _ S (Same.refl _) q
theorem pds_continue : PSD X W (.Continue pos) wCont := ps_imp ps_continue fun D σ H ⟨G, B0, H0, B, ρ, E, S, q, l⟩ => l.ct _ _ _ _ S (Same.refl _) q
def wRet (w : EW) : SW := fun ρ E => w ρ E.rt (fun cls => E.er cls ρ)
theorem pds_ret (h : PD X W e w) : PSD X W (.Return (some e) pos) (wRet w) := ps_imp (ps_ret h) fun D σ H ⟨G, B0, H0, B, ρ, E, S, q, l⟩ =>
  ⟨G, B0, H0, B, ρ, _, _, S, q, fun r x B' H' S' s r' q' => l.rt r x B' H' S'.st S'.bh S'.gok (r'.from S.st) q', fun cls d B' H' q' S' s => l.er cls d ρ σ B' H' S' s.bb q'⟩

/-! ### targets -/
abbrev GW := D → Rho → (Rho → Prop) → Prop
abbrev GWs := List D → Rho → (Rho → Prop) → Prop
def TDg (K : Frag) (gw : GW) : TG := fun x σ H R => ∃ (G : Gh) (B0 H0 B : Hp) (ρ : Rho) (d : D) (k : Rho → Prop), Stt K G B0 H0 B H σ ρ ∧ Dp K B x d ∧ gw d ρ k ∧ ∀ ρ' σ' B' H', Stt K G B0 H0 B' H' σ' ρ' → Same B B' → k ρ' → R σ' H'
def TDgs (K : Frag) (gw : GWs) : TGs := fun xs σ H R => ∃ (G : Gh) (B0 H0 B : Hp) (ρ : Rho) (ds : List D) (k : Rho → Prop), Stt K G B0 H0 B H σ ρ ∧ DpAll K B xs ds ∧ gw ds ρ k ∧ ∀ ρ' σ' B' H', Stt K G B0 H0 B' H' σ' ρ' → Same B B' → k ρ' → R σ' H'
abbrev PGD (X : Cx) (tg : Expr) (gw : GW) : Prop := PG X tg (TDg X.K gw)
abbrev PGDs (X : Cx) (tg : List Expr) (gw : GWs) : Prop := PGs X tg (TDgs X.K gw)
theorem pg_imp {X : Cx} {tg : Expr} {t t' : TG} (h : PG X tg t) (i : ∀ x σ H R, t' x σ H R → t x σ H R) : PG X tg t' := ⟨fun pins s σ H v u Q I r q => h.run pins s σ H v u Q I r (i _ _ _ _ q)⟩
theorem pgs_imp {X : Cx} {tg : List Expr} {t t' : TGs} (h : PGs X tg t) (i : ∀ x σ H R, t' x σ H R → t x σ H R) : PGs X tg t' := ⟨fun pins s σ H v u Q I r q => h.run pins s σ H v u Q I r (i _ _ _ _ q)⟩
def gwName (i : Nat) : GW := fun d ρ k => i < ρ.length ∧ k (ρ.set i (some (.s d)))
def gwNil : GWs := fun ds ρ k => ds = [] ∧ k ρ
def gwCons (g : GW) (u : GWs) : GWs := fun ds ρ k => ∃ d r, ds = d :: r ∧ g d ρ fun ρ' => u r ρ' k
def gwTup (n : Nat) (u : GWs) : GW := fun d ρ k => ∃ ds, d = .tuple ds ∧ ds.length = n ∧ u ds ρ k
theorem Stt.put {K : Frag} {G : Gh} {B0 H0 B H : Hp} {σ : L2.St} {ρ : Rho} {x : V} {r : R} (S : Stt K G B0 H0 B H σ ρ) (k : keeps r = true) (hr : Rs K G H B H x r) (i : Nat) (hi : i < ρ.length) : Stt K G B0 H0 B H (σ.set i (some x)) (ρ.set i (some r)) :=
  S.fill (Stp.refl ..) S k hr i (by rw [← S.len]; exact hi)
theorem pgd_name {i : Nat} {x : Expr} (h : PG X x (gName i)) : PGD X x (gwName i) := pg_imp h fun x σ H R ⟨G, B0, H0, B, ρ, d, k, S, hd, ⟨hi, q⟩, l⟩ =>
  l _ _ _ _ (S.put (r := .s d) rfl hd i hi) (Same.refl _) q
theorem pgds_nil : PGDs X [] gwNil := pgs_imp pgs_nil fun xs σ H R ⟨G, B0, H0, B, ρ, ds, k, S, hd, ⟨e, q⟩, l⟩ => by
  subst e
  cases hd
  exact ⟨rfl, l _ _ _ _ S (Same.refl _) q⟩
theorem pgds_cons {g : GW} {gs : GWs} (h : PGs X (e :: es) (gCons (TDg X.K g) (TDgs X.K gs))) : PGDs X (e :: es) (gwCons g gs) :=
  pgs_imp h fun xs σ H R ⟨G, B0, H0, B, ρ, ds, k, S, hd, ⟨d, r, e, q⟩, l⟩ => by
    subst e
    cases hd with
    | cons hd1 hd2 =>
      exact ⟨_, _, rfl, G, B0, H0, B, ρ, d, _, S, hd1, q, fun ρ' σ' B' H' S' s q' => ⟨G, B0, H0, B', ρ', r, _, S', DpAll.mono s hd2, q', fun ρ2 σ2 B2 H2 S2 s2 q2 => l _ _ _ _ S2 (s.trans s2) q2⟩⟩
theorem pgd_tup {n : Nat} {gs : GWs} (h : PG X e (gTup X.K n (TDgs X.K gs))) : PGD X e (gwTup n gs) := pg_imp h fun x σ H R ⟨G, B0, H0, B, ρ, d, k, S, hd, ⟨ds, e, hn, q⟩, l⟩ => by
  subst e
  cases hd with
  | tup h1 h2 => exact ⟨_, _, rfl, (h1.up (S.bh.trans (hide_le H))).t, h2.length.trans hn, G, B0, H0, B, ρ, ds, k, S, h2, q, l⟩

/-! ### assignments -/
def wAsg (i : Nat) (w : EW) : SW := fun ρ E => w ρ (fun r => i < ρ.length ∧ keeps r = true ∧ E.nx (ρ.set i (some r))) (fun cls => E.er cls ρ)
def wAsgT (w : EW) (g : GW) : SW := fun ρ E => w ρ (fun r => ∃ d, r.dat = some d ∧ g d ρ E.nx) (fun cls => E.er cls ρ)
theorem pds_set {i : Nat} (h : PS X st (tAsg (TDe X.K W w) (gName i))) : PSD X W st (wAsg i w) := ps_imp h fun D σ H ⟨G, B0, H0, B, ρ, E, S, q, l⟩ =>
  ⟨G, B0, H0, B, ρ, _, _, S, q, fun r x B' H' S' s r' ⟨hi, k, q'⟩ => l.nx _ _ _ _ (S.fill s S' k r' i (by rw [← S.len]; exact hi)) s.bb q', fun cls d B' H' q' S' s => l.er cls d ρ σ B' H' S' s.bb q'⟩
theorem pds_asgT {g : GW} (h : PS X st (tAsg (TDe X.K W w) (TDg X.K g))) : PSD X W st (wAsgT w g) := ps_imp h fun D σ H ⟨G, B0, H0, B, ρ, E, S, q, l⟩ =>
  ⟨G, B0, H0, B, ρ, _, _, S, q, fun r x B' H' S' s r' ⟨d, e, q'⟩ => ⟨G, B0, H0, B', ρ, d, _, S', r'.dat e, q', fun ρ2 σ2 B2 H2 S2 s2 q2 => l.nx _ _ _ _ S2 (s.bb.trans s2) q2⟩, fun cls d B' H' q' S' s => l.er cls d ρ σ B' H' S' s.bb q'⟩
/-- two names at once, each side written -/
def wPar (i j : Nat) (wa wb : EW) : SW := fun ρ E => wa ρ (fun r => wb ρ (fun u => i < ρ.length ∧ j < ρ.length ∧ keeps r = true ∧ keeps u = true ∧ E.nx ((ρ.set i (some r)).set j (some u))) (fun cls => E.er cls ρ)) (fun cls => E.er cls ρ)
theorem pds_par {i j : Nat} (h : PS X st (tPar i j (TDa X.K W (wCons wa (wCons wb wNil))))) : PSD X W st (wPar i j wa wb) := ps_imp h fun D σ H ⟨G, B0, H0, B, ρ, E, S, q, l⟩ => by
  refine ⟨G, B0, H0, B, ρ, (fun rs => ∃ r u, rs = [r, u] ∧ (i < ρ.length ∧ j < ρ.length ∧ keeps r = true ∧ keeps u = true ∧ E.nx ((ρ.set i (some r)).set j (some u)))), fun cls => E.er cls ρ, S, ?_, ?_, fun cls d B' H' q' S' s => l.er cls d ρ σ B' H' S' s.bb q'⟩
  · show wa ρ (fun r => wb ρ (fun u => wNil ρ _ _) _) _
    have e : (fun r => wb ρ (fun u => wNil ρ (fun rs => ∃ r' u', r :: u :: rs = [r', u'] ∧ (i < ρ.length ∧ j < ρ.length ∧ keeps r' = true ∧ keeps u' = true ∧ E.nx ((ρ.set i (some r')).set j (some u')))) (fun cls => E.er cls ρ)) (fun cls => E.er cls ρ)) =
        (fun r => wb ρ (fun u => i < ρ.length ∧ j < ρ.length ∧ keeps r = true ∧ keeps u = true ∧ E.nx ((ρ.set i (some r)).set j (some u))) (fun cls => E.er cls ρ)) := by
      funext r
      congr 1
      funext u
      apply propext
      constructor
      · rintro ⟨r', u', e, z⟩
        cases e
        exact z
      · intro z
        exact ⟨r, u, rfl, z⟩
    rw [e]
    exact q
  · rintro rs xs B' H' S' s r' ap ⟨r, u, rfl, hi, hj, k1, k2, q'⟩
    cases r' with
    | cons h1 h2 => cases h2 with
      | cons h2 h3 =>
        cases h3
        rename_i x y
        have S1 := S.fill s S' k1 h1 i (by rw [← S.len]; exact hi)
        refine ⟨x, y, rfl, l.nx _ _ _ _ (S1.fillG (h2.slot k2 S.st.hh) j (by rw [List.length_set, ← S.len]; exact hj) fun m v z hm e1 o1 o2 e2 e3 => ?_) s.bb q'⟩
        by_cases qm : m = i
        · subst qm
          rw [List.getElem?_set_self hi] at e1; cases e1
          rw [List.getElem?_set_self (by rw [← S.len]; exact hi)] at e2; cases e2
          exact ap.1 o2 0 u rfl o1 (by rw [e3]; rfl)
        · rw [List.getElem?_set_ne (Ne.symm qm)] at e1 e2
          exact S.away h2 o1 m v z e1 o2 e2 e3
end
end DL

set_option Elab.async false
set_option linter.all false
set_option maxRecDepth 100000
/-! The data layer: if, loops, errors, defs and their calls. -/
namespace DL
open PySem PySem.Spec PyProof.Rows L2
section
variable {X : Cx} {W : WX} {e a b c : Expr} {st : Stmt} {rest : List Stmt} {es : List Expr} {wa wb wc w : EW} {ws : AW} {wt wt' : TW} {v u : SW} {pos : Pos}

def wIfS (t : TW) (v u : SW) : SW := fun ρ E => t ρ (fun k => if k = true then v ρ E else u ρ E) (fun cls => E.er cls ρ)
theorem pds_if {th el : List Stmt} (hc : PDt X W e wt) (ha : PSDs X W th v) (hb : PSDs X W el u) : PSD X W (.If e th el pos) (wIfS wt v u) := ps_imp (ps_if hc ha hb) fun D σ H ⟨G, B0, H0, B, ρ, E, S, q, l⟩ =>
  ⟨G, B0, H0, B, ρ, _, _, S, q, fun k B' H' S' s q' => by
    cases k with
    | true => exact iteT ⟨G, B0, H0, B', ρ, E, S', (if_pos rfl).mp q', l.up s.bb⟩
    | false => exact iteF ⟨G, B0, H0, B', ρ, E, S', (if_neg Bool.false_ne_true).mp q', l.up s.bb⟩, fun cls d B' H' q' S' s => l.er cls d ρ σ B' H' S' s.bb q'⟩

/-! ### name op= e of ints -/
def wAug (i : Nat) (g : Int → Int → Int) (w : EW) : SW := fun ρ E => ∃ n, ρ[i]? = some (some (.s (.int n))) ∧ w ρ (fun r => ∃ m, r = .s (.int m) ∧ E.nx (ρ.set i (some (.s (.int (g n m)))))) (fun cls => E.er cls ρ)
theorem pds_aug {i : Nat} {g : Int → Int → Int} (h : PS X st (tAug i (TDe X.K W w) (ipI g))) : PSD X W st (wAug i g w) := ps_imp h fun D σ H ⟨G, B0, H0, B, ρ, E, S, ⟨n, e1, q⟩, l⟩ => by
  obtain ⟨x, e2, hr⟩ := S.sl i _ e1
  cases (show Dp X.K B x (.int n) from hr)
  refine ⟨.int n, e2, G, B0, H0, B, ρ, _, _, S, q, fun r y B' H' S' s r' q' => ?_, fun cls d B' H' q' S' s => l.er cls d ρ σ B' H' S' s.bb q'⟩
  obtain ⟨m, rfl, q'⟩ := q'
  cases (show Dp X.K B' y (.int m) from r')
  exact ⟨n, m, rfl, rfl, l.nx _ _ _ _ (S'.put (r := .s (.int (g n m))) rfl (show Dp X.K B' (.int (g n m)) (.int (g n m)) from .int _) i ((List.getElem?_eq_some_iff.mp e1).1)) s.bb q'⟩

/-! ### a statement that is an expression -/
def wExpr (w : EW) : SW := fun ρ E => w ρ (fun _ => E.nx ρ) (fun cls => E.er cls ρ)
theorem pds_expr (h : PS X st (tDrop (TDe X.K W w))) : PSD X W st (wExpr w) := ps_imp h fun D σ H ⟨G, B0, H0, B, ρ, E, S, q, l⟩ =>
  ⟨G, B0, H0, B, ρ, _, _, S, q, fun r x B' H' S' s r' q' => l.nx _ _ _ _ S' s.bb q', fun cls d B' H' q' S' s => l.er cls d ρ σ B' H' S' s.bb q'⟩

/-! ### a list of one's own: append, extend, pop, a place written -/
def wAppend (i : Nat) (w : EW) : SW := fun ρ E => ∃ ds, ρ[i]? = some (some (.l true ds)) ∧ w ρ (fun r => ∃ d, r.dat = some d ∧ ds.length < 16777216 ∧ E.nx (ρ.set i (some (.l true (ds ++ [d]))))) (fun cls => E.er cls ρ)
theorem pds_append {i : Nat} (h : PS X st (tDrop (tBM X.K "list" rAppend (tVar i) (tCons (TDe X.K W w) tNil)))) : PSD X W st (wAppend i w) := ps_imp h fun D σ H ⟨G, B0, H0, B, ρ, E, S, ⟨ds, e1, q⟩, l⟩ => by
  obtain ⟨x, e2, ⟨p, xs, ex, h1, h2, h3, h4, h5⟩⟩ := S.sl i _ e1
  subst ex
  refine ⟨_, e2, .inl ⟨rfl, xs, .inl (.inl h1)⟩, G, B0, H0, B, ρ, _, _, S, q, fun r y B' H' S' s r' q' => ?_, fun cls d B' H' q' S' s => l.er cls d ρ σ B' H' S' s.bb q'⟩
  obtain ⟨d, ed, hlen, q'⟩ := q'
  have k1 : H' p = some (.lst xs) := (hide_some (s.hh p _ (by rw [hide_out h4]; exact h1))).2
  refine ⟨p, xs, y, rfl, rfl, k1, by rw [line_eq, h2.length]; exact hlen, ?_⟩
  refine l.nx _ _ _ _ (S'.mut (r' := .l true (ds ++ [d])) e1 rfl e2 ⟨p, _, rfl, upd_same, (DpAll.mono s.bb h2).append (.cons (r'.dat ed) .nil), s.nw p _ h3 (by rw [hide_out h4]; exact h1), h4, h5⟩) s.bb q'
def wExtend (i : Nat) (w : EW) : SW := fun ρ E => ∃ ds, ρ[i]? = some (some (.l true ds)) ∧ w ρ (fun r => ∃ o es, r = .l o es ∧ ds.length + es.length ≤ 16777216 ∧ E.nx (ρ.set i (some (.l true (ds ++ es))))) (fun cls => E.er cls ρ)
theorem pds_extend {i : Nat} (h : PS X st (tDrop (tBM X.K "list" rExtend (tVar i) (tCons (TDe X.K W w) tNil)))) : PSD X W st (wExtend i w) := ps_imp h fun D σ H ⟨G, B0, H0, B, ρ, E, S, ⟨ds, e1, q⟩, l⟩ => by
  obtain ⟨x, e2, ⟨p, xs, ex, h1, h2, h3, h4, h5⟩⟩ := S.sl i _ e1
  subst ex
  refine ⟨_, e2, .inl ⟨rfl, xs, .inl (.inl h1)⟩, G, B0, H0, B, ρ, _, _, S, q, fun r y B' H' S' s r' q' => ?_, fun cls d B' H' q' S' s => l.er cls d ρ σ B' H' S' s.bb q'⟩
  obtain ⟨o, es, rfl, hlen, q'⟩ := q'
  obtain ⟨p2, xs2, rfl, g1, g2, _⟩ := r'
  have k1 : H' p = some (.lst xs) := (hide_some (s.hh p _ (by rw [hide_out h4]; exact h1))).2
  refine ⟨p, p2, xs, xs2, rfl, rfl, k1, (hide_some g1).2, by rw [line_eq, h2.length, g2.length]; exact hlen, ?_⟩
  refine l.nx _ _ _ _ (S'.mut (r' := .l true (ds ++ es)) e1 rfl e2 ⟨p, _, rfl, upd_same, (DpAll.mono s.bb h2).append g2, s.nw p _ h3 (by rw [hide_out h4]; exact h1), h4, h5⟩) s.bb q'
/-- target = x.pop() -/
def wPop (i : Nat) (g : GW) : SW := fun ρ E => ∃ ds d, ρ[i]? = some (some (.l true (ds ++ [d]))) ∧ g d (ρ.set i (some (.l true ds))) E.nx
theorem DpAll_last {K : Frag} {H : Hp} {xs : List V} {ds : List D} {d : D} (h : DpAll K H xs (ds ++ [d])) : ∃ y, xs[xs.length - 1]? = some y ∧ Dp K H y d ∧ DpAll K H xs.dropLast ds := by
  have hl : xs.length = ds.length + 1 := by rw [h.length]; simp
  obtain ⟨y, h1, h2⟩ := h.get (i := ds.length) (d := d) (by simp)
  refine ⟨y, by rw [hl]; exact h1, h2, ?_⟩
  have := h.take ds.length
  rw [List.take_left' rfl] at this
  rw [List.dropLast_eq_take, hl]
  exact this
theorem pds_pop {i : Nat} {g : GW} (h : PS X st (tAsg (tBM0 X.K "list" rPop (tVar i)) (TDg X.K g))) : PSD X W st (wPop i g) := ps_imp h fun D σ H ⟨G, B0, H0, B, ρ, E, S, ⟨ds, d, e1, q⟩, l⟩ => by
  obtain ⟨x, e2, ⟨p, xs, ex, h1, h2, h3, h4, h5⟩⟩ := S.sl i _ e1
  subst ex
  obtain ⟨y, k1, k2, k3⟩ := DpAll_last h2
  refine ⟨_, e2, .inl ⟨rfl, xs, .inl (.inl h1)⟩, p, xs, y, rfl, rfl, h1, k1, ?_⟩
  exact ⟨G, B0, H0, B, _, d, _, S.mut e1 rfl e2 (r' := .l true ds) ⟨p, _, rfl, upd_same, k3, h3, h4, h5⟩, k2, q, fun ρ2 σ2 B2 H2 S2 s2 q2 => l.nx _ _ _ _ S2 s2 q2⟩
/-- x[i] = e, x a list or dict of one's own -/
def putR (r0 z : R) (d : D) (k : R → Prop) : Prop := match r0 with
  | .l true ds => ∃ n j, z = .s (.int n) ∧ ixN ds.length n = some j ∧ k (.l true (ds.set j d))
  | .k true kvs => ∃ e y, z = .s e ∧ ofK e = some y ∧ kvs.length < 16777216 ∧ k (.k true (kPut kvs y d))
  | _ => False
def rSetB : V → V → V → Hp → (Hp → Prop) → Prop := fun o i v H Q => rSetL o i v H Q ∨ rSetD o i v H Q
theorem set_both {X : Cx} (hu : X.A.units + 64 < cLine) : PSet X rSetB := fun pins s σ H o i v ov iv u Q I ro ri rv h =>
  h.elim (set_list pins s σ H o i v ov iv u Q I ro ri rv) (set_dict (by omega) pins s σ H o i v ov iv u Q I ro ri rv)
def wSetIx (i : Nat) (we wi : EW) : SW := fun ρ E => ∃ r0, ρ[i]? = some (some r0) ∧ owns r0 = true ∧ we ρ (fun r => ∃ d, r.dat = some d ∧ wi ρ (fun z => putR r0 z d fun r1 => E.nx (ρ.set i (some r1))) (fun cls => E.er cls ρ)) (fun cls => E.er cls ρ)
theorem pds_setIx {i : Nat} {we wi : EW} (h : PS X st (tAsg (TDe X.K W we) (gSub (tVar i) (TDe X.K W wi) rSetB))) : PSD X W st (wSetIx i we wi) := ps_imp h fun D σ H ⟨G, B0, H0, B, ρ, E, S, ⟨r0, e1, o1, q⟩, l⟩ => by
  refine ⟨G, B0, H0, B, ρ, _, _, S, q, fun r y B' H' S' s r' q' => ?_, fun cls d B' H' q' S' s => l.er cls d ρ σ B' H' S' s.bb q'⟩
  obtain ⟨d, ed, q'⟩ := q'
  obtain ⟨x, e2, sx⟩ := S'.sl i _ e1
  refine ⟨_, e2, G, B0, H0, B', ρ, _, _, S', q', fun z w1 B2 H2 S2 s2 z' q2 => ?_, fun cls d B2 H2 q2 S2 s2 => l.er cls d ρ σ B2 H2 S2 (s.bb.trans s2.bb) q2⟩
  obtain ⟨x2, f2, sx2⟩ := S2.sl i _ e1
  rw [e2] at f2
  cases f2
  cases r0 with
  | l own ds =>
    cases own with
    | false => cases o1
    | true =>
      obtain ⟨n, j, rfl, hj, q2⟩ := q2
      cases (show Dp X.K B2 w1 (.int n) from z')
      obtain ⟨p2, xs2, rfl, g1, g2, g3, g4, g5⟩ := sx2
      refine .inl ⟨p2, xs2, n, j, rfl, rfl, g1, by rw [g2.length]; exact hj, ?_⟩
      exact l.nx _ _ _ _ (S2.mut (r' := .l true (ds.set j d)) e1 rfl e2 ⟨p2, _, rfl, upd_same, g2.set j (Dp.mono s2.bb (r'.dat ed)), g3, g4, g5⟩) (s.bb.trans s2.bb) q2
  | k own kvs =>
    cases own with
    | false => cases o1
    | true =>
      obtain ⟨e, y', rfl, hk, hl, q2⟩ := q2
      cases kV_of (show Dp X.K B2 w1 e from z') hk
      obtain ⟨p2, xs2, rfl, g1, g2, g3, g4, g5⟩ := sx2
      refine .inr ⟨p2, _, rfl, .inl ⟨xs2, y', g1, rfl, by rw [g2.length, line_eq]; exact hl, rfl⟩, ?_⟩
      exact l.nx _ _ _ _ (S2.mut (r' := .k true (kPut kvs y' d)) e1 rfl e2 ⟨p2, _, rfl, upd_same, g2.put y' (Dp.mono s2.bb (r'.dat ed)), g3, g4, g5⟩) (s.bb.trans s2.bb) q2
  | _ => exact q2.elim
/-- d.pop(k), d a dict of one's own, k there -/
def wDPop (i : Nat) (wi : EW) : SW := fun ρ E => ∃ kvs, ρ[i]? = some (some (.k true kvs)) ∧ wi ρ (fun z => ∃ e y, z = .s e ∧ ofK e = some y ∧ (kGet kvs y).isSome = true ∧ E.nx (ρ.set i (some (.k true (kDrop kvs y))))) (fun cls => E.er cls ρ)
theorem pds_dpop {i : Nat} {wi : EW} (h : PS X st (tDrop (tDPop1 (tVar i) (TDe X.K W wi)))) : PSD X W st (wDPop i wi) := ps_imp h fun D σ H ⟨G, B0, H0, B, ρ, E, S, ⟨kvs, e1, q⟩, l⟩ => by
  obtain ⟨x, e2, ⟨p, xs, rfl, h1, h2, h3, h4, h5⟩⟩ := S.sl i _ e1
  refine ⟨_, e2, p, rfl, .inl ⟨_, .inl h1⟩, G, B0, H0, B, ρ, _, _, S, q, fun z w1 B2 H2 S2 s2 z' q2 => ?_, fun cls d B2 H2 q2 S2 s2 => l.er cls d ρ σ B2 H2 S2 s2.bb q2⟩
  obtain ⟨e, y', rfl, hk, hs, q2⟩ := q2
  cases kV_of (show Dp X.K B2 w1 e from z') hk
  obtain ⟨x2, f2, ⟨p2, xs2, ex2, g1, g2, g3, g4, g5⟩⟩ := S2.sl i _ e1
  rw [e2] at f2; cases f2; cases ex2
  rcases g2.find y' with ⟨_, b⟩ | ⟨v, d, a, b, c⟩
  · rw [b] at hs; cases hs
  · refine ⟨xs2, y', v, g1, rfl, a, ?_⟩
    exact l.nx _ _ _ _ (S2.mut (r' := .k true (kDrop kvs y')) e1 rfl e2 ⟨p, _, rfl, upd_same, g2.drop y', g3, g4, g5⟩) s2.bb q2
/-- a list or dict of one's own is a datum from here on -/
def frzR (r : R) (k : R → Prop) : Prop := match r with
  | .l true ds => k (.s (.list ds))
  | .k true kvs => k (.s (.dict (kvD kvs)))
  | r => k r
def wFrzS (i : Nat) (v : SW) : SW := fun ρ E => ∃ r, ρ[i]? = some (some r) ∧ frzR r fun r' => v (ρ.set i (some r')) E
theorem pds_frz {i : Nat} (h : PSD X W st v) : PSD X W st (wFrzS i v) := ps_imp h fun D σ H ⟨G, B0, H0, B, ρ, E, S, ⟨r, e1, q⟩, l⟩ => by
  have same : ρ.set i (some r) = ρ := List.ext_getElem? fun j => by
    by_cases z : i = j
    · subst z
      rw [List.getElem?_set_self (List.getElem?_eq_some_iff.mp e1).1, e1]
    · rw [List.getElem?_set_ne z]
  match r, e1, q, same with
  | .l true ds, e1, q, _ =>
    obtain ⟨B', S', s⟩ := S.freeze e1
    exact ⟨G, B0, H0, B', _, E, S', q, l.up s⟩
  | .k true ds, e1, q, _ =>
    obtain ⟨B', S', s⟩ := S.freezeK e1
    exact ⟨G, B0, H0, B', _, E, S', q, l.up s⟩
  | .l false ds, e1, q, same => exact ⟨G, B0, H0, B, ρ, E, S, by have q' : v (ρ.set i (some (.l false ds))) E := q; rw [same] at q'; exact q', l⟩
  | .k false ds, e1, q, same => exact ⟨G, B0, H0, B, ρ, E, S, by have q' : v (ρ.set i (some (.k false ds))) E := q; rw [same] at q'; exact q', l⟩
  | .t o ds, e1, q, same => exact ⟨G, B0, H0, B, ρ, E, S, by have q' : v (ρ.set i (some (.t o ds))) E := q; rw [same] at q'; exact q', l⟩
  | .s d, e1, q, same => exact ⟨G, B0, H0, B, ρ, E, S, by have q' : v (ρ.set i (some (.s d))) E := q; rw [same] at q'; exact q', l⟩
  | .g, e1, q, same => exact ⟨G, B0, H0, B, ρ, E, S, by have q' : v (ρ.set i (some .g)) E := q; rw [same] at q'; exact q', l⟩
  | .h, e1, q, same => exact ⟨G, B0, H0, B, ρ, E, S, by have q' : v (ρ.set i (some .h)) E := q; rw [same] at q'; exact q', l⟩
  | .z ds, e1, q, same => exact ⟨G, B0, H0, B, ρ, E, S, by have q' : v (ρ.set i (some (.z ds))) E := q; rw [same] at q'; exact q', l⟩
/-- a name given back: what was one's own is the caller's -/
def wRetS (i : Nat) : SW := fun ρ E => ∃ r, ρ[i]? = some (some r) ∧ E.rt r
theorem SlotR.giv {K : Frag} {G : Gh} {B0 H0 B H : Hp} {x : V} {r : R} (h : SlotR K G B0 H0 B H x r) (s : Stp G B0 H0 B H) : Rs K G H0 B H x r := by
  match r, h with
  | .s d, h => exact h
  | .l false ds, ⟨p, xs, e, h1, h2⟩ => exact ⟨p, xs, e, s.hh _ _ h1, h2, fun o => by cases o⟩
  | .l true ds, ⟨p, xs, e, h1, h2, h3, h4, h5⟩ => exact ⟨p, xs, e, by rw [hide_out h4]; exact h1, h2, fun _ => ⟨h3, h5⟩⟩
  | .k false ds, ⟨p, xs, e, h1, h2⟩ => exact ⟨p, xs, e, s.hh _ _ h1, h2, fun o => by cases o⟩
  | .k true ds, ⟨p, xs, e, h1, h2, h3, h4, h5⟩ => exact ⟨p, xs, e, by rw [hide_out h4]; exact h1, h2, fun _ => ⟨h3, h5⟩⟩
  | .t false ds, ⟨p, xs, e, h1, h2⟩ => exact ⟨p, xs, e, s.hh _ _ h1, h2, fun o => by cases o⟩
  | .t true ds, ⟨p, xs, e, h1, h2, h3, h4, h5⟩ => exact ⟨p, xs, e, by rw [hide_out h4]; exact h1, h2, fun _ => ⟨h3, h5⟩⟩
  | .g, h => exact h
  | .h, h => exact h
  | .z ds, h => exact h
theorem pds_retS {i : Nat} (h : PS X st (tRet (tVar i))) : PSD X W st (wRetS i) := ps_imp h fun D σ H ⟨G, B0, H0, B, ρ, E, S, ⟨r, e1, q⟩, l⟩ => by
  obtain ⟨x, e2, sx⟩ := S.sl i _ e1
  exact ⟨_, e2, l.rt _ _ _ _ S.st S.bh S.gok (sx.giv S.st) q⟩

/-! ### while -/
def wWhile (t : TW) (v : SW) : SW := fun ρ E => ∃ (P : Rho → Prop) (μ : Rho → Nat), P ρ ∧ ∀ ρ', P ρ' →
  t ρ' (fun k => if k = true then v ρ' { E with nx := fun ρ'' => P ρ'' ∧ μ ρ'' < μ ρ', ct := fun ρ'' => P ρ'' ∧ μ ρ'' < μ ρ', bk := E.nx } else E.nx ρ') (fun cls => E.er cls ρ')
theorem pds_while {body : List Stmt} (hp : PassesOwn (model X.prog X.w) X.A X.env X.xe) (hc : PDt X W e wt) (hb : PSDs X W body v) : PSD X W (.While e body [] pos) (wWhile wt v) :=
  ps_imp (ps_while hp hc hb) fun D σ H ⟨G, B0, H0, B, ρ, E, S, ⟨P, μ, p0, q⟩, l⟩ => by
    refine ⟨fun m σ H => ∃ B' ρ', m = μ ρ' ∧ Stt X.K G B0 H0 B' H σ ρ' ∧ Same B B' ∧ P ρ', ⟨_, B, ρ, rfl, S, Same.refl _, p0⟩, ?_⟩
    rintro m σ1 H1 ⟨B1, ρ1, rfl, S1, s1, p1⟩
    refine ⟨G, B0, H0, B1, ρ1, _, _, S1, q ρ1 p1, fun k B2 H2 S2 s2 q2 => ?_, fun cls d B' H' q' S' s => l.er cls d ρ1 σ1 B' H' S' (s1.trans s.bb) q'⟩
    cases k with
    | false => exact iteF (l.nx _ _ _ _ S2 (s1.trans s2.bb) ((if_neg Bool.false_ne_true).mp q2))
    | true =>
      refine iteT ⟨fun σ' H' => ∃ m', m' < μ ρ1 ∧ ∃ B' ρ', m' = μ ρ' ∧ Stt X.K G B0 H0 B' H' σ' ρ' ∧ Same B B' ∧ P ρ', fun σ' H' z => z, G, B0, H0, B2, ρ1, _, S2, (if_pos rfl).mp q2, ?_⟩
      have s12 := s1.trans s2.bb
      exact ⟨fun ρ' σ' B' H' S' s ⟨p', lt⟩ => ⟨_, lt, B', ρ', rfl, S', s12.trans s, p'⟩, fun ρ' σ' B' H' S' s q' => l.nx _ _ _ _ S' (s12.trans s) q', fun ρ' σ' B' H' S' s ⟨p', lt⟩ => ⟨_, lt, B', ρ', rfl, S', s12.trans s, p'⟩, l.rt,
        fun cls d ρ' σ' B' H' S' s q' => l.er cls d ρ' σ' B' H' S' (s12.trans s) q'⟩

/-! ### raise, try -/
def wRaise (C : Value) : SW := fun ρ E => E.er C ρ
theorem pds_raise {C : Addr} (tk : Takes X W) (h : PMk X e (fun _ H Q => Q (.ref C) none H)) (hc : X.calm = true) : PSD X W (.Raise (some e) none pos) (wRaise (.ref C)) := ps_imp (ps_raise hc tk h) fun D σ H ⟨G, B0, H0, B, ρ, E, S, q, l⟩ =>
  l.er _ _ _ _ _ _ S (Same.refl _) q

def W0 : WX := fun _ _ _ _ => False
/-- the clauses, one after the other -/
def wHand (K : Frag) : List (Value × SW) → DEnds → Value → Rho → Prop
  | [], E, cls, ρ => E.er cls ρ
  | (c, wh) :: r, E, cls, ρ => ∃ b, PySem.W.exmOne K cls c = some b ∧ (b = true → wh ρ { E with er := fun _ _ => False }) ∧ (b = false → wHand K r E cls ρ)
def wTry (K : Frag) (wb : SW) (hs : List (Value × SW)) : SW := fun ρ E => wb ρ { E with er := wHand K hs E }
def suites (K : Frag) (hs : List (Value × SW)) : List (Value × (Addr → Value → Option Addr → TS)) := hs.map fun p => (p.1, fun _ _ _ => TDs K W0 p.2)
theorem hand_ok {K : Frag} {G : Gh} {B0 H0 B B' H' : Hp} {E : DEnds} {D : Ends} {cls : Value} {d : Option Addr} {σ' : L2.St} {ρ' : Rho} (l : Links K W G B0 H0 B E D) (S : Stt K G B0 H0 B' H' σ' ρ') (s : Same B B') :
    ∀ hs : List (Value × SW), wHand K hs E cls ρ' → wMany K W D (suites K hs) cls d σ' H'
  | [], q => l.er cls d ρ' σ' B' H' S s q
  | (c, wh) :: r, ⟨b, e, h1, h2⟩ => ⟨b, e, fun z a ha => ⟨G, B0, H0, B', ρ', _, S, h1 z, ⟨(l.up s).nx, (l.up s).bk, (l.up s).ct, l.rt, fun _ _ _ _ _ _ _ _ q => q.elim⟩⟩, fun z => hand_ok l S s r (h2 z)⟩
theorem pds_try {body : List Stmt} {h₀ : ExceptHandler} {hds : List ExceptHandler} {hs : List (Value × SW)} (h1 : X.stack = X.env :: X.outer) (h2 : X.env.frame = some X.env.locals) (tk : Takes X W)
    (hb : ∀ (W' : WX) (pn : List (Addr × Obj)) (xe : Value → Shared → Prop), Takes (X.tr pn xe) W' → PassesOwn (model X.prog X.w) X.A X.env xe → PSDs (X.tr pn xe) W' body v)
    (hh : HdsOk X (h₀ :: hds) (suites X.K hs)) : PSD X W (.Try body (h₀ :: hds) [] [] pos) (wTry X.K v hs) :=
  ps_imp (ps_try_many (tb := fun W' => TDs X.K W' v) h1 h2 tk hb hh) fun D σ H ⟨G, B0, H0, B, ρ, E, S, q, l⟩ =>
    ⟨G, B0, H0, B, ρ, _, S, q, ⟨l.nx, l.bk, l.ct, l.rt, fun cls d ρ' σ' B' H' S' s q' => hand_ok l S' s hs q'⟩⟩
end

/-! ### defs -/
abbrev Ct := List R → (R → Prop) → (Value → Prop) → Prop
def spD (K : Frag) (c : Ct) : Sp := fun vs H Q E => ∃ (G : Gh) (F : Hp) (rs : List R) (Qd : R → Prop) (Qe : Value → Prop), Same F (hide G H) ∧ G.ok H ∧ RsAll K G H F H vs (rs.map peek) ∧ c (rs.map peek) Qd Qe ∧
  (∀ r x F' H', Stp G F H F' H' → Same F' (hide G H') → G.ok H' → Rs K G H F' H' x r → Qd r → Q x H') ∧ (∀ cls d F' H', Stp G F H F' H' → Same F' (hide G H') → G.ok H' → Qe cls → E cls d H')
theorem RsAll.length {K : Frag} {G : Gh} {H B' H' : Hp} : ∀ {xs : List V} {rs : List R}, RsAll K G H B' H' xs rs → xs.length = rs.length
  | _, _, .nil => rfl
  | _, _, .cons _ t => congrArg (· + 1) (RsAll.length t)
theorem peek_peek : ∀ r : R, peek (peek r) = peek r
  | .s _ => rfl
  | .l _ _ => rfl
  | .k _ _ => rfl
  | .t _ _ => rfl
  | .g => rfl
  | .h => rfl
  | .z _ => rfl
theorem owns_peek : ∀ r : R, owns (peek r) = false
  | .s _ => rfl
  | .l _ _ => rfl
  | .k _ _ => rfl
  | .t _ _ => rfl
  | .g => rfl
  | .h => rfl
  | .z _ => rfl
def rho (n : Nat) (rs : List R) : Rho := rs.map some ++ List.replicate (n - rs.length) none
theorem stt_start {K : Frag} {G : Gh} {F H : Hp} {N : List Str} {vs : List V} {rs : List R} (s : Same F (hide G H)) (g : G.ok H) (r : RsAll K G H F H vs (rs.map peek)) : Stt K G F H F H (L2.start N vs) (rho N.length (rs.map peek)) := by
  have hl := r.length
  refine ⟨by unfold L2.start rho; simp [hl], s, g, Stp.refl .., fun i u e => ?_, fun i j u v x _ e1 _ o _ _ _ => ?_⟩
  · have hi : i < (rs.map peek).length := by
      by_cases q : i < (rs.map peek).length
      · exact q
      · exfalso
        unfold rho at e
        rw [List.getElem?_append_right (by simpa using q)] at e
        have := List.mem_of_getElem? e
        have := List.eq_of_mem_replicate this
        cases this
    unfold rho at e
    rw [List.getElem?_append_left (by simpa using hi)] at e
    have e' : (rs.map peek)[i]? = some u := by
      rw [List.getElem?_map] at e
      cases q : (rs.map peek)[i]? with
      | none => rw [q] at e; cases e
      | some z => rw [q] at e; cases e; rfl
    obtain ⟨y, h1, h2⟩ := r.get e'
    refine ⟨y, ?_, ?_⟩
    · unfold L2.start
      rw [List.getElem?_append_left (by rw [List.length_map, hl]; exact hi), List.getElem?_map, h1]
      rfl
    · have eu : peek u = u := by
        rw [List.getElem?_map] at e'
        cases q : rs[i]? with
        | none => rw [q] at e'; cases e'
        | some z => rw [q] at e'; cases e'; exact peek_peek z
      rw [← eu] at h2 ⊢
      cases u with
      | s d => exact h2
      | l o ds => obtain ⟨p, xs, e1, e2, e3, _⟩ := h2; exact ⟨p, xs, e1, e2, e3⟩
      | k o ds => obtain ⟨p, xs, e1, e2, e3, _⟩ := h2; exact ⟨p, xs, e1, e2, e3⟩
      | t o ds => obtain ⟨p, xs, e1, e2, e3, _⟩ := h2; exact ⟨p, xs, e1, e2, e3⟩
      | g => exact h2
      | h => exact h2
      | z ds => exact h2
  · exfalso
    have hm : some u ∈ rho N.length (rs.map peek) := List.mem_of_getElem? e1
    unfold rho at hm
    rcases List.mem_append.mp hm with z | z
    · obtain ⟨a, h1, h2⟩ := List.mem_map.mp z
      obtain ⟨b, h3, h4⟩ := List.mem_map.mp h1
      cases h2
      rw [← h4, owns_peek] at o
      cases o
    · exact nomatch List.eq_of_mem_replicate z
theorem fnD {P : Program} {wd : World} {K : Frag} {mg : Str → Option Value} {base : Heap} {x qual : Str} {st : Stmt} {f : Addr} {fd : FuncData} {N ps : List Str} {k : Nat} {c : Ct} {w : SW} (F : Fun K x qual st f fd) (S : FnScope N ps (defScope st))
    (hlen : ∀ rs Q E, c rs Q E → rs.length = ps.length)
    (hb : ∀ (cdv : Value) (A : Around) (outer : List Env) (s : Shared) (H : Hp) (E : XK), Room k (A.deeper (envOfC qual (defScope st) s.heap.objs.size f cdv)) →
      PSDs (cxOf (L2.CX P wd) P wd K mg base N qual (defScope st) f cdv A outer s H E) (fun cls d _ H => E cls d H) (defBody st) w)
    (hw : ∀ rs Q E, c rs Q E → w (rho N.length rs) { nx := fun _ => Q (.s .none), rt := Q, er := fun cls _ => E cls }) : FnOk P wd K mg base (L2.CX P wd) (k + 1) f fd ps (spD K c) := by
  refine F.okX S (fun vs H Q E h => ?_) (fun cdv A outer s H vs Q E hr h => ?_)
  · obtain ⟨G, F', rs, Qd, Qe, _, _, h1, h2, _⟩ := h
    exact h1.length.trans (hlen _ _ _ h2)
  · obtain ⟨G, F', rs, Qd, Qe, s0, g0, h1, h2, ok, er⟩ := h
    refine ⟨_, hb cdv A outer s H E hr, G, F', H, F', _, _, stt_start s0 g0 h1, hw _ _ _ h2, ?_⟩
    exact ⟨fun ρ' σ' B' H' S' s q => ok (.s .none) .non B' H' S'.st S'.bh S'.gok .non q, fun _ _ _ _ _ _ q => q.elim, fun _ _ _ _ _ _ q => q.elim, fun r x B' H' s b g r' q => ok r x B' H' s b g r' q, fun cls d ρ' σ' B' H' S' s q => er cls d B' H' S'.st S'.bh S'.gok q⟩

/-! ### a call -/
def wCall (c : Ct) (ws : AW) : EW := fun ρ Q E => ws ρ (fun rs => c (rs.map peek) Q E) E
theorem RsAll.peek {K : Frag} {G : Gh} {H H1 B' H' : Hp} : ∀ {xs : List V} {rs : List R}, RsAll K G H B' H' xs rs → RsAll K G H1 B' H' xs (rs.map DL.peek)
  | _, _, .nil => .nil
  | _, _, .cons (r := r) h t => .cons (by
    cases r with
    | s d => exact h
    | l o ds => obtain ⟨p, xs, e1, e2, e3, _⟩ := h; exact ⟨p, xs, e1, e2, e3, fun z => by cases z⟩
    | k o ds => obtain ⟨p, xs, e1, e2, e3, _⟩ := h; exact ⟨p, xs, e1, e2, e3, fun z => by cases z⟩
    | t o ds => obtain ⟨p, xs, e1, e2, e3, _⟩ := h; exact ⟨p, xs, e1, e2, e3, fun z => by cases z⟩
    | g => exact h
    | h => exact h
    | z ds => exact h) (RsAll.peek t)
theorem pd_call {X : Cx} {W : WX} {e : Expr} {c : Ct} {ws : AW} (h : PE X e (tCallS (spD X.K c) (WE W) (TDa X.K W ws))) : PD X W e (wCall c ws) :=
  pe_imp h fun σ H Q ⟨G, B0, H0, B, ρ, Qd, Qe, S, q, ok, er⟩ => by
    refine ⟨G, B0, H0, B, ρ, _, Qe, S, q, fun rs xs B1 H1 S1 s1 r1 _ q1 => ?_, er⟩
    exact ⟨G, B1, rs, Qd, Qe, S1.bh, S1.gok, r1.peek, q1, fun r x F' H' s b g r' q' => ok r x F' H' (S1.step s b g) (s1.trans s) (r'.from s1) q', fun cls d F' H' s b g q' => er cls d F' H' q' (S1.step s b g) (s1.trans s)⟩
end DL

set_option Elab.async false
set_option linter.all false
set_option maxRecDepth 100000
/-! The data layer: what is walked; for; comprehensions. -/
namespace DL
open PySem PySem.Spec PyProof.Rows L2

/-- what an iterator gives, as long as Later holds -/
structure ItD (K : Frag) (G : Gh) (Later : Hp → Hp → Prop) (J : It) (ds : List D) : Prop where
  go : ∀ i B H, Later B H → i < ds.length → J.go i H
  stop : ∀ B H, Later B H → J.stop ds.length H
  yld : ∀ i B H x H', Later B H → i < ds.length → J.yld i H x H' → ∃ d B', ds[i]? = some d ∧ Dp K B' x d ∧ Stp G B H B' H' ∧ Same B' (hide G H') ∧ G.ok H'
/-- later in an expression; later in a def's body -/
def LatC (G : Gh) (B1 H1 B H : Hp) : Prop := Stp G B1 H1 B H ∧ Same B (hide G H) ∧ G.ok H
def LatF (G : Gh) (B0 H0 B1 B H : Hp) : Prop := Same B1 B ∧ Same B (hide G H) ∧ G.ok H ∧ Stp G B0 H0 B H
abbrev IW := Rho → (List D → Prop) → (Value → Prop) → Prop
def TDiC (K : Frag) (W : WX) (w : IW) : TI := fun σ H Q => ∃ (G : Gh) (B0 H0 B : Hp) (ρ : Rho) (Qd : List D → Prop) (Qe : Value → Prop), Stt K G B0 H0 B H σ ρ ∧ w ρ Qd Qe ∧
  (∀ ds J B' H', Stt K G B0 H0 B' H' σ ρ → Stp G B H B' H' → ItD K G (LatC G B' H') J ds → Qd ds → Q J H') ∧ (∀ cls d B' H', Qe cls → Stt K G B0 H0 B' H' σ ρ → Stp G B H B' H' → W cls d σ H')
def TDiF (K : Frag) (W : WX) (w : IW) : TI := fun σ H Q => ∃ (G : Gh) (B0 H0 B : Hp) (ρ : Rho) (Qd : List D → Prop) (Qe : Value → Prop), Stt K G B0 H0 B H σ ρ ∧ w ρ Qd Qe ∧
  (∀ ds J B' H', Stt K G B0 H0 B' H' σ ρ → Stp G B H B' H' → ItD K G (LatF G B0 H0 B') J ds → Qd ds → Q J H') ∧ (∀ cls d B' H', Qe cls → Stt K G B0 H0 B' H' σ ρ → Stp G B H B' H' → W cls d σ H')
abbrev PIC (X : Cx) (W : WX) (tg e : Expr) (w : IW) : Prop := PI X tg e (TDiC X.K W w)
abbrev PIF (X : Cx) (W : WX) (tg e : Expr) (w : IW) : Prop := PI X tg e (TDiF X.K W w)
theorem pi_imp {X : Cx} {tg e : Expr} {t t' : TI} (h : PI X tg e t) (i : ∀ σ H Q, t' σ H Q → t σ H Q) : PI X tg e t' := ⟨fun pins s σ H Q I q => h.run pins s σ H Q I (i _ _ _ q)⟩
/-- a list or a tuple -/
def iAny (K : Frag) (tl : TE) : TI := fun σ H R => tl σ H fun x H1 => ∃ a, x = .ref a ∧ (((∃ xs, SqL K H1 a xs) ∧ R (Itl K a) H1) ∨ ((∃ xs, SqT K H1 a xs) ∧ R (Itt K a) H1))
theorem pi_any {X : Cx} {tg l : Expr} {tl : TE} (hl : PE X l tl) : PI X tg l (iAny X.K tl) := by
  refine ⟨fun pins s σ H R I h => ?_⟩
  refine thn (hl.run pins s σ H _ I h) fun v s1 ⟨x, H1, I1, r1, q1⟩ => ?_
  obtain ⟨a, e, q1⟩ := q1
  subst e
  cases r1
  have fp : ∀ b ∈ [s1.heap.objs.size], FpOk X pins H1 b := fun b hb => by
    have e : b = s1.heap.objs.size := by simpa using hb
    subst e
    exact I1.fpOk (Nat.le_refl _) (I1.hok.fresh (Nat.le_refl _))
  rcases q1 with ⟨⟨xs, hq⟩, q⟩ | ⟨⟨xs, hq⟩, q⟩
  · obtain ⟨its, rv, p, hz⟩ := I1.list hq
    refine wpAny_pyIter_list p.isList ?_
    exact ⟨s1.heap.objs.size, [s1.heap.objs.size], _, _, H1, rfl, I1.kept (t' := s1.toks) fun b o e => Heap.get?_push_of_some _ e, turn_list a _, ⟨_, Heap.get?_push_size _ rfl, rfl, rfl⟩, fp, q⟩
  · obtain ⟨its, rv, p, hz⟩ := I1.tuple hq
    refine wpAny_pyIter_tuple (show s1.heap.IsTuple a its.toArray from p) ?_
    exact ⟨s1.heap.objs.size, [s1.heap.objs.size], _, _, H1, rfl, I1.kept (t' := s1.toks) fun b o e => Heap.get?_push_of_some _ e, turn_tuple a _, ⟨_, Heap.get?_push_size _ rfl, rfl, rfl⟩, fp, q⟩
section
variable {K : Frag} {G : Gh} {Later : Hp → Hp → Prop}
theorem itd_list {a : Addr} {xs : List V} {ds : List D} (h : ∀ B H, Later B H → SqL K H a xs ∧ DpAll K B xs ds ∧ Same B (hide G H) ∧ G.ok H) : ItD K G Later (Itl K a) ds := by
  refine ⟨fun i B H l hi => ?_, fun B H l => ?_, fun i B H x H' l hi y => ?_⟩
  · obtain ⟨h1, h2, _⟩ := h B H l
    have : i < xs.length := by rw [h2.length]; exact hi
    exact ⟨xs, xs[i], h1, by simp [this]⟩
  · obtain ⟨h1, h2, _⟩ := h B H l
    exact ⟨xs, h1, by rw [h2.length]; exact Nat.le_refl _⟩
  · obtain ⟨h1, h2, h3, h4⟩ := h B H l
    obtain ⟨rfl, y⟩ := y
    obtain ⟨d, e1, e2⟩ := h2.get' (y xs h1)
    exact ⟨d, B, e1, e2, Stp.refl .., h3, h4⟩
theorem itd_tup {a : Addr} {xs : List V} {ds : List D} (h : ∀ B H, Later B H → SqT K H a xs ∧ DpAll K B xs ds ∧ Same B (hide G H) ∧ G.ok H) : ItD K G Later (Itt K a) ds := by
  refine ⟨fun i B H l hi => ?_, fun B H l => ?_, fun i B H x H' l hi y => ?_⟩
  · obtain ⟨h1, h2, _⟩ := h B H l
    have : i < xs.length := by rw [h2.length]; exact hi
    exact ⟨xs, xs[i], h1, by simp [this]⟩
  · obtain ⟨h1, h2, _⟩ := h B H l
    exact ⟨xs, h1, by rw [h2.length]; exact Nat.le_refl _⟩
  · obtain ⟨h1, h2, h3, h4⟩ := h B H l
    obtain ⟨rfl, y⟩ := y
    obtain ⟨d, e1, e2⟩ := h2.get' (y xs h1)
    exact ⟨d, B, e1, e2, Stp.refl .., h3, h4⟩
def rangeD (lo : Int) (n : Nat) : List D := (List.range n).map fun k : Nat => PyData.int (lo + (k : Int))
theorem itd_range {lo : Int} {n : Nat} (h : ∀ B H, Later B H → Same B (hide G H) ∧ G.ok H) : ItD K G Later (Itr lo n) (rangeD lo n) := by
  have hl : (rangeD lo n).length = n := by simp [rangeD]
  refine ⟨fun i B H l hi => by rw [hl] at hi; exact hi, fun B H l => by rw [hl]; exact Nat.le_refl _, fun i B H x H' l hi y => ?_⟩
  obtain ⟨h3, h4⟩ := h B H l
  obtain ⟨rfl, rfl⟩ := y
  rw [hl] at hi
  exact ⟨.int (lo + i), B, by simp [rangeD, hi], .int _, Stp.refl .., h3, h4⟩
end
def wSeqC (w : EW) : IW := fun ρ Q E => w ρ (fun r => ∃ ds, r.seq = some ds ∧ Q ds) E
/-- a list or tuple that stands for good -/
def R.stab : R → Option (List D)
  | .s (.list xs) => some xs
  | .s (.tuple xs) => some xs
  | _ => none
def wSeqF (w : EW) : IW := fun ρ Q E => w ρ (fun r => ∃ ds, r.stab = some ds ∧ Q ds) E
section
variable {X : Cx} {W : WX} {tg e a b : Expr} {w : EW} {ws : AW} {wi : IW}
theorem pic_seq (h : PD X W e w) : PIC X W tg e (wSeqC w) := pi_imp (pi_any h) fun σ H Q ⟨G, B0, H0, B, ρ, Qd, Qe, S, q, ok, er⟩ => by
  refine ⟨G, B0, H0, B, ρ, _, Qe, S, q, fun r x B' H' S' s r' q' => ?_, er⟩
  obtain ⟨ds, e1, q'⟩ := q'
  cases r with
  | s d =>
    cases d with
    | list es =>
      cases e1
      cases (show Dp X.K B' x (.list ds) from r') with
      | lst h1 h2 =>
        exact ⟨_, rfl, .inl ⟨⟨_, Same.sqL (S'.bh.trans (hide_le H')) h1⟩, ok _ _ _ _ S' s (itd_list fun B2 H2 ⟨l1, l2, l3⟩ => ⟨Same.sqL (l2.trans (hide_le H2)) (Same.sqL l1.bb h1), DpAll.mono l1.bb h2, l2, l3⟩) q'⟩⟩
    | tuple es =>
      cases e1
      cases (show Dp X.K B' x (.tuple ds) from r') with
      | tup h1 h2 =>
        exact ⟨_, rfl, .inr ⟨⟨_, Same.sqT (S'.bh.trans (hide_le H')) h1.t⟩, ok _ _ _ _ S' s (itd_tup fun B2 H2 ⟨l1, l2, l3⟩ => ⟨Same.sqT (l2.trans (hide_le H2)) (Same.sqT l1.bb h1.t), DpAll.mono l1.bb h2, l2, l3⟩) q'⟩⟩
    | _ => cases e1
  | l own es =>
    cases e1
    obtain ⟨p, xs, rfl, h1, h2, _⟩ := r'
    exact ⟨p, rfl, .inl ⟨⟨xs, .inl (.inl (hide_some h1).2)⟩, ok _ _ _ _ S' s (itd_list fun B2 H2 ⟨l1, l2, l3⟩ => ⟨.inl (.inl (hide_some (l1.hh _ _ h1)).2), DpAll.mono l1.bb h2, l2, l3⟩) q'⟩⟩
  | _ => cases e1
theorem pif_seq (h : PD X W e w) : PIF X W tg e (wSeqF w) := pi_imp (pi_any h) fun σ H Q ⟨G, B0, H0, B, ρ, Qd, Qe, S, q, ok, er⟩ => by
  refine ⟨G, B0, H0, B, ρ, _, Qe, S, q, fun r x B' H' S' s r' q' => ?_, er⟩
  obtain ⟨ds, e1, q'⟩ := q'
  cases r with
  | s d =>
    cases d with
    | list es =>
      cases e1
      cases (show Dp X.K B' x (.list ds) from r') with
      | lst h1 h2 =>
        exact ⟨_, rfl, .inl ⟨⟨_, Same.sqL (S'.bh.trans (hide_le H')) h1⟩, ok _ _ _ _ S' s (itd_list fun B2 H2 ⟨l1, l2, l3, _⟩ => ⟨Same.sqL (l2.trans (hide_le H2)) (Same.sqL l1 h1), DpAll.mono l1 h2, l2, l3⟩) q'⟩⟩
    | tuple es =>
      cases e1
      cases (show Dp X.K B' x (.tuple ds) from r') with
      | tup h1 h2 =>
        exact ⟨_, rfl, .inr ⟨⟨_, Same.sqT (S'.bh.trans (hide_le H')) h1.t⟩, ok _ _ _ _ S' s (itd_tup fun B2 H2 ⟨l1, l2, l3, _⟩ => ⟨Same.sqT (l2.trans (hide_le H2)) (Same.sqT l1 h1.t), DpAll.mono l1 h2, l2, l3⟩) q'⟩⟩
    | _ => cases e1
  | _ => cases e1
/-- a parameter that is a list -/
def wParF (i : Nat) : IW := fun ρ Q _ => ∃ ds, ρ[i]? = some (some (.l false ds)) ∧ Q ds
theorem pif_par {i : Nat} (h : PE X e (tVar i)) : PIF X W tg e (wParF i) := pi_imp (pi_any h) fun σ H Q ⟨G, B0, H0, B, ρ, Qd, Qe, S, ⟨ds, e1, q⟩, ok, er⟩ => by
  obtain ⟨x, e2, ⟨p, xs, ex, h1, h2⟩⟩ := S.sl i _ e1
  subst ex
  exact ⟨_, e2, p, rfl, .inl ⟨⟨xs, .inl (.inl (hide_some (S.st.hh _ _ h1)).2)⟩, ok _ _ _ _ S (Stp.refl ..) (itd_list fun B2 H2 ⟨l1, l2, l3, l4⟩ => ⟨.inl (.inl (hide_some (l4.hh _ _ h1)).2), DpAll.mono l1 h2, l2, l3⟩) q⟩⟩
/-- range(n), range(a, b) -/
def wRange1 (ws : AW) : IW := fun ρ Q E => ws ρ (fun rs => ∃ n, rs = [.s (.int n)] ∧ -(2 ^ 62) ≤ n ∧ n < 2 ^ 62 ∧ Q (rangeD 0 n.toNat)) E
def wRange2 (ws : AW) : IW := fun ρ Q E => ws ρ (fun rs => ∃ m n, rs = [.s (.int m), .s (.int n)] ∧ (-(2 ^ 62) ≤ m ∧ m < 2 ^ 62 ∧ -(2 ^ 62) ≤ n ∧ n < 2 ^ 62) ∧ Q (rangeD m (n - m).toNat)) E
theorem pic_range1 (h : PI X tg e (iRng1 (TDa X.K W ws))) : PIC X W tg e (wRange1 ws) := pi_imp h fun σ H Q ⟨G, B0, H0, B, ρ, Qd, Qe, S, q, ok, er⟩ => by
  refine ⟨G, B0, H0, B, ρ, _, Qe, S, q, fun rs xs B' H' S' s r' _ q' => ?_, er⟩
  obtain ⟨n, rfl, h1, h2, q'⟩ := q'
  obtain ⟨x, rfl, r1⟩ := r'.one
  cases r1.int
  exact ⟨n, rfl, h1, h2, ok _ _ _ _ S' s (itd_range fun B2 H2 ⟨_, l2, l3⟩ => ⟨l2, l3⟩) q'⟩
theorem pic_range2 (h : PI X tg e (iRng2 (TDa X.K W ws))) : PIC X W tg e (wRange2 ws) := pi_imp h fun σ H Q ⟨G, B0, H0, B, ρ, Qd, Qe, S, q, ok, er⟩ => by
  refine ⟨G, B0, H0, B, ρ, _, Qe, S, q, fun rs xs B' H' S' s r' _ q' => ?_, er⟩
  obtain ⟨m, n, rfl, h1, q'⟩ := q'
  obtain ⟨x, y, rfl, r1, r2⟩ := r'.two
  cases r1.int; cases r2.int
  exact ⟨m, n, rfl, h1, ok _ _ _ _ S' s (itd_range fun B2 H2 ⟨_, l2, l3⟩ => ⟨l2, l3⟩) q'⟩
theorem pif_range1 (h : PI X tg e (iRng1 (TDa X.K W ws))) : PIF X W tg e (wRange1 ws) := pi_imp h fun σ H Q ⟨G, B0, H0, B, ρ, Qd, Qe, S, q, ok, er⟩ => by
  refine ⟨G, B0, H0, B, ρ, _, Qe, S, q, fun rs xs B' H' S' s r' _ q' => ?_, er⟩
  obtain ⟨n, rfl, h1, h2, q'⟩ := q'
  obtain ⟨x, rfl, r1⟩ := r'.one
  cases r1.int
  exact ⟨n, rfl, h1, h2, ok _ _ _ _ S' s (itd_range fun B2 H2 ⟨_, l2, l3, _⟩ => ⟨l2, l3⟩) q'⟩
theorem pif_range2 (h : PI X tg e (iRng2 (TDa X.K W ws))) : PIF X W tg e (wRange2 ws) := pi_imp h fun σ H Q ⟨G, B0, H0, B, ρ, Qd, Qe, S, q, ok, er⟩ => by
  refine ⟨G, B0, H0, B, ρ, _, Qe, S, q, fun rs xs B' H' S' s r' _ q' => ?_, er⟩
  obtain ⟨m, n, rfl, h1, q'⟩ := q'
  obtain ⟨x, y, rfl, r1, r2⟩ := r'.two
  cases r1.int; cases r2.int
  exact ⟨m, n, rfl, h1, ok _ _ _ _ S' s (itd_range fun B2 H2 ⟨_, l2, l3, _⟩ => ⟨l2, l3⟩) q'⟩

/-! ### for -/
def wFor (wi : IW) (g : GW) (v : SW) : SW := fun ρ E => wi ρ (fun ds => ∃ P : Nat → Rho → Prop, P 0 ρ ∧ (∀ i d ρ', ds[i]? = some d → P i ρ' → g d ρ' fun ρ2 => v ρ2 { E with nx := P (i + 1), ct := P (i + 1), bk := E.nx }) ∧
  ∀ ρ', P ds.length ρ' → E.nx ρ') (fun cls => E.er cls ρ)
theorem pds_for {g : GW} {v : SW} {st : Stmt} (h : PS X st (tFor (TDiF X.K W wi) (TDg X.K g) (TDs X.K W v))) : PSD X W st (wFor wi g v) := ps_imp h fun D σ H ⟨G, B0, H0, B, ρ, E, S, q, l⟩ => by
  refine ⟨G, B0, H0, B, ρ, _, _, S, q, fun ds J B1 H1 S1 s1 it ⟨P, p0, turn, done⟩ => ?_, fun cls d B' H' q' S' s => l.er cls d ρ σ B' H' S' s.bb q'⟩
  refine ⟨fun i m σ H => m = ds.length - i ∧ i ≤ ds.length ∧ ∃ B' ρ', Stt X.K G B0 H0 B' H σ ρ' ∧ Same B1 B' ∧ P i ρ', ⟨_, rfl, Nat.zero_le _, B1, ρ, S1, Same.refl _, p0⟩, ?_⟩
  rintro i m σ2 H2 ⟨rfl, hi, B2, ρ2, S2, s2, p2⟩
  have lat : LatF G B0 H0 B1 B2 H2 := ⟨s2, S2.bh, S2.gok, S2.st⟩
  by_cases hlt : i < ds.length
  · refine .inr ⟨it.go i _ _ lat hlt, fun σ' H' => i + 1 ≤ ds.length ∧ ∃ B' ρ', Stt X.K G B0 H0 B' H' σ' ρ' ∧ Same B1 B' ∧ P (i + 1) ρ', fun σ' H' ⟨z1, z2⟩ => ⟨ds.length - (i + 1), by omega, rfl, z1, z2⟩, fun x H' y => ?_⟩
    obtain ⟨d, B3, e1, e2, s3, b3, g3⟩ := it.yld i _ _ x H' lat hlt y
    have S3 := S2.step s3 b3 g3
    refine ⟨G, B0, H0, B3, ρ2, d, _, S3, e2, turn i d ρ2 e1 p2, fun ρ4 σ4 B4 H4 S4 s4 q4 => ⟨G, B0, H0, B4, ρ4, _, S4, q4, ?_⟩⟩
    have s14 := (s2.trans s3.bb).trans s4
    have s04 := s1.bb.trans s14
    exact ⟨fun ρ' σ' B' H' S' s q' => ⟨hlt, B', ρ', S', s14.trans s, q'⟩, fun ρ' σ' B' H' S' s q' => l.nx _ _ _ _ S' (s04.trans s) q', fun ρ' σ' B' H' S' s q' => ⟨hlt, B', ρ', S', s14.trans s, q'⟩, l.rt, fun cls d ρ' σ' B' H' S' s q' => l.er cls d ρ' σ' B' H' S' (s04.trans s) q'⟩
  · have e : i = ds.length := by omega
    subst e
    exact .inl ⟨it.stop _ _ lat, l.nx _ _ _ _ S2 (s1.bb.trans s2) (done ρ2 p2)⟩
end
end DL

set_option Elab.async false
set_option linter.all false
set_option maxRecDepth 100000
/-! The data layer: comprehensions, built-ins. -/
namespace DL
open PySem PySem.Spec PyProof.Rows L2

def wipeR (ρ : Rho) : List Nat → Rho
  | [] => ρ
  | v :: vs => (wipeR ρ vs).set v none
/-- the targets of a comprehension: names, their slots -/
def putA (ρ : Rho) : List Nat → List D → Rho
  | i :: is, d :: ds => putA (ρ.set i (some (.s d))) is ds
  | _, _ => ρ
def putV (σ : L2.St) : List Nat → List V → L2.St
  | i :: is, x :: xs => putV (σ.set i (some x)) is xs
  | _, _ => σ
section
variable {K : Frag} {G : Gh} {B0 H0 B H B' H' : Hp} {σ : L2.St} {ρ : Rho}
theorem wipe_set {σ : L2.St} {i : Nat} {o : Option V} : ∀ {vs : List Nat}, i ∈ vs → wipe (σ.set i o) vs = wipe σ vs
  | [], h => nomatch h
  | v :: vs, h => by
    show (wipe (σ.set i o) vs).set v none = (wipe σ vs).set v none
    by_cases q : i ∈ vs
    · rw [wipe_set q]
    · have e : i = v := by
        rcases List.mem_cons.mp h with h | h
        · exact h
        · exact absurd h q
      subst e
      have key : ∀ (ws : List Nat), i ∉ ws → wipe (σ.set i o) ws = (wipe σ ws).set i o := by
        intro ws
        induction ws with
        | nil => intro _; rfl
        | cons w ws ih =>
          intro h
          have h1 : i ≠ w := fun e => h (e ▸ List.mem_cons_self)
          have h2 : i ∉ ws := fun e => h (List.mem_cons_of_mem _ e)
          show (wipe (σ.set i o) ws).set w none = ((wipe σ ws).set w none).set i o
          rw [ih h2, List.set_comm _ _ h1]
      rw [key vs q, List.set_set]
theorem wipe_wipe {σ : L2.St} {vs : List Nat} : ∀ ws : List Nat, (∀ i ∈ ws, i ∈ vs) → wipe (wipe σ ws) vs = wipe σ vs
  | [], _ => rfl
  | w :: ws, h => by
    show wipe ((wipe σ ws).set w none) vs = wipe σ vs
    rw [wipe_set (h w List.mem_cons_self), wipe_wipe ws fun i hi => h i (List.mem_cons_of_mem _ hi)]
theorem wipe_putV {σ : L2.St} {vs : List Nat} : ∀ (is : List Nat) (xs : List V) (τ : L2.St), wipe τ vs = wipe σ vs → (∀ i ∈ is, i ∈ vs) → wipe (putV τ is xs) vs = wipe σ vs
  | [], _, τ, h, _ => h
  | _ :: _, [], τ, h, _ => h
  | i :: is, x :: xs, τ, h, hi => wipe_putV is xs _ (by rw [wipe_set (hi i List.mem_cons_self)]; exact h) fun j hj => hi j (List.mem_cons_of_mem _ hj)
theorem Stt.wipe (S : Stt K G B0 H0 B H σ ρ) : ∀ vs : List Nat, Stt K G B0 H0 B H (L2.wipe σ vs) (wipeR ρ vs)
  | [] => S
  | v :: vs => by
    have T := Stt.wipe S vs
    show Stt K G B0 H0 B H ((L2.wipe σ vs).set v none) ((wipeR ρ vs).set v none)
    refine ⟨by simp [T.len], T.bh, T.gok, T.st, fun i r e => ?_, fun i j r u x hij e1 e2 o1 o2 e3 e4 => ?_⟩
    · by_cases q : i = v
      · subst q
        by_cases z : i < (wipeR ρ vs).length
        · rw [List.getElem?_set_self z] at e; cases e
        · rw [List.getElem?_eq_none (by simpa using z)] at e; cases e
      · rw [List.getElem?_set_ne (Ne.symm q)] at e ⊢
        exact T.sl i r e
    · have ne : ∀ {k : Nat} {w : R}, ((wipeR ρ vs).set v none)[k]? = some (some w) → k ≠ v := fun {k w} e q => by
        subst q
        by_cases z : k < (wipeR ρ vs).length
        · rw [List.getElem?_set_self z] at e; cases e
        · rw [List.getElem?_eq_none (by simpa using z)] at e; cases e
      have n1 := ne e1
      have n2 := ne e2
      rw [List.getElem?_set_ne (Ne.symm n1)] at e1 e3
      rw [List.getElem?_set_ne (Ne.symm n2)] at e2 e4
      exact T.dis i j r u x hij e1 e2 o1 o2 e3 e4
theorem Stt.putA : ∀ (is : List Nat) {xs : List V} {ds : List D} {σ : L2.St} {ρ : Rho}, Stt K G B0 H0 B H σ ρ → DpAll K B xs ds → (∀ i ∈ is, i < ρ.length) → Stt K G B0 H0 B H (putV σ is xs) (DL.putA ρ is ds)
  | [], _, _, _, _, S, _, _ => S
  | _ :: _, _, _, _, _, S, .nil, _ => S
  | i :: is, _, _, _, _, S, .cons h t, hi => Stt.putA is (S.put (r := .s _) rfl h i (hi i List.mem_cons_self)) t fun j hj => by
    rw [List.length_set]; exact hi j (List.mem_cons_of_mem _ hj)
/-- an object beside the slots is written -/
theorem Stt.side {p : Addr} {o : HO} (S : Stt K G B0 H0 B H σ ρ) (hb : B p = none) (hg : p ∉ G.at_) (h0 : hide G H0 p = none) (aw : ∀ (j : Nat) (r : R), ρ[j]? = some (some r) → owns r = true → σ[j]? ≠ some (some (.ref p))) :
    Stt K G B0 H0 B (upd H p o) σ ρ := by
  have hu : hide G (upd H p o) = upd (hide G H) p o := hide_upd hg
  refine ⟨S.len, fun b v e => by rw [hu, upd_ne (ne_of_none e hb)]; exact S.bh _ _ e, ghost_upd hg S.gok, ⟨S.st.bb, fun b v e => by rw [hu, upd_ne (ne_of_none e h0)]; exact S.st.hh _ _ e, S.st.nw⟩, fun j v e => ?_, S.dis⟩
  obtain ⟨y, g1, g2⟩ := S.sl j v e
  refine ⟨y, g1, ?_⟩
  have ne : ∀ q, y = .ref q → owns v = true → q ≠ p := fun q ey ov eqp => by
    subst ey; subst eqp
    exact aw j v e ov g1
  match v, g2, ne with
  | .s d, g2, _ => exact g2
  | .l false ds, g2, _ => exact g2
  | .l true ds, ⟨q, xs, e, k1, k2, k3, k4, k5⟩, ne => exact ⟨q, xs, e, by rw [upd_ne (ne q e rfl)]; exact k1, k2, k3, k4, k5⟩
  | .k false ds, g2, _ => exact g2
  | .k true ds, ⟨q, xs, e, k1, k2, k3, k4, k5⟩, ne => exact ⟨q, xs, e, by rw [upd_ne (ne q e rfl)]; exact k1, k2, k3, k4, k5⟩
  | .t false ds, g2, _ => exact g2
  | .t true ds, ⟨q, xs, e, k1, k2, k3, k4, k5⟩, ne => exact ⟨q, xs, e, by rw [upd_ne (ne q e rfl)]; exact k1, k2, k3, k4, k5⟩
  | .g, g2, _ => exact g2
  | .h, g2, _ => exact g2
  | .z ds, g2, _ => exact g2
end

/-! ### comprehensions -/
/-- a target that is one name, or a tuple of names -/
def gNames : List Nat → TGs
  | [] => gNil
  | i :: is => gCons (gName i) (gNames is)
def gwNames (tup : Bool) (is : List Nat) (d : D) (Q : List D → Prop) : Prop := if tup = true then ∃ ds, d = .tuple ds ∧ ds.length = is.length ∧ Q ds else Q [d]
def gC (K : Frag) (tup : Bool) (is : List Nat) : TG := match tup with
  | true => gTup K is.length (gNames is)
  | false => match is with
    | [i] => gName i
    | _ => fun _ _ _ _ => False
theorem gNames_ok : ∀ (is : List Nat) (xs : List V) (σ : L2.St) (H : Hp) (Q : L2.St → Hp → Prop), xs.length = is.length → Q (putV σ is xs) H → gNames is xs σ H Q
  | [], [], _, _, _, _, q => ⟨rfl, q⟩
  | [], _ :: _, _, _, _, e, _ => by cases e
  | _ :: _, [], _, _, _, e, _ => by cases e
  | i :: is, x :: xs, σ, H, Q, e, q => ⟨x, xs, rfl, gNames_ok is xs _ H Q (by simpa using e) q⟩
abbrev PDts (X : Cx) (ifs : List Expr) (wt : TW) : Prop := PTs X ifs (TDt X.K W0 wt)
def wYes : TW := fun _ Q _ => Q true
theorem pts_imp {X : Cx} {ifs : List Expr} {t t' : TT} (h : PTs X ifs t) (i : ∀ σ H Q, t' σ H Q → t σ H Q) : PTs X ifs t' := ⟨fun pins s σ H Q I q => h.run pins s σ H Q I (i _ _ _ q)⟩
theorem pdts_nil {X : Cx} : PDts X [] wYes := pts_imp pts_nil fun σ H Q ⟨G, B0, H0, B, ρ, Qd, Qe, S, q, ok, er⟩ => ok true _ _ S (Stp.refl ..) q
theorem pdts_one {X : Cx} {c : Expr} {wt : TW} (h : PDt X W0 c wt) : PDts X [c] wt := pts_one h
/-- [elt for names in wi if wt] -/
def wLc (wi : IW) (tup : Bool) (is vs : List Nat) (wt : TW) (we : EW) : EW := fun ρ Q E => wi ρ (fun ds => ∃ P : Nat → List D → Prop, P 0 [] ∧
  (∀ k acc d, ds[k]? = some d → P k acc → gwNames tup is d fun es => (∀ i ∈ is, i < ρ.length) ∧ wt (putA (wipeR ρ vs) is es) (fun b => if b = true then we (putA (wipeR ρ vs) is es) (fun r => ∃ z, r.dat = some z ∧ acc.length < 16777216 ∧ P (k + 1) (acc ++ [z])) (fun _ => False) else P (k + 1) acc) (fun _ => False)) ∧
  ∀ acc, P ds.length acc → Q (.l true acc)) E
theorem wipeR_length (ρ : Rho) : ∀ vs : List Nat, (wipeR ρ vs).length = ρ.length
  | [] => rfl
  | v :: vs => by unfold wipeR; rw [List.length_set, wipeR_length ρ vs]
theorem lc_core_d {K : Frag} {W : WX} {wi : IW} {tup : Bool} {is vs : List Nat} {wt : TW} {we : EW} (hsub : ∀ i ∈ is, i ∈ vs) (h1 : tup = true ∨ ∃ i, is = [i]) :
    ∀ σ H Q, TDe K W (wLc wi tup is vs wt we) σ H Q → tLc (TDiC K W wi) (gC K tup is) (TDt K W0 wt) (TDe K W0 we) vs σ H Q := by
  rintro σ H Q ⟨G, B0, H0, B, ρ, Qd, Qe, S, q, ok, er⟩
  refine ⟨G, B0, H0, B, ρ, _, Qe, S, q, fun ds J B1 H1 S1 s1 it ⟨P, p0, turn, done⟩ => ?_, er⟩
  intro Dl hD
  have dG : Dl ∉ G.at_ := S1.notG hD
  have d0 : hide G H0 Dl = none := S1.st.hh.free (hide_free hD)
  have dS : hide G H Dl = none := s1.hh.free (hide_free hD)
  have aw : ∀ (j : Nat) (r : R), ρ[j]? = some (some r) → owns r = true → σ[j]? ≠ some (some (.ref Dl)) := fun j r e1 o e2 => by
    obtain ⟨x, f1, f2⟩ := S1.sl j r e1
    rw [e2] at f1; cases f1
    obtain ⟨p, u, ep, k1, _⟩ := f2.own o
    cases ep
    rw [hD] at k1; cases k1
  refine ⟨fun i m H => m = ds.length - i ∧ i ≤ ds.length ∧ ∃ (B' : Hp) (av : List V) (acc : List D), Stt K G B0 H0 B' H σ ρ ∧ Stp G B1 H1 B' H ∧ H Dl = some (.lst av) ∧ DpAll K B' av acc ∧ B' Dl = none ∧ P i acc,
    ⟨_, rfl, Nat.zero_le _, B1, [], [], S1.new hD, Stp.new hD, upd_same, .nil, S1.freeB hD, p0⟩, ?_⟩
  rintro i m H2 ⟨rfl, hi, B2, av, acc, S2, s2, hd, ha, hb, p2⟩
  have lat : LatC G B1 H1 B2 H2 := ⟨s2, S2.bh, S2.gok⟩
  by_cases hlt : i < ds.length
  · refine .inr ⟨it.go i _ _ lat hlt, fun H' => i + 1 ≤ ds.length ∧ ∃ (B' : Hp) (av : List V) (acc : List D), Stt K G B0 H0 B' H' σ ρ ∧ Stp G B1 H1 B' H' ∧ H' Dl = some (.lst av) ∧ DpAll K B' av acc ∧ B' Dl = none ∧ P (i + 1) acc, fun H' ⟨z1, z2⟩ => ⟨ds.length - (i + 1), by omega, rfl, z1, z2⟩, fun x H3 y => ?_⟩
    obtain ⟨d, B3, e1, e2, s3, b3, g3⟩ := it.yld i _ _ x H3 lat hlt y
    have S3 := S2.step s3 b3 g3
    have trk : hide G H2 Dl = some (.lst av) := by rw [hide_out dG]; exact hd
    have q3 := turn i acc d e1 p2
    have fin : ∀ (xs : List V) (es : List D), DpAll K B3 xs es → (∀ i ∈ is, i < ρ.length) → wt (putA (wipeR ρ vs) is es) (fun b => if b = true then we (putA (wipeR ρ vs) is es) (fun r => ∃ z, r.dat = some z ∧ acc.length < 16777216 ∧ P (i + 1) (acc ++ [z])) (fun _ => False) else P (i + 1) acc) (fun _ => False) →
        (wipe (putV (wipe σ vs) is xs) vs = wipe σ vs ∧ TDt K W0 wt (putV (wipe σ vs) is xs) H3 fun b H4 => if b = true then TDe K W0 we (putV (wipe σ vs) is xs) H4 fun y H5 => ∃ acc, H5 Dl = some (.lst acc) ∧ acc.length < sizeLine ∧
          (i + 1 ≤ ds.length ∧ ∃ (B' : Hp) (av : List V) (acc' : List D), Stt K G B0 H0 B' (upd H5 Dl (.lst (acc ++ [y]))) σ ρ ∧ Stp G B1 H1 B' (upd H5 Dl (.lst (acc ++ [y]))) ∧ (upd H5 Dl (.lst (acc ++ [y]))) Dl = some (.lst av) ∧ DpAll K B' av acc' ∧ B' Dl = none ∧ P (i + 1) acc')
          else (i + 1 ≤ ds.length ∧ ∃ (B' : Hp) (av : List V) (acc : List D), Stt K G B0 H0 B' H4 σ ρ ∧ Stp G B1 H1 B' H4 ∧ H4 Dl = some (.lst av) ∧ DpAll K B' av acc ∧ B' Dl = none ∧ P (i + 1) acc)) := by
      intro xs es hx hl q
      refine ⟨wipe_putV is xs _ (wipe_wipe vs fun _ h => h) hsub, ?_⟩
      have T3 : Stt K G B0 H0 B3 H3 (putV (wipe σ vs) is xs) (putA (wipeR ρ vs) is es) := Stt.putA is (S3.wipe vs) hx fun i hi => by rw [wipeR_length]; exact hl i hi
      refine ⟨G, B0, H0, B3, _, _, _, T3, q, fun b B4 H4 T4 s4 q4 => ?_, fun _ _ _ _ z => z.elim⟩
      have S4 := S3.step s4 T4.bh T4.gok
      cases b with
      | false => exact iteF ⟨hlt, B4, av, acc, S4, (s2.trans s3).trans s4, (hide_some (s4.hh _ _ (s3.hh _ _ trk))).2, DpAll.mono (s3.bb.trans s4.bb) ha, s4.nw _ _ (s3.nw _ _ hb trk) (s3.hh _ _ trk), (if_neg Bool.false_ne_true).mp q4⟩
      | true =>
        refine iteT ⟨G, B0, H0, B4, _, _, _, T4, (if_pos rfl).mp q4, fun r y B5 H5 T5 s5 r5 ⟨z, ez, hlen, p5⟩ => ?_, fun _ _ _ _ z => z.elim⟩
        have S5 := S4.step s5 T5.bh T5.gok
        have t5 := s5.hh _ _ (s4.hh _ _ (s3.hh _ _ trk))
        have h5 : H5 Dl = some (.lst av) := (hide_some t5).2
        have b5 : B5 Dl = none := s5.nw _ _ (s4.nw _ _ (s3.nw _ _ hb trk) (s3.hh _ _ trk)) (s4.hh _ _ (s3.hh _ _ trk))
        have s15 := ((s2.trans s3).trans s4).trans s5
        refine ⟨av, h5, by rw [line_eq, ha.length]; exact hlen, hlt, B5, av ++ [y], acc ++ [z], S5.side b5 dG d0 aw, ⟨s15.bb, fun b v e => ?_, s15.nw⟩, upd_same, (DpAll.mono ((s3.bb.trans s4.bb).trans s5.bb) ha).append (.cons (r5.dat ez) .nil), b5, p5⟩
        rw [hide_upd dG, upd_ne (ne_of_none e (hide_free hD))]
        exact s15.hh _ _ e
    cases tup with
    | true =>
      obtain ⟨es, rfl, hn, hl, q4⟩ := (if_pos rfl).mp q3
      cases e2 with
      | tup k1 k2 => exact ⟨_, _, rfl, (k1.up (b3.trans (hide_le H3))).t, k2.length.trans hn, gNames_ok is _ _ _ _ (k2.length.trans hn) (fin _ es k2 hl q4)⟩
    | false =>
      rcases h1 with h1 | ⟨i1, rfl⟩
      · cases h1
      · obtain ⟨hl, q4⟩ := (if_neg Bool.false_ne_true).mp q3
        exact fin [x] [d] (.cons e2 .nil) hl q4
  · have e : i = ds.length := by omega
    subst e
    refine .inl ⟨it.stop _ _ lat, ok (.l true acc) (.ref Dl) B2 H2 S2 (s1.trans s2) ⟨Dl, av, rfl, by rw [hide_out dG]; exact hd, ha, fun _ => ⟨hb, dS⟩⟩ (done acc p2)⟩
section
variable {X : Cx} {W : WX} {tg iter elt : Expr} {ifs : List Expr} {e : Expr} {st : Stmt} {wi : IW} {tup : Bool} {is vs : List Nat} {wt : TW} {we : EW}
theorem pd_lc (h : PE X e (tLc (TDiC X.K W wi) (gC X.K tup is) (TDt X.K W0 wt) (TDe X.K W0 we) vs)) (hsub : ∀ i ∈ is, i ∈ vs) (h1 : tup = true ∨ ∃ i, is = [i]) : PD X W e (wLc wi tup is vs wt we) :=
  pe_imp h (lc_core_d hsub h1)
theorem pds_setLc {i : Nat} (h : PS X st (tAsg (tLc (TDiC X.K W wi) (gC X.K tup is) (TDt X.K W0 wt) (TDe X.K W0 we) vs) (gName i))) (hsub : ∀ i ∈ is, i ∈ vs) (h1 : tup = true ∨ ∃ i, is = [i]) : PSD X W st (wAsg i (wLc wi tup is vs wt we)) :=
  pds_set (ps_imp h fun D σ H q => lc_core_d hsub h1 σ H _ q)
end
end DL

set_option Elab.async false
set_option linter.all false
set_option maxRecDepth 100000
/-! The data layer: built-ins. -/
namespace DL
open PySem PySem.Spec PyProof.Rows L2
section
variable {X : Cx} {W : WX} {e a b : Expr} {w : EW} {ws : AW} {pos p : Pos}
theorem seq_of {K : Frag} {G : Gh} {Hs B H : Hp} {x : V} {r : R} {ds : List D} (c : Ctx K G B H) (h : Rs K G Hs B H x r) (e : r.seq = some ds) : ∃ p xs, x = .ref p ∧ DpAll K B xs ds ∧ (SqL K H p xs ∨ SqT K H p xs) := h.seq e c.bh
/-- len of a dict, locked or not -/
theorem call_lenR {X : Cx} : CallR X (.builtin "len") (fun xs H Q => ∃ a kvs, xs = [V.ref a] ∧ Rd H a (.dK kvs) ∧ Q (.int kvs.length) H) := by
  intro pins s σ H xs us Q I r h
  obtain ⟨a, kvs, rfl, ha, q⟩ := h
  obtain ⟨u, rfl, ru⟩ := vals1 r
  cases ru
  exact d_len I ha fun t s' I' => ⟨.int kvs.length, H, I', ⟨t, rfl⟩, q⟩
/-- len -/
def fLen : FL := fun rs Q => ∃ r, rs = [r] ∧ ((∃ ds, r.seq = some ds ∧ Q (.s (.int ds.length))) ∨ (∃ z, r = .s (.str z) ∧ z.length ≤ 16777216 ∧ Q (.s (.int z.length))) ∨ ∃ kvs, r.kv = some kvs ∧ Q (.s (.int kvs.length)))
theorem c_len : CallR X (.builtin "len") (liftL X.K fLen) := by
  intro pins s σ H xs us Q I rx hh
  obtain ⟨G, Hs, B, rs, Qd, c, ra, ⟨r, rfl, q⟩, k⟩ := hh
  obtain ⟨x, rfl, r1⟩ := ra.one
  rcases q with ⟨ds, e1, q⟩ | ⟨z, rfl, hz, q⟩ | ⟨kvs, e1, q⟩
  · obtain ⟨p, xs, rfl, h1, h2⟩ := r1.seq e1 c.bh
    refine call_len_seq pins s σ H _ us Q I rx ⟨p, xs, rfl, h2, ?_⟩
    rw [h1.length]
    exact k.dat c (.int _) q
  · cases r1.str
    exact call_len_str pins s σ H _ us Q I rx ⟨z, rfl, by rw [line_eq]; exact hz, k.dat c (.int _) q⟩
  · obtain ⟨p, xs, rfl, h1, h2⟩ := r1.kv e1 c.bh
    refine call_lenR pins s σ H _ us Q I rx ⟨p, xs, rfl, h1, ?_⟩
    rw [h2.length]
    exact k.dat c (.int _) q
/-- all, any of a list of truth values -/
def fAll : FL := fun rs Q => ∃ (o : Bool) (bs : List Bool), rs = [.l o (bs.map PyData.bool)] ∧ Q (.s (.bool (bs.all id)))
def fAny : FL := fun rs Q => ∃ (o : Bool) (bs : List Bool), rs = [.l o (bs.map PyData.bool)] ∧ Q (.s (.bool (bs.any id)))
def fSum : FL := fun rs Q => ∃ (o : Bool) (ns : List Int), rs = [.l o (ns.map PyData.int)] ∧ Q (.s (.int ns.sum))
theorem c_all (hc : X.calm = true) : CallR X (.builtin "all") (liftL X.K fAll) := by
  intro pins s σ H xs us Q I rx hh
  obtain ⟨G, Hs, B, rs, Qd, c, ra, ⟨o, bs, rfl, q⟩, k⟩ := hh
  obtain ⟨x, rfl, p, vs, rfl, h1, h2, _⟩ := ra.one
  cases h2.bls'
  exact cr_all hc pins s σ H _ us Q I rx ⟨p, bs, rfl, .inl (.inl (hide_some h1).2), k.dat c (.bl _) q⟩
theorem c_any (hc : X.calm = true) : CallR X (.builtin "any") (liftL X.K fAny) := by
  intro pins s σ H xs us Q I rx hh
  obtain ⟨G, Hs, B, rs, Qd, c, ra, ⟨o, bs, rfl, q⟩, k⟩ := hh
  obtain ⟨x, rfl, p, vs, rfl, h1, h2, _⟩ := ra.one
  cases h2.bls'
  exact cr_any hc pins s σ H _ us Q I rx ⟨p, bs, rfl, .inl (.inl (hide_some h1).2), k.dat c (.bl _) q⟩
theorem c_sum (hc : X.calm = true) : CallR X (.builtin "sum") (liftL X.K fSum) := by
  intro pins s σ H xs us Q I rx hh
  obtain ⟨G, Hs, B, rs, Qd, c, ra, ⟨o, ns, rfl, q⟩, k⟩ := hh
  obtain ⟨x, rfl, p, vs, rfl, h1, h2, _⟩ := ra.one
  cases h2.ints'
  exact cr_sum hc pins s σ H _ us Q I rx ⟨p, ns, rfl, .inl (.inl (hide_some h1).2), k.dat c (.int _) q⟩
/-- list(x), tuple(x) of lists and tuples; int(n) -/
def fList : FL := fun rs Q => ∃ r ds, rs = [r] ∧ r.seq = some ds ∧ Q (.l true ds)
def fTuple : FL := fun rs Q => ∃ r ds, rs = [r] ∧ r.seq = some ds ∧ Q (.s (.tuple ds))
def fIntOf : FL := fun rs Q => ∃ n, rs = [.s (.int n)] ∧ Q (.s (.int n))
theorem c_list : CallR X (.type "list") (liftL X.K fList) := by
  intro pins s σ H xs us Q I rx hh
  obtain ⟨G, Hs, B, rs, Qd, c, ra, ⟨r, ds, rfl, e1, q⟩, k⟩ := hh
  obtain ⟨x, rfl, r1⟩ := ra.one
  obtain ⟨p, xs, rfl, h1, h2⟩ := r1.seq e1 c.bh
  exact call_list_of pins s σ H _ us Q I rx ⟨p, xs, rfl, h2, fun l hl => k.lst c hl h1 q⟩
theorem c_tuple : CallR X (.type "tuple") (liftL X.K fTuple) := by
  intro pins s σ H xs us Q I rx hh
  obtain ⟨G, Hs, B, rs, Qd, c, ra, ⟨r, ds, rfl, e1, q⟩, k⟩ := hh
  obtain ⟨x, rfl, r1⟩ := ra.one
  cases r with
  | s d =>
    cases d with
    | list es =>
      cases e1
      cases (show Dp X.K B x (.list ds) from r1) with
      | lst h1 h2 => exact callN_tuple pins s σ H _ us Q I rx ⟨_, _, rfl, .inl ⟨Same.sqL c.le h1, k.tup c h2 q⟩⟩
    | tuple es =>
      cases e1
      cases (show Dp X.K B x (.tuple ds) from r1) with
      | tup h1 h2 => exact callN_tuple pins s σ H _ us Q I rx ⟨_, _, rfl, .inr ⟨(h1.up c.le).t, k.dat c (.tup h1 h2) q⟩⟩
    | _ => cases e1
  | l own es =>
    cases e1
    obtain ⟨p, xs, rfl, h1, h2, _⟩ := r1
    exact callN_tuple pins s σ H _ us Q I rx ⟨_, _, rfl, .inl ⟨.inl (.inl (hide_some h1).2), k.tup c h2 q⟩⟩
  | _ => cases e1
theorem c_int : CallR X (.type "int") (liftL X.K fIntOf) := by
  intro pins s σ H xs us Q I rx hh
  obtain ⟨G, Hs, B, rs, Qd, c, ra, ⟨n, rfl, q⟩, k⟩ := hh
  obtain ⟨x, rfl, r1⟩ := ra.one
  cases r1.int
  exact call_int1 pins s σ H _ us Q I rx (.inl ⟨n, rfl, k.dat c (.int _) q⟩)
def fMax2 : FL := fun rs Q => ∃ i j, rs = [.s (.int i), .s (.int j)] ∧ Q (.s (.int (if j > i then j else i)))
def fMin2 : FL := fun rs Q => ∃ i j, rs = [.s (.int i), .s (.int j)] ∧ Q (.s (.int (if j < i then j else i)))
theorem c_max2 (hc : X.calm = true) : CallR X (.builtin "max") (liftL X.K fMax2) := by
  intro pins s σ H xs us Q I rx hh
  obtain ⟨G, Hs, B, rs, Qd, c, ra, ⟨i, j, rfl, q⟩, k⟩ := hh
  obtain ⟨x, y, rfl, r1, r2⟩ := ra.two
  cases r1.int; cases r2.int
  exact call_max2 hc pins s σ H _ us Q I rx ⟨i, j, rfl, k.dat c (.int _) q⟩
theorem c_min2 (hc : X.calm = true) : CallR X (.builtin "min") (liftL X.K fMin2) := by
  intro pins s σ H xs us Q I rx hh
  obtain ⟨G, Hs, B, rs, Qd, c, ra, ⟨i, j, rfl, q⟩, k⟩ := hh
  obtain ⟨x, y, rfl, r1, r2⟩ := ra.two
  cases r1.int; cases r2.int
  exact call_min2 hc pins s σ H _ us Q I rx ⟨i, j, rfl, k.dat c (.int _) q⟩

/-! ### isinstance of a built-in class -/
def tyN : D → String
  | .none => "NoneType"
  | .bool _ => "bool"
  | .int _ => "int"
  | .str _ => "str"
  | .list _ => "list"
  | .tuple _ => "tuple"
  | .dict _ => "dict"
def isI : D → Bool
  | .int _ | .bool _ => true
  | _ => false
def isB : D → Bool
  | .bool _ => true
  | _ => false
def isS : D → Bool
  | .str _ => true
  | _ => false
def isT : D → Bool
  | .tuple _ => true
  | _ => false
def isL : D → Bool
  | .list _ => true
  | _ => false
theorem tyx_of {K : Frag} {H : Hp} {x : V} {d : D} (h : Dp K H x d) : TyX K H x (.type (tyN d)) := by
  cases h with
  | non => exact .base .non
  | bl b => exact .base (.bl b)
  | int i => exact .base (.int i)
  | str z => exact .base (.str z)
  | lst h1 h2 =>
    rcases h1 with (h1 | ⟨o, h1⟩) | ⟨o, its, n, h1, h3, _⟩
    · exact .base (.lst h1)
    · exact .base (.frz h1)
    · exact .kList h1 h3
  | tup h1 h2 =>
    rcases h1 with ⟨o, h1, _⟩ | ⟨o, its, n, h1, h3, _⟩
    · exact .fTuple h1
    · exact .kTuple h1 h3.1
  | dic h1 h2 => exact .base (.dK h1)
def wIsi (f : D → Bool) (w : EW) : EW := fun ρ Q E => w ρ (fun r => ∃ d, r.look = some d ∧ Q (.s (.bool (f d)))) E
theorem pd_isi {f : D → Bool} {T : String} (h : PE X e (tCB (rIsi X.K) (tCons (TDe X.K W w) (tCons (tC (.ty T)) tNil)))) (hf : ∀ d : D, kitB (tyN d) T = some (f d)) : PD X W e (wIsi f w) :=
  pe_imp h fun σ H Q ⟨G, B0, H0, B, ρ, Qd, Qe, S, q, ok, er⟩ => by
    refine ⟨G, B0, H0, B, ρ, _, Qe, S, q, fun r x B' H' S' s r' q' => ?_, er⟩
    obtain ⟨d, e1, q'⟩ := q'
    exact ⟨x, .ty T, _, _, f d, rfl, .ty T, tyx_of (r'.look e1 S'.bh), kit_ty (hf d), ok (.s (.bool (f d))) _ _ _ S' s (.bl _) q'⟩
theorem kit_int : ∀ d : D, kitB (tyN d) "int" = some (isI d)
  | .none => by decide +kernel
  | .bool _ => by show kitB "bool" "int" = some true; decide +kernel
  | .int _ => by show kitB "int" "int" = some true; decide +kernel
  | .str _ => by show kitB "str" "int" = some false; decide +kernel
  | .list _ => by show kitB "list" "int" = some false; decide +kernel
  | .tuple _ => by show kitB "tuple" "int" = some false; decide +kernel
  | .dict _ => by show kitB "dict" "int" = some false; decide +kernel
theorem kit_bool : ∀ d : D, kitB (tyN d) "bool" = some (isB d)
  | .none => by decide +kernel
  | .bool _ => by show kitB "bool" "bool" = some true; decide +kernel
  | .int _ => by show kitB "int" "bool" = some false; decide +kernel
  | .str _ => by show kitB "str" "bool" = some false; decide +kernel
  | .list _ => by show kitB "list" "bool" = some false; decide +kernel
  | .tuple _ => by show kitB "tuple" "bool" = some false; decide +kernel
  | .dict _ => by show kitB "dict" "bool" = some false; decide +kernel
theorem kit_str : ∀ d : D, kitB (tyN d) "str" = some (isS d)
  | .none => by decide +kernel
  | .bool _ => by show kitB "bool" "str" = some false; decide +kernel
  | .int _ => by show kitB "int" "str" = some false; decide +kernel
  | .str _ => by show kitB "str" "str" = some true; decide +kernel
  | .list _ => by show kitB "list" "str" = some false; decide +kernel
  | .tuple _ => by show kitB "tuple" "str" = some false; decide +kernel
  | .dict _ => by show kitB "dict" "str" = some false; decide +kernel
theorem kit_tuple : ∀ d : D, kitB (tyN d) "tuple" = some (isT d)
  | .none => by decide +kernel
  | .bool _ => by show kitB "bool" "tuple" = some false; decide +kernel
  | .int _ => by show kitB "int" "tuple" = some false; decide +kernel
  | .str _ => by show kitB "str" "tuple" = some false; decide +kernel
  | .list _ => by show kitB "list" "tuple" = some false; decide +kernel
  | .tuple _ => by show kitB "tuple" "tuple" = some true; decide +kernel
  | .dict _ => by show kitB "dict" "tuple" = some false; decide +kernel
theorem kit_list : ∀ d : D, kitB (tyN d) "list" = some (isL d)
  | .none => by decide +kernel
  | .bool _ => by show kitB "bool" "list" = some false; decide +kernel
  | .int _ => by show kitB "int" "list" = some false; decide +kernel
  | .str _ => by show kitB "str" "list" = some false; decide +kernel
  | .list _ => by show kitB "list" "list" = some true; decide +kernel
  | .tuple _ => by show kitB "tuple" "list" = some false; decide +kernel
  | .dict _ => by show kitB "dict" "list" = some false; decide +kernel

/-! ### displays -/
theorem pd_tup {es : List Expr} {x1} (h : PDa X W es ws) : PD X W (.Tuple es x1 pos) (wTup ws) := pe_imp (peN_tup h) fun σ H Q ⟨G, B0, H0, B, ρ, Qd, Qe, S, q, ok, er⟩ => by
  refine ⟨G, B0, H0, B, ρ, _, Qe, S, q, fun rs xs B1 H1 S1 s1 r1 _ q1 => ?_, er⟩
  obtain ⟨ds, e1, hl, q1⟩ := q1
  have h1 := dats_all r1 e1
  refine ⟨by rw [line_eq, h1.length]; exact hl, fun p o hp hn => ?_⟩
  have s2 : Stp G B1 H1 (upd B1 p (.frz o (.tup xs))) (upd H1 p (.frz o (.tup xs))) := Stp.newS hp (S1.freeB hp)
  exact ok (.s (.tuple ds)) _ _ _ (S1.newS hp) (s1.trans s2) (Dp.tup (.inl ⟨o, upd_same, hn⟩) (DpAll.mono s2.bb h1)) q1
theorem pd_lst {es : List Expr} (h : PDa X W es ws) : PD X W (.List es pos) (wLst ws) := pe_imp (pe_lst h) fun σ H Q ⟨G, B0, H0, B, ρ, Qd, Qe, S, q, ok, er⟩ => by
  refine ⟨G, B0, H0, B, ρ, _, Qe, S, q, fun rs xs B1 H1 S1 s1 r1 _ q1 => ?_, er⟩
  obtain ⟨ds, e1, hl, q1⟩ := q1
  have h1 := dats_all r1 e1
  refine ⟨by rw [line_eq, h1.length]; exact hl, fun p hp => ?_⟩
  exact ok (.l true ds) _ _ _ (S1.new hp) (s1.trans (Stp.new hp)) ⟨p, xs, rfl, by rw [hide_out (S1.notG hp), upd_same], h1, fun _ => ⟨S1.freeB hp, s1.hh.free (hide_free hp)⟩⟩ q1

/-! ### slices of lists and tuples -/
abbrev OW := Rho → (Option Int → Prop) → (Value → Prop) → Prop
def TDo (K : Frag) (W : WX) (w : OW) : TO := fun σ H Q => ∃ (G : Gh) (B0 H0 B : Hp) (ρ : Rho) (Qd : Option Int → Prop) (Qe : Value → Prop), Stt K G B0 H0 B H σ ρ ∧ w ρ Qd Qe ∧
  (∀ b B' H', Stt K G B0 H0 B' H' σ ρ → Stp G B H B' H' → Qd b → Q b H') ∧ (∀ cls d B' H', Qe cls → Stt K G B0 H0 B' H' σ ρ → Stp G B H B' H' → W cls d σ H')
def wONone : OW := fun _ Q _ => Q none
def wOSome (w : EW) : OW := fun ρ Q E => w ρ (fun r => ∃ n, r = .s (.int n) ∧ Q (some n)) E
theorem pdo_none : PO X Option.none (TDo X.K W wONone) := ⟨fun pins s σ H Q I ⟨G, B0, H0, B, ρ, Qd, Qe, S, q, ok, er⟩ => po_none.run pins s σ H Q I (ok _ _ _ S (Stp.refl ..) q)⟩
theorem pdo_some (h : PD X W e w) : PO X (some e) (TDo X.K W (wOSome w)) := ⟨fun pins s σ H Q I ⟨G, B0, H0, B, ρ, Qd, Qe, S, q, ok, er⟩ => (po_some h).run pins s σ H Q I (by
  refine ⟨G, B0, H0, B, ρ, _, Qe, S, q, fun r x B' H' S' s r' q' => ?_, er⟩
  obtain ⟨n, rfl, q'⟩ := q'
  cases r'.int
  exact ⟨n, rfl, ok _ _ _ S' s q'⟩)⟩
def cutD (xs : List D) (lo hi : Option Int) : List D := (xs.drop (HT.sIx xs.length 0 lo)).take (HT.sIx xs.length xs.length hi - HT.sIx xs.length 0 lo)
def fSl (a : R) (lo hi : Option Int) (Q : R → Prop) : Prop := match a with
  | .s (.tuple xs) => Q (.s (.tuple (cutD xs lo hi)))
  | .s (.list xs) => Q (.l true (cutD xs lo hi))
  | .l _ xs => Q (.l true (cutD xs lo hi))
  | .s (.str z) => z.length ≤ 16777216 ∧ Q (.s (.str (L2.cutS z lo hi)))
  | _ => False
def liftS (K : Frag) (f : R → Option Int → Option Int → (R → Prop) → Prop) : V → Option Int → Option Int → Hp → VK → Prop := fun x lo hi H Q => ∃ G Hs B a Qd, Ctx K G B H ∧ Rs K G Hs B H x a ∧ f a lo hi Qd ∧ Cont K G B H Qd Q
theorem DpAll.cut {K : Frag} {H : Hp} {xs : List V} {ds : List D} (h : DpAll K H xs ds) (lo hi : Option Int) : DpAll K H (cutV xs lo hi) (cutD ds lo hi) := by
  unfold cutV cutD
  rw [h.length]
  exact (h.drop _).take _
theorem o_sl : L2.SlR X (liftS X.K fSl) := by
  intro pins s σ H x v vl vu lo hi sl Q I rx hs pl pu hh
  obtain ⟨G, Hs, B, a, Qd, c, ra, q, k⟩ := hh
  unfold fSl at q
  split at q
  · obtain ⟨p, xs, rfl, h1, h2⟩ := ra.tup
    refine slN_tup pins s σ H _ v vl vu lo hi sl Q I rx hs pl pu ⟨p, xs, rfl, (h1.up c.le).t, fun w => ?_, fun w => k.tup c (h2.cut lo hi) q⟩
    rw [h2.length] at w
    have e : ∀ ys : List D, (HT.sIx ys.length 0 lo = 0 ∧ HT.sIx ys.length ys.length hi = ys.length) → cutD ys lo hi = ys := fun ys w => by
      unfold cutD
      rw [w.1, w.2, List.drop_zero, Nat.sub_zero, List.take_length]
    rw [e _ w] at q
    exact k.dat c (.tup h1 h2) q
  · cases (show Dp X.K B x (.list _) from ra) with
    | lst h1 h2 => exact sl_list pins s σ H _ v vl vu lo hi sl Q I rx hs pl pu ⟨_, _, rfl, Same.sqL c.le h1, fun p hp => k.lst c hp (h2.cut lo hi) q⟩
  · obtain ⟨p, xs, rfl, h1, h2, _⟩ := ra
    exact sl_list pins s σ H _ v vl vu lo hi sl Q I rx hs pl pu ⟨_, _, rfl, .inl (.inl (hide_some h1).2), fun p hp => k.lst c hp (h2.cut lo hi) q⟩
  · cases ra.str
    exact L2.sl_str pins s σ H _ v vl vu lo hi sl Q I rx hs pl pu ⟨_, rfl, by rw [line_eq]; exact q.1, k.dat c (.str _) q.2⟩
  · exact q.elim
def wSl (w : EW) (wl wh : OW) : EW := fun ρ Q E => w ρ (fun r => wl ρ (fun lo => wh ρ (fun hi => fSl r lo hi Q) E) E) E
theorem pd_sl {wl wh : OW} (h : PE X e (tSl (liftS X.K fSl) (TDe X.K W w) (TDo X.K W wl) (TDo X.K W wh))) : PD X W e (wSl w wl wh) := pe_imp h fun σ H Q ⟨G, B0, H0, B, ρ, Qd, Qe, S, q, ok, er⟩ => by
  refine ⟨G, B0, H0, B, ρ, _, Qe, S, q, fun r x B1 H1 S1 s1 r1 q1 => ?_, er⟩
  refine ⟨G, B0, H0, B1, ρ, _, Qe, S1, q1, fun lo B2 H2 S2 s2 q2 => ?_, erT er s1⟩
  refine ⟨G, B0, H0, B2, ρ, _, Qe, S2, q2, fun hi B3 H3 S3 s3 q3 => ?_, erT er (s1.trans s2)⟩
  have s13 := (s1.trans s2).trans s3
  exact ⟨G, H, B3, r, _, ⟨S3.bh, S3.gok⟩, r1.step (s2.trans s3), q3, fun r4 z B4 H4 s4 bh gk rz qz => ok _ _ _ _ (S3.step s4 bh gk) (s13.trans s4) (rz.from s13) qz⟩
end
end DL

set_option Elab.async false
set_option linter.all false
set_option maxRecDepth 100000
/-! The data layer: the deck. -/
namespace DL
open PySem PySem.Spec PyProof.Rows L2
theorem sh_ints (ns : List Int) : Sh (.list (ns.map PyData.int)) := by
  have h1 : PyData.canLayAll0 (ns.map PyData.int) = true := by
    induction ns with
    | nil => rfl
    | cons n ns ih => simp only [List.map_cons, PyData.canLayAll0, PyData.canLay0, ih, Bool.and_self]
  have h2 : PyData.depthAll (ns.map PyData.int) = 0 := by
    induction ns with
    | nil => rfl
    | cons n ns ih =>
      simp only [List.map_cons, PyData.canLayAll0, PyData.canLay0, Bool.true_and] at h1
      simp only [List.map_cons, PyData.depthAll, PyData.depth, ih h1, Nat.max_self]
  show (PyData.canLay0 (.list (ns.map PyData.int)) && decide (PyData.depth (.list (ns.map PyData.int)) ≤ 64)) = true
  simp only [PyData.canLay0, PyData.depth, h1, h2]
  decide
theorem eqv_nil (ns : List Int) : PyData.eqv (.list (ns.map PyData.int)) (.list []) = ns.isEmpty := by
  cases ns <;> simp [PyData.eqv, PyData.eqvAll]
/-- what a draw hands back -/
def c_pick : Ct := fun rs Q _ => ∃ n : Int, rs = [.g, .s (.int n)] ∧ 0 < n ∧ n < 1073741824 ∧ ∀ r : Int, 0 ≤ r → r < n → Q (.s (.int r))
/-- where the deck stands -/
structure DeckAt (a c : Addr) (H : Hp) (cells : List Int) (s m : Int) : Prop where
  h1 : H a = some (.lst [.ref c, .int s, .int m])
  h2 : H c = some (.lst (cells.map V.int))
  h3 : ∀ x ∈ cells, 0 ≤ x ∧ x < 10 ^ 60
  s0 : 0 ≤ s
  s1 : s < 10 ^ 60
  m0 : 0 ≤ m
  m1 : m < 2147483647
  len : cells.length ≤ 1000
theorem DeckAt.ne {a c : Addr} {H : Hp} {cells : List Int} {s m : Int} (d : DeckAt a c H cells s m) : a ≠ c := ne_of d.h1 d.h2 (by
  intro z
  cases cells with
  | nil => cases z
  | cons x xs => simp at z)
theorem DeckAt.ok {a c : Addr} {H : Hp} {cells : List Int} {s m : Int} (d : DeckAt a c H cells s m) : (deckG a c).ok H := ⟨cells, s, m, d.h1, d.h2, d.h3, d.s0, d.s1, d.m0, d.m1, d.len⟩
theorem DeckAt.of {a c : Addr} {H : Hp} (h : (deckG a c).ok H) : ∃ cells s m, DeckAt a c H cells s m := by
  obtain ⟨cells, s, m, h1, h2, h3, h4, h5, h6, h7, h8⟩ := h
  exact ⟨cells, s, m, h1, h2, h3, h4, h5, h6, h7, h8⟩
/-- the deck's first place or number is written -/
theorem DeckAt.setS {a c : Addr} {H : Hp} {cells : List Int} {s m s' : Int} (d : DeckAt a c H cells s m) (h : 0 ≤ s') (h' : s' < 10 ^ 60) : DeckAt a c (upd H a (.lst [.ref c, .int s', .int m])) cells s' m :=
  ⟨upd_same, by rw [upd_ne d.ne.symm]; exact d.h2, d.h3, h, h', d.m0, d.m1, d.len⟩
theorem DeckAt.setM {a c : Addr} {H : Hp} {cells : List Int} {s m m' : Int} (d : DeckAt a c H cells s m) (h : 0 ≤ m') (h' : m' < 2147483647) : DeckAt a c (upd H a (.lst [.ref c, .int s, .int m'])) cells s m' :=
  ⟨upd_same, by rw [upd_ne d.ne.symm]; exact d.h2, d.h3, d.s0, d.s1, h, h', d.len⟩
theorem DeckAt.pop {a c : Addr} {H : Hp} {x : Int} {cells : List Int} {s m : Int} (d : DeckAt a c H (x :: cells) s m) : DeckAt a c (upd H c (.lst (cells.map V.int))) cells s m :=
  ⟨by rw [upd_ne d.ne]; exact d.h1, upd_same, fun y hy => d.h3 y (List.mem_cons_of_mem _ hy), d.s0, d.s1, d.m0, d.m1, by have := d.len; simp at this; omega⟩
theorem DeckAt.new {a c p : Addr} {H : Hp} {cells : List Int} {s m : Int} {o : HO} (d : DeckAt a c H cells s m) (hp : H p = none) : DeckAt a c (upd H p o) cells s m :=
  ⟨by rw [upd_ne (ne_of_none d.h1 hp)]; exact d.h1, by rw [upd_ne (ne_of_none d.h2 hp)]; exact d.h2, d.h3, d.s0, d.s1, d.m0, d.m1, d.len⟩
theorem hide_ghost {G : Gh} {H : Hp} {b : Addr} {o : HO} (h : b ∈ G.at_) : hide G (upd H b o) = hide G H := by
  funext z
  by_cases q : z ∈ G.at_
  · rw [hide_in q, hide_in q]
  · rw [hide_out q, hide_out q, upd_ne (fun e => q (by rw [e]; exact h))]
/-- the first if of a draw: whatever it does, the deck stands -/
def tPickA : TS := fun D σ H => ∃ (a c : Addr) (n : Int) (cells : List Int) (s m : Int), σ = [some (.ref a), some (.int n), some (.ref c), none, none] ∧ DeckAt a c H cells s m ∧
  ∀ v H' cells' s' m', DeckAt a c H' cells' s' m' → Same (hide (deckG a c) H) (hide (deckG a c) H') → D.nx [some (.ref a), some (.int n), some (.ref c), v, none] H'
/-! ### the deck is made; the law's start -/
def spDeck (K : Frag) : Sp := fun vs H Q _ => ∃ (a : Addr) (ns : List Int), vs = [.ref a] ∧ SqL K H a (ns.map V.int) ∧ ns.length ≤ 63 ∧
  ∀ (H' : Hp) (a0 c : Addr) (cells : List Int), Same H H' → H a0 = none → H c = none → DeckAt a0 c H' cells 0 6151 → Q (.ref a0) H'
def spLaw (K : Frag) : Sp := fun vs H Q _ => ∃ (a : Addr) (ns : List Int), vs = [.ref a] ∧ SqL K H a (ns.map V.int) ∧ ns.length ≤ 63 ∧ ∀ H', Q (.bl true) H'
theorem cut63 {ns : List Int} (h : ns.length ≤ 63) : cutV (ns.map V.int) none (some 63) = ns.map V.int := by
  unfold cutV
  have e : HT.sIx (ns.map V.int).length (ns.map V.int).length (some 63) = ns.length := by
    rw [show (some (63 : Int)) = some ((63 : Nat) : Int) from rfl, HT.sIx_nat, List.length_map]
    omega
  rw [e, HT.sIx_none, List.drop_zero, Nat.sub_zero, ← List.length_map (f := V.int), List.take_length]
/-- the reading of the deck's making -/
def tDeckC (K : Frag) : TE := tOp (rI (fun _ j => 0 < j) fun i j => .int (i % j)) (tCB (fun xs H Q => (∃ i, xs = [.int i] ∧ Q (.int i) H) ∨ ∃ k, xs = [.bl k] ∧ Q (.int (if k then 1 else 0)) H) (tCons (tVar 1) tNil)) (tOp (rI CPow fun i j => .int (i ^ j.toNat)) (tC (.int 10)) (tC (.int 60)))
theorem deck_read {K : Frag} {H : Hp} {vs : List V} {Q : VK} {E : XK} {nx : L2.St → Hp → Prop} (h : spDeck K vs H Q E) :
    tRet (tLst (tCons (tLc (iList K (tSl (rSlL K) (tVar 0) tNoPart (tPart (tC (.int 63))))) (gName 1) tYes (tDeckC K) [1]) (tCons (tC (.int 0)) (tCons (tC (.int 6151)) tNil)))) { nx := nx, rt := Q } (L2.start ["script", "cell"] vs) H := by
  obtain ⟨a, ns, rfl, hS, hl, k⟩ := h
  refine ⟨_, rfl, _, rfl, a, _, rfl, hS, fun p hp => ?_⟩
  rw [cut63 hl]
  have s1 : Same H (upd H p (.lst (ns.map V.int))) := fun b o e => by rw [upd_ne (ne_of_none e hp)]; exact e
  refine ⟨p, rfl, ⟨_, .inl (.inl upd_same)⟩, fun D hD => ?_⟩
  have npD : p ≠ D := fun e => by rw [← e, upd_same] at hD; cases hD
  have hD0 : H D = none := by rw [upd_ne npD.symm] at hD; exact hD
  refine lc_list (K := K) (a := p) (xs := ns.map V.int) (fun i H' => ∃ cells : List Int, H' = upd (upd H p (.lst (ns.map V.int))) D (.lst (cells.map V.int)) ∧ cells.length ≤ i ∧ ∀ x ∈ cells, 0 ≤ x ∧ x < 10 ^ 60) ⟨[], rfl, Nat.le_refl _, fun x hx => by cases hx⟩ ?_ ?_ ?_
  · rintro i H' _ ⟨cells, rfl, _⟩
    exact .inl (.inl (by rw [upd_ne npD, upd_same]))
  · rintro i x H' hi ⟨cells, rfl, hc, hb⟩
    obtain ⟨z, rfl⟩ : ∃ z, x = V.int z := by
      rw [List.getElem?_map] at hi
      cases e : ns[i]? with
      | none => rw [e] at hi; cases hi
      | some z => rw [e] at hi; exact ⟨z, (Option.some.inj hi).symm⟩
    have hi63 : i < ns.length := by
      have q := (List.getElem?_eq_some_iff.mp hi).1
      rw [List.length_map] at q
      exact q
    refine ⟨rfl, ?_⟩
    unfold tYes
    refine iteT ?_
    refine ⟨_, rfl, .inl ⟨_, rfl, _, _, rfl, rfl, by unfold CPow; decide, _, _, rfl, rfl, (by show (0 : Int) < _; decide), cells.map V.int, upd_same, by rw [List.length_map, line_eq]; omega, cells ++ [z % 10 ^ 60], ?_, by simp; omega, fun y hy => ?_⟩⟩
    · rw [upd_upd, List.map_append]
      rfl
    · rcases List.mem_append.mp hy with hy | hy
      · exact hb y hy
      · have e : y = z % 10 ^ 60 := by simpa using hy
        rw [e]
        exact ⟨Int.emod_nonneg _ (by decide), Int.emod_lt_of_pos _ (by decide)⟩
  · rintro H' ⟨cells, rfl, hc, hb⟩
    refine ⟨by show 3 ≤ sizeLine; decide, fun q hq => ?_⟩
    have nqD : q ≠ D := fun e => by rw [e, upd_same] at hq; cases hq
    have nqp : q ≠ p := fun e => by rw [e, upd_ne npD, upd_same] at hq; cases hq
    have hq0 : H q = none := by rw [upd_ne nqD, upd_ne nqp] at hq; exact hq
    refine k _ q D cells (fun b o e => ?_) hq0 hD0 ⟨upd_same, by rw [upd_ne nqD.symm, upd_same], hb, by decide, by decide, by decide, by decide, by rw [List.length_map] at hc; omega⟩
    rw [upd_ne (ne_of_none e hq0), upd_ne (ne_of_none e hD0)]
    exact s1 b o e
theorem law_read {K : Frag} {H : Hp} {vs : List V} {Q : VK} {E : XK} {nx : L2.St → Hp → Prop} {N : List Str} {w : SW} (hN : 2 ≤ N.length) (h : spLaw K vs H Q E)
    (hw : ∀ ns : List Int, ns.length ≤ 63 → w (some (.s (.list (ns.map PyData.int))) :: some .g :: List.replicate (N.length - 2) none) { nx := fun _ => False, rt := fun r => r = .s (.bool true) }) :
    tSeq (tAsg (tCallS (spDeck K) (WE W0) (tCons (tVar 0) tNil)) (gName 1)) (TDs K W0 w) { nx := nx, rt := Q } (L2.start N vs) H := by
  obtain ⟨a, ns, rfl, hS, hl, k⟩ := h
  refine ⟨_, rfl, a, ns, rfl, hS, hl, fun H1 a0 c cells s ha hc d => ?_⟩
  have nin : ∀ b o, H b = some o → b ∉ (deckG a0 c).at_ := fun b o e z => by
    rcases List.mem_cons.mp z with rfl | z
    · rw [ha] at e; cases e
    · rcases List.mem_cons.mp z with rfl | z
      · rw [hc] at e; cases e
      · cases z
  have hS' : SqL K (hide (deckG a0 c) H1) a (ns.map V.int) := by
    rcases hS with (h | ⟨o, h⟩) | h
    · exact .inl (.inl (by rw [hide_out (nin _ _ h)]; exact s _ _ h))
    · exact .inl (.inr ⟨o, by rw [hide_out (nin _ _ h)]; exact s _ _ h⟩)
    · exact .inr h
  refine ⟨deckG a0 c, hide (deckG a0 c) H1, H1, hide (deckG a0 c) H1, _, _, ?_, hw ns hl, ⟨fun _ _ _ _ _ _ z => z.elim, fun _ _ _ _ _ _ z => z.elim, fun _ _ _ _ _ _ z => z.elim, fun r x B' H' _ _ _ r' z => ?_, fun _ _ _ _ _ _ _ _ z => z.elim⟩⟩
  · refine ⟨?_, Same.refl _, d.ok, Stp.refl .., fun i r e => ?_, fun i j r u x _ e1 _ o1 _ _ _ => ?_⟩
    · unfold L2.start
      simp
      omega
    · match i, e with
      | 0, e => cases e; exact ⟨.ref a, by unfold L2.start; simp, .lst hS' (DpAll.ints ns)⟩
      | 1, e =>
        cases e
        refine ⟨.ref a0, ?_, a0, c, rfl, rfl⟩
        rw [List.getElem?_set_self]
        unfold L2.start
        simp
        omega
      | i + 2, e =>
        have : some r ∈ List.replicate (N.length - 2) (none : Option R) := List.mem_of_getElem? (i := i) (by simpa using e)
        exact nomatch List.eq_of_mem_replicate this
    · match i, e1 with
      | 0, e => cases e; cases o1
      | 1, e => cases e; cases o1
      | i + 2, e =>
        have : some r ∈ List.replicate (N.length - 2) (none : Option R) := List.mem_of_getElem? (i := i) (by simpa using e)
        exact nomatch List.eq_of_mem_replicate this
  · subst z
    cases (show Dp K B' x (.bool true) from r')
    exact k _
end DL

set_option Elab.async false
set_option linter.all false
set_option maxRecDepth 100000
/-! The data layer: words for plain proofs. -/
namespace DL
open PySem PySem.Spec PyProof.Rows L2
theorem seq_l (o : Bool) (xs : List D) : R.seq (.l o xs) = some xs := rfl
theorem seq_t (xs : List D) : R.seq (.s (.tuple xs)) = some xs := rfl
theorem seq_L (xs : List D) : R.seq (.s (.list xs)) = some xs := rfl
theorem stab_t (xs : List D) : R.stab (.s (.tuple xs)) = some xs := rfl
theorem stab_L (xs : List D) : R.stab (.s (.list xs)) = some xs := rfl
theorem look_s (d : D) : R.look (.s d) = some d := rfl
theorem look_l (o : Bool) (xs : List D) : R.look (.l o xs) = some (.list xs) := rfl
theorem dat_s (d : D) : R.dat (.s d) = some d := rfl
theorem frz_s (d : D) : frz (.s d) = .s d := rfl
theorem frz_l (xs : List D) : frz (.l true xs) = .s (.list xs) := rfl
theorem peek_s (d : D) : peek (.s d) = .s d := rfl
theorem peek_l (o : Bool) (xs : List D) : peek (.l o xs) = .l false xs := rfl
theorem peek_g : peek .g = .g := rfl
theorem peek_h : peek .h = .h := rfl
theorem keeps_s (d : D) : keeps (.s d) = true := rfl
theorem keeps_l (xs : List D) : keeps (.l true xs) = true := rfl
theorem dats_nil : dats [] = some [] := rfl
theorem dats_cons (d : D) (rs : List R) : dats (.s d :: rs) = (match dats rs with | some ds => some (d :: ds) | none => none) := by
  show (match R.dat (.s d), dats rs with | some d, some ds => some (d :: ds) | _, _ => none) = _
  rw [dat_s]
  cases dats rs <;> rfl
/-- shaped data, by parts -/
theorem sh_int (i : Int) : Sh (.int i) := rfl
theorem sh_bool (i : Bool) : Sh (.bool i) := rfl
theorem sh_none : Sh .none := rfl
theorem eqv_int (i j : Int) : PyData.eqv (.int i) (.int j) = (i == j) := by simp [PyData.eqv]
theorem eqv_bool (i j : Bool) : PyData.eqv (.bool i) (.bool j) = (i == j) := by simp [PyData.eqv]
theorem eqv_str (i j : Str) : PyData.eqv (.str i) (.str j) = (i == j) := by simp [PyData.eqv]
theorem at0 {α : Type} (x : α) (l : List α) : L2.atI (x :: l) 0 = some x := atI_nat (j := 0) rfl
theorem at1 {α : Type} (x y : α) (l : List α) : L2.atI (x :: y :: l) 1 = some y := atI_nat (j := 1) rfl
theorem at2 {α : Type} (x y z : α) (l : List α) : L2.atI (x :: y :: z :: l) 2 = some z := atI_nat (j := 2) rfl
theorem at3 {α : Type} (x y z u : α) (l : List α) : L2.atI (x :: y :: z :: u :: l) 3 = some u := atI_nat (j := 3) rfl
theorem flat_none : flatD .none = true := rfl
theorem flat_bool (b : Bool) : flatD (.bool b) = true := rfl
theorem flat_int (b : Int) : flatD (.int b) = true := rfl
theorem flat_str (b : Str) : flatD (.str b) = true := rfl
theorem isS_s (d : D) : R.isS (.s d) = true := rfl
theorem isN_none : R.isN (.s .none) = true := rfl
theorem isN_int (i : Int) : R.isN (.s (.int i)) = false := rfl
theorem isN_bool (i : Bool) : R.isN (.s (.bool i)) = false := rfl
theorem isN_str (i : Str) : R.isN (.s (.str i)) = false := rfl
theorem isN_tup (i : List D) : R.isN (.s (.tuple i)) = false := rfl
theorem bne_ff (b : Bool) : (false != b) = b := by cases b <;> rfl
theorem bne_tt (b : Bool) : (true != b) = !b := by cases b <;> rfl
theorem drop_at {α : Type} {l : List α} {i : Nat} {d : α} (h : l[i]? = some d) : l.drop i = d :: l.drop (i + 1) := by
  obtain ⟨h1, h2⟩ := List.getElem?_eq_some_iff.mp h
  rw [List.drop_eq_getElem_cons h1, h2]
theorem take_at {α : Type} {l : List α} {i : Nat} {d : α} (h : l[i]? = some d) : l.take (i + 1) = l.take i ++ [d] := by
  rw [List.take_succ, h]
  rfl
/-- an if of two known ways -/
theorem ite_both {c : Bool} {A B : Prop} (h1 : c = true → A) (h2 : c = false → B) : if c = true then A else B := by
  cases c with
  | true => exact (if_pos rfl).mpr (h1 rfl)
  | false => exact (if_neg Bool.false_ne_true).mpr (h2 rfl)
end DL

set_option Elab.async false
set_option linter.all false
set_option maxRecDepth 100000
/-! The data layer: what the end of a claim needs. -/
namespace DL
open PySem PySem.Spec PyProof.Rows L2
/-- nobody asks it -/
def c_never : Ct := fun _ _ _ => False
theorem fn_never {P : Program} {w : World} {K : Frag} {mg : Str → Option Value} {base : Heap} {CX : CXT} {k : Nat} {f : Addr} {fd : FuncData} {ps : List Str} : FnOk P w K mg base CX k f fd ps (spD K c_never) :=
  ⟨fun _ _ _ _ h => by obtain ⟨_, _, _, _, _, _, _, _, z, _⟩ := h; exact z.elim, fun _ _ _ _ _ _ _ _ _ _ _ _ _ h => by obtain ⟨_, _, _, _, _, _, _, _, z, _⟩ := h; exact z.elim⟩
/-- what a law's head asks for -/
theorem law_fd {K : Frag} {x : Str} {st : Stmt} {fa : Addr} {fd : FuncData} (F : Fun K x x st fa fd) (e : Binds K fd ["script"] []) (h : ∀ (s : Shared) (v : Value), BindsTo s fd ⟨[v], []⟩ [("script", v)]) : ∀ (s : Shared) (v : Value), BindsTo s fd ⟨[v], []⟩ [("script", v)] := h
end DL

set_option Elab.async false
set_option linter.all false
set_option maxRecDepth 100000
/-! The data layer: zip, dict(..), {}. -/
namespace DL
open PySem PySem.Spec PyProof.Rows L2
theorem newS_ok {G : Gh} {B H : Hp} {p : Addr} {o : HO} (bh : Same B (hide G H)) (ok : G.ok H) (hp : H p = none) : Stp G B H (upd B p o) (upd H p o) ∧ Same (upd B p o) (hide G (upd H p o)) ∧ G.ok (upd H p o) := by
  have hb : B p = none := bh.free (hide_free hp)
  have hg : p ∉ G.at_ := fun z => G.here _ ok _ z hp
  refine ⟨Stp.newS hp hb, fun b u e => ?_, ghost_upd hg ok⟩
  rw [hide_upd hg]
  by_cases z : b = p
  · subst z; rw [upd_same] at e ⊢; exact e
  · rw [upd_ne z] at e ⊢; exact bh _ _ e
def zipD (xs ys : List D) : List D := List.zipWith (fun a b => PyData.tuple [a, b]) xs ys
theorem zipD_len (xs ys : List D) : (zipD xs ys).length = min xs.length ys.length := by simp [zipD]
section
variable {K : Frag} {G : Gh} {Later : Hp → Hp → Prop}
theorem itd_zip {a b : Addr} {xs ys : List V} {ds es : List D} (h : ∀ B H, Later B H → (SqT K H a xs ∧ SqT K H b ys) ∧ (DpAll K B xs ds ∧ DpAll K B ys es) ∧ Same B (hide G H) ∧ G.ok H) : ItD K G Later (ItzN K a b) (zipD ds es) := by
  refine ⟨fun i B H l hi => ?_, fun B H l => ?_, fun i B H x H' l hi y => ?_⟩
  · obtain ⟨⟨h1, h2⟩, ⟨h3, h4⟩, _⟩ := h B H l
    rw [zipD_len] at hi
    have i1 : i < xs.length := by rw [h3.length]; omega
    have i2 : i < ys.length := by rw [h4.length]; omega
    exact ⟨xs, ys, xs[i], ys[i], h1, h2, by simp [i1], by simp [i2]⟩
  · obtain ⟨⟨h1, h2⟩, ⟨h3, h4⟩, _⟩ := h B H l
    exact ⟨xs, ys, h1, h2, by rw [h3.length, h4.length, zipD_len]; omega⟩
  · obtain ⟨⟨h1, h2⟩, ⟨h3, h4⟩, h5, h6⟩ := h B H l
    obtain ⟨T, o, x1, y1, rfl, hT, hn, rfl, k1, k2⟩ := y
    obtain ⟨d, e1, e2⟩ := h3.get' (k1 xs h1)
    obtain ⟨d', e3, e4⟩ := h4.get' (k2 ys h2)
    obtain ⟨s, q1, q2⟩ := newS_ok (o := .frz o (.tup [x1, y1])) h5 h6 hT
    exact ⟨.tuple [d, d'], _, by simp [zipD, List.getElem?_zipWith, e1, e3], .tup (.inl ⟨o, upd_same, hn⟩) (.cons (Dp.mono s.bb e2) (.cons (Dp.mono s.bb e4) .nil)), s, q1, q2⟩
end
def zipOf : R → R → Option (List D)
  | .s (.tuple xs), .s (.tuple ys) => some (zipD xs ys)
  | _, _ => none
theorem zip_cases {a b : R} {l : List D} (h : zipOf a b = some l) : ∃ xs ys, a = .s (.tuple xs) ∧ b = .s (.tuple ys) ∧ l = zipD xs ys := by
  unfold zipOf at h
  split at h
  · cases h; exact ⟨_, _, rfl, rfl, rfl⟩
  · cases h
def wZip (ws : AW) : IW := fun ρ Q E => ws ρ (fun rs => ∃ a b l, rs = [a, b] ∧ zipOf a b = some l ∧ Q l) E
section
variable {X : Cx} {W : WX} {tg e : Expr} {ws : AW}
theorem pic_zip (h : PI X tg e (iZipN X.K (TDa X.K W ws))) : PIC X W tg e (wZip ws) := pi_imp h fun σ H Q ⟨G, B0, H0, B, ρ, Qd, Qe, S, q, ok, er⟩ => by
  refine ⟨G, B0, H0, B, ρ, _, Qe, S, q, fun rs xs B' H' S' s r' ap q' => ?_, er⟩
  obtain ⟨a, b, l, rfl, e1, q'⟩ := q'
  obtain ⟨x, y, rfl, r1, r2⟩ := r'.two
  obtain ⟨ds, es, rfl, rfl, rfl⟩ := zip_cases e1
  obtain ⟨p1, xs, rfl, h1, h2⟩ := r1.tup
  obtain ⟨p2, ys, rfl, h3, h4⟩ := r2.tup
  have up := S'.bh.trans (hide_le H')
  exact ⟨_, _, _, _, rfl, (h1.up up).t, (h3.up up).t, ok _ _ _ _ S' s (itd_zip fun B2 H2 ⟨l1, l2, l3⟩ =>
    ⟨⟨((h1.up l1.bb).up (l2.trans (hide_le H2))).t, ((h3.up l1.bb).up (l2.trans (hide_le H2))).t⟩, ⟨DpAll.mono l1.bb h2, DpAll.mono l1.bb h4⟩, l2, l3⟩) q'⟩
theorem pif_zip (h : PI X tg e (iZipN X.K (TDa X.K W ws))) : PIF X W tg e (wZip ws) := pi_imp h fun σ H Q ⟨G, B0, H0, B, ρ, Qd, Qe, S, q, ok, er⟩ => by
  refine ⟨G, B0, H0, B, ρ, _, Qe, S, q, fun rs xs B' H' S' s r' ap q' => ?_, er⟩
  obtain ⟨a, b, l, rfl, e1, q'⟩ := q'
  obtain ⟨x, y, rfl, r1, r2⟩ := r'.two
  obtain ⟨ds, es, rfl, rfl, rfl⟩ := zip_cases e1
  obtain ⟨p1, xs, rfl, h1, h2⟩ := r1.tup
  obtain ⟨p2, ys, rfl, h3, h4⟩ := r2.tup
  have up := S'.bh.trans (hide_le H')
  exact ⟨_, _, _, _, rfl, (h1.up up).t, (h3.up up).t, ok _ _ _ _ S' s (itd_zip fun B2 H2 ⟨l1, l2, l3, _⟩ =>
    ⟨⟨((h1.up l1).up (l2.trans (hide_le H2))).t, ((h3.up l1).up (l2.trans (hide_le H2))).t⟩, ⟨DpAll.mono l1 h2, DpAll.mono l1 h4⟩, l2, l3⟩) q'⟩
end
/-! ### {}, dict(..) -/
def wDNew : EW := fun ρ Q E => Q (.k true [])
theorem pd_dnew {X : Cx} {W : WX} {e : Expr} (h : PE X e tDNewK) : PD X W e wDNew := pe_imp h fun σ H Q ⟨G, B0, H0, B, ρ, Qd, Qe, S, q, ok, er⟩ => fun p hp =>
  Cont.dk (Qd := Qd) ⟨S.bh, S.gok⟩ (fun r z B' H' s bh g hr q' => ok r z B' H' (S.step s bh g) s hr q') hp .nil q
/-- pairs with keys -/
def pairsK : List D → Option (List (Key × D))
  | [] => some []
  | .tuple [a, d] :: r => match ofK a, pairsK r with
    | some k, some s => some ((k, d) :: s)
    | _, _ => none
  | _ => none
def fDict : FL := fun rs Q => ∃ r, rs = [r] ∧ ((∃ kvs, r.kv = some kvs ∧ Q (.k true kvs)) ∨ ∃ ds kvs, r.seq = some ds ∧ pairsK ds = some kvs ∧ Q (.k true (kMerge [] kvs)))
theorem pairs_read {K : Frag} {B H : Hp} (up : Same B H) : ∀ {ds : List D} {kvs : List (Key × D)} {xs : List V}, pairsK ds = some kvs → DpAll K B xs ds →
    ∃ (ps : List Addr) (kv : List (Key × V)), xs = ps.map V.ref ∧ Paired (fun p q => SqT K H p [kV q.1, q.2]) ps kv ∧ KvP K B kv kvs
  | [], kvs, xs, e, h => by
    cases h
    cases e
    exact ⟨[], [], rfl, .nil, .nil⟩
  | d :: r, kvs, xs, e, h => by
    cases h with
    | cons h t =>
      unfold pairsK at e
      split at e
      · cases ‹_ :: _ = []›
      · rename_i a d' r' heq
        cases heq
        cases h1 : ofK a with
        | none => rw [h1] at e; cases e
        | some k =>
          cases h2 : pairsK r with
          | none => rw [h1, h2] at e; cases e
          | some s =>
            rw [h1, h2] at e
            cases e
            obtain ⟨ps, kv, rfl, p1, p2⟩ := pairs_read up h2 t
            cases h with
            | tup g1 g2 =>
              cases g2 with
              | cons ga g3 =>
                cases g3 with
                | cons gd g4 =>
                  cases g4
                  cases kV_of ga h1
                  rename_i pa vd
                  exact ⟨pa :: ps, (k, vd) :: kv, rfl, .cons (g1.up up).t p1, .cons gd p2⟩
      · cases e
/-- dict(t) of a neat tuple of pairs -/
theorem pairs_are {X : Cx} {pins : List (Addr × Obj)} {σ : L2.St} {H : Hp} {s : Shared} (I : Inv X pins σ H s) : ∀ {ps : List Addr} {kvs : List (Key × V)}, Paired (fun p kv => SqT X.K H p [kV kv.1, kv.2]) ps kvs →
    ∃ (prs : List (Key × Value)) (uv : List (Value × Value)), KV kvs prs ∧ prs.length = ps.length ∧ uv.length = ps.length ∧ ∀ (j : Nat) (u v : Value), uv[j]? = some (u, v) → ∃ b k, ps[j]? = some b ∧ IsTup s.heap b #[u, v] ∧ prs[j]? = some (k, v) ∧ keyIs k u = true
  | _, _, .nil => ⟨[], [], .nil, rfl, rfl, fun j u v e => by simp at e⟩
  | _, _, .cons (a := p) (b := kv) h t => by
    obtain ⟨prs, uv, g1, g2, g3, g4⟩ := pairs_are I t
    obtain ⟨its, rv, ht, _⟩ := I.tuple h
    obtain ⟨u, y, ei, ru, ry⟩ := vals2 rv
    subst ei
    refine ⟨(kv.1, y) :: prs, (u, y) :: uv, .cons ⟨rfl, ry⟩ g1, congrArg (· + 1) g2, congrArg (· + 1) g3, fun j u' v' e => ?_⟩
    cases j with
    | zero =>
      cases (show some (u, y) = some (u', v') from e)
      exact ⟨p, kv.1, rfl, ht, rfl, kV_is (P := X.prog) (w := X.w) ru⟩
    | succ j => exact g4 j u' v' e
theorem SqN.obj {X : Cx} {pins : List (Addr × Obj)} {σ : L2.St} {H : Hp} {s : Shared} {a : Addr} {xs : List V} (I : Inv X pins σ H s) (h : SqN X.K H a xs) : ∃ (o : Obj) (its : Array Value) (n : Nat), s.heap.get? a = some o ∧ Neat o ∧ o.data = .seq its n ∧ its.size ≤ sizeLine ∧ Vals xs its.toList := by
  rcases h with ⟨o, h, hn⟩ | ⟨o, its, n, h1, h2, h3, h4, h5⟩
  · obtain ⟨e, hz, its, r, o', e', _, n, hd⟩ := I.hok _ _ h
    rw [e] at e'
    cases e'
    exact ⟨o, its.toArray, n, e, hn, hd, by rw [List.size_toArray, ← r.length]; exact hz, r⟩
  · exact ⟨o, its, n, I.kIn _ _ h1, h2, h3, h4, h5⟩
theorem callN_dictT {X : Cx} (hc : X.calm = true) : CallR X (.type "dict") (fun vs H Q => ∃ (a : Addr) (ps : List Addr) (kvs : List (Key × V)), vs = [.ref a] ∧ SqN X.K H a (ps.map V.ref) ∧ Paired (fun p kv => SqT X.K H p [kV kv.1, kv.2]) ps kvs ∧
    ∀ p, H p = none → Q (.ref p) (upd H p (.dK (mergeK [] kvs)))) := by
  intro pins s σ H vs us Q I r ⟨a, ps, kvs, ev, hq, hp, q⟩
  subst ev
  obtain ⟨u, eu, rx⟩ := vals1 r
  subst eu
  cases rx
  obtain ⟨o, its, n, ho, hn, hd, hz, rv⟩ := hq.obj I
  have ei := refs_at rv
  obtain ⟨prs, uv, g1, g2, g3, g4⟩ := pairs_are I hp
  have hsz : its.size = ps.length := by rw [← Array.length_toList, ei, List.length_map]
  have hit : ∀ (j : Nat) (b : Addr), ps[j]? = some b → its[j]? = some (Value.ref b) := fun j b e => by
    rw [← Array.getElem?_toList, ei, List.getElem?_map, e]
    rfl
  have arg := PairArg.tuple (prog := X.prog) (w := X.w) a its (fun j => ps.getD j 0) uv
  refine call_dict_pairs (knd := mixKind X.prog X.w) (kvs := prs) arg (I.ok.hd hc) ⟨⟨o, n, ho, hn.1, hn.2, hd⟩, by rw [hsz, g3], fun j k v e => ?_⟩ ⟨by rw [g2, g3], fun i key v e => ?_⟩ (by rw [g3, ← hsz]; exact hz) fun h' tk hd' hk => ?_
  · obtain ⟨b, kk, e1, e2, e3, e4⟩ := g4 j k v e
    have eb : ps.getD j 0 = b := by simp [List.getD, e1]
    show its[j]? = some (.ref (ps.getD j 0)) ∧ PairAt s.heap (ps.getD j 0) k v
    rw [eb]
    exact ⟨hit j b e1, .inl e2⟩
  · obtain ⟨b, kk, e1, e2, e3, e4⟩ := g4 i key v e
    exact ⟨kk, e3, e4⟩
  · have hm : (s.heap.objs.size == sysModules) = false := beq_eq_false_iff_ne.mpr (Nat.ne_of_gt I.big)
    have hlen : (mergeK [] kvs).length ≤ sizeLine := by
      refine Nat.le_trans (length_mergeK kvs []) ?_
      rw [List.length_nil, Nat.zero_add, g1.length, g2, ← hsz]
      exact hz
    exact ⟨.ref s.heap.objs.size, upd H s.heap.objs.size (.dK (mergeK [] kvs)), I.laid (t' := tk) (fun b o e => hk b o (fun z => nomatch z) e) (Nat.le_refl _) (show ObjOk X.prog X.w _ _ _ (.dK (mergeK [] kvs)) from ⟨hlen, hm, merged [] prs, KV.merge g1 .nil, hd'⟩), rfl, q _ (I.hok.fresh (Nat.le_refl _))⟩
theorem c_dict {X : Cx} (hc : X.calm = true) : CallR X (.type "dict") (liftL X.K fDict) := by
  intro pins s σ H xs us Q I rx hh
  obtain ⟨G, Hs, B, rs, Qd, c, ra, ⟨r, rfl, q⟩, k⟩ := hh
  obtain ⟨x, rfl, r1⟩ := ra.one
  rcases q with ⟨kvs, e1, q⟩ | ⟨ds, kvs, e1, e2, q⟩
  · obtain ⟨p, xs, rfl, h1, h2⟩ := r1.kv e1 c.bh
    exact call_dictD pins s σ H _ us Q I rx ⟨p, xs, rfl, h1, fun p' hp => k.dk c hp h2 q⟩
  · cases r with
    | s d =>
      cases d with
      | tuple es =>
        cases e1
        obtain ⟨p, xs, rfl, h1, h2⟩ := r1.tup
        obtain ⟨ps, kv, rfl, g1, g2⟩ := pairs_read c.le e2 h2
        exact callN_dictT hc pins s σ H _ us Q I rx ⟨p, ps, kv, rfl, h1.up c.le, g1, fun p' hp => k.dk c hp (KvP.merge g2 .nil) q⟩
      | list es =>
        cases e1
        cases (show Dp X.K B x (.list ds) from r1) with
        | lst h1 h2 =>
          obtain ⟨ps, kv, rfl, g1, g2⟩ := pairs_read c.le e2 h2
          exact call_dictP hc pins s σ H _ us Q I rx ⟨_, ps, kv, rfl, Same.sqL c.le h1, g1, fun p' hp => k.dk c hp (KvP.merge g2 .nil) q⟩
      | _ => cases e1
    | l own es =>
      cases e1
      obtain ⟨p, xs, rfl, h1, h2, _⟩ := r1
      obtain ⟨ps, kv, rfl, g1, g2⟩ := pairs_read c.le e2 h2
      exact call_dictP hc pins s σ H _ us Q I rx ⟨_, ps, kv, rfl, .inl (.inl (hide_some h1).2), g1, fun p' hp => k.dk c hp (KvP.merge g2 .nil) q⟩
    | _ => cases e1
end DL

set_option Elab.async false
set_option linter.all false
set_option maxRecDepth 100000
/-! The data layer: sorted(..). -/
namespace DL
open PySem PySem.Spec PyProof.Rows L2
/-- many new objects at once -/
theorem lay_new {X : Cx} {pins : List (Addr × Obj)} {σ : L2.St} {H H' : Hp} {s : Shared} {h' : Heap} {tk : Nat} (I : Inv X pins σ H s) (hk : ∀ b o, s.heap.get? b = some o → h'.get? b = some o) (low : ∀ a, a < s.heap.objs.size → H' a = H a)
    (hi : ∀ a o, s.heap.objs.size ≤ a → H' a = some o → ObjOk X.prog X.w H' h' a o) : Inv X pins σ H' { s with heap := h', toks := tk } := by
  have kp : ∀ b u, H b = some u → H' b = some u := fun b u e => by rw [low b (I.hok b u e).lt]; exact e
  refine I.call' (ch := []) rfl ⟨fun b o q _ _ _ => hk b o q, fun b o q _ _ _ => ⟨o.slots, hk b o q⟩, fun b o q n _ => ?_, fun b o q _ => ⟨o, hk b o q⟩, fun b xs q => kp b _ q, fun b o u q => kp b _ q, fun b ps q => ⟨#[], by rw [kp b _ q]; simp⟩⟩ (fun b u q => ?_) I.bare fun b z => by cases z
  · rw [low b (Heap.lt_size q)]; exact n
  · by_cases hb : b < s.heap.objs.size
    · rw [low b hb] at q
      exact (I.hok b u q).stay (fun d v _ y => hk d v y) (fun d y => kp d _ y) fun d xs y => kp d _ y
    · exact hi b u (Nat.le_of_not_lt hb) q
def sortD (ds : List D) : List D := ds.mergeSort (PySem.W.dataLe false id)
/-- what may be sorted -/
structure SrtOk (ds : List D) : Prop where
  al : PySem.W.AllAlike ds
  so : PySem.W.Sortable ds
  ly : ∀ d ∈ ds, PyData.canLay0 d = true ∧ PyData.depth d ≤ 60
  ln : ds.length ≤ 16777216
/-- a value and its datum -/
def Vd (K : Frag) (B : Hp) (v : Value) (d : D) : Prop := ∃ x, RelV x v ∧ Dp K B x d
theorem vd_all {K : Frag} {B : Hp} : ∀ {vs : List Value} {xs : List V} {ds : List D}, Vals xs vs → DpAll K B xs ds → PySem.W.EachIs (Vd K B) vs ds
  | _, _, _, .nil, .nil => .nil
  | _, _, _, .cons r t, .cons h u => .cons ⟨_, r, h⟩ (vd_all t u)
theorem vd_back {K : Frag} {B : Hp} : ∀ {vs : List Value} {ds : List D}, PySem.W.EachIs (Vd K B) vs ds → ∃ xs, Vals xs vs ∧ DpAll K B xs ds
  | _, _, .nil => ⟨[], .nil, .nil⟩
  | _, _, .cons ⟨x, r, h⟩ t => let ⟨xs, r', h'⟩ := vd_back t; ⟨x :: xs, .cons r r', .cons h h'⟩
theorem vd_reads {X : Cx} {pins : List (Addr × Obj)} {σ : L2.St} {H B : Hp} {s : Shared} (I : Inv X pins σ H s) (up : Same B H) : ∀ {vs : List Value} {ds : List D}, PySem.W.EachIs (Vd X.K B) vs ds → (∀ d ∈ ds, PyData.canLay0 d = true) → PySem.W.EachIs (fun v b => ∃ as, Reads s.heap v (id b) as) vs ds
  | _, _, .nil, _ => .nil
  | _, _, .cons (b := d) ⟨x, r, h⟩ t, c => .cons (Dp.reads I d x _ ((Dp.mono up h).old (c d List.mem_cons_self)) r) (vd_reads I up t fun d' hd => c d' (List.mem_cons_of_mem _ hd))
def fSorted : FL := fun rs Q => ∃ r ds, rs = [r] ∧ ((∃ o, r = .l o ds) ∨ r = .s (.list ds)) ∧ SrtOk ds ∧ Q (.l true (sortD ds))
theorem c_sorted {X : Cx} (hu : X.A.units + 64 < cLine) : CallR X (.builtin "sorted") (liftL X.K fSorted) := by
  intro pins s σ H xs us Q I rx hh
  obtain ⟨G, Hs, B, rs, Qd, c, ra, ⟨r, ds, rfl, hr, so, q⟩, k⟩ := hh
  obtain ⟨x, rfl, r1⟩ := ra.one
  obtain ⟨u, rfl, rx'⟩ := vals1 rx
  obtain ⟨p, xs, rfl, h1, h2⟩ : ∃ p xs, x = .ref p ∧ SqL X.K H p xs ∧ DpAll X.K B xs ds := by
    rcases hr with ⟨o, rfl⟩ | rfl
    · obtain ⟨p, xs, rfl, h1, h2, _⟩ := r1
      exact ⟨p, xs, rfl, .inl (.inl (hide_some h1).2), h2⟩
    · cases (show Dp X.K B x (.list ds) from r1) with
      | lst h1 h2 => exact ⟨_, _, rfl, Same.sqL c.le h1, h2⟩
  cases rx'
  obtain ⟨its, rv, pl, hz⟩ := I.list h1
  have ev := vd_all rv h2
  refine PySem.W.sorted_data (enc := id) (R := Vd X.K B) (vs := its) pl.isList ev (vd_reads I c.le ev fun d hd => (so.ly d hd).1) (by rw [List.map_id]; exact so.al) (by rw [List.map_id]; exact so.so) (by rw [line_eq]; exact so.ln) (fun d hd => ?_) fun out ho eo => ?_
  · have := (so.ly d hd).2
    show X.A.units + 2 + d.depth < cLine
    omega
  · obtain ⟨ys, ry, hy⟩ := vd_back eo
    obtain ⟨n, at'⟩ := sortedAll_at s.heap its (List.toArray out)
    have hp : H (s.heap.objs.size + 1) = none := I.hok.fresh (Nat.le_succ _)
    refine ⟨.ref (s.heap.objs.size + 1), upd H (s.heap.objs.size + 1) (.lst ys), I.laid (t' := s.toks) (fun b o e => sortedAll_old e) (Nat.le_succ _) ⟨?_, out, n, ry, at'⟩, rfl, k.lst c hp hy q⟩
    rw [ry.length, ho, line_eq]
    exact so.ln
/-! ### sorted(d.items()) -/
def rItemsK : V → List V → Hp → VK → Prop := fun x vs H Q => ∃ a kvs, x = .ref a ∧ vs = [] ∧ H a = some (.dK kvs) ∧ ∀ p, H p = none → Q (.ref p) (upd H p (DX.itemsO p a))
theorem dk_raw {X : Cx} {pins : List (Addr × Obj)} {σ : L2.St} {H : Hp} {s : Shared} {a : Addr} {kvs : List (Key × V)} (I : Inv X pins σ H s) (h : H a = some (.dK kvs)) :
    kvs.length ≤ sizeLine ∧ (a == sysModules) = false ∧ ∃ (vs : List (Key × Value)) (es : Array DictEntry) (ep : Nat), KV kvs vs ∧ DT.Raw s.heap a es ep ∧ Pairs (mixKind X.prog X.w) es.toList vs := by
  obtain ⟨hz, hd, vs, rel, o, es, ep, ho, hx, hdat, _, hp, _⟩ := I.hok _ _ h
  exact ⟨hz, hd, vs, es, ep, rel, ⟨o, ho, hx, hdat⟩, hp⟩
theorem mt_itemsK {X : Cx} : MtR X "dict.items" rItemsK := by
  intro pins s σ H x xs v us Q I rx rxs ⟨a, kvs, ex, ev, ha, q⟩
  subst ex ev
  cases rx
  cases rxs
  obtain ⟨_, hd, _, es, ep, _, raw, _⟩ := dk_raw I ha
  exact DT.callItems hd raw ⟨.ref s.heap.objs.size, _, I.laid (t' := s.toks) (fun b u e => Heap.get?_push_of_some _ e) (Nat.le_refl _) (DX.itemsO_ok (Heap.get?_push_size _ rfl)), rfl, q _ (I.hok.fresh (Nat.le_refl _))⟩
def pairsD (ds : List (Key × D)) : List D := ds.map fun p => .tuple [kD p.1, p.2]
def grow (B H H' : Hp) (l : Addr) : Hp := fun b => match H b with
  | some _ => B b
  | none => if b = l then none else H' b
theorem flat_reads {K : Frag} {B : Hp} {h : Heap} {v : V} {d : D} {u : Value} (hv : Dp K B v d) (f : flatD d = true) (r : RelV v u) : Reads h u d [] := by
  cases hv with
  | non => cases r; exact .none
  | bl b => cases r; exact .bool b
  | int i => obtain ⟨t, rfl⟩ := r; exact .int i t
  | str x => obtain ⟨t, rfl⟩ := r; exact .str x t
  | lst _ _ => cases f
  | tup _ _ => cases f
  | dic _ _ => cases f
theorem key_reads {h : Heap} {k : Key} {u : Value} (r : RelV (kV k) u) : Reads h u (kD k) [] := by
  cases k with
  | inl i => obtain ⟨t, rfl⟩ := r; exact .int i t
  | inr x => obtain ⟨t, rfl⟩ := r; exact .str x t
theorem key_dp {K : Frag} {B : Hp} (k : Key) : Dp K B (kV k) (kD k) := by
  cases k with
  | inl i => exact .int i
  | inr x => exact .str x
theorem pairs_made {X : Cx} {B : Hp} {h' : Heap} : ∀ {as : List Addr} {vs : List (Key × Value)} {kvs : List (Key × V)} {ds : List (Key × D)}, KV kvs vs → KvP X.K B kvs ds → as.length = vs.length →
    (∀ (j : Nat) (a : Addr), as[j]? = some a → ∃ key k x, vs[j]? = some (k, x) ∧ keyIs k key = true ∧ h'.get? a = some { cls := .type "tuple", data := .seq #[key, x] }) → (∀ q ∈ ds, flatD q.2 = true) →
    ∃ N : List (Addr × HO), N.map (·.1) = as ∧ (∀ p ∈ N, ∀ (H'' : Hp) (h2 : Heap), (∀ o, h'.get? p.1 = some o → h2.get? p.1 = some o) → ObjOk X.prog X.w H'' h2 p.1 p.2) ∧ ∀ B' : Hp, (∀ p ∈ N, B' p.1 = some p.2) → Same B B' →
      PySem.W.EachIs (Vd X.K B') (as.map Value.ref) (pairsD ds) ∧ PySem.W.EachIs (fun v b => Reads h' v b []) (as.map Value.ref) (pairsD ds)
  | [], [], _, _, .nil, .nil, _, _, _ => ⟨[], rfl, fun p hp => (nomatch hp), fun B' _ _ => ⟨.nil, .nil⟩⟩
  | [], _ :: _, _, _, _, _, hl, _, _ => by cases hl
  | _ :: _, [], _, _, _, _, hl, _, _ => by cases hl
  | a :: as, (k, y) :: vs, _, _, .cons (a := (k1, v1)) ⟨e1, ry⟩ kt, hkv, hl, hm, hf => by
    cases hkv with
    | @cons _ _ d _ ds hd ht =>
      obtain ⟨key, k0, x, g1, g2, g3⟩ := hm 0 a rfl
      cases (show some (k, y) = some (k0, x) from g1)
      obtain rfl : k1 = k := e1
      obtain ⟨N, n1, n2, n3⟩ := pairs_made kt ht (Nat.succ.inj hl) (fun j b e => hm (j + 1) b e) (fun q hq => hf q (List.mem_cons_of_mem _ hq))
      have rk : RelV (kV k1) key := relV_key g2
      refine ⟨(a, .frz { cls := .type "tuple", data := .seq #[key, y] } (.tup [kV k1, v1])) :: N, congrArg (a :: ·) n1, fun p hp H'' h2 hk => ?_, fun B' hb hs => ?_⟩
      · rcases List.mem_cons.mp hp with rfl | hp
        · exact ⟨hk _ g3, by show 2 ≤ sizeLine; decide, [key, y], .cons rk (.cons ry .nil), _, hk _ g3, rfl, _, rfl⟩
        · exact n2 p hp H'' h2 hk
      · obtain ⟨q1, q2⟩ := n3 B' (fun p hp => hb p (List.mem_cons_of_mem _ hp)) hs
        refine ⟨.cons ⟨.ref a, rfl, .tup (.inl ⟨_, hb _ List.mem_cons_self, rfl, rfl⟩) (.cons (key_dp k1) (.cons (Dp.mono hs hd) .nil))⟩ q1, .cons ?_ q2⟩
        exact .tuple g3 rfl rfl (.cons (key_reads rk) (.cons (flat_reads hd (hf _ List.mem_cons_self) ry) .nil))
theorem find_one : ∀ {N : List (Addr × HO)} {p : Addr × HO}, (N.map (·.1)).Nodup → p ∈ N → N.find? (fun q => decide (q.1 = p.1)) = some p
  | [], _, _, h => (nomatch h)
  | q :: N, p, hn, h => by
    rw [List.map_cons, List.nodup_cons] at hn
    rcases List.mem_cons.mp h with rfl | h
    · simp
    · have ne : ¬ q.1 = p.1 := fun e => hn.1 (by rw [e]; exact List.mem_map.mpr ⟨p, h, rfl⟩)
      rw [List.find?_cons_of_neg (by simpa using ne)]
      exact find_one hn.2 h
def rSI (K : Frag) : List V → Hp → VK → Prop := fun vs H Q => ∃ p a kvs B ds, vs = [.ref p] ∧ H p = some (DX.itemsO p a) ∧ H a = some (.dK kvs) ∧ Same B H ∧ KvP K B kvs ds ∧ (∀ q ∈ ds, flatD q.2 = true) ∧ SrtOk (pairsD ds) ∧
  ∀ (H' : Hp) (l : Addr) (xs : List V), Same H H' → H l = none → H' l = some (.lst xs) → DpAll K (grow B H H' l) xs (sortD (pairsD ds)) → Q (.ref l) H'
theorem c_sortIt {X : Cx} (hc : X.calm = true) (hu : X.A.units + 64 < cLine) : CallR X (.builtin "sorted") (rSI X.K) := by
  intro pins s σ H xs us Q I rx ⟨p, a, kvs, B, ds, ev, hp, ha, up, hkv, hf, so, q⟩
  subst ev
  obtain ⟨u, eu, rp⟩ := vals1 rx
  subst eu
  cases rp
  obtain ⟨hz, _, vs, es, ep, rel, raw, prs⟩ := dk_raw I ha
  have hes : es.size = vs.length := by rw [← Array.length_toList]; exact prs.length
  have hkl := rel.length
  refine DT.sortedI (I.ok.hd hc) (I.hok _ _ hp).1 raw (by rw [hes, ← hkl]; exact hz) fun h' tk as hk hlt hl hG => ?_
  have made : ∀ (j : Nat) (b : Addr), as[j]? = some b → ∃ key k x, vs[j]? = some (k, x) ∧ keyIs k key = true ∧ h'.get? b = some { cls := .type "tuple", data := .seq #[key, x] } := fun j b e => by
    obtain ⟨en, e1, e2⟩ := hG.pairs j b e
    have e3 : es.toList[j]? = some en := by rw [Array.getElem?_toList]; exact e1
    obtain ⟨⟨k, x⟩, e4⟩ : ∃ z, vs[j]? = some z := ⟨_, List.getElem?_eq_getElem (by rw [← prs.length]; exact (List.getElem?_eq_some_iff.mp e3).1)⟩
    obtain ⟨g1, g2⟩ := prs.get? e3 e4
    subst g2
    exact ⟨en.key, k, en.val, e4, g1, e2⟩
  obtain ⟨N, n1, n2, n3⟩ := pairs_made (X := X) rel hkv (hl.trans hes) made hf
  have nd : (N.map (·.1)).Nodup := by rw [n1]; exact hG.rise.imp fun h => Nat.ne_of_lt h
  let H' : List V → Hp := fun ys b => if b < s.heap.objs.size then H b else if b = h'.objs.size then some (.lst ys) else (N.find? fun z => decide (z.1 = b)).map (·.2)
  have inN : ∀ z ∈ N, s.heap.objs.size < z.1 ∧ z.1 < h'.objs.size := fun z hz' => by
    have m : z.1 ∈ as := by rw [← n1]; exact List.mem_map.mpr ⟨z, hz', rfl⟩
    exact ⟨hG.above _ m, hG.there m⟩
  have atN : ∀ ys, ∀ z ∈ N, H' ys z.1 = some z.2 := fun ys z hz' => by
    obtain ⟨a1, a2⟩ := inN z hz'
    show (if z.1 < s.heap.objs.size then H z.1 else if z.1 = h'.objs.size then some (.lst ys) else (N.find? fun q => decide (q.1 = z.1)).map (·.2)) = some z.2
    rw [if_neg (Nat.not_lt.mpr (Nat.le_of_lt a1)), if_neg (Nat.ne_of_lt a2), find_one nd hz']
    rfl
  have off : ∀ ys b, h'.objs.size ≤ b → b ≠ h'.objs.size → H' ys b = none := fun ys b h1 h2 => by
    show (if b < s.heap.objs.size then H b else if b = h'.objs.size then some (.lst ys) else (N.find? fun q => decide (q.1 = b)).map (·.2)) = none
    rw [if_neg (Nat.not_lt.mpr (Nat.le_trans (Nat.le_of_lt hlt) h1)), if_neg h2, List.find?_eq_none.mpr fun z hz' => ?_]
    · rfl
    · have := (inN z hz').2
      simpa using Nat.ne_of_lt (Nat.lt_of_lt_of_le this h1)
  have low : ∀ ys b, b < s.heap.objs.size → H' ys b = H b := fun ys b h => if_pos h
  have atL : ∀ ys, H' ys h'.objs.size = some (HO.lst ys) := fun ys => by
    show (if h'.objs.size < s.heap.objs.size then H h'.objs.size else if h'.objs.size = h'.objs.size then some (HO.lst ys) else (N.find? fun z => decide (z.1 = h'.objs.size)).map (·.2)) = some (HO.lst ys)
    rw [if_neg (Nat.not_lt.mpr (Nat.le_of_lt hlt)), if_pos rfl]
  have old : ∀ ys, Same H (H' ys) := fun ys b o e => by rw [low ys b (I.hok b o e).lt]; exact e
  have fresh : ∀ b, s.heap.objs.size ≤ b → H b = none := fun b h => I.hok.fresh h
  have gr : ∀ ys, grow B H (H' ys) h'.objs.size = grow B H (H' []) h'.objs.size := fun ys => by
    funext b
    unfold grow
    cases e : H b with
    | some _ => rfl
    | none =>
      by_cases hb : b = h'.objs.size
      · simp only [hb, if_true]
      · simp only [hb, if_false]
        show (if b < s.heap.objs.size then H b else if b = h'.objs.size then some (.lst ys) else _) = (if b < s.heap.objs.size then H b else if b = h'.objs.size then some (.lst []) else _)
        rw [if_neg hb, if_neg hb]
  have gB : Same B (grow B H (H' []) h'.objs.size) := fun b o e => by
    unfold grow
    rw [up b o e]
    exact e
  have gN : ∀ z ∈ N, grow B H (H' []) h'.objs.size z.1 = some z.2 := fun z hz' => by
    obtain ⟨a1, a2⟩ := inN z hz'
    unfold grow
    rw [fresh _ (Nat.le_of_lt a1)]
    simp only [Nat.ne_of_lt a2, if_false]
    exact atN [] z hz'
  obtain ⟨ev, er⟩ := n3 _ gN gB
  have la : (as.map Value.ref).length = (pairsD ds).length := ev.length
  have er' : ∀ {vs' : List Value} {bs : List D} {o : Obj}, PySem.W.EachIs (fun v b => Reads h' v b []) vs' bs → PySem.W.EachIs (fun v b => ∃ as', Reads (h'.push o) v (id b) as' ∧ h'.objs.size ∉ as') vs' bs := fun h => h.mono fun v b r =>
    ⟨[], PyProof.Rows.Reads.keeps (fun _ _ e => Heap.get?_push_of_some _ e) r, fun z => nomatch z⟩
  refine PySem.W.list_sort_data (enc := id) (R := Vd X.K (grow B H (H' []) h'.objs.size)) (n := 0) (Heap.get?_push_size _ rfl) ev (er' er) (by rw [List.map_id]; exact so.al) (by rw [List.map_id]; exact so.so) (by rw [line_eq]; exact so.ln) (fun d hd => ?_) fun out ho eo => ?_
  · have := (so.ly d hd).2
    show X.A.units + 1 + 1 + d.depth < cLine
    omega
  obtain ⟨ys, ry, hy⟩ := vd_back eo
  have hL : (h'.push { cls := .type "list", data := .seq (as.map Value.ref).toArray }).get? h'.objs.size = some (seqObj "list" (as.map Value.ref).toArray 0) := Heap.get?_push_size _ rfl
  obtain ⟨n, at'⟩ := sortedHeap_at (out := List.toArray out) hL
  have keep : ∀ b o, b ≠ h'.objs.size → h'.get? b = some o → (sortedHeap (h'.push { cls := .type "list", data := .seq (as.map Value.ref).toArray }) h'.objs.size (as.map Value.ref) (List.toArray out)).get? b = some o := fun b o hb e => by
    rw [sortedHeap_old hb (by rw [size_push']; exact Nat.lt_succ_of_lt (Heap.lt_size e))]
    exact Heap.get?_push_of_some _ e
  refine ⟨.ref h'.objs.size, H' ys, lay_new (s := s) (tk := tk) I (fun b o e => keep b o (Nat.ne_of_lt (Nat.lt_trans (Heap.lt_size e) hlt)) (hk b o e)) (low ys) (fun b o hb e => ?_), rfl, q _ _ ys (old ys) (fresh _ (Nat.le_of_lt hlt)) (atL ys) (by rw [gr ys]; exact hy)⟩
  by_cases hb2 : b = h'.objs.size
  · subst hb2
    rw [atL ys] at e
    cases e
    refine ⟨?_, out, n, ry, at'⟩
    rw [ry.length, ho, line_eq]
    exact so.ln
  · have e' : (N.find? fun z => decide (z.1 = b)).map (·.2) = some o := by
      have : H' ys b = (if b < s.heap.objs.size then H b else if b = h'.objs.size then some (.lst ys) else (N.find? fun z => decide (z.1 = b)).map (·.2)) := rfl
      rw [this, if_neg (Nat.not_lt.mpr hb), if_neg hb2] at e
      exact e
    cases f : N.find? fun z => decide (z.1 = b) with
    | none => rw [f] at e'; cases e'
    | some z =>
      rw [f] at e'
      cases e'
      have zb : z.1 = b := by simpa using List.find?_some f
      have zN := List.mem_of_find?_eq_some f
      subst zb
      exact n2 z zN _ _ fun o' e2 => keep _ o' hb2 e2
theorem grow_step {G : Gh} {B H1 H2 H' : Hp} {l : Addr} (bh : Same B (hide G H1)) (gok : G.ok H1) (h12 : Same H1 H2) (h2 : Same H2 H') (hl : H2 l = none) : Stp G B H1 (grow B H2 H' l) H' ∧ Same (grow B H2 H' l) (hide G H') ∧ G.ok H' ∧ l ∉ G.at_ ∧ H1 l = none := by
  have h1l : H1 l = none := h12.free hl
  have all : Same H1 H' := h12.trans h2
  have ng : ∀ b, H1 b = none → b ∉ G.at_ := fun b e z => G.here _ gok _ z e
  have hh : Same (hide G H1) (hide G H') := fun b o e => by
    obtain ⟨z, e⟩ := hide_some e
    rw [hide_out z]
    exact all _ _ e
  refine ⟨⟨fun b o e => ?_, hh, fun b o e1 e2 => ?_⟩, fun b o e => ?_, G.stay _ _ (fun a ha => ?_) gok, ng l h1l, h1l⟩
  · unfold grow
    rw [h12 b o (hide_some (bh b o e)).2]
    exact e
  · unfold grow
    rw [h12 b o (hide_some e2).2]
    exact e1
  · unfold grow at e
    cases q : H2 b with
    | some u => rw [q] at e; exact hh b o (bh b o e)
    | none =>
      rw [q] at e
      by_cases z : b = l
      · simp only [z, if_true] at e; cases e
      · simp only [z, if_false] at e
        rw [hide_out (ng b (h12.free q))]
        exact e
  · cases q : H1 a with
    | none => exact absurd q (G.here _ gok a ha)
    | some o => exact all a o q
def wSortIt (w : EW) : EW := fun ρ Q E => w ρ (fun r => ∃ kvs, r.kvE = some kvs ∧ (kvs.all fun q => flatD q.2) = true ∧ SrtOk (pairsD kvs) ∧ Q (.l true (sortD (pairsD kvs)))) E
theorem pd_sortIt {X : Cx} {W : WX} {e : Expr} {w : EW} (h : PE X e (tCB (rSI X.K) (tCons (tBM0 X.K "dict" rItemsK (TDe X.K W w)) tNil))) : PD X W e (wSortIt w) := pe_imp h fun σ H Q ⟨G, B0, H0, B, ρ, Qd, Qe, S, q, ok, er⟩ => by
  refine ⟨G, B0, H0, B, ρ, _, Qe, S, q, fun r x B1 H1 S1 s1 r1 q1 => ?_, er⟩
  obtain ⟨kvs, e1, hf, so, q1⟩ := q1
  obtain ⟨p, xs, rfl, h1, h2⟩ := r1.kvE e1 S1.bh
  refine ⟨.inr (.inr (.inl ⟨rfl, .inl ⟨_, h1⟩⟩)), p, xs, rfl, rfl, h1, fun v hv => ?_⟩
  have h12 : Same H1 (upd H1 v (DX.itemsO v p)) := fun b o e => by rw [upd_ne (ne_of_none e hv)]; exact e
  refine ⟨v, p, xs, B1, kvs, rfl, upd_same, h12 _ _ h1, (S1.bh.trans (hide_le H1)).trans h12, h2, List.all_eq_true.mp hf, so, fun H' l ys hs hl hL hd => ?_⟩
  obtain ⟨st, bh, gok, ng, hl1⟩ := grow_step S1.bh S1.gok h12 hs hl
  refine ok (.l true (sortD (pairsD kvs))) _ _ _ (S1.step st bh gok) (s1.trans st) ⟨l, ys, rfl, by rw [hide_out ng]; exact hL, hd, fun _ => ⟨?_, s1.hh.free (hide_free hl1)⟩⟩ q1
  unfold grow; rw [hl]; simp
end DL

set_option Elab.async false
set_option linter.all false
set_option maxRecDepth 100000
set_option maxHeartbeats 4000000
/-! The data layer: sets of ints: {e for x in s if c}, set(l); sorted of such. -/
namespace DL
open PySem PySem.Spec PyProof.Rows L2
theorem add_int {X : Cx} {pins : List (Addr × Obj)} {σ : L2.St} {H : Hp} {s : Shared} {E : Value → Shared → Prop} {D : Addr} {S : Int → Bool} {n : Nat} {y : Int} {t : Tok} {Q : Value → Shared → Prop} (I : Inv X pins σ H s) (hD : H D = some (SetO X.w D S n)) (room : n + 1 < scanBound)
    (h : ∀ s', Inv X pins σ (upd H D (SetO X.w D (fun j => S j || decide (j = y)) (if S y = true then n else n + 1))) s' → Q .none s') : wpAny (model X.prog X.w) X.A (call (.builtin "set.add") [.ref D, .int y t]) Q E s := by
  refine setR_add (setO_get I hD) room fun h' sb new => h _ ?_
  obtain ⟨o, _, _, _, ho, _⟩ := id new
  exact I.write (e := D) (t' := s.toks + 1) (by rw [hD]; trivial) (.inl rfl) (fun b u hb hu => (sb.2 b hb).trans hu) ⟨o, ho⟩ (setO_new new)
/-- {elt for target in iter if ..}, elt an int: D the new set -/
def tScI (w : World) (wi : TI) (g : TG) (tt : TT) (te : TE) (vs : List Nat) : TE := fun σ H Q => wi σ H fun J H1 => ∀ D, H1 D = none → ∃ W : Nat → Nat → Hp → Prop, (∃ m, W 0 m (upd H1 D (SetO w D (fun _ => false) 0))) ∧ ∀ i m H, W i m H →
  (J.stop i H ∧ Q (.ref D) H) ∨ (J.go i H ∧ ∃ Nx : Hp → Prop, (∀ H', Nx H' → ∃ m', m' < m ∧ W (i + 1) m' H') ∧ ∀ x H', J.yld i H x H' → g x (wipe σ vs) H' fun σ2 H2 => wipe σ2 vs = wipe σ vs ∧ tt σ2 H2 fun b H3 =>
    if b = true then te σ2 H3 fun y H4 => ∃ (c : Int) (S : Int → Bool) (n : Nat), y = .int c ∧ H4 D = some (SetO w D S n) ∧ n + 1 < scanBound ∧ Nx (upd H4 D (SetO w D (fun j => S j || decide (j = c)) (if S c = true then n else n + 1))) else Nx H3)
section
variable {X : Cx}
theorem pe_scI {elt tg iter : Expr} {ifs : List Expr} {scope : Scope} {own : List (PySem.Str × Nat)} {pos : Pos} {wi : TI} {g : TG} {tt : TT} {te : TE} (hc : X.calm = true) (hN : X.N.Nodup) (hi : PI X tg iter wi) (ok : BlkOk X.N X.env.scope scope own)
    (hg : ∀ (s : Shared) (H : Hp) (C : Addr) (cl : List (PySem.Str × Addr)) (fp : List Addr), PG (X.blk s H scope (compEnvC scope cl C X.env) fp) tg g) (ht : ∀ (s : Shared) (H : Hp) (C : Addr) (cl : List (PySem.Str × Addr)) (fp : List Addr), PTs (X.blk s H scope (compEnvC scope cl C X.env) fp) ifs tt)
    (he : ∀ (s : Shared) (H : Hp) (C : Addr) (cl : List (PySem.Str × Addr)) (fp : List Addr), PE (X.blk s H scope (compEnvC scope cl C X.env) fp) elt te) (hs : ∀ x, foldedSetIterable iter X.env x = pure x := by intro _; rfl) :
    PE X (.SetComp elt [⟨tg, iter, ifs, 0⟩] scope pos) (tScI X.w wi g tt te (own.map (·.2))) := by
  refine ⟨fun pins s σ H Q I h => ?_⟩
  rw [PpSet.eval_SetComp]
  have closed := closure_ok (scope := scope) (env := X.env) fun y hy e => (ok.free y hy e).elim (fun k => I.ok.has _ (.inl k)) fun k => I.ok.has _ (.inr k)
  refine wpAny_comprehension_free (use := none) rfl hs closed ok.kind (fun y hy e => by rw [ok.uniq y hy, e]) (thn (hi.run pins s σ H _ I h) fun xv s1 hx => thn hx fun itv s2 ⟨it, fp, tn, J, H2, eit, I2, T, st2, f2, q⟩ => ?_)
  subst eit
  refine PpSet.newSet_ok (newEnv_comp ?_)
  generalize hD : s2.heap.objs.size = D
  have hDn : H2 D = none := I2.hok.fresh (Nat.le_of_eq hD)
  obtain ⟨W, ⟨m0, w0⟩, turn⟩ := q D hDn
  -- the empty set stands
  generalize hs3 : ({ s2 with heap := s2.heap.push { cls := .type "set", dict := none, data := .set #[] 0 (.fresh 0 0 (!X.w.params.followText "set-order")) } } : Shared) = s3
  have h3 : s3.heap = s2.heap.push { cls := .type "set", dict := none, data := .set #[] 0 (.fresh 0 0 (!X.w.params.followText "set-order")) } := by rw [← hs3]
  have up3 : ∀ b o, s2.heap.get? b = some o → s3.heap.get? b = some o := fun b o e => by rw [h3]; exact Heap.get?_push_of_some _ e
  have I3 : Inv X pins σ (upd H2 D (SetO X.w D (fun _ => false) 0)) s3 := by
    rw [← hs3]
    exact I2.laid (t' := s2.toks) (fun b o e => Heap.get?_push_of_some _ e) (Nat.le_of_eq hD) (by rw [← hD]; exact setO_new (setR_fresh X.w))
  have f3 : ∀ b ∈ fp, FpOk X pins (upd H2 D (SetO X.w D (fun _ => false) 0)) b ∧ b < s3.heap.objs.size := fun b hb => by
    obtain ⟨o, e, _⟩ := T.obj _ _ st2 b hb
    have lt := Heap.lt_size e
    exact ⟨⟨by rw [upd_ne (by rw [← hD]; exact Nat.ne_of_lt lt)]; exact (f2 b hb).1, (f2 b hb).2⟩, Heap.lt_size (up3 b o e)⟩
  have st3 : tn 0 s3.heap := T.keep _ _ _ st2 fun b _ o e => up3 b o e
  have I4 := block_start I3 ok hN f3
  have pg := hg s3 (upd H2 D (SetO X.w D (fun _ => false) 0)) s3.heap.objs.size (cellsFrom (s3.heap.objs.size + 1) scope.names (cloFrom X.env.cells scope.names [])) fp
  have pt := ht s3 (upd H2 D (SetO X.w D (fun _ => false) 0)) s3.heap.objs.size (cellsFrom (s3.heap.objs.size + 1) scope.names (cloFrom X.env.cells scope.names [])) fp
  have pe := he s3 (upd H2 D (SetO X.w D (fun _ => false) 0)) s3.heap.objs.size (cellsFrom (s3.heap.objs.size + 1) scope.names (cloFrom X.env.cells scope.names [])) fp
  show codeAny _ _ (.compStart (.SetComp elt [⟨tg, iter, ifs, 0⟩] scope pos) 0 (.ref it) (.ref D) (compEnvC scope (cellsFrom (s3.heap.objs.size + 1) scope.names (cloFrom X.env.cells scope.names [])) s3.heap.objs.size X.env)) _ { s3 with heap := pushCells (s3.heap.push { cls := .type "dict", data := .dict #[] }) scope.names }
  generalize hce : compEnvC scope (cellsFrom (s3.heap.objs.size + 1) scope.names (cloFrom X.env.cells scope.names [])) s3.heap.objs.size X.env = ce at I4 pg pt pe ⊢
  have cL : ce.locals = s3.heap.objs.size := by subst hce; rfl
  generalize hH3 : upd H2 D (SetO X.w D (fun _ => false) 0) = H3 at I3 I4 pg pt pe w0 f3
  generalize hs4 : ({ s3 with heap := pushCells (s3.heap.push { cls := .type "dict", data := .dict #[] }) scope.names } : Shared) = s4 at I4 ⊢
  have st4 : tn 0 s4.heap := T.keep _ _ _ st3 fun b _ o e => by rw [← hs4]; exact pushCells_keeps _ _ _ _ (Heap.get?_push_of_some _ e)
  have stat : ∀ {σ' : L2.St} {H' : Hp} {s' : Shared}, Inv (X.blk s3 H3 scope ce fp) [] σ' H' s' → (∀ b ∈ fp, H' b = none) → ∀ b ∈ fp, FpOk (X.blk s3 H3 scope ce fp) [] H' b := fun I' hn b hb =>
    ⟨hn b hb, (I'.ok.exf b hb).1, I'.ok.exfs b hb, .inl hb, fun x c e => (I'.ok.exf b hb).2 x c e, fun p hp => absurd (show p ∈ ([] : List (Addr × Obj)) ++ [] from hp) (by simp)⟩
  refine (fun loop => PpSet.codeAny_compStart_set loop (T.self X.A 0 _ _ _ st4 loop)) ?_
  refine PpSet.compLoopS_any (fun n s' => ∃ i H', Inv (X.blk s3 H3 scope ce fp) [] (wipe σ (own.map (·.2))) H' s' ∧ tn i s'.heap ∧ (∀ b ∈ fp, H' b = none) ∧ W i n H') ?_ m0 ⟨0, H3, I4, st4, fun b hb => (f3 b hb).1.1, w0⟩
  rintro n s5 ⟨i, H5, I5, st5, n5, w5⟩
  rcases turn i n H5 w5 with ⟨stop, qq⟩ | ⟨go, Nx, hNx, step⟩
  · refine thnF (T.done (X.blk s3 H3 scope ce fp) rfl rfl rfl hc i [] s5 _ H5 (fun _ _ => False) I5 (stat I5 n5) st5 stop) fun r s6 ⟨hr, I6⟩ => ?_
    subst hr
    have I7 : Inv X pins σ H5 s6 := I3.call' (ch := fp) I6.os I6.base I6.hok I6.bare fun b hb => ⟨(f3 b hb).1.2.2.2.1, (f3 b hb).1.2.1, (f3 b hb).1.2.2.2.2.1, (f3 b hb).1.2.2.2.2.2⟩
    have nC : H5 s3.heap.objs.size = none := cL ▸ (show H5 ce.locals = none from I6.free)
    obtain ⟨m, hn, _⟩ := I6.loc
    have hn : s6.heap.Ns s3.heap.objs.size m := cL ▸ (show s6.heap.Ns ce.locals m from hn)
    obtain ⟨g0, g1, g2, g3, g4, g5⟩ := I3.fpOk (Nat.le_refl _) nC
    exact ⟨m, hn, fun h'' sb => ⟨.ref D, H5, I7.turned (t' := s6.toks) (fun b o hb e => (sb.2 b hb).trans e) g0 g1 g3 g4 g5, rfl, qq⟩⟩
  · refine thnF (T.item (X.blk s3 H3 scope ce fp) rfl rfl rfl hc i [] s5 _ H5 (fun _ _ => False) I5 (stat I5 n5) st5 go) fun r s6 ⟨u, hr, h6⟩ => ?_
    subst hr
    refine thnF h6 fun _ s7 ⟨x, H7, I7, r7, y7, st7, n7⟩ => ?_
    have I7' := I7.pinned (stat I7 n7) (T.obj _ _ st7)
    refine thnF (pg.run _ s7 _ H7 x u _ I7' r7 (step x H7 y7)) fun _ s8 ⟨σ8, H8, I8, hw8, q8⟩ => thnF (pt.run _ s8 σ8 H8 _ I8 q8) fun b s9 ⟨H9, I9, q9⟩ => ?_
    have fin : ∀ {s' : Shared} {H' : Hp}, Inv (X.blk s3 H3 scope ce fp) ([] ++ pinsAt fp s7.heap) σ8 H' s' → Nx H' → ∃ m, m < n ∧ ∃ i H', Inv (X.blk s3 H3 scope ce fp) [] (wipe σ (own.map (·.2))) H' s' ∧ tn i s'.heap ∧ (∀ b ∈ fp, H' b = none) ∧ W i m H' := fun {s' H'} I' nx => by
      obtain ⟨m', hm, w'⟩ := hNx H' nx
      have pin' : ∀ b ∈ fp, ∀ o, s7.heap.get? b = some o → s'.heap.get? b = some o ∧ H' b = none := fun b hb o e => let z := I'.pin (b, o) (List.mem_append_right _ (List.mem_append_right _ (mem_pinsAt hb e))); ⟨z.1, z.2.1⟩
      refine ⟨m', hm, i + 1, H', (I'.unpinned (pins := [])).weak (by rw [← hw8, wipe_length]) (fun j v e => (wipe_some (by rw [← hw8] at e; exact e)).1), T.keep _ _ _ st7 fun b hb o e => (pin' b hb o e).1, fun b hb => ?_, w'⟩
      obtain ⟨o, e, _⟩ := T.obj _ _ st7 b hb
      exact (pin' b hb o e).2
    cases b with
    | false => exact fin I9 q9
    | true =>
      refine thnF (pe.run _ s9 σ8 H9 _ I9 q9) fun z s10 ⟨yv, H10, I10, r10, cb, S0, n0, ey, hD10, hz10, nx⟩ => ?_
      subst ey
      obtain ⟨tk, ez⟩ := r10
      subst ez
      exact add_int (X := X.blk s3 H3 scope ce fp) I10 hD10 hz10 fun s11 I11 => fin I11 nx
end
end DL

set_option Elab.async false
set_option linter.all false
set_option maxRecDepth 100000
set_option maxHeartbeats 8000000
/-! The data layer: set(l) of a list of ints. -/
namespace DL
open PySem PySem.Spec PyProof.Rows L2
abbrev set0 (w : World) : Obj := { cls := .type "set", dict := none, data := .set #[] 0 (.fresh 0 0 (!w.params.followText "set-order")) }
section
variable {P : Program} {w : World} {A : Around} {E : Value → Shared → Prop} {s : Shared}
theorem set_of_list {l : Addr} {its : Array Value} (ns : List Int) {Q : Value → Shared → Prop} (hh : A.handled = none) (hl : s.heap.IsList l its) (hit : IntsAre its.toList ns) (room : ns.length + 1 < scanBound)
    (h : ∀ (h' : Heap) (tk c : Nat), SetR w h' s.heap.objs.size (fun j => decide (j ∈ ns)) c → c ≤ ns.length → (∀ b o, s.heap.get? b = some o → h'.get? b = some o) → Q (.ref s.heap.objs.size) { s with heap := h', toks := tk }) :
    wpAny (model P w) A (call (.type "set") [.ref l]) Q E s := by
  have many : its.size = ns.length := by rw [← Array.length_toList]; exact IntsAre.length hit
  obtain ⟨_, _, hmro⟩ := F.called_set.mro
  have hmade := F.called_set.made
  have hsub := F.called_set.sub
  refine wpAny_call (codeAny_of_tree ?_)
  show wpAny _ _ (callAny (.type "set") _) _ _ _
  refine wpAny_pure ⟨Code.quiet_builtin _ (by decide +kernel), codeAny_builtin F.entry_type_call ?_⟩
  rw [Around.under_plain (weight_type_call_type "set" [.ref l] []) rfl]
  have h1 := F.called_set.notType
  have h2 := F.called_set.canCreate
  have hct := F.typeCall_set_1 (.ref l)
  repeat (any_goals (first | assumption | wp_step))
  refine codeAny_mono (code_set_led1 (.ref l) (E := E) (Q₁ := fun obj s1 => obj = .ref s.heap.objs.size ∧ s1 = { s with heap := s.heap.push (set0 w) }) ⟨rfl, rfl⟩) fun r s1 hr => ?_
  cases r with
  | error e => exact hr
  | ok fl =>
    cases fl with
    | ret obj =>
      obtain ⟨rfl, rfl⟩ := hr
      have atS : (s.heap.push (set0 w)).get? s.heap.objs.size = some (set0 w) := Heap.get?_push_size _ rfl
      have hT : Shared.TypeIs { s with heap := s.heap.push (set0 w) } (.ref s.heap.objs.size) "set" := ⟨_, atS, rfl⟩
      have hli := F.called_set.init.lookup
      have hbi := F.called_set.init.bind (.ref s.heap.objs.size)
      repeat (any_goals (first | assumption | wp_step))
      refine codeAny_mono (codeAny_call_builtin (R := wants (fun r s2 => r = .none ∧ ∃ h' tk c, s2 = { s with heap := h', toks := tk } ∧ SetR w h' s.heap.objs.size (fun j => decide (j ∈ ns)) c ∧ c ≤ ns.length ∧ (∀ b o, s.heap.get? b = some o → h'.get? b = some o)) E) F.called_set.init.plain F.entry_set_init (check_set_init_1 hT ?_)) fun r2 s2 hr2 => ?_
      · obtain ⟨⟨ocls, odict, odata, oslots⟩, hol, hcl, nl, hdl⟩ := hl
        obtain rfl : ocls = .type "list" := hcl
        obtain rfl : odata = .seq its nl := hdl
        have lt := Heap.lt_size hol
        have hol' : (s.heap.push (set0 w)).get? l = some { cls := .type "list", dict := odict, data := .seq its nl, slots := oslots } := Heap.get?_push_of_some _ hol
        have hsls : isSubtype (.type "list") (.type "set") = pure false := by rw [isSubtype_type]; kernel_rfl
        have hslf : isSubtype (.type "list") (.type "frozenset") = pure false := by rw [isSubtype_type]; kernel_rfl
        have hne : (Value.type "list" == Value.type "dict") = false := by decide
        have hl1 : (s.heap.push (set0 w)).IsList l its := ⟨_, hol', rfl, nl, rfl⟩
        have sz : (s.heap.push (set0 w)).objs.size = s.heap.objs.size + 1 := Heap.size_push ..
        unfold Builtin.«set.__init__» noKeywords Builtin.Frozenset.updateFrom
        generalize hPI : pyIter = PI
        wp_walk
        subst hPI
        refine wpAny_pyIter_list hl1 (wpAny_bind (wpAny_runValue ?_))
        have hh3 : A.in1.in1.in1.handled = none := by simp [hh]
        have far : l ≠ (s.heap.push (set0 w)).objs.size := by rw [sz]; exact Nat.ne_of_lt (Nat.lt_succ_of_lt lt)
        have out : s.heap.objs.size ∉ [(s.heap.push (set0 w)).objs.size, l] := by
          rw [sz]; simp only [List.mem_cons, List.not_mem_nil, or_false, not_or]
          exact ⟨Nat.ne_of_lt (Nat.lt_succ_self _), Nat.ne_of_gt lt⟩
        have each : ∀ (i : Nat) (v : Value), its[i]? = some v → ∃ k t, ns[i]? = some k ∧ v = .int k t := fun i v hv => by
          have hi : i < ns.length := many ▸ (Array.getElem?_eq_some_iff.mp hv).1
          obtain ⟨t, e⟩ := PyProof.Rows.IntsAre.int_at hit i v (by rw [Array.getElem?_toList]; exact hv)
          exact ⟨ns[i], t, List.getElem?_eq_getElem hi, by rw [e, List.getD_eq_getElem?_getD, List.getElem?_eq_getElem hi] <;> rfl⟩
        refine set_update_ints ((Walks.list hh3 _ l far its).toS) s.heap.objs.size out ns many room each (its.size - 0) 0 _ (by omega) (Nat.zero_le _) ⟨⟨_, Heap.get?_push_size _ rfl, rfl, rfl⟩, hl1.push _⟩ ⟨0, Nat.le_refl 0, setR_new_at (Heap.get?_push_of_some _ atS)⟩ ?_
        intro s' c' hm hc' hS'
        obtain ⟨h', g2, d', tk', os'⟩ := s'
        obtain rfl : g2 = s.gens := hm.gens
        obtain rfl : d' = s.drawn := hm.drawn
        obtain rfl : os' = s.os := hm.os
        show wpAny _ _ _ _ _ _
        refine wpAny_pure ?_
        show wpAny _ _ (ret Value.none) _ _ _
        refine wpAny_pure ⟨rfl, h', tk', c', rfl, hS', many ▸ hc', fun b o e => hm.heap b o ?_ (Heap.get?_push_of_some _ (Heap.get?_push_of_some _ e))⟩
        rw [sz]
        simp only [List.mem_cons, List.not_mem_nil, or_false, not_or]
        exact ⟨Nat.ne_of_lt (Heap.lt_size e), Nat.ne_of_lt (Nat.lt_succ_of_lt (Heap.lt_size e))⟩
      · cases r2 with
        | error e => exact hr2
        | ok fl2 =>
          cases fl2 with
          | ret r =>
            obtain ⟨rfl, h', tk, c', rfl, hS', hc', hk'⟩ := hr2
            repeat (any_goals (first | assumption | wp_step))
            exact h _ _ _ hS' hc' hk'
          | _ => exact hr2.elim
    | _ => exact hr.elim
end
def rSetL2 (K : Frag) (w : World) : List V → Hp → VK → Prop := fun vs H Q => ∃ (l : Addr) (ns : List Int), vs = [.ref l] ∧ SqL K H l (ns.map V.int) ∧ ns.length < 4000 ∧ ∀ D c, H D = none → c ≤ ns.length → Q (.ref D) (upd H D (SetO w D (fun j => decide (j ∈ ns)) c))
theorem c_setL {X : Cx} (hc : X.calm = true) : CallR X (.type "set") (rSetL2 X.K X.w) := by
  intro pins s σ H vs us Q I r ⟨l, ns, ev, hl, hz, q⟩
  subst ev
  obtain ⟨u, eu, rx⟩ := vals1 r
  subst eu
  cases rx
  obtain ⟨its, rv, pl, _⟩ := I.list hl
  refine set_of_list ns (I.ok.hd hc) pl.isList (by simpa using Vals.ints rv) (by unfold scanBound; omega) fun h' tk c hS hcn hk => ?_
  exact ⟨.ref s.heap.objs.size, _, I.laid (t' := tk) hk (Nat.le_refl _) (setO_new hS), rfl, q _ c (I.hok.fresh (Nat.le_refl _)) hcn⟩
end DL

set_option Elab.async false
set_option linter.all false
set_option maxRecDepth 100000
/-! The data layer: sorted({..}), sorted(set(..)). -/
namespace DL
open PySem PySem.Spec PyProof.Rows L2
/-- sorted of a set of ints, up to 4000 members -/
theorem set_sorted {P : Program} {w : World} {A : Around} {E : Value → Shared → Prop} {s : Shared} {D : Addr} {f : Int → Bool} {m : Nat} {Q : Value → Shared → Prop} (R : SetR w s.heap D f m) (calm : A.handled = none) (few : m ≤ 4000)
    (fin : ∀ t p (os : Array Value) (c : Nat) (ks : List Int), (∀ b o, s.heap.get? b = some o → t.heap.get? b = some o) → t.gens = s.gens → t.os = s.os → s.heap.objs.size ≤ p →
      t.heap.get? p = some (seqObj "list" os c) → IntsAre os.toList ks → ks.Pairwise (· < ·) → (∀ k, k ∈ ks ↔ f k = true) → ks.length = m → Q (.ref p) t) :
    wpAny (model P w) A (call (.builtin "sorted") [.ref D]) Q E s := by
  obtain ⟨o, rows, ep, tb, h1, h2, h3, hg, hnd, hmem, hb, hf, hcount, hr, hl⟩ := R
  apply Calls.call_function_entry kind_sorted plain_sorted entry_sorted (args_sorted1 _)
  unfold Builtin.«sorted»
  refine wpAny_bind (m := checkCount _ _ _ _) (wpAny_pure ?_)
  refine wpAny_bind ?_
  refine collect_set (A := A.in1) calm ⟨o, h1, h2.1, h3⟩ hf hb hr hl fun t us ku hz g1 o1 perm => ?_
  have count : us.length = m := by rw [perm.length_eq, List.length_map, Array.length_toList]; exact hcount
  have isI : IntsAre us (us.map Builtin.Re.reRawOf) := ints_of us fun u hu => by
    obtain ⟨e, he, eq⟩ := List.mem_map.mp (perm.mem_iff.mp hu)
    obtain ⟨k, tk, h4, _⟩ := hg e he
    exact ⟨k, tk, by rw [← eq]; exact h4⟩
  have permK : (us.map Builtin.Re.reRawOf).Perm (rows.toList.map keyOf) := by
    have := perm.map Builtin.Re.reRawOf
    rwa [List.map_map] at this
  refine wpAny_bind ?_
  refine wpAny_newList ?_ (by rw [count, sizeLine_eq]; omega)
  have mk0 : (t.heap.push (seqObj "list" us.toArray 0)).get? t.heap.objs.size = some (seqObj "list" us.toArray 0) := Heap.get?_push_size _ rfl
  refine wpAny_bind (wpAny_holding ?_)
  refine wpAny_call_entry slot_list_sort ⟨_, mk0, rfl⟩ entry_list_sort ?_ (args_list_sort _)
  refine list_sort_treeAny mk0 isI (by rw [count, sizeLine_eq]; omega) fun os ks b1 b2 b3 => ⟨_, rfl, ?_⟩
  obtain ⟨c, there⟩ := sortedHeap_at (vs := us) (out := os) mk0
  have pk := b2.trans permK
  refine wpAny_pure ⟨_, rfl, fin _ t.heap.objs.size os c ks (fun b u e => ?_) g1 o1 hz there b1 (lt_of_le_nodup ks b3 (pk.nodup_iff.mpr hnd)) (fun k => by rw [pk.mem_iff, ← hmem k]) ?_⟩
  · have old := ku b u e
    have lt := Heap.lt_size old
    show (sortedHeap (t.heap.push (seqObj "list" us.toArray 0)) t.heap.objs.size us os).get? b = some u
    rw [sortedHeap_old (Nat.ne_of_lt lt) (by rw [size_push']; exact Nat.lt_succ_of_lt lt)]
    exact Heap.get?_push_of_some _ old
  · rw [pk.length_eq, List.length_map, Array.length_toList]
    exact hcount
def rSetAny (w : World) : List V → Hp → VK → Prop := fun vs H Q => ∃ (D : Addr) (f : Int → Bool) (m : Nat), vs = [V.ref D] ∧ H D = some (SetO w D f m) ∧ m ≤ 4000 ∧
  ∀ (ks : List Int) (p : Addr), ks.Pairwise (· < ·) → (∀ k : Int, k ∈ ks ↔ f k = true) → ks.length = m → H p = none → Q (.ref p) (upd H p (.lst (ks.map V.int)))
theorem cr_setAny {X : Cx} (hc : X.calm = true) : CallR X (.builtin "sorted") (rSetAny X.w) := by
  intro pins s σ H vs us Q I r ⟨D, f, m, ev, hD, few, q⟩
  subst ev
  have R := setO_get I hD
  rw [Vals.ref1 r]
  refine set_sorted R (I.ok.hd hc) few fun t p os c ks k g o hp hg hi hs hm hl => ?_
  have sz : (ks.map V.int).length ≤ sizeLine := by rw [List.length_map, hl, sizeLine_eq]; omega
  have new : H p = none := I.hok.fresh hp
  have J : Inv X pins σ (upd H p (.lst (ks.map V.int))) { s with heap := t.heap, gens := t.gens, drawn := t.drawn, toks := t.toks } :=
    I.call (ch := []) (Un.laid k hp new) (I.hok.laid k hp ⟨sz, os.toList, c, vals_of_ints hi, hg⟩) (by rw [g]; exact I.bare) fun _ z => nomatch z
  have same : t = { s with heap := t.heap, gens := t.gens, drawn := t.drawn, toks := t.toks } := by
    cases t
    cases s
    simp only at o
    subst o
    rfl
  rw [same]
  exact ⟨.ref p, _, J, rfl, q ks p hs hm hl new⟩
/-- the members of ns, in order -/
def SortedOf (ns ns' : List Int) : Prop := ns'.Pairwise (· < ·) ∧ (∀ k, k ∈ ns' ↔ k ∈ ns) ∧ ns'.length ≤ 4000
def wSortSet (w : EW) : EW := fun ρ Q E => w ρ (fun r => ∃ ns : List Int, ((∃ o, r = .l o (ns.map PyData.int)) ∨ r = .s (.list (ns.map PyData.int))) ∧ ns.length < 4000 ∧ ∀ ns', SortedOf ns ns' → Q (.l true (ns'.map PyData.int))) E
/-- sorted({elt for names in wi if wt}) -/
def wSortSc (wi : IW) (tup : Bool) (is vs : List Nat) (wt : TW) (we : EW) : EW := fun ρ Q E => wi ρ (fun ds => ∃ P : Nat → List Int → Prop, P 0 [] ∧
  (∀ k acc d, ds[k]? = some d → P k acc → gwNames tup is d fun es => (∀ i ∈ is, i < ρ.length) ∧ wt (putA (wipeR ρ vs) is es) (fun b => if b = true then we (putA (wipeR ρ vs) is es) (fun r => ∃ z, r = .s (.int z) ∧ acc.length < 4000 ∧ P (k + 1) (acc ++ [z])) (fun _ => False) else P (k + 1) acc) (fun _ => False)) ∧
  ∀ acc, P ds.length acc → acc.length ≤ 4000 ∧ ∀ ns', SortedOf acc ns' → Q (.l true (ns'.map PyData.int))) E
theorem set_end {K : Frag} {w : World} {G : Gh} {B0 H0 B H B1 H1 : Hp} {σ : L2.St} {ρ : Rho} {Qd : R → Prop} {Q : VK} {D : Addr} {S : Int → Bool} {n : Nat} {ns : List Int}
    (ok : ∀ r x B' H', Stt K G B0 H0 B' H' σ ρ → Stp G B H B' H' → Rs K G H B' H' x r → Qd r → Q x H') (S1 : Stt K G B0 H0 B1 H1 σ ρ) (s1 : Stp G B H B1 H1) (hD : H1 D = some (SetO w D S n)) (hm : ∀ k, S k = true ↔ k ∈ ns) (hn : n ≤ 4000)
    (q : ∀ ns', SortedOf ns ns' → Qd (.l true (ns'.map PyData.int))) : rSetAny w [.ref D] H1 Q :=
  ⟨D, S, n, rfl, hD, hn, fun ns' p h1 h2 h3 hp => by
    have g := S1.notG hp
    refine ok (.l true (ns'.map PyData.int)) (.ref p) B1 _ (S1.new hp) (s1.trans (Stp.new hp)) ⟨p, _, rfl, by rw [hide_out g, upd_same], DpAll.ints ns', fun _ => ⟨S1.freeB hp, s1.hh.free (hide_free hp)⟩⟩ (q ns' ⟨h1, fun k => (h2 k).trans (hm k), by omega⟩)⟩
theorem pd_sortSet {X : Cx} {W : WX} {e : Expr} {w : EW} (h : PE X e (tCB (rSetAny X.w) (tCons (tCB (rSetL2 X.K X.w) (tCons (TDe X.K W w) tNil)) tNil))) : PD X W e (wSortSet w) := pe_imp h fun σ H Q ⟨G, B0, H0, B, ρ, Qd, Qe, S, q, ok, er⟩ => by
  refine ⟨G, B0, H0, B, ρ, _, Qe, S, q, fun r x B1 H1 S1 s1 r1 ⟨ns, hr, hl, q1⟩ => ?_, er⟩
  obtain ⟨p, rfl, hq⟩ : ∃ p, x = .ref p ∧ SqL X.K H1 p (ns.map V.int) := by
    rcases hr with ⟨o, rfl⟩ | rfl
    · obtain ⟨p, xs, rfl, h1, h2, _⟩ := r1
      cases h2.ints'
      exact ⟨p, rfl, .inl (.inl (hide_some h1).2)⟩
    · cases (show Dp X.K B1 x (.list (ns.map PyData.int)) from r1) with
      | lst h1 h2 => cases h2.ints'; exact ⟨_, rfl, Same.sqL (S1.bh.trans (hide_le H1)) h1⟩
  refine ⟨p, ns, rfl, hq, by omega, fun D c hD hc => ?_⟩
  exact set_end ok (S1.new hD) (s1.trans (Stp.new hD)) upd_same (fun k => by simp) (by omega) q1
theorem pd_sortSc {X : Cx} {W : WX} {e : Expr} {wi : IW} {tup : Bool} {is vs : List Nat} {wt : TW} {we : EW} (h : PE X e (tCB (rSetAny X.w) (tCons (tScI X.w (TDiC X.K W wi) (gC X.K tup is) (TDt X.K W0 wt) (TDe X.K W0 we) vs) tNil)))
    (hsub : ∀ i ∈ is, i ∈ vs) (h1 : tup = true ∨ ∃ i, is = [i]) : PD X W e (wSortSc wi tup is vs wt we) := pe_imp h fun σ H Q ⟨G, B0, H0, B, ρ, Qd, Qe, S, q, ok, er⟩ => by
  refine ⟨G, B0, H0, B, ρ, _, Qe, S, q, fun ds J B1 H1 S1 s1 it ⟨P, p0, turn, done⟩ => ?_, er⟩
  intro Dl hD
  have dG : Dl ∉ G.at_ := S1.notG hD
  have d0 : hide G H0 Dl = none := S1.st.hh.free (hide_free hD)
  have aw : ∀ (j : Nat) (r : R), ρ[j]? = some (some r) → owns r = true → σ[j]? ≠ some (some (.ref Dl)) := fun j r e1 o e2 => by
    obtain ⟨x, f1, f2⟩ := S1.sl j r e1
    rw [e2] at f1; cases f1
    obtain ⟨p, u, ep, k1, _⟩ := f2.own o
    cases ep
    rw [hD] at k1; cases k1
  let Inv' : Nat → Hp → Prop := fun i H => i ≤ ds.length ∧ ∃ (B' : Hp) (f : Int → Bool) (n : Nat) (acc : List Int), Stt X.K G B0 H0 B' H σ ρ ∧ Stp G B1 H1 B' H ∧ H Dl = some (SetO X.w Dl f n) ∧ (∀ k, f k = true ↔ k ∈ acc) ∧ n ≤ acc.length ∧ B' Dl = none ∧ P i acc
  refine ⟨fun i m H => m = ds.length - i ∧ Inv' i H, ⟨_, rfl, Nat.zero_le _, B1, _, 0, [], S1.new hD, Stp.new hD, upd_same, fun k => by simp, Nat.le_refl _, S1.freeB hD, p0⟩, ?_⟩
  rintro i m H2 ⟨rfl, hi, B2, f, n, acc, S2, s2, hd, ha, hn, hb, p2⟩
  have lat : LatC G B1 H1 B2 H2 := ⟨s2, S2.bh, S2.gok⟩
  by_cases hlt : i < ds.length
  · refine .inr ⟨it.go i _ _ lat hlt, fun H' => Inv' (i + 1) H', fun H' z => ⟨ds.length - (i + 1), by omega, rfl, z⟩, fun x H3 y => ?_⟩
    obtain ⟨d, B3, e1, e2, s3, b3, g3⟩ := it.yld i _ _ x H3 lat hlt y
    have S3 := S2.step s3 b3 g3
    have trk : hide G H2 Dl = some (SetO X.w Dl f n) := by rw [hide_out dG]; exact hd
    have q3 := turn i acc d e1 p2
    have fin : ∀ (xs : List V) (es : List D), DpAll X.K B3 xs es → (∀ i ∈ is, i < ρ.length) → wt (putA (wipeR ρ vs) is es) (fun b => if b = true then we (putA (wipeR ρ vs) is es) (fun r => ∃ z, r = .s (.int z) ∧ acc.length < 4000 ∧ P (i + 1) (acc ++ [z])) (fun _ => False) else P (i + 1) acc) (fun _ => False) →
        (wipe (putV (wipe σ vs) is xs) vs = wipe σ vs ∧ TDt X.K W0 wt (putV (wipe σ vs) is xs) H3 fun b H4 => if b = true then TDe X.K W0 we (putV (wipe σ vs) is xs) H4 fun y H5 => ∃ (c : Int) (S : Int → Bool) (n : Nat), y = .int c ∧ H5 Dl = some (SetO X.w Dl S n) ∧ n + 1 < scanBound ∧
          Inv' (i + 1) (upd H5 Dl (SetO X.w Dl (fun j => S j || decide (j = c)) (if S c = true then n else n + 1))) else Inv' (i + 1) H4) := by
      intro xs es hx hl q
      refine ⟨wipe_putV is xs _ (wipe_wipe vs fun _ h => h) hsub, ?_⟩
      have T3 : Stt X.K G B0 H0 B3 H3 (putV (wipe σ vs) is xs) (putA (wipeR ρ vs) is es) := Stt.putA is (S3.wipe vs) hx fun i hi => by rw [wipeR_length]; exact hl i hi
      refine ⟨G, B0, H0, B3, _, _, _, T3, q, fun b B4 H4 T4 s4 q4 => ?_, fun _ _ _ _ z => z.elim⟩
      have S4 := S3.step s4 T4.bh T4.gok
      cases b with
      | false => exact iteF ⟨hlt, B4, f, n, acc, S4, (s2.trans s3).trans s4, (hide_some (s4.hh _ _ (s3.hh _ _ trk))).2, ha, hn, s4.nw _ _ (s3.nw _ _ hb trk) (s3.hh _ _ trk), (if_neg Bool.false_ne_true).mp q4⟩
      | true =>
        refine iteT ⟨G, B0, H0, B4, _, _, _, T4, (if_pos rfl).mp q4, fun r y B5 H5 T5 s5 r5 ⟨z, ez, hlen, p5⟩ => ?_, fun _ _ _ _ z => z.elim⟩
        subst ez
        cases r5.int
        have S5 := S4.step s5 T5.bh T5.gok
        have t5 := s5.hh _ _ (s4.hh _ _ (s3.hh _ _ trk))
        have b5 : B5 Dl = none := s5.nw _ _ (s4.nw _ _ (s3.nw _ _ hb trk) (s3.hh _ _ trk)) (s4.hh _ _ (s3.hh _ _ trk))
        have s15 := ((s2.trans s3).trans s4).trans s5
        refine ⟨z, f, n, rfl, (hide_some t5).2, by unfold scanBound; omega, hlt, B5, _, _, acc ++ [z], S5.side b5 dG d0 aw, ⟨s15.bb, fun b v e => ?_, s15.nw⟩, upd_same, fun k => ?_, ?_, b5, p5⟩
        · rw [hide_upd dG, upd_ne (ne_of_none e (hide_free hD))]
          exact s15.hh _ _ e
        · rw [Bool.or_eq_true, decide_eq_true_iff, ha k, List.mem_append, List.mem_singleton]
        · rw [List.length_append, List.length_singleton]
          split <;> omega
    cases tup with
    | true =>
      obtain ⟨es, rfl, hn', hl, q4⟩ := (if_pos rfl).mp q3
      cases e2 with
      | tup k1 k2 => exact ⟨_, _, rfl, (k1.up (b3.trans (hide_le H3))).t, k2.length.trans hn', gNames_ok is _ _ _ _ (k2.length.trans hn') (fin _ es k2 hl q4)⟩
    | false =>
      rcases h1 with h1 | ⟨i1, rfl⟩
      · cases h1
      · obtain ⟨hl, q4⟩ := (if_neg Bool.false_ne_true).mp q3
        exact fin [x] [d] (.cons e2 .nil) hl q4
  · have e : i = ds.length := by omega
    subst e
    obtain ⟨d1, d2⟩ := done acc p2
    exact .inl ⟨it.stop _ _ lat, set_end ok S2 (s1.trans s2) hd ha (by omega) d2⟩
end DL

set_option Elab.async false
set_option linter.all false
set_option maxRecDepth 100000
set_option maxHeartbeats 4000000
/-! The data layer: x[::-1], max of a list, a, b, .. = x, y, .. of what is one's own. -/
namespace DL
open PySem PySem.Spec PyProof.Rows L2
section
variable {prog : Program} {w : World} {A : Around} {E : Value → Shared → Prop} {s : Shared}
theorem fm_congr {α β : Type} {f g : α → Option β} : ∀ {l : List α}, (∀ x ∈ l, f x = g x) → l.filterMap f = l.filterMap g
  | [], _ => rfl
  | x :: l, h => by rw [List.filterMap_cons, List.filterMap_cons, h x List.mem_cons_self, fm_congr fun y hy => h y (List.mem_cons_of_mem _ hy)]
theorem back_range (xs : Array Value) : ((List.range xs.size).filterMap fun (k : Nat) => xs[((xs.size : Int) - 1 + (k : Int) * -1).toNat]?) = xs.toList.reverse := by
  refine List.ext_getElem? fun i => ?_
  have e : ((List.range xs.size).filterMap fun (k : Nat) => xs[((xs.size : Int) - 1 + (k : Int) * -1).toNat]?) = (List.range xs.size).filterMap fun (k : Nat) => xs.toList.reverse[k]? := by
    refine fm_congr fun k hk => ?_
    have hk := List.mem_range.mp hk
    rw [List.getElem?_reverse (by rw [Array.length_toList]; exact hk), Array.length_toList, Array.getElem?_toList]
    congr 1
    omega
  rw [e]
  have l : xs.size = xs.toList.reverse.length := by rw [List.length_reverse, Array.length_toList]
  rw [l]
  generalize xs.toList.reverse = ys
  congr 1
  induction ys with
  | nil => rfl
  | cons y ys ih =>
    rw [List.length_cons, List.range_succ_eq_map, List.filterMap_cons]
    simp only [List.getElem?_cons_zero, List.filterMap_map]
    refine congrArg (y :: ·) ?_
    refine Eq.trans (fm_congr fun k _ => ?_) ih
    simp
theorem cut_back {sl : Addr} {vl vu vs : Value} {n : Nat} {Q : Int × Int × Nat → Shared → Prop} (hs : s.heap.IsSliceOf sl vl vu vs) (pl : IsPart vl none) (pu : IsPart vu none) (ps : IsPart vs (some (-1))) (h : Q ((n : Int) - 1, -1, n) s) :
    wpAny (model prog w) A (Builtin.Slice.sliceApplied (.ref sl) (pure (n : Int))) Q E s := by
  obtain ⟨os, hos, hcs, hds⟩ := id hs
  unfold Builtin.Slice.sliceApplied Builtin.Slice.sliceFields
  refine wpAny_bind (wpAny_bind (wpAny_field hos hds (x := vl) rfl (wpAny_bind (wpAny_field hos hds (x := vu) rfl (wpAny_bind (wpAny_field hos hds (x := vs) rfl (wpAny_pure ?_)))))))
  refine wpAny_bind (HT.slicePart_ ps ?_)
  show wpAny _ _ (if ((-1 : Int) == 0) = true then _ else _) _ _ s
  rw [if_neg (by decide)]
  refine wpAny_bind (HT.slicePart_ pl (wpAny_bind (HT.slicePart_ pu (wpAny_bind (wpAny_pure ?_)))))
  have e1 : Builtin.Slice.sliceAdjust none none (-1) (n : Int) = ((n : Int) - 1, -1) := by
    unfold Builtin.Slice.sliceAdjust
    simp
  have e2 : Builtin.Slice.slicePlaces ((n : Int) - 1) (-1) (-1) = n := by
    unfold Builtin.Slice.slicePlaces
    simp
    omega
  show wpAny _ _ (match Builtin.Slice.sliceAdjust none none (-1) (n : Int) with | (lo, hi) => pure (lo, (-1 : Int), Builtin.Slice.slicePlaces lo hi (-1))) _ _ s
  rw [e1]
  show wpAny _ _ (pure (((n : Int) - 1), (-1 : Int), Builtin.Slice.slicePlaces ((n : Int) - 1) (-1) (-1))) _ _ s
  rw [e2]
  exact wpAny_pure h
theorem item_back {t sl : Addr} {its : Array Value} {vl vu vs : Value} {Q : Value → Shared → Prop} (ht : IsTup s.heap t its) (hs : s.heap.IsSliceOf sl vl vu vs) (pl : IsPart vl none) (pu : IsPart vu none) (ps : IsPart vs (some (-1))) (hsz : its.size ≤ sizeLine)
    (h : Q (.ref s.heap.objs.size) { s with heap := s.heap.push { cls := .type "tuple", data := .seq its.toList.reverse.toArray } }) : wpAny (model prog w) A (getItem (.ref t) (.ref sl)) Q E s := by
  obtain ⟨os, hos, hcs, hds⟩ := id hs
  have hTs : s.TypeIs (.ref sl) "slice" := ⟨os, hos, hcs⟩
  have fits : sizeOk (.seq its.toList.reverse.toArray) := by
    show its.toList.reverse.toArray.size ≤ sizeLine
    rw [List.size_toArray, List.length_reverse, Array.length_toList]
    exact hsz
  unfold getItem
  try with_reducible refine wpAny_holding ?_
  first | refine wpAny_bind (wpAny_pure ?_) | skip
  refine wpAny_bind (wpAny_sequenceKey ht.typeIs (by decide) ?_)
  refine wpAny_bind (wpAny_callSpecial?_slot (name := Str.ofString "__getitem__") ht.typeIs PyProof.Rows.slot_tuple_getitem (wpAny_call_entry PyProof.Rows.slot_tuple_getitem ht.typeIs entry_tuple_getitem ?_ (args_tuple_getitem _ _)))
  show wpAny _ _ (Builtin.Tuple.tupleItemsOf (.ref t) >>= _) _ _ s
  refine wpAny_bind (tupleItemsOf_ ht (wpAny_bind (wpAny_typeOf hTs ?_)))
  rw [if_pos (by decide)]
  refine wpAny_bind (cut_back hs pl pu ps ?_)
  have no : ¬ ((((its.size : Int) - 1) == 0 && (-1 : Int) == 1 && its.size == its.size) = true) := by simp
  show wpAny _ _ (if (((its.size : Int) - 1) == 0 && (-1 : Int) == 1 && its.size == its.size) = true then _ else _) _ _ s
  rw [if_neg no, back_range]
  first
    | exact wpAny_bind (m := Builtin.Tuple.tupleExact _) (wpAny_newObj_type (wpAny_pure ⟨_, rfl, wpAny_pure h⟩) fits)
    | exact wpAny_bind (m := Builtin.Tuple.tupleExact _) (wpAny_newObj_type (wpAny_bind (wpAny_pure (wpAny_pure ⟨_, rfl, wpAny_pure h⟩))) fits)
    | exact wpAny_bind (wpAny_bind (m := Builtin.Tuple.tupleExact _) (wpAny_newObj_type (wpAny_pure (wpAny_pure ⟨_, rfl, wpAny_pure h⟩)) fits))
    | exact wpAny_bind (wpAny_bind (m := Builtin.Tuple.tupleExact _) (wpAny_newObj_type (wpAny_pure ⟨_, rfl, wpAny_pure h⟩) fits))
end
def tRevB (K : Frag) (te : TE) : TE := fun σ H Q => te σ H fun x H1 => ∃ a xs, x = .ref a ∧ ((SqL K H1 a xs ∧ ∀ p, H1 p = none → Q (.ref p) (upd H1 p (.lst xs.reverse))) ∨ (SqT K H1 a xs ∧ NewT xs.reverse H1 Q))
theorem peN_rev {X : Cx} {e : Expr} {te : TE} {k : Nat} {p1 p2 p3 pos : Pos} (he : PE X e te) : PE X (.Subscript e (.Slice none none (some (.UnaryOp .USub (.Constant (.int 1) k p1) p2)) p3) pos) (tRevB X.K te) := by
  refine ⟨fun pins s σ H Q I h => Subscript_ (thn (he.run pins s σ H _ I h) fun v s1 ⟨x, H1, I1, r1, a, xs, ex, hx⟩ => ?_)⟩
  subst ex
  cases r1
  have neg1 : PO X (some (.UnaryOp .USub (.Constant (.int 1) k p1) p2)) (tPart (tUn (rU fun i => .int (-i)) (tC (.int 1)))) := po_some (pe_un un_neg pe_int)
  refine wpAny_Slice (thn (po_none.run pins s1 σ H1 (fun o H2 => o = none ∧ H2 = H1) I1 ⟨rfl, rfl⟩) fun vl s2 ⟨l, H2, I2, pl, el, e2⟩ => thn (po_none.run pins s2 σ H2 (fun o H3 => o = none ∧ H3 = H2) I2 ⟨rfl, rfl⟩) fun vu s3 ⟨u, H3, I3, pu, eu, e3⟩ =>
    thn (neg1.run pins s3 σ H3 (fun o H4 => o = some (-1) ∧ H4 = H3) I3 ⟨1, rfl, -1, rfl, rfl, rfl⟩) fun vs s4 ⟨o, H4, I4, ps, eo, e4⟩ => ?_)
  subst el e2 eu e3 eo e4
  have I5 : Inv X pins σ H4 { s4 with heap := s4.heap.push { cls := .type "slice", data := .fields #[vl, vu, vs] } } := I4.kept (t' := s4.toks) fun b ob q => Heap.get?_push_of_some _ q
  show wpAny (model X.prog X.w) X.A (subscriptTail e (.Slice none none (some (.UnaryOp .USub (.Constant (.int 1) k p1) p2)) p3) (.ref a) (.ref s4.heap.objs.size)) (EP X pins σ Q) X.xe { s4 with heap := s4.heap.push { cls := .type "slice", data := .fields #[vl, vu, vs] } }
  rcases hx with ⟨hx, q⟩ | ⟨hx, q⟩
  · obtain ⟨its, r, ht, hz⟩ := I5.list hx
    have hlen := r.length
    refine tail_any (ops := [.ref a, .ref s4.heap.objs.size]) ht.isList.typeIs (PySem.slot_list_getitem.lookup) (wpAny_getItem_list_slice ht.isList (Heap.IsSliceOf.new _ vl vu vs) pl pu ps (by decide) ?_ (by rw [List.size_toArray]; omega)) (by with_unfolding_all rfl)
    rw [PySem.W.krv_pick]
    exact ⟨.ref _, _, I5.laid (t' := s4.toks) (o := .lst xs.reverse) (fun b ob q => Heap.get?_push_of_some _ q) (Nat.le_refl _) ⟨by rw [List.length_reverse]; exact hz, _, 0, r.reverse, Heap.get?_push_size _ rfl⟩, rfl, q _ (I5.hok.fresh (Nat.le_refl _))⟩
  · obtain ⟨its, r, ht, hz⟩ := I5.tuple hx
    have hlen := r.length
    exact tail_any (ops := [.ref a, .ref s4.heap.objs.size]) ht.typeIs PyProof.Rows.slot_tuple_getitem.lookup (item_back ht (Heap.IsSliceOf.new _ vl vu vs) pl pu ps (by rw [List.size_toArray]; omega) (new_t I5 r.reverse (by rw [List.length_reverse]; exact hz) q)) (by with_unfolding_all rfl)
def wRev (w : EW) : EW := fun ρ Q E => w ρ (fun r => (∃ ds, r = .s (.tuple ds) ∧ Q (.s (.tuple ds.reverse))) ∨ ∃ ds, ((∃ o, r = .l o ds) ∨ r = .s (.list ds)) ∧ Q (.l true ds.reverse)) E
theorem pd_rev {X : Cx} {W : WX} {e : Expr} {w : EW} (h : PE X e (tRevB X.K (TDe X.K W w))) : PD X W e (wRev w) := pe_imp h fun σ H Q ⟨G, B0, H0, B, ρ, Qd, Qe, S, q, ok, er⟩ => by
  refine ⟨G, B0, H0, B, ρ, _, Qe, S, q, fun r x B1 H1 S1 s1 r1 q1 => ?_, er⟩
  have c : Ctx X.K G B1 H1 := ⟨S1.bh, S1.gok⟩
  have k : ∀ Qd', Qd' = Qd → Cont X.K G B1 H1 Qd' Q := fun Qd' e r z B' H' s bh g hr q' => ok r z B' H' (S1.step s bh g) (s1.trans s) (hr.from s1) (e ▸ q')
  rcases q1 with ⟨ds, rfl, q1⟩ | ⟨ds, hr, q1⟩
  · obtain ⟨p, xs, rfl, h1, h2⟩ := r1.tup
    exact ⟨p, xs, rfl, .inr ⟨(h1.up c.le).t, (k _ rfl).tup c h2.reverse q1⟩⟩
  · rcases hr with ⟨o, rfl⟩ | rfl
    · obtain ⟨p, xs, rfl, h1, h2, _⟩ := r1
      exact ⟨p, xs, rfl, .inl ⟨.inl (.inl (hide_some h1).2), fun l hl => (k _ rfl).lst c hl h2.reverse q1⟩⟩
    · cases (show Dp X.K B1 x (.list ds) from r1) with
      | lst h1 h2 => exact ⟨_, _, rfl, .inl ⟨Same.sqL c.le h1, fun l hl => (k _ rfl).lst c hl h2.reverse q1⟩⟩
/-! max of a list -/
def fMax1 : FL := fun rs Q => ∃ (o : Bool) (ns : List Int), rs = [.l o (ns.map PyData.int)] ∧ ns ≠ [] ∧ ∀ m, m ∈ ns → (∀ y ∈ ns, y ≤ m) → Q (.s (.int m))
theorem c_max1 {X : Cx} (hc : X.calm = true) : CallR X (.builtin "max") (liftL X.K fMax1) := by
  intro pins s σ H xs us Q I rx hh
  obtain ⟨G, Hs, B, rs, Qd, c, ra, ⟨o, ns, rfl, hn, q⟩, k⟩ := hh
  obtain ⟨x, rfl, p, xs, rfl, h1, h2, _⟩ := ra.one
  cases h2.ints'
  exact cr_max hc pins s σ H _ us Q I rx ⟨p, ns, rfl, .inl (.inl (hide_some h1).2), List.length_pos_iff.mpr hn, fun m hm hy => k.dat c (.int _) (q m hm hy)⟩
end DL

set_option Elab.async false
set_option linter.all false
set_option maxRecDepth 100000
/-! The data layer: a, b, c = x, y, z. -/
namespace DL
open PySem PySem.Spec PyProof.Rows L2
def putRs (ρ : Rho) : List Nat → List R → Rho
  | i :: is, r :: rs => putRs (ρ.set i (some r)) is rs
  | _, _ => ρ
theorem Stt.putMany {K : Frag} {G : Gh} {B0 H0 B' H' H : Hp} : ∀ (is : List Nat) {xs : List V} {rs : List R} {σ : L2.St} {ρ : Rho}, Stt K G B0 H0 B' H' σ ρ → RsAll K G H B' H' xs rs → Same (hide G H0) (hide G H) → Apart xs rs → rs.all keeps = true → (∀ i ∈ is, i < ρ.length) → rs.length = is.length →
    (∀ (m : Nat) (v : R) (z : V), ρ[m]? = some (some v) → owns v = true → σ[m]? = some (some z) → ∀ (j : Nat) (u : R), rs[j]? = some u → owns u = true → xs[j]? ≠ some z) → Stt K G B0 H0 B' H' (putV σ is xs) (putRs ρ is rs)
  | [], _, _, _, _, S, .nil, _, _, _, _, _, _ => S
  | [], _, _, _, _, _, .cons _ _, _, _, _, _, hl, _ => by cases hl
  | _ :: _, _, _, _, _, _, .nil, _, _, _, _, hl, _ => by cases hl
  | i :: is, _, _, σ, ρ, S, .cons (x := x) (xs := xs) (r := r) (rs := rs) h t, hs, ap, kp, hi, hl, D => by
    rw [List.all_cons, Bool.and_eq_true] at kp
    have i0 : i < ρ.length := hi i List.mem_cons_self
    have i1 : i < σ.length := by rw [← S.len]; exact i0
    have S1 : Stt K G B0 H0 B' H' (σ.set i (some x)) (ρ.set i (some r)) := S.fillG (h.slot kp.1 hs) i i1 fun m v z hm e1 o1 o2 e2 e3 => D m v z e1 o2 e2 0 r rfl o1 (by rw [e3]; rfl)
    refine Stt.putMany is S1 t hs ap.2 kp.2 (fun j hj => by rw [List.length_set]; exact hi j (List.mem_cons_of_mem _ hj)) (Nat.succ.inj hl) fun m v z e1 o e2 j u e3 o3 => ?_
    by_cases q : m = i
    · subst q
      rw [List.getElem?_set_self i0] at e1; cases e1
      rw [List.getElem?_set_self i1] at e2; cases e2
      exact ap.1 o j u e3 o3
    · rw [List.getElem?_set_ne (Ne.symm q)] at e1 e2
      exact D m v z e1 o e2 (j + 1) u e3 o3
def wParN (is : List Nat) (ws : AW) : SW := fun ρ E => ws ρ (fun rs => rs.length = is.length ∧ rs.all keeps = true ∧ (∀ i ∈ is, i < ρ.length) ∧ E.nx (putRs ρ is rs)) (fun cls => E.er cls ρ)
section
variable {X : Cx} {W : WX} {st : Stmt} {ws : AW}
theorem par_core {K : Frag} {G : Gh} {B0 H0 B H B' H' : Hp} {σ : L2.St} {ρ : Rho} {is : List Nat} {xs : List V} {rs : List R} (S : Stt K G B0 H0 B H σ ρ) (S' : Stt K G B0 H0 B' H' σ ρ) (s : Stp G B H B' H') (r : RsAll K G H B' H' xs rs) (ap : Apart xs rs) (hl : rs.length = is.length) (kp : rs.all keeps = true) (hi : ∀ i ∈ is, i < ρ.length) :
    Stt K G B0 H0 B' H' (putV σ is xs) (putRs ρ is rs) :=
  Stt.putMany is S' r S.st.hh ap kp hi hl fun m v z e1 o e2 j u e3 o3 e4 => by
    obtain ⟨y, f1, f2⟩ := r.get e3
    rw [f1] at e4
    cases e4
    exact S.away f2 o3 m v _ e1 o e2 rfl
theorem pds_par3 {i j l : Nat} (h : PS X st (tPar3 i j l (TDa X.K W ws))) : PSD X W st (wParN [i, j, l] ws) := ps_imp h fun D σ H ⟨G, B0, H0, B, ρ, E, S, q, lk⟩ => by
  refine ⟨G, B0, H0, B, ρ, _, _, S, q, fun rs xs B' H' S' s r ap ⟨hl, kp, hi, q'⟩ => ?_, fun cls d B' H' q' S' s => lk.er cls d ρ σ B' H' S' s.bb q'⟩
  have fin := par_core S S' s r ap hl kp hi
  match xs, rs, r, hl, fin, q' with
  | [x, y, z], [_, _, _], _, _, fin, q' => exact ⟨x, y, z, rfl, lk.nx _ _ _ _ fin s.bb q'⟩
  | [], [_, _, _], r, _, _, _ => cases r
  | [_], [_, _, _], r, _, _, _ => cases r with | cons _ t => cases t
  | [_, _], [_, _, _], r, _, _, _ => cases r with | cons _ t => cases t with | cons _ t => cases t
  | _ :: _ :: _ :: _ :: _, [_, _, _], r, _, _, _ => cases r with | cons _ t => cases t with | cons _ t => cases t with | cons _ t => cases t
  | _, [], _, hl, _, _ => cases hl
  | _, [_], _, hl, _, _ => cases hl
  | _, [_, _], _, hl, _, _ => cases hl
  | _, _ :: _ :: _ :: _ :: _, _, hl, _, _ => cases hl
theorem pds_parT {is : List Nat} (hz : is.length ≤ 1000) (h : PS X st (tAsg (tTupN (TDa X.K W ws)) (gTup X.K is.length (gNames is)))) : PSD X W st (wParN is ws) := ps_imp h fun D σ H ⟨G, B0, H0, B, ρ, E, S, q, lk⟩ => by
  refine ⟨G, B0, H0, B, ρ, _, _, S, q, fun rs xs B' H' S' s r ap ⟨hl, kp, hi, q'⟩ => ?_, fun cls d B' H' q' S' s => lk.er cls d ρ σ B' H' S' s.bb q'⟩
  have hx : xs.length = is.length := r.length.trans hl
  refine ⟨?_, fun p o hp hn => ⟨p, xs, rfl, .inl (.inr ⟨o, upd_same⟩), hx, gNames_ok is xs _ _ _ hx ?_⟩⟩
  · rw [line_eq, hx]; omega
  · have fin := par_core S S' s r ap hl kp hi
    exact lk.nx _ _ _ _ (fin.new hp) s.bb q'
end
end DL

set_option Elab.async false
set_option linter.all false
set_option maxRecDepth 100000
/-! The data layer: words for plain proofs about dicts. -/
namespace DL
open PySem PySem.Spec PyProof.Rows L2
theorem kv_k (o : Bool) (kvs : List (Key × D)) : R.kv (.k o kvs) = some kvs := rfl
theorem kv_d (kvs : List (Key × D)) : R.kv (.s (.dict (kvD kvs))) = some kvs := unK_kvD kvs
theorem kv_t (l : List D) : R.kv (.s (.tuple l)) = none := rfl
theorem kv_L (l : List D) : R.kv (.s (.list l)) = none := rfl
theorem kv_l (o : Bool) (l : List D) : R.kv (.l o l) = none := rfl
theorem kv_i (i : Int) : R.kv (.s (.int i)) = none := rfl
theorem kv_s (i : Str) : R.kv (.s (.str i)) = none := rfl
theorem kv_z (kvs : List (Key × D)) : R.kv (.z kvs) = some kvs := rfl
theorem kvE_k (o : Bool) (kvs : List (Key × D)) : R.kvE (.k o kvs) = some kvs := rfl
theorem kvE_d (kvs : List (Key × D)) : R.kvE (.s (.dict (kvD kvs))) = some kvs := unK_kvD kvs
theorem seq_z (kvs : List (Key × D)) : R.seq (.z kvs) = none := rfl
theorem peek_z (kvs : List (Key × D)) : peek (.z kvs) = .z kvs := rfl
theorem keeps_z (kvs : List (Key × D)) : keeps (.z kvs) = true := rfl
theorem frzR_z (kvs : List (Key × D)) (k : R → Prop) : frzR (.z kvs) k = k (.z kvs) := rfl
theorem seq_k (o : Bool) (kvs : List (Key × D)) : R.seq (.k o kvs) = none := rfl
theorem seq_d (l : List (D × D)) : R.seq (.s (.dict l)) = none := rfl
theorem seq_i (i : Int) : R.seq (.s (.int i)) = none := rfl
theorem seq_s (i : Str) : R.seq (.s (.str i)) = none := rfl
theorem frz_k (kvs : List (Key × D)) : frz (.k true kvs) = .s (.dict (kvD kvs)) := rfl
theorem peek_k (o : Bool) (kvs : List (Key × D)) : peek (.k o kvs) = .k false kvs := rfl
theorem keeps_k (kvs : List (Key × D)) : keeps (.k true kvs) = true := rfl
theorem keeps_g : keeps .g = true := rfl
theorem keeps_h : keeps .h = true := rfl
theorem owns_k (kvs : List (Key × D)) : owns (.k true kvs) = true := rfl
theorem owns_l (l : List D) : owns (.l true l) = true := rfl
theorem putR_l (ds : List D) (z : R) (d : D) (k : R → Prop) : putR (.l true ds) z d k = ∃ n j, z = .s (.int n) ∧ ixN ds.length n = some j ∧ k (.l true (ds.set j d)) := rfl
theorem putR_k (kvs : List (Key × D)) (z : R) (d : D) (k : R → Prop) : putR (.k true kvs) z d k = ∃ e y, z = .s e ∧ ofK e = some y ∧ kvs.length < 16777216 ∧ k (.k true (kPut kvs y d)) := rfl
theorem frzR_s (d : D) (k : R → Prop) : frzR (.s d) k = k (.s d) := rfl
theorem frzR_l (ds : List D) (k : R → Prop) : frzR (.l true ds) k = k (.s (.list ds)) := rfl
theorem frzR_k (kvs : List (Key × D)) (k : R → Prop) : frzR (.k true kvs) k = k (.s (.dict (kvD kvs))) := rfl
theorem putRs_nil (ρ : Rho) (rs : List R) : putRs ρ [] rs = ρ := rfl
theorem putRs_cons (ρ : Rho) (i : Nat) (is : List Nat) (r : R) (rs : List R) : putRs ρ (i :: is) (r :: rs) = putRs (ρ.set i (some r)) is rs := rfl
theorem zip_t (xs ys : List D) : zipOf (.s (.tuple xs)) (.s (.tuple ys)) = some (zipD xs ys) := rfl
theorem ofK_int (i : Int) : ofK (.int i) = some (.inl i) := rfl
theorem ofK_str (i : Str) : ofK (.str i) = some (.inr i) := rfl
theorem all_keeps (r : R) (rs : List R) : (r :: rs).all keeps = (keeps r && rs.all keeps) := rfl
theorem all_keeps0 : ([] : List R).all keeps = true := rfl
/-! dicts with int keys: as functions -/
def iK (kvs : List (Int × Int)) : List (Key × D) := kvs.map fun p => (Sum.inl p.1, PyData.int p.2)
def iGet (kvs : List (Int × Int)) (k : Int) : Option Int := (kvs.find? fun p => decide (p.1 = k)).map (·.2)
theorem iGet_k (k : Int) : ∀ kvs : List (Int × Int), kGet (iK kvs) (.inl k) = (iGet kvs k).map PyData.int
  | [] => rfl
  | p :: r => by
    have ih := iGet_k k r
    unfold kGet iK iGet at ih ⊢
    rw [List.map_cons, List.find?_cons, List.find?_cons]
    by_cases e : p.1 = k
    · simp [e]
    · have e' : ¬ (Sum.inl p.1 : Key) = Sum.inl k := fun z => e (Sum.inl.inj z)
      simp only [e, e', decide_false]
      exact ih
theorem iK_len (kvs : List (Int × Int)) : (iK kvs).length = kvs.length := by simp [iK]
end DL

set_option Elab.async false
set_option linter.all false
set_option maxRecDepth 100000
/-! The data layer: readings as words that a simp can walk from the top (made by mkdlu.py). -/
namespace DL
open PySem PySem.Spec PyProof.Rows L2
def peekQ (r : R) (Q : R → Prop) : Prop := Q (peek r)
def frzQ (r : R) (Q : R → Prop) : Prop := Q (frz r)
def getQ (i : Nat) (ρ : Rho) (k : R → Prop) : Prop := ∃ r, ρ[i]? = some (some r) ∧ k r
def setQ (i : Nat) (ρ : Rho) (r : R) (k : Rho → Prop) : Prop := i < ρ.length ∧ k (ρ.set i (some r))
def keepQ (r : R) (P : Prop) : Prop := keeps r = true ∧ P
def boolQ (r : R) (Q : Bool → Prop) : Prop := ∃ b, r = .s (.bool b) ∧ Q b
def intQ (r : R) (Q : Int → Prop) : Prop := ∃ n, r = .s (.int n) ∧ Q n
def datQ (r : R) (Q : D → Prop) : Prop := ∃ d, r.dat = some d ∧ Q d
def lookQ (r : R) (Q : D → Prop) : Prop := ∃ d, r.look = some d ∧ Q d
def seqQ (r : R) (Q : List D → Prop) : Prop := ∃ ds, r.seq = some ds ∧ Q ds
def stabQ (r : R) (Q : List D → Prop) : Prop := ∃ ds, r.stab = some ds ∧ Q ds
def kvQ (r : R) (Q : List (Key × D) → Prop) : Prop := ∃ kvs, r.kv = some kvs ∧ Q kvs
def kvEQ (r : R) (Q : List (Key × D) → Prop) : Prop := ∃ kvs, r.kvE = some kvs ∧ Q kvs
def ownQ (r : R) (Q : List D → Prop) : Prop := ∃ ds, r = .l true ds ∧ Q ds
def ownKQ (r : R) (Q : List (Key × D) → Prop) : Prop := ∃ ds, r = .k true ds ∧ Q ds
def lQ (r : R) (Q : List D → Prop) : Prop := ∃ o ds, r = .l o ds ∧ Q ds
def keyQ (r : R) (Q : Key → Prop) : Prop := ∃ e y, r = .s e ∧ ofK e = some y ∧ Q y
def popQ (l : List D) (Q : List D → D → Prop) : Prop := ∃ ds d, l = ds ++ [d] ∧ Q ds d
def tupQ (rs : List R) (Q : R → Prop) : Prop := ∃ ds, dats rs = some ds ∧ ds.length ≤ 16777216 ∧ Q (.s (.tuple ds))
def lstQ (rs : List R) (Q : R → Prop) : Prop := ∃ ds, dats rs = some ds ∧ ds.length ≤ 16777216 ∧ Q (.l true ds)
def parQ : List Nat → List R → Rho → (Rho → Prop) → Prop
  | [], [], ρ, k => k ρ
  | i :: is, r :: rs, ρ, k => keepQ r (setQ i ρ r fun ρ' => parQ is rs ρ' k)
  | _, _, _, _ => False
def pksQ : List R → (List R → Prop) → Prop
  | [], k => k []
  | r :: rs, k => peekQ r fun r' => pksQ rs fun rs' => k (r' :: rs')
def forQ (g : GW) (v : SW) (ρ : Rho) (E : DEnds) (ds : List D) : Prop := ∃ P : Nat → Rho → Prop, P 0 ρ ∧ (∀ i d ρ', ds[i]? = some d → P i ρ' → g d ρ' fun ρ2 => v ρ2 { E with nx := P (i + 1), ct := P (i + 1), bk := E.nx }) ∧
  ∀ ρ', P ds.length ρ' → E.nx ρ'
def lcQ (tup : Bool) (is vs : List Nat) (wt : TW) (we : EW) (ρ : Rho) (Q : R → Prop) (ds : List D) : Prop := ∃ P : Nat → List D → Prop, P 0 [] ∧
  (∀ k acc d, ds[k]? = some d → P k acc → gwNames tup is d fun es => (∀ i ∈ is, i < ρ.length) ∧ wt (putA (wipeR ρ vs) is es) (fun b => if b = true then we (putA (wipeR ρ vs) is es) (fun r => ∃ z, r.dat = some z ∧ acc.length < 16777216 ∧ P (k + 1) (acc ++ [z])) (fun _ => False) else P (k + 1) acc) (fun _ => False)) ∧
  ∀ acc, P ds.length acc → Q (.l true acc)
def scQ (tup : Bool) (is vs : List Nat) (wt : TW) (we : EW) (ρ : Rho) (Q : R → Prop) (ds : List D) : Prop := ∃ P : Nat → List Int → Prop, P 0 [] ∧
  (∀ k acc d, ds[k]? = some d → P k acc → gwNames tup is d fun es => (∀ i ∈ is, i < ρ.length) ∧ wt (putA (wipeR ρ vs) is es) (fun b => if b = true then we (putA (wipeR ρ vs) is es) (fun r => ∃ z, r = .s (.int z) ∧ acc.length < 4000 ∧ P (k + 1) (acc ++ [z])) (fun _ => False) else P (k + 1) acc) (fun _ => False)) ∧
  ∀ acc, P ds.length acc → acc.length ≤ 4000 ∧ ∀ ns', SortedOf acc ns' → Q (.l true (ns'.map PyData.int))
theorem get_lt {α : Type} {l : List α} {i : Nat} {x : α} (h : l[i]? = some x) : i < l.length := (List.getElem?_eq_some_iff.mp h).1
section
variable (i j : Nat) (w u wa wb wc : EW) (ws : AW) (wt : TW) (wi : IW) (g : GW) (v : SW) (ρ : Rho) (Q : R → Prop) (E : Value → Prop) (Y : DEnds) (P : Prop)

theorem u_var : wVar i ρ Q E = getQ i ρ fun r => peekQ r Q := rfl
theorem u_frz : wFrz w ρ Q E = w ρ (fun r => frzQ r Q) E := rfl
theorem u_tup : wTup ws ρ Q E = ws ρ (fun rs => tupQ rs Q) E := rfl
theorem u_lst : wLst ws ρ Q E = ws ρ (fun rs => lstQ rs Q) E := rfl
theorem u_tst (T : Bool → Prop) : wTst w ρ T E = w ρ (fun r => boolQ r T) E := rfl
theorem u_andV : wAndV wa wb ρ Q E = wa ρ (fun r => boolQ r fun b => if b = true then wb ρ Q E else Q (.s (.bool false))) E := rfl
theorem u_orV : wOrV wa wb ρ Q E = wa ρ (fun r => boolQ r fun b => if b = true then Q (.s (.bool true)) else wb ρ Q E) E := rfl
theorem u_notV : wNotV wa ρ Q E = wa ρ (fun r => boolQ r fun b => Q (.s (.bool (!b)))) E := rfl
theorem u_chain (f f' : F2) : wChain f f' wa wb wc ρ Q E = wa ρ (fun x => wb ρ (fun y => f x y fun r => boolQ r fun k => if k = true then wc ρ (fun z => f' y z Q) E else Q (.s (.bool false))) E) E := rfl
theorem u_asg : wAsg i w ρ Y = w ρ (fun r => keepQ r (setQ i ρ r Y.nx)) (fun cls => Y.er cls ρ) := by
  have e : (fun r => i < ρ.length ∧ keeps r = true ∧ Y.nx (ρ.set i (some r))) = fun r => keepQ r (setQ i ρ r Y.nx) := funext fun r => propext and_left_comm
  unfold wAsg
  rw [e]
theorem u_asgT : wAsgT w g ρ Y = w ρ (fun r => datQ r fun d => g d ρ Y.nx) (fun cls => Y.er cls ρ) := rfl
theorem u_par : wPar i j wa wb ρ Y = wa ρ (fun r => wb ρ (fun u => keepQ r (keepQ u (setQ i ρ r fun ρ1 => setQ j ρ1 u Y.nx))) (fun cls => Y.er cls ρ)) (fun cls => Y.er cls ρ) := by
  have e : ∀ r, (fun u => i < ρ.length ∧ j < ρ.length ∧ keeps r = true ∧ keeps u = true ∧ Y.nx ((ρ.set i (some r)).set j (some u))) = fun u => keepQ r (keepQ u (setQ i ρ r fun ρ1 => setQ j ρ1 u Y.nx)) := fun r => funext fun u => propext (by
    unfold keepQ setQ
    show _ ↔ keeps r = true ∧ keeps u = true ∧ i < ρ.length ∧ j < (ρ.set i (some r)).length ∧ _
    rw [List.length_set]
    exact ⟨fun ⟨a, b, c, d, e⟩ => ⟨c, d, a, b, e⟩, fun ⟨c, d, a, b, e⟩ => ⟨a, b, c, d, e⟩⟩)
  unfold wPar
  simp only [e]
theorem u_aug (f : Int → Int → Int) : wAug i f w ρ Y = getQ i ρ fun r => intQ r fun n => w ρ (fun r => intQ r fun m => setQ i ρ (.s (.int (f n m))) Y.nx) (fun cls => Y.er cls ρ) := by
  unfold wAug getQ intQ setQ
  refine propext ⟨fun ⟨n, h, q⟩ => ⟨_, h, n, rfl, ?_⟩, fun ⟨r, h, n, e, q⟩ => ⟨n, by rw [h, e], ?_⟩⟩
  · simpa only [get_lt h, true_and] using q
  · simpa only [get_lt h, true_and] using q
theorem u_append : wAppend i w ρ Y = getQ i ρ fun r0 => ownQ r0 fun ds => w ρ (fun r => datQ r fun d => ds.length < 16777216 ∧ setQ i ρ (.l true (ds ++ [d])) Y.nx) (fun cls => Y.er cls ρ) := by
  unfold wAppend getQ ownQ datQ setQ
  refine propext ⟨fun ⟨n, h, q⟩ => ⟨_, h, n, rfl, ?_⟩, fun ⟨r, h, n, e, q⟩ => ⟨n, by rw [h, e], ?_⟩⟩
  · simpa only [get_lt h, true_and] using q
  · simpa only [get_lt h, true_and] using q
theorem u_extend : wExtend i w ρ Y = getQ i ρ fun r0 => ownQ r0 fun ds => w ρ (fun r => lQ r fun es => ds.length + es.length ≤ 16777216 ∧ setQ i ρ (.l true (ds ++ es)) Y.nx) (fun cls => Y.er cls ρ) := by
  unfold wExtend getQ ownQ lQ setQ
  refine propext ⟨fun ⟨n, h, q⟩ => ⟨_, h, n, rfl, ?_⟩, fun ⟨r, h, n, e, q⟩ => ⟨n, by rw [h, e], ?_⟩⟩
  · simpa only [get_lt h, true_and] using q
  · simpa only [get_lt h, true_and] using q
theorem u_pop : wPop i g ρ Y = getQ i ρ fun r0 => ownQ r0 fun l => popQ l fun ds d => setQ i ρ (.l true ds) fun ρ' => g d ρ' Y.nx := by
  unfold wPop getQ ownQ popQ setQ
  refine propext ⟨fun ⟨ds, d, h, q⟩ => ⟨_, h, _, rfl, ds, d, rfl, get_lt h, q⟩, ?_⟩
  rintro ⟨r, h, l, rfl, ds, d, rfl, _, q⟩
  exact ⟨ds, d, h, q⟩
theorem u_setIx (we : EW) (wj : EW) : wSetIx i we wj ρ Y = getQ i ρ fun r0 => owns r0 = true ∧ we ρ (fun r => datQ r fun d => wj ρ (fun z => putR r0 z d fun r1 => setQ i ρ r1 Y.nx) (fun cls => Y.er cls ρ)) (fun cls => Y.er cls ρ) := by
  unfold wSetIx getQ datQ setQ
  refine propext ⟨fun ⟨r, h, q⟩ => ⟨r, h, ?_⟩, fun ⟨r, h, q⟩ => ⟨r, h, ?_⟩⟩
  · simpa only [get_lt h, true_and] using q
  · simpa only [get_lt h, true_and] using q
theorem u_dpop : wDPop i w ρ Y = getQ i ρ fun r0 => ownKQ r0 fun kvs => w ρ (fun z => keyQ z fun y => (kGet kvs y).isSome = true ∧ setQ i ρ (.k true (kDrop kvs y)) Y.nx) (fun cls => Y.er cls ρ) := by
  unfold wDPop getQ ownKQ keyQ setQ
  refine propext ⟨fun ⟨n, h, q⟩ => ⟨_, h, n, rfl, ?_⟩, fun ⟨r, h, n, e, q⟩ => ⟨n, by rw [h, e], ?_⟩⟩
  · simpa only [get_lt h, true_and] using q
  · simpa only [get_lt h, true_and] using q
theorem u_frzS : wFrzS i v ρ Y = getQ i ρ fun r => frzR r fun r' => setQ i ρ r' fun ρ' => v ρ' Y := by
  unfold wFrzS getQ setQ
  refine propext ⟨fun ⟨r, h, q⟩ => ⟨r, h, ?_⟩, fun ⟨r, h, q⟩ => ⟨r, h, ?_⟩⟩
  · simpa only [get_lt h, true_and] using q
  · simpa only [get_lt h, true_and] using q
theorem u_retS : wRetS i ρ Y = getQ i ρ Y.rt := rfl
theorem par_iff : ∀ (is : List Nat) (rs : List R) (ρ : Rho) (k : Rho → Prop), (rs.length = is.length ∧ rs.all keeps = true ∧ (∀ i ∈ is, i < ρ.length) ∧ k (putRs ρ is rs)) ↔ parQ is rs ρ k
  | [], [], ρ, k => by simp [parQ, putRs]
  | [], _ :: _, ρ, k => by simp [parQ]
  | _ :: _, [], ρ, k => by simp [parQ]
  | i :: is, r :: rs, ρ, k => by
    have ih := par_iff is rs (ρ.set i (some r)) k
    show _ ↔ keeps r = true ∧ i < ρ.length ∧ parQ is rs (ρ.set i (some r)) k
    rw [← ih]
    simp only [List.length_cons, List.all_cons, Bool.and_eq_true, List.length_set, List.mem_cons, forall_eq_or_imp, putRs_cons]
    constructor
    · rintro ⟨a, ⟨b, c⟩, ⟨d, e⟩, f⟩
      exact ⟨b, d, by omega, c, e, f⟩
    · rintro ⟨b, d, a, c, e, f⟩
      exact ⟨by omega, ⟨b, c⟩, ⟨d, e⟩, f⟩
theorem u_parN (is : List Nat) : wParN is ws ρ Y = ws ρ (fun rs => parQ is rs ρ Y.nx) (fun cls => Y.er cls ρ) := by
  have e : (fun rs : List R => rs.length = is.length ∧ rs.all keeps = true ∧ (∀ i ∈ is, i < ρ.length) ∧ Y.nx (putRs ρ is rs)) = fun rs => parQ is rs ρ Y.nx := funext fun rs => propext (par_iff is rs ρ Y.nx)
  unfold wParN
  rw [e]
theorem u_seqC (T : List D → Prop) : wSeqC w ρ T E = w ρ (fun r => seqQ r T) E := rfl
theorem u_seqF (T : List D → Prop) : wSeqF w ρ T E = w ρ (fun r => stabQ r T) E := rfl
def rng1Q (rs : List R) (Q : List D → Prop) : Prop := ∃ n, rs = [.s (.int n)] ∧ -(2 ^ 62) ≤ n ∧ n < 2 ^ 62 ∧ Q (rangeD 0 n.toNat)
def rng2Q (rs : List R) (Q : List D → Prop) : Prop := ∃ m n, rs = [.s (.int m), .s (.int n)] ∧ (-(2 ^ 62) ≤ m ∧ m < 2 ^ 62 ∧ -(2 ^ 62) ≤ n ∧ n < 2 ^ 62) ∧ Q (rangeD m (n - m).toNat)
theorem u_range1 (T : List D → Prop) : wRange1 ws ρ T E = ws ρ (fun rs => rng1Q rs T) E := rfl
theorem u_range2 (T : List D → Prop) : wRange2 ws ρ T E = ws ρ (fun rs => rng2Q rs T) E := rfl
theorem rng1_at (n : Int) (T : List D → Prop) : rng1Q [.s (.int n)] T = (-(2 ^ 62) ≤ n ∧ n < 2 ^ 62 ∧ T (rangeD 0 n.toNat)) := by simp [rng1Q]
theorem rng2_at (m n : Int) (T : List D → Prop) : rng2Q [.s (.int m), .s (.int n)] T = ((-(2 ^ 62) ≤ m ∧ m < 2 ^ 62 ∧ -(2 ^ 62) ≤ n ∧ n < 2 ^ 62) ∧ T (rangeD m (n - m).toNat)) := propext ⟨fun ⟨_, _, e, h⟩ => by cases e; exact h, fun h => ⟨_, _, rfl, h⟩⟩
def zipQ (rs : List R) (T : List D → Prop) : Prop := ∃ a b l, rs = [a, b] ∧ zipOf a b = some l ∧ T l
theorem u_zip (T : List D → Prop) : wZip ws ρ T E = ws ρ (fun rs => zipQ rs T) E := rfl
theorem zip_at (xs ys : List D) (T : List D → Prop) : zipQ [.s (.tuple xs), .s (.tuple ys)] T = T (zipD xs ys) := propext ⟨fun ⟨_, _, _, e, h, q⟩ => by cases e; cases h; exact q, fun h => ⟨_, _, _, rfl, rfl, h⟩⟩
theorem u_isi (f : D → Bool) : wIsi f w ρ Q E = w ρ (fun r => lookQ r fun d => Q (.s (.bool (f d)))) E := rfl
theorem u_some (T : Option Int → Prop) : wOSome w ρ T E = w ρ (fun r => intQ r fun n => T (some n)) E := rfl
theorem u_for : wFor wi g v ρ Y = wi ρ (fun ds => forQ g v ρ Y ds) (fun cls => Y.er cls ρ) := rfl
theorem u_lc (tup : Bool) (is vs : List Nat) : wLc wi tup is vs wt w ρ Q E = wi ρ (fun ds => lcQ tup is vs wt w ρ Q ds) E := rfl
theorem u_sc (tup : Bool) (is vs : List Nat) : wSortSc wi tup is vs wt w ρ Q E = wi ρ (fun ds => scQ tup is vs wt w ρ Q ds) E := rfl
theorem u_sortIt : wSortIt w ρ Q E = w ρ (fun r => kvEQ r fun kvs => (kvs.all fun q => flatD q.2) = true ∧ SrtOk (pairsD kvs) ∧ Q (.l true (sortD (pairsD kvs)))) E := rfl
theorem pks_eq : ∀ (rs : List R) (k : List R → Prop), pksQ rs k = k (rs.map peek)
  | [], k => rfl
  | r :: rs, k => by
    show pksQ rs (fun z => k (peek r :: z)) = _
    rw [pks_eq rs, List.map_cons]
theorem u_call (c : Ct) : wCall c ws ρ Q E = ws ρ (fun rs => pksQ rs fun rs' => c rs' Q E) E := by
  unfold wCall
  simp only [pks_eq]
def revQ (r : R) (Q : R → Prop) : Prop := (∃ ds, r = .s (.tuple ds) ∧ Q (.s (.tuple ds.reverse))) ∨ ∃ ds, ((∃ o, r = .l o ds) ∨ r = .s (.list ds)) ∧ Q (.l true ds.reverse)
theorem u_rev : wRev w ρ Q E = w ρ (fun r => revQ r Q) E := rfl
theorem parQ_nil (ρ : Rho) (k : Rho → Prop) : parQ [] [] ρ k = k ρ := rfl
theorem parQ_cons (i : Nat) (is : List Nat) (r : R) (rs : List R) (ρ : Rho) (k : Rho → Prop) : parQ (i :: is) (r :: rs) ρ k = keepQ r (setQ i ρ r fun ρ' => parQ is rs ρ' k) := rfl
theorem pksQ_nil (k : List R → Prop) : pksQ [] k = k [] := rfl
theorem pksQ_cons (r : R) (rs : List R) (k : List R → Prop) : pksQ (r :: rs) k = peekQ r fun r' => pksQ rs fun rs' => k (r' :: rs') := rfl
end
section
variable (g : GW) (u : GWs) (d : D) (r : List D) (ρ : Rho) (k : Rho → Prop)
theorem gw_name (i : Nat) : gwName i d ρ k = setQ i ρ (.s d) k := rfl
theorem gw_nil : gwNil [] ρ k = k ρ := by simp [gwNil]
theorem gw_cons : gwCons g u (d :: r) ρ k = g d ρ fun ρ' => u r ρ' k := propext ⟨fun ⟨_, _, e, h⟩ => by cases e; exact h, fun h => ⟨_, _, rfl, h⟩⟩
theorem gw_tup (n : Nat) (ds : List D) : gwTup n u (.tuple ds) ρ k = (ds.length = n ∧ u ds ρ k) := by simp [gwTup]
end
section
variable (Q : R → Prop) (P : Prop) (d : D) (ds es : List D) (o o' : Bool) (kvs : List (Key × D)) (i j : Int) (x y : Str) (b : Bool)
theorem peekQ_s : peekQ (.s d) Q = Q (.s d) := rfl
theorem peekQ_l : peekQ (.l o ds) Q = Q (.l false ds) := rfl
theorem peekQ_z : peekQ (.z kvs) Q = Q (.z kvs) := rfl
theorem keepQ_z : keepQ (.z kvs) P = P := propext ⟨fun h => h.2, fun h => ⟨rfl, h⟩⟩
theorem frzQ_z : frzQ (.z kvs) Q = Q (.z kvs) := rfl
theorem peekQ_k : peekQ (.k o kvs) Q = Q (.k false kvs) := rfl
theorem peekQ_g : peekQ .g Q = Q .g := rfl
theorem peekQ_h : peekQ .h Q = Q .h := rfl
theorem frzQ_s : frzQ (.s d) Q = Q (.s d) := rfl
theorem frzQ_lt : frzQ (.l true ds) Q = Q (.s (.list ds)) := rfl
theorem frzQ_lf : frzQ (.l false ds) Q = Q (.l false ds) := rfl
theorem frzQ_kt : frzQ (.k true kvs) Q = Q (.s (.dict (kvD kvs))) := rfl
theorem frzQ_kf : frzQ (.k false kvs) Q = Q (.k false kvs) := rfl
theorem keepQ_s : keepQ (.s d) P = P := propext ⟨fun h => h.2, fun h => ⟨rfl, h⟩⟩
theorem keepQ_l : keepQ (.l true ds) P = P := propext ⟨fun h => h.2, fun h => ⟨rfl, h⟩⟩
theorem keepQ_k : keepQ (.k true kvs) P = P := propext ⟨fun h => h.2, fun h => ⟨rfl, h⟩⟩
theorem keepQ_g : keepQ .g P = P := propext ⟨fun h => h.2, fun h => ⟨rfl, h⟩⟩
theorem keepQ_h : keepQ .h P = P := propext ⟨fun h => h.2, fun h => ⟨rfl, h⟩⟩
theorem boolQ_b (T : Bool → Prop) : boolQ (.s (.bool b)) T = T b := propext ⟨fun ⟨_, e, h⟩ => by cases e; exact h, fun h => ⟨_, rfl, h⟩⟩
theorem intQ_i (T : Int → Prop) : intQ (.s (.int i)) T = T i := propext ⟨fun ⟨_, e, h⟩ => by cases e; exact h, fun h => ⟨_, rfl, h⟩⟩
theorem datQ_s (T : D → Prop) : datQ (.s d) T = T d := propext ⟨fun ⟨_, e, h⟩ => by cases e; exact h, fun h => ⟨_, rfl, h⟩⟩
theorem lookQ_s (T : D → Prop) : lookQ (.s d) T = T d := propext ⟨fun ⟨_, e, h⟩ => by cases e; exact h, fun h => ⟨_, rfl, h⟩⟩
theorem lookQ_l (T : D → Prop) : lookQ (.l o ds) T = T (.list ds) := propext ⟨fun ⟨_, e, h⟩ => by cases e; exact h, fun h => ⟨_, rfl, h⟩⟩
theorem seqQ_t (T : List D → Prop) : seqQ (.s (.tuple ds)) T = T ds := propext ⟨fun ⟨_, e, h⟩ => by cases e; exact h, fun h => ⟨_, rfl, h⟩⟩
theorem seqQ_L (T : List D → Prop) : seqQ (.s (.list ds)) T = T ds := propext ⟨fun ⟨_, e, h⟩ => by cases e; exact h, fun h => ⟨_, rfl, h⟩⟩
theorem stabQ_t (T : List D → Prop) : stabQ (.s (.tuple ds)) T = T ds := propext ⟨fun ⟨_, e, h⟩ => by cases e; exact h, fun h => ⟨_, rfl, h⟩⟩
theorem stabQ_L (T : List D → Prop) : stabQ (.s (.list ds)) T = T ds := propext ⟨fun ⟨_, e, h⟩ => by cases e; exact h, fun h => ⟨_, rfl, h⟩⟩
theorem seqQ_l (T : List D → Prop) : seqQ (.l o ds) T = T ds := propext ⟨fun ⟨_, e, h⟩ => by cases e; exact h, fun h => ⟨_, rfl, h⟩⟩
theorem kvQ_k (T : List (Key × D) → Prop) : kvQ (.k o kvs) T = T kvs := propext ⟨fun ⟨_, e, h⟩ => by cases e; exact h, fun h => ⟨_, rfl, h⟩⟩
theorem kvEQ_k (T : List (Key × D) → Prop) : kvEQ (.k o kvs) T = T kvs := propext ⟨fun ⟨_, e, h⟩ => by cases e; exact h, fun h => ⟨_, rfl, h⟩⟩
theorem kvEQ_d (T : List (Key × D) → Prop) : kvEQ (.s (.dict (kvD kvs))) T = T kvs := by simp [kvEQ, kvE_d]
theorem kvQ_z (T : List (Key × D) → Prop) : kvQ (.z kvs) T = T kvs := propext ⟨fun ⟨_, e, h⟩ => by cases e; exact h, fun h => ⟨_, rfl, h⟩⟩
theorem kvQ_d (T : List (Key × D) → Prop) : kvQ (.s (.dict (kvD kvs))) T = T kvs := by simp [kvQ, kv_d]
theorem ownQ_l (T : List D → Prop) : ownQ (.l true ds) T = T ds := propext ⟨fun ⟨_, e, h⟩ => by cases e; exact h, fun h => ⟨_, rfl, h⟩⟩
theorem ownKQ_k (T : List (Key × D) → Prop) : ownKQ (.k true kvs) T = T kvs := propext ⟨fun ⟨_, e, h⟩ => by cases e; exact h, fun h => ⟨_, rfl, h⟩⟩
theorem lQ_l (T : List D → Prop) : lQ (.l o ds) T = T ds := propext ⟨fun ⟨_, _, e, h⟩ => by cases e; exact h, fun h => ⟨_, _, rfl, h⟩⟩
theorem keyQ_i (T : Key → Prop) : keyQ (.s (.int i)) T = T (.inl i) := by simp [keyQ, ofK_int]
theorem keyQ_s (T : Key → Prop) : keyQ (.s (.str x)) T = T (.inr x) := by simp [keyQ, ofK_str]
theorem popQ_1 (T : List D → D → Prop) : popQ [d] T = T [] d := propext ⟨fun ⟨a, b, e, h⟩ => by
    have e' : [] ++ [d] = a ++ [b] := e
    obtain ⟨rfl, e2⟩ := List.append_inj' e' rfl
    cases e2
    exact h, fun h => ⟨[], d, rfl, h⟩⟩
theorem popQ_s (T : List D → D → Prop) : popQ (ds ++ [d]) T = T ds d := propext ⟨fun ⟨a, b, e, h⟩ => by
    obtain ⟨rfl, e2⟩ := List.append_inj' e rfl
    cases e2
    exact h, fun h => ⟨ds, d, rfl, h⟩⟩
theorem tupQ_0  : tupQ [] Q = Q (.s (.tuple [])) := propext ⟨fun ⟨_, e, _, h⟩ => by cases e; exact h, fun h => ⟨_, rfl, by decide, h⟩⟩
theorem tupQ_1 (a0 : D) : tupQ [.s a0] Q = Q (.s (.tuple [a0])) := propext ⟨fun ⟨_, e, _, h⟩ => by cases e; exact h, fun h => ⟨_, rfl, by simp, h⟩⟩
theorem tupQ_2 (a0 a1 : D) : tupQ [.s a0, .s a1] Q = Q (.s (.tuple [a0, a1])) := propext ⟨fun ⟨_, e, _, h⟩ => by cases e; exact h, fun h => ⟨_, rfl, by simp, h⟩⟩
theorem tupQ_3 (a0 a1 a2 : D) : tupQ [.s a0, .s a1, .s a2] Q = Q (.s (.tuple [a0, a1, a2])) := propext ⟨fun ⟨_, e, _, h⟩ => by cases e; exact h, fun h => ⟨_, rfl, by simp, h⟩⟩
theorem tupQ_4 (a0 a1 a2 a3 : D) : tupQ [.s a0, .s a1, .s a2, .s a3] Q = Q (.s (.tuple [a0, a1, a2, a3])) := propext ⟨fun ⟨_, e, _, h⟩ => by cases e; exact h, fun h => ⟨_, rfl, by simp, h⟩⟩
theorem tupQ_5 (a0 a1 a2 a3 a4 : D) : tupQ [.s a0, .s a1, .s a2, .s a3, .s a4] Q = Q (.s (.tuple [a0, a1, a2, a3, a4])) := propext ⟨fun ⟨_, e, _, h⟩ => by cases e; exact h, fun h => ⟨_, rfl, by simp, h⟩⟩
theorem tupQ_6 (a0 a1 a2 a3 a4 a5 : D) : tupQ [.s a0, .s a1, .s a2, .s a3, .s a4, .s a5] Q = Q (.s (.tuple [a0, a1, a2, a3, a4, a5])) := propext ⟨fun ⟨_, e, _, h⟩ => by cases e; exact h, fun h => ⟨_, rfl, by simp, h⟩⟩
theorem tupQ_7 (a0 a1 a2 a3 a4 a5 a6 : D) : tupQ [.s a0, .s a1, .s a2, .s a3, .s a4, .s a5, .s a6] Q = Q (.s (.tuple [a0, a1, a2, a3, a4, a5, a6])) := propext ⟨fun ⟨_, e, _, h⟩ => by cases e; exact h, fun h => ⟨_, rfl, by simp, h⟩⟩
theorem tupQ_8 (a0 a1 a2 a3 a4 a5 a6 a7 : D) : tupQ [.s a0, .s a1, .s a2, .s a3, .s a4, .s a5, .s a6, .s a7] Q = Q (.s (.tuple [a0, a1, a2, a3, a4, a5, a6, a7])) := propext ⟨fun ⟨_, e, _, h⟩ => by cases e; exact h, fun h => ⟨_, rfl, by simp, h⟩⟩
theorem lstQ_0  : lstQ [] Q = Q (.l true []) := propext ⟨fun ⟨_, e, _, h⟩ => by cases e; exact h, fun h => ⟨_, rfl, by decide, h⟩⟩
theorem lstQ_1 (a0 : D) : lstQ [.s a0] Q = Q (.l true [a0]) := propext ⟨fun ⟨_, e, _, h⟩ => by cases e; exact h, fun h => ⟨_, rfl, by simp, h⟩⟩
theorem lstQ_2 (a0 a1 : D) : lstQ [.s a0, .s a1] Q = Q (.l true [a0, a1]) := propext ⟨fun ⟨_, e, _, h⟩ => by cases e; exact h, fun h => ⟨_, rfl, by simp, h⟩⟩
theorem lstQ_3 (a0 a1 a2 : D) : lstQ [.s a0, .s a1, .s a2] Q = Q (.l true [a0, a1, a2]) := propext ⟨fun ⟨_, e, _, h⟩ => by cases e; exact h, fun h => ⟨_, rfl, by simp, h⟩⟩
theorem lstQ_4 (a0 a1 a2 a3 : D) : lstQ [.s a0, .s a1, .s a2, .s a3] Q = Q (.l true [a0, a1, a2, a3]) := propext ⟨fun ⟨_, e, _, h⟩ => by cases e; exact h, fun h => ⟨_, rfl, by simp, h⟩⟩
theorem lstQ_5 (a0 a1 a2 a3 a4 : D) : lstQ [.s a0, .s a1, .s a2, .s a3, .s a4] Q = Q (.l true [a0, a1, a2, a3, a4]) := propext ⟨fun ⟨_, e, _, h⟩ => by cases e; exact h, fun h => ⟨_, rfl, by simp, h⟩⟩
theorem lstQ_6 (a0 a1 a2 a3 a4 a5 : D) : lstQ [.s a0, .s a1, .s a2, .s a3, .s a4, .s a5] Q = Q (.l true [a0, a1, a2, a3, a4, a5]) := propext ⟨fun ⟨_, e, _, h⟩ => by cases e; exact h, fun h => ⟨_, rfl, by simp, h⟩⟩
theorem lstQ_7 (a0 a1 a2 a3 a4 a5 a6 : D) : lstQ [.s a0, .s a1, .s a2, .s a3, .s a4, .s a5, .s a6] Q = Q (.l true [a0, a1, a2, a3, a4, a5, a6]) := propext ⟨fun ⟨_, e, _, h⟩ => by cases e; exact h, fun h => ⟨_, rfl, by simp, h⟩⟩
theorem lstQ_8 (a0 a1 a2 a3 a4 a5 a6 a7 : D) : lstQ [.s a0, .s a1, .s a2, .s a3, .s a4, .s a5, .s a6, .s a7] Q = Q (.l true [a0, a1, a2, a3, a4, a5, a6, a7]) := propext ⟨fun ⟨_, e, _, h⟩ => by cases e; exact h, fun h => ⟨_, rfl, by simp, h⟩⟩
theorem ixk0 (a0 : D) : atI (a0 :: ds) 0 = some a0 := by
  unfold atI ixN
  rw [if_pos (by decide), if_pos (by simp only [List.length_cons]; omega)]
  rfl
theorem ixk1 (a0 a1 : D) : atI (a0 :: a1 :: ds) 1 = some a1 := by
  unfold atI ixN
  rw [if_pos (by decide), if_pos (by simp only [List.length_cons]; omega)]
  rfl
theorem ixk2 (a0 a1 a2 : D) : atI (a0 :: a1 :: a2 :: ds) 2 = some a2 := by
  unfold atI ixN
  rw [if_pos (by decide), if_pos (by simp only [List.length_cons]; omega)]
  rfl
theorem ixk3 (a0 a1 a2 a3 : D) : atI (a0 :: a1 :: a2 :: a3 :: ds) 3 = some a3 := by
  unfold atI ixN
  rw [if_pos (by decide), if_pos (by simp only [List.length_cons]; omega)]
  rfl
theorem ixk4 (a0 a1 a2 a3 a4 : D) : atI (a0 :: a1 :: a2 :: a3 :: a4 :: ds) 4 = some a4 := by
  unfold atI ixN
  rw [if_pos (by decide), if_pos (by simp only [List.length_cons]; omega)]
  rfl
theorem fAdd_i : fAdd (.s (.int i)) (.s (.int j)) Q = Q (.s (.int (i + j))) := by simp [fAdd]
theorem fAdd_t : fAdd (.s (.tuple ds)) (.s (.tuple es)) Q = (ds.length + es.length ≤ 16777216 ∧ Q (.s (.tuple (ds ++ es)))) := by simp [fAdd]
theorem fAdd_l : fAdd (.l o ds) (.l o' es) Q = (ds.length + es.length ≤ 16777216 ∧ Q (.l true (ds ++ es))) := propext ⟨fun ⟨_, _, e, h⟩ => by cases e; exact h, fun h => ⟨_, _, rfl, h⟩⟩
theorem fAdd_s : fAdd (.s (.str x)) (.s (.str y)) Q = (x.length + y.length ≤ 16777216 ∧ Q (.s (.str (x ++ y)))) := by simp [fAdd]
theorem fInt_i (C : Int → Int → Prop) (g : Int → Int → Int) : fInt C g (.s (.int i)) (.s (.int j)) Q = (C i j ∧ Q (.s (.int (g i j)))) := by simp [fInt]
theorem fSub_i : fInt (fun _ _ => True) (· - ·) (.s (.int i)) (.s (.int j)) Q = Q (.s (.int (i - j))) := by simp [fInt]
theorem fMul_i : fMul (.s (.int i)) (.s (.int j)) Q = (CMul i j ∧ Q (.s (.int (i * j)))) := by simp [fMul]
theorem fNeg_i : fNeg (.s (.int i)) Q = Q (.s (.int (-i))) := by simp [fNeg]
theorem fEq_s (e : D) : fEq (.s d) (.s e) Q = (Sh d ∧ Sh e ∧ Q (.s (.bool (PyData.eqv d e)))) := by simp [fEq, look_s, look_l, sh_int, sh_bool, sh_none]
theorem fEq_i : fEq (.s (.int i)) (.s (.int j)) Q = Q (.s (.bool (PyData.eqv (.int i) (.int j)))) := by simp [fEq, look_s, sh_int]
theorem fEq_b (b' : Bool) : fEq (.s (.bool b)) (.s (.bool b')) Q = Q (.s (.bool (PyData.eqv (.bool b) (.bool b')))) := by simp [fEq, look_s, sh_bool]
theorem fEq_l : fEq (.l o ds) (.l o' es) Q = (Sh (.list ds) ∧ Sh (.list es) ∧ Q (.s (.bool (PyData.eqv (.list ds) (.list es))))) := by simp [fEq, look_s, look_l, sh_int, sh_bool, sh_none]
theorem fEq_L : fEq (.s (.list ds)) (.l o' es) Q = (Sh (.list ds) ∧ Sh (.list es) ∧ Q (.s (.bool (PyData.eqv (.list ds) (.list es))))) := by simp [fEq, look_s, look_l, sh_int, sh_bool, sh_none]
theorem fNe_s (e : D) : fNe (.s d) (.s e) Q = (Sh d ∧ Sh e ∧ Q (.s (.bool (!PyData.eqv d e)))) := by simp [fNe, look_s, look_l, sh_int, sh_bool, sh_none]
theorem fNe_i : fNe (.s (.int i)) (.s (.int j)) Q = Q (.s (.bool (!PyData.eqv (.int i) (.int j)))) := by simp [fNe, look_s, sh_int]
theorem fNe_b (b' : Bool) : fNe (.s (.bool b)) (.s (.bool b')) Q = Q (.s (.bool (!PyData.eqv (.bool b) (.bool b')))) := by simp [fNe, look_s, sh_bool]
theorem fNe_l : fNe (.l o ds) (.l o' es) Q = (Sh (.list ds) ∧ Sh (.list es) ∧ Q (.s (.bool (!PyData.eqv (.list ds) (.list es))))) := by simp [fNe, look_s, look_l, sh_int, sh_bool, sh_none]
theorem fNe_L : fNe (.s (.list ds)) (.l o' es) Q = (Sh (.list ds) ∧ Sh (.list es) ∧ Q (.s (.bool (!PyData.eqv (.list ds) (.list es))))) := by simp [fNe, look_s, look_l, sh_int, sh_bool, sh_none]
theorem fCmp_i (g : Int → Int → Bool) : fCmp g (.s (.int i)) (.s (.int j)) Q = Q (.s (.bool (g i j))) := by simp [fCmp]
theorem fLt_i : fLt (.s (.int i)) (.s (.int j)) Q = Q (.s (.bool (decide (i < j)))) := by simp [fLt]
theorem fIs_n (neg : Bool) : fIs neg (.s d) (.s .none) Q = Q (.s (.bool (neg != R.isN (.s d)))) := by simp [fIs, R.isS]
theorem fIs_b (neg : Bool) (b' : Bool) : fIs neg (.s (.bool b)) (.s (.bool b')) Q = Q (.s (.bool (neg != (b == b')))) := by simp [fIs]
theorem fIn_t (neg : Bool) : fIn neg (.s d) (.s (.tuple ds)) Q = (flatD d = true ∧ ds.all flatD = true ∧ Q (.s (.bool (neg != inD d ds)))) := by simp [fIn, kv_t, R.seq]
theorem fIx_t : fIx (.s (.tuple ds)) (.s (.int i)) Q = (∃ d, atI ds i = some d ∧ Q (.s d)) := by simp [fIx, kv_t, R.seq]
theorem fIx_t0 (a0 : D) : fIx (.s (.tuple (a0 :: ds))) (.s (.int 0)) Q = Q (.s a0) := by rw [fIx_t, ixk0]; simp
theorem fIx_t1 (a0 a1 : D) : fIx (.s (.tuple (a0 :: a1 :: ds))) (.s (.int 1)) Q = Q (.s a1) := by rw [fIx_t, ixk1]; simp
theorem fIx_t2 (a0 a1 a2 : D) : fIx (.s (.tuple (a0 :: a1 :: a2 :: ds))) (.s (.int 2)) Q = Q (.s a2) := by rw [fIx_t, ixk2]; simp
theorem fIx_t3 (a0 a1 a2 a3 : D) : fIx (.s (.tuple (a0 :: a1 :: a2 :: a3 :: ds))) (.s (.int 3)) Q = Q (.s a3) := by rw [fIx_t, ixk3]; simp
theorem fIx_t4 (a0 a1 a2 a3 a4 : D) : fIx (.s (.tuple (a0 :: a1 :: a2 :: a3 :: a4 :: ds))) (.s (.int 4)) Q = Q (.s a4) := by rw [fIx_t, ixk4]; simp
theorem fLen_t : fLen [.s (.tuple ds)] Q = Q (.s (.int ds.length)) := by simp [fLen, kv_t, R.seq]
theorem fList_t : fList [.s (.tuple ds)] Q = Q (.l true ds) := by simp [fList, R.seq]
theorem fTuple_t : fTuple [.s (.tuple ds)] Q = Q (.s (.tuple ds)) := by simp [fTuple, R.seq]
theorem fDict_t : fDict [.s (.tuple ds)] Q = (∃ kvs, pairsK ds = some kvs ∧ Q (.k true (kMerge [] kvs))) := by simp [fDict, kv_t, R.seq]
theorem fSl_t (lo hi : Option Int) : fSl (.s (.tuple ds)) lo hi Q = Q (.s (.tuple (cutD ds lo hi))) := rfl
theorem fIn_L (neg : Bool) : fIn neg (.s d) (.s (.list ds)) Q = (flatD d = true ∧ ds.all flatD = true ∧ Q (.s (.bool (neg != inD d ds)))) := by simp [fIn, kv_L, R.seq]
theorem fIx_L : fIx (.s (.list ds)) (.s (.int i)) Q = (∃ d, atI ds i = some d ∧ Q (.s d)) := by simp [fIx, kv_L, R.seq]
theorem fIx_L0 (a0 : D) : fIx (.s (.list (a0 :: ds))) (.s (.int 0)) Q = Q (.s a0) := by rw [fIx_L, ixk0]; simp
theorem fIx_L1 (a0 a1 : D) : fIx (.s (.list (a0 :: a1 :: ds))) (.s (.int 1)) Q = Q (.s a1) := by rw [fIx_L, ixk1]; simp
theorem fIx_L2 (a0 a1 a2 : D) : fIx (.s (.list (a0 :: a1 :: a2 :: ds))) (.s (.int 2)) Q = Q (.s a2) := by rw [fIx_L, ixk2]; simp
theorem fIx_L3 (a0 a1 a2 a3 : D) : fIx (.s (.list (a0 :: a1 :: a2 :: a3 :: ds))) (.s (.int 3)) Q = Q (.s a3) := by rw [fIx_L, ixk3]; simp
theorem fIx_L4 (a0 a1 a2 a3 a4 : D) : fIx (.s (.list (a0 :: a1 :: a2 :: a3 :: a4 :: ds))) (.s (.int 4)) Q = Q (.s a4) := by rw [fIx_L, ixk4]; simp
theorem fLen_L : fLen [.s (.list ds)] Q = Q (.s (.int ds.length)) := by simp [fLen, kv_L, R.seq]
theorem fList_L : fList [.s (.list ds)] Q = Q (.l true ds) := by simp [fList, R.seq]
theorem fTuple_L : fTuple [.s (.list ds)] Q = Q (.s (.tuple ds)) := by simp [fTuple, R.seq]
theorem fDict_L : fDict [.s (.list ds)] Q = (∃ kvs, pairsK ds = some kvs ∧ Q (.k true (kMerge [] kvs))) := by simp [fDict, kv_L, R.seq]
theorem fSl_L (lo hi : Option Int) : fSl (.s (.list ds)) lo hi Q = Q (.l true (cutD ds lo hi)) := rfl
theorem fIn_l (neg : Bool) : fIn neg (.s d) (.l o ds) Q = (flatD d = true ∧ ds.all flatD = true ∧ Q (.s (.bool (neg != inD d ds)))) := by simp [fIn, kv_l, R.seq]
theorem fIx_l : fIx (.l o ds) (.s (.int i)) Q = (∃ d, atI ds i = some d ∧ Q (.s d)) := by simp [fIx, kv_l, R.seq]
theorem fIx_l0 (a0 : D) : fIx (.l o (a0 :: ds)) (.s (.int 0)) Q = Q (.s a0) := by rw [fIx_l, ixk0]; simp
theorem fIx_l1 (a0 a1 : D) : fIx (.l o (a0 :: a1 :: ds)) (.s (.int 1)) Q = Q (.s a1) := by rw [fIx_l, ixk1]; simp
theorem fIx_l2 (a0 a1 a2 : D) : fIx (.l o (a0 :: a1 :: a2 :: ds)) (.s (.int 2)) Q = Q (.s a2) := by rw [fIx_l, ixk2]; simp
theorem fIx_l3 (a0 a1 a2 a3 : D) : fIx (.l o (a0 :: a1 :: a2 :: a3 :: ds)) (.s (.int 3)) Q = Q (.s a3) := by rw [fIx_l, ixk3]; simp
theorem fIx_l4 (a0 a1 a2 a3 a4 : D) : fIx (.l o (a0 :: a1 :: a2 :: a3 :: a4 :: ds)) (.s (.int 4)) Q = Q (.s a4) := by rw [fIx_l, ixk4]; simp
theorem fLen_l : fLen [.l o ds] Q = Q (.s (.int ds.length)) := by simp [fLen, kv_l, R.seq]
theorem fList_l : fList [.l o ds] Q = Q (.l true ds) := by simp [fList, R.seq]
theorem fTuple_l : fTuple [.l o ds] Q = Q (.s (.tuple ds)) := by simp [fTuple, R.seq]
theorem fDict_l : fDict [.l o ds] Q = (∃ kvs, pairsK ds = some kvs ∧ Q (.k true (kMerge [] kvs))) := by simp [fDict, kv_l, R.seq]
theorem fSl_l (lo hi : Option Int) : fSl (.l o ds) lo hi Q = Q (.l true (cutD ds lo hi)) := rfl
theorem fIn_k (neg : Bool) : fIn neg (.s d) (.k o kvs) Q = (∃ k, ofK d = some k ∧ Q (.s (.bool (neg != (kGet kvs k).isSome)))) := by simp [fIn, kv_k, seq_k]
theorem fIn_ki (neg : Bool) : fIn neg (.s (.int i)) (.k o kvs) Q = Q (.s (.bool (neg != (kGet kvs (.inl i)).isSome))) := by simp [fIn, kv_k, seq_k, ofK_int]
theorem fIn_ks (neg : Bool) : fIn neg (.s (.str x)) (.k o kvs) Q = Q (.s (.bool (neg != (kGet kvs (.inr x)).isSome))) := by simp [fIn, kv_k, seq_k, ofK_str]
theorem fIx_k : fIx (.k o kvs) (.s d) Q = (∃ k, ofK d = some k ∧ ∃ e, kGet kvs k = some e ∧ Q (.s e)) := by simp [fIx, kv_k, seq_k]
theorem fIx_ki : fIx (.k o kvs) (.s (.int i)) Q = (∃ e, kGet kvs (.inl i) = some e ∧ Q (.s e)) := by simp [fIx, kv_k, seq_k, ofK_int]
theorem fIx_ks : fIx (.k o kvs) (.s (.str x)) Q = (∃ e, kGet kvs (.inr x) = some e ∧ Q (.s e)) := by simp [fIx, kv_k, seq_k, ofK_str]
theorem fLen_k : fLen [.k o kvs] Q = Q (.s (.int kvs.length)) := by simp [fLen, kv_k, seq_k]
theorem fLen_d : fLen [.s (.dict (kvD kvs))] Q = Q (.s (.int kvs.length)) := by simp [fLen, kv_d, seq_d]
theorem fDict_k : fDict [.k o kvs] Q = Q (.k true kvs) := by simp [fDict, kv_k, seq_k]
theorem fIn_z (neg : Bool) : fIn neg (.s d) (.z kvs) Q = (∃ k, ofK d = some k ∧ Q (.s (.bool (neg != (kGet kvs k).isSome)))) := by simp [fIn, kv_z, seq_z]
theorem fIn_zi (neg : Bool) : fIn neg (.s (.int i)) (.z kvs) Q = Q (.s (.bool (neg != (kGet kvs (.inl i)).isSome))) := by simp [fIn, kv_z, seq_z, ofK_int]
theorem fIn_zs (neg : Bool) : fIn neg (.s (.str x)) (.z kvs) Q = Q (.s (.bool (neg != (kGet kvs (.inr x)).isSome))) := by simp [fIn, kv_z, seq_z, ofK_str]
theorem fIx_z : fIx (.z kvs) (.s d) Q = (∃ k, ofK d = some k ∧ ∃ e, kGet kvs k = some e ∧ Q (.s e)) := by simp [fIx, kv_z, seq_z]
theorem fIx_zi : fIx (.z kvs) (.s (.int i)) Q = (∃ e, kGet kvs (.inl i) = some e ∧ Q (.s e)) := by simp [fIx, kv_z, seq_z, ofK_int]
theorem fIx_zs : fIx (.z kvs) (.s (.str x)) Q = (∃ e, kGet kvs (.inr x) = some e ∧ Q (.s e)) := by simp [fIx, kv_z, seq_z, ofK_str]
theorem fLen_z : fLen [.z kvs] Q = Q (.s (.int kvs.length)) := by simp [fLen, kv_z, seq_z]
theorem fDict_z : fDict [.z kvs] Q = Q (.k true kvs) := by simp [fDict, kv_z, seq_z]
theorem fDict_d : fDict [.s (.dict (kvD kvs))] Q = Q (.k true kvs) := by simp [fDict, kv_d, seq_d]
theorem fSorted_l : fSorted [.l o ds] Q = (SrtOk ds ∧ Q (.l true (sortD ds))) := by unfold fSorted; exact propext ⟨fun ⟨r, es, e, h, a, b⟩ => by cases e; rcases h with ⟨_, h⟩ | h <;> cases h; exact ⟨a, b⟩, fun ⟨a, b⟩ => ⟨_, ds, rfl, .inl ⟨o, rfl⟩, a, b⟩⟩
theorem fSorted_L : fSorted [.s (.list ds)] Q = (SrtOk ds ∧ Q (.l true (sortD ds))) := by simp [fSorted]
theorem revQ_t : revQ (.s (.tuple ds)) Q = Q (.s (.tuple ds.reverse)) := by simp [revQ]
theorem revQ_l : revQ (.l o ds) Q = Q (.l true ds.reverse) := by unfold revQ; exact propext ⟨fun h => by rcases h with ⟨_, h, _⟩ | ⟨_, ⟨_, h⟩ | h, q⟩ <;> cases h; exact q, fun h => .inr ⟨_, .inl ⟨_, rfl⟩, h⟩⟩
theorem revQ_L : revQ (.s (.list ds)) Q = Q (.l true ds.reverse) := by unfold revQ; exact propext ⟨fun h => by rcases h with ⟨_, h, _⟩ | ⟨_, ⟨_, h⟩ | h, q⟩ <;> cases h; exact q, fun h => .inr ⟨_, .inr rfl, h⟩⟩
theorem fIntOf_i : fIntOf [.s (.int i)] Q = Q (.s (.int i)) := by simp [fIntOf]
theorem fMax2_i : fMax2 [.s (.int i), .s (.int j)] Q = Q (.s (.int (if j > i then j else i))) := propext ⟨fun ⟨_, _, e, h⟩ => by cases e; exact h, fun h => ⟨_, _, rfl, h⟩⟩
theorem fMin2_i : fMin2 [.s (.int i), .s (.int j)] Q = Q (.s (.int (if j < i then j else i))) := propext ⟨fun ⟨_, _, e, h⟩ => by cases e; exact h, fun h => ⟨_, _, rfl, h⟩⟩
theorem pick_at (E : Value → Prop) : c_pick [.g, .s (.int i)] Q E = (0 < i ∧ i < 1073741824 ∧ ∀ r : Int, 0 ≤ r → r < i → Q (.s (.int r))) := propext ⟨fun ⟨_, e, h⟩ => by cases e; exact h, fun h => ⟨_, rfl, h⟩⟩
theorem putR_li  : putR (.l true ds) (.s (.int i)) d Q = (∃ j, ixN ds.length i = some j ∧ Q (.l true (ds.set j d))) := by simp [putR]
theorem putR_ki  : putR (.k true kvs) (.s (.int i)) d Q = (kvs.length < 16777216 ∧ Q (.k true (kPut kvs (.inl i) d))) := by simp [putR, ofK_int]
theorem putR_ks  : putR (.k true kvs) (.s (.str x)) d Q = (kvs.length < 16777216 ∧ Q (.k true (kPut kvs (.inr x) d))) := by simp [putR, ofK_str]
end
theorem getQ_0  (l : Rho) (r : R) (k : R → Prop) : getQ 0 (some r :: l) k = k r := propext ⟨fun ⟨_, e, h⟩ => by cases e; exact h, fun h => ⟨_, rfl, h⟩⟩
theorem setQ_0 (x : Option R) (l : Rho) (r : R) (k : Rho → Prop) : setQ 0 (x :: l) r k = k (some r :: l) := propext ⟨fun h => h.2, fun h => ⟨by simp, h⟩⟩
theorem getQ_1 (x0 : Option R) (l : Rho) (r : R) (k : R → Prop) : getQ 1 (x0 :: some r :: l) k = k r := propext ⟨fun ⟨_, e, h⟩ => by cases e; exact h, fun h => ⟨_, rfl, h⟩⟩
theorem setQ_1 (x0 x : Option R) (l : Rho) (r : R) (k : Rho → Prop) : setQ 1 (x0 :: x :: l) r k = k (x0 :: some r :: l) := propext ⟨fun h => h.2, fun h => ⟨by simp, h⟩⟩
theorem getQ_2 (x0 x1 : Option R) (l : Rho) (r : R) (k : R → Prop) : getQ 2 (x0 :: x1 :: some r :: l) k = k r := propext ⟨fun ⟨_, e, h⟩ => by cases e; exact h, fun h => ⟨_, rfl, h⟩⟩
theorem setQ_2 (x0 x1 x : Option R) (l : Rho) (r : R) (k : Rho → Prop) : setQ 2 (x0 :: x1 :: x :: l) r k = k (x0 :: x1 :: some r :: l) := propext ⟨fun h => h.2, fun h => ⟨by simp, h⟩⟩
theorem getQ_3 (x0 x1 x2 : Option R) (l : Rho) (r : R) (k : R → Prop) : getQ 3 (x0 :: x1 :: x2 :: some r :: l) k = k r := propext ⟨fun ⟨_, e, h⟩ => by cases e; exact h, fun h => ⟨_, rfl, h⟩⟩
theorem setQ_3 (x0 x1 x2 x : Option R) (l : Rho) (r : R) (k : Rho → Prop) : setQ 3 (x0 :: x1 :: x2 :: x :: l) r k = k (x0 :: x1 :: x2 :: some r :: l) := propext ⟨fun h => h.2, fun h => ⟨by simp, h⟩⟩
theorem getQ_4 (x0 x1 x2 x3 : Option R) (l : Rho) (r : R) (k : R → Prop) : getQ 4 (x0 :: x1 :: x2 :: x3 :: some r :: l) k = k r := propext ⟨fun ⟨_, e, h⟩ => by cases e; exact h, fun h => ⟨_, rfl, h⟩⟩
theorem setQ_4 (x0 x1 x2 x3 x : Option R) (l : Rho) (r : R) (k : Rho → Prop) : setQ 4 (x0 :: x1 :: x2 :: x3 :: x :: l) r k = k (x0 :: x1 :: x2 :: x3 :: some r :: l) := propext ⟨fun h => h.2, fun h => ⟨by simp, h⟩⟩
theorem getQ_5 (x0 x1 x2 x3 x4 : Option R) (l : Rho) (r : R) (k : R → Prop) : getQ 5 (x0 :: x1 :: x2 :: x3 :: x4 :: some r :: l) k = k r := propext ⟨fun ⟨_, e, h⟩ => by cases e; exact h, fun h => ⟨_, rfl, h⟩⟩
theorem setQ_5 (x0 x1 x2 x3 x4 x : Option R) (l : Rho) (r : R) (k : Rho → Prop) : setQ 5 (x0 :: x1 :: x2 :: x3 :: x4 :: x :: l) r k = k (x0 :: x1 :: x2 :: x3 :: x4 :: some r :: l) := propext ⟨fun h => h.2, fun h => ⟨by simp, h⟩⟩
theorem getQ_6 (x0 x1 x2 x3 x4 x5 : Option R) (l : Rho) (r : R) (k : R → Prop) : getQ 6 (x0 :: x1 :: x2 :: x3 :: x4 :: x5 :: some r :: l) k = k r := propext ⟨fun ⟨_, e, h⟩ => by cases e; exact h, fun h => ⟨_, rfl, h⟩⟩
theorem setQ_6 (x0 x1 x2 x3 x4 x5 x : Option R) (l : Rho) (r : R) (k : Rho → Prop) : setQ 6 (x0 :: x1 :: x2 :: x3 :: x4 :: x5 :: x :: l) r k = k (x0 :: x1 :: x2 :: x3 :: x4 :: x5 :: some r :: l) := propext ⟨fun h => h.2, fun h => ⟨by simp, h⟩⟩
theorem getQ_7 (x0 x1 x2 x3 x4 x5 x6 : Option R) (l : Rho) (r : R) (k : R → Prop) : getQ 7 (x0 :: x1 :: x2 :: x3 :: x4 :: x5 :: x6 :: some r :: l) k = k r := propext ⟨fun ⟨_, e, h⟩ => by cases e; exact h, fun h => ⟨_, rfl, h⟩⟩
theorem setQ_7 (x0 x1 x2 x3 x4 x5 x6 x : Option R) (l : Rho) (r : R) (k : Rho → Prop) : setQ 7 (x0 :: x1 :: x2 :: x3 :: x4 :: x5 :: x6 :: x :: l) r k = k (x0 :: x1 :: x2 :: x3 :: x4 :: x5 :: x6 :: some r :: l) := propext ⟨fun h => h.2, fun h => ⟨by simp, h⟩⟩
theorem getQ_8 (x0 x1 x2 x3 x4 x5 x6 x7 : Option R) (l : Rho) (r : R) (k : R → Prop) : getQ 8 (x0 :: x1 :: x2 :: x3 :: x4 :: x5 :: x6 :: x7 :: some r :: l) k = k r := propext ⟨fun ⟨_, e, h⟩ => by cases e; exact h, fun h => ⟨_, rfl, h⟩⟩
theorem setQ_8 (x0 x1 x2 x3 x4 x5 x6 x7 x : Option R) (l : Rho) (r : R) (k : Rho → Prop) : setQ 8 (x0 :: x1 :: x2 :: x3 :: x4 :: x5 :: x6 :: x7 :: x :: l) r k = k (x0 :: x1 :: x2 :: x3 :: x4 :: x5 :: x6 :: x7 :: some r :: l) := propext ⟨fun h => h.2, fun h => ⟨by simp, h⟩⟩
theorem getQ_9 (x0 x1 x2 x3 x4 x5 x6 x7 x8 : Option R) (l : Rho) (r : R) (k : R → Prop) : getQ 9 (x0 :: x1 :: x2 :: x3 :: x4 :: x5 :: x6 :: x7 :: x8 :: some r :: l) k = k r := propext ⟨fun ⟨_, e, h⟩ => by cases e; exact h, fun h => ⟨_, rfl, h⟩⟩
theorem setQ_9 (x0 x1 x2 x3 x4 x5 x6 x7 x8 x : Option R) (l : Rho) (r : R) (k : Rho → Prop) : setQ 9 (x0 :: x1 :: x2 :: x3 :: x4 :: x5 :: x6 :: x7 :: x8 :: x :: l) r k = k (x0 :: x1 :: x2 :: x3 :: x4 :: x5 :: x6 :: x7 :: x8 :: some r :: l) := propext ⟨fun h => h.2, fun h => ⟨by simp, h⟩⟩
theorem getQ_10 (x0 x1 x2 x3 x4 x5 x6 x7 x8 x9 : Option R) (l : Rho) (r : R) (k : R → Prop) : getQ 10 (x0 :: x1 :: x2 :: x3 :: x4 :: x5 :: x6 :: x7 :: x8 :: x9 :: some r :: l) k = k r := propext ⟨fun ⟨_, e, h⟩ => by cases e; exact h, fun h => ⟨_, rfl, h⟩⟩
theorem setQ_10 (x0 x1 x2 x3 x4 x5 x6 x7 x8 x9 x : Option R) (l : Rho) (r : R) (k : Rho → Prop) : setQ 10 (x0 :: x1 :: x2 :: x3 :: x4 :: x5 :: x6 :: x7 :: x8 :: x9 :: x :: l) r k = k (x0 :: x1 :: x2 :: x3 :: x4 :: x5 :: x6 :: x7 :: x8 :: x9 :: some r :: l) := propext ⟨fun h => h.2, fun h => ⟨by simp, h⟩⟩
theorem getQ_11 (x0 x1 x2 x3 x4 x5 x6 x7 x8 x9 x10 : Option R) (l : Rho) (r : R) (k : R → Prop) : getQ 11 (x0 :: x1 :: x2 :: x3 :: x4 :: x5 :: x6 :: x7 :: x8 :: x9 :: x10 :: some r :: l) k = k r := propext ⟨fun ⟨_, e, h⟩ => by cases e; exact h, fun h => ⟨_, rfl, h⟩⟩
theorem setQ_11 (x0 x1 x2 x3 x4 x5 x6 x7 x8 x9 x10 x : Option R) (l : Rho) (r : R) (k : Rho → Prop) : setQ 11 (x0 :: x1 :: x2 :: x3 :: x4 :: x5 :: x6 :: x7 :: x8 :: x9 :: x10 :: x :: l) r k = k (x0 :: x1 :: x2 :: x3 :: x4 :: x5 :: x6 :: x7 :: x8 :: x9 :: x10 :: some r :: l) := propext ⟨fun h => h.2, fun h => ⟨by simp, h⟩⟩
theorem getQ_12 (x0 x1 x2 x3 x4 x5 x6 x7 x8 x9 x10 x11 : Option R) (l : Rho) (r : R) (k : R → Prop) : getQ 12 (x0 :: x1 :: x2 :: x3 :: x4 :: x5 :: x6 :: x7 :: x8 :: x9 :: x10 :: x11 :: some r :: l) k = k r := propext ⟨fun ⟨_, e, h⟩ => by cases e; exact h, fun h => ⟨_, rfl, h⟩⟩
theorem setQ_12 (x0 x1 x2 x3 x4 x5 x6 x7 x8 x9 x10 x11 x : Option R) (l : Rho) (r : R) (k : Rho → Prop) : setQ 12 (x0 :: x1 :: x2 :: x3 :: x4 :: x5 :: x6 :: x7 :: x8 :: x9 :: x10 :: x11 :: x :: l) r k = k (x0 :: x1 :: x2 :: x3 :: x4 :: x5 :: x6 :: x7 :: x8 :: x9 :: x10 :: x11 :: some r :: l) := propext ⟨fun h => h.2, fun h => ⟨by simp, h⟩⟩
theorem getQ_13 (x0 x1 x2 x3 x4 x5 x6 x7 x8 x9 x10 x11 x12 : Option R) (l : Rho) (r : R) (k : R → Prop) : getQ 13 (x0 :: x1 :: x2 :: x3 :: x4 :: x5 :: x6 :: x7 :: x8 :: x9 :: x10 :: x11 :: x12 :: some r :: l) k = k r := propext ⟨fun ⟨_, e, h⟩ => by cases e; exact h, fun h => ⟨_, rfl, h⟩⟩
theorem setQ_13 (x0 x1 x2 x3 x4 x5 x6 x7 x8 x9 x10 x11 x12 x : Option R) (l : Rho) (r : R) (k : Rho → Prop) : setQ 13 (x0 :: x1 :: x2 :: x3 :: x4 :: x5 :: x6 :: x7 :: x8 :: x9 :: x10 :: x11 :: x12 :: x :: l) r k = k (x0 :: x1 :: x2 :: x3 :: x4 :: x5 :: x6 :: x7 :: x8 :: x9 :: x10 :: x11 :: x12 :: some r :: l) := propext ⟨fun h => h.2, fun h => ⟨by simp, h⟩⟩
theorem getQ_14 (x0 x1 x2 x3 x4 x5 x6 x7 x8 x9 x10 x11 x12 x13 : Option R) (l : Rho) (r : R) (k : R → Prop) : getQ 14 (x0 :: x1 :: x2 :: x3 :: x4 :: x5 :: x6 :: x7 :: x8 :: x9 :: x10 :: x11 :: x12 :: x13 :: some r :: l) k = k r := propext ⟨fun ⟨_, e, h⟩ => by cases e; exact h, fun h => ⟨_, rfl, h⟩⟩
theorem setQ_14 (x0 x1 x2 x3 x4 x5 x6 x7 x8 x9 x10 x11 x12 x13 x : Option R) (l : Rho) (r : R) (k : Rho → Prop) : setQ 14 (x0 :: x1 :: x2 :: x3 :: x4 :: x5 :: x6 :: x7 :: x8 :: x9 :: x10 :: x11 :: x12 :: x13 :: x :: l) r k = k (x0 :: x1 :: x2 :: x3 :: x4 :: x5 :: x6 :: x7 :: x8 :: x9 :: x10 :: x11 :: x12 :: x13 :: some r :: l) := propext ⟨fun h => h.2, fun h => ⟨by simp, h⟩⟩
theorem getQ_15 (x0 x1 x2 x3 x4 x5 x6 x7 x8 x9 x10 x11 x12 x13 x14 : Option R) (l : Rho) (r : R) (k : R → Prop) : getQ 15 (x0 :: x1 :: x2 :: x3 :: x4 :: x5 :: x6 :: x7 :: x8 :: x9 :: x10 :: x11 :: x12 :: x13 :: x14 :: some r :: l) k = k r := propext ⟨fun ⟨_, e, h⟩ => by cases e; exact h, fun h => ⟨_, rfl, h⟩⟩
theorem setQ_15 (x0 x1 x2 x3 x4 x5 x6 x7 x8 x9 x10 x11 x12 x13 x14 x : Option R) (l : Rho) (r : R) (k : Rho → Prop) : setQ 15 (x0 :: x1 :: x2 :: x3 :: x4 :: x5 :: x6 :: x7 :: x8 :: x9 :: x10 :: x11 :: x12 :: x13 :: x14 :: x :: l) r k = k (x0 :: x1 :: x2 :: x3 :: x4 :: x5 :: x6 :: x7 :: x8 :: x9 :: x10 :: x11 :: x12 :: x13 :: x14 :: some r :: l) := propext ⟨fun h => h.2, fun h => ⟨by simp, h⟩⟩
theorem getQ_16 (x0 x1 x2 x3 x4 x5 x6 x7 x8 x9 x10 x11 x12 x13 x14 x15 : Option R) (l : Rho) (r : R) (k : R → Prop) : getQ 16 (x0 :: x1 :: x2 :: x3 :: x4 :: x5 :: x6 :: x7 :: x8 :: x9 :: x10 :: x11 :: x12 :: x13 :: x14 :: x15 :: some r :: l) k = k r := propext ⟨fun ⟨_, e, h⟩ => by cases e; exact h, fun h => ⟨_, rfl, h⟩⟩
theorem setQ_16 (x0 x1 x2 x3 x4 x5 x6 x7 x8 x9 x10 x11 x12 x13 x14 x15 x : Option R) (l : Rho) (r : R) (k : Rho → Prop) : setQ 16 (x0 :: x1 :: x2 :: x3 :: x4 :: x5 :: x6 :: x7 :: x8 :: x9 :: x10 :: x11 :: x12 :: x13 :: x14 :: x15 :: x :: l) r k = k (x0 :: x1 :: x2 :: x3 :: x4 :: x5 :: x6 :: x7 :: x8 :: x9 :: x10 :: x11 :: x12 :: x13 :: x14 :: x15 :: some r :: l) := propext ⟨fun h => h.2, fun h => ⟨by simp, h⟩⟩
theorem getQ_17 (x0 x1 x2 x3 x4 x5 x6 x7 x8 x9 x10 x11 x12 x13 x14 x15 x16 : Option R) (l : Rho) (r : R) (k : R → Prop) : getQ 17 (x0 :: x1 :: x2 :: x3 :: x4 :: x5 :: x6 :: x7 :: x8 :: x9 :: x10 :: x11 :: x12 :: x13 :: x14 :: x15 :: x16 :: some r :: l) k = k r := propext ⟨fun ⟨_, e, h⟩ => by cases e; exact h, fun h => ⟨_, rfl, h⟩⟩
theorem setQ_17 (x0 x1 x2 x3 x4 x5 x6 x7 x8 x9 x10 x11 x12 x13 x14 x15 x16 x : Option R) (l : Rho) (r : R) (k : Rho → Prop) : setQ 17 (x0 :: x1 :: x2 :: x3 :: x4 :: x5 :: x6 :: x7 :: x8 :: x9 :: x10 :: x11 :: x12 :: x13 :: x14 :: x15 :: x16 :: x :: l) r k = k (x0 :: x1 :: x2 :: x3 :: x4 :: x5 :: x6 :: x7 :: x8 :: x9 :: x10 :: x11 :: x12 :: x13 :: x14 :: x15 :: x16 :: some r :: l) := propext ⟨fun h => h.2, fun h => ⟨by simp, h⟩⟩
theorem getQ_18 (x0 x1 x2 x3 x4 x5 x6 x7 x8 x9 x10 x11 x12 x13 x14 x15 x16 x17 : Option R) (l : Rho) (r : R) (k : R → Prop) : getQ 18 (x0 :: x1 :: x2 :: x3 :: x4 :: x5 :: x6 :: x7 :: x8 :: x9 :: x10 :: x11 :: x12 :: x13 :: x14 :: x15 :: x16 :: x17 :: some r :: l) k = k r := propext ⟨fun ⟨_, e, h⟩ => by cases e; exact h, fun h => ⟨_, rfl, h⟩⟩
theorem setQ_18 (x0 x1 x2 x3 x4 x5 x6 x7 x8 x9 x10 x11 x12 x13 x14 x15 x16 x17 x : Option R) (l : Rho) (r : R) (k : Rho → Prop) : setQ 18 (x0 :: x1 :: x2 :: x3 :: x4 :: x5 :: x6 :: x7 :: x8 :: x9 :: x10 :: x11 :: x12 :: x13 :: x14 :: x15 :: x16 :: x17 :: x :: l) r k = k (x0 :: x1 :: x2 :: x3 :: x4 :: x5 :: x6 :: x7 :: x8 :: x9 :: x10 :: x11 :: x12 :: x13 :: x14 :: x15 :: x16 :: x17 :: some r :: l) := propext ⟨fun h => h.2, fun h => ⟨by simp, h⟩⟩
theorem getQ_19 (x0 x1 x2 x3 x4 x5 x6 x7 x8 x9 x10 x11 x12 x13 x14 x15 x16 x17 x18 : Option R) (l : Rho) (r : R) (k : R → Prop) : getQ 19 (x0 :: x1 :: x2 :: x3 :: x4 :: x5 :: x6 :: x7 :: x8 :: x9 :: x10 :: x11 :: x12 :: x13 :: x14 :: x15 :: x16 :: x17 :: x18 :: some r :: l) k = k r := propext ⟨fun ⟨_, e, h⟩ => by cases e; exact h, fun h => ⟨_, rfl, h⟩⟩
theorem setQ_19 (x0 x1 x2 x3 x4 x5 x6 x7 x8 x9 x10 x11 x12 x13 x14 x15 x16 x17 x18 x : Option R) (l : Rho) (r : R) (k : Rho → Prop) : setQ 19 (x0 :: x1 :: x2 :: x3 :: x4 :: x5 :: x6 :: x7 :: x8 :: x9 :: x10 :: x11 :: x12 :: x13 :: x14 :: x15 :: x16 :: x17 :: x18 :: x :: l) r k = k (x0 :: x1 :: x2 :: x3 :: x4 :: x5 :: x6 :: x7 :: x8 :: x9 :: x10 :: x11 :: x12 :: x13 :: x14 :: x15 :: x16 :: x17 :: x18 :: some r :: l) := propext ⟨fun h => h.2, fun h => ⟨by simp, h⟩⟩
/-! what may be compared -/
def Shn (n : Nat) (d : D) : Prop := PyData.canLay0 d = true ∧ PyData.depth d ≤ n
theorem Shn.mono {n m : Nat} {d : D} (h : Shn n d) (l : n ≤ m) : Shn m d := ⟨h.1, Nat.le_trans h.2 l⟩
theorem Shn.sh {n : Nat} {d : D} (h : Shn n d) (l : n ≤ 64) : Sh d := Bool.and_eq_true_iff.mpr ⟨h.1, decide_eq_true (Nat.le_trans h.2 l)⟩
theorem Sh.n {d : D} (h : Sh d) : Shn 64 d := ⟨(Bool.and_eq_true_iff.mp h).1, of_decide_eq_true (Bool.and_eq_true_iff.mp h).2⟩
theorem shn_int (n : Nat) (i : Int) : Shn n (.int i) := ⟨by simp [PyData.canLay0], by simp [PyData.depth]⟩
theorem shn_bool (n : Nat) (i : Bool) : Shn n (.bool i) := ⟨by simp [PyData.canLay0], by simp [PyData.depth]⟩
theorem shn_none (n : Nat) : Shn n .none := ⟨by simp [PyData.canLay0], by simp [PyData.depth]⟩
theorem shn_str (n : Nat) {x : Str} (h : Sh (.str x)) : Shn n (.str x) := ⟨h.n.1, by simp [PyData.depth]⟩
theorem shn_all : ∀ {xs : List D} {n : Nat}, (∀ x ∈ xs, Shn n x) → PyData.canLayAll0 xs = true ∧ PyData.depthAll xs ≤ n
  | [], n, _ => ⟨by simp [PyData.canLayAll0], by simp [PyData.depthAll]⟩
  | x :: xs, n, h => by
    have h1 := h x List.mem_cons_self
    have h2 := shn_all (xs := xs) fun y hy => h y (List.mem_cons_of_mem _ hy)
    refine ⟨by simp only [PyData.canLayAll0, h1.1, h2.1, Bool.and_self], ?_⟩
    simp only [PyData.depthAll]
    have := h1.2
    have := h2.2
    omega
theorem shn_list {n : Nat} {xs : List D} (h : ∀ x ∈ xs, Shn n x) : Shn (n + 1) (.list xs) := ⟨by simp only [PyData.canLay0, (shn_all h).1], by simp only [PyData.depth]; have := (shn_all h).2; omega⟩
theorem shn_tup {n : Nat} {xs : List D} (h : ∀ x ∈ xs, Shn n x) : Shn (n + 1) (.tuple xs) := ⟨by simp only [PyData.canLay0, (shn_all h).1], by simp only [PyData.depth]; have := (shn_all h).2; omega⟩
theorem sh_nilL : Sh (.list []) = True := eq_true ((shn_list (n := 0) (xs := []) fun x h => nomatch h).sh (by decide))
theorem sh_nilT : Sh (.tuple []) = True := eq_true ((shn_tup (n := 0) (xs := []) fun x h => nomatch h).sh (by decide))
theorem eqv_nilL (xs : List D) : PyData.eqv (.list xs) (.list []) = xs.isEmpty := by cases xs <;> simp [PyData.eqv, PyData.eqvAll]
theorem eqv_nilT (xs : List D) : PyData.eqv (.tuple xs) (.tuple []) = xs.isEmpty := by cases xs <;> simp [PyData.eqv, PyData.eqvAll]
theorem isE_nil {α : Type} : ([] : List α).isEmpty = true := rfl
theorem isE_cons {α : Type} (x : α) (l : List α) : (x :: l).isEmpty = false := rfl
theorem isE_snoc {α : Type} (x : α) (l : List α) : (l ++ [x]).isEmpty = false := by cases l <;> rfl
theorem for_go {g : GW} {v : SW} {ρ : Rho} {E : DEnds} {ds : List D} (P : Nat → Rho → Prop) (h0 : P 0 ρ) (h1 : ∀ i d ρ', ds[i]? = some d → P i ρ' → g d ρ' fun ρ2 => v ρ2 { E with nx := P (i + 1), ct := P (i + 1), bk := E.nx }) (h2 : ∀ ρ', P ds.length ρ' → E.nx ρ') : forQ g v ρ E ds := ⟨P, h0, h1, h2⟩
def lenAt (i : Nat) (ρ : Rho) : Nat := match ρ[i]? with
  | some (some (.l _ ds)) => ds.length
  | _ => 0
theorem while_go {t : TW} {v : SW} {ρ : Rho} {E : DEnds} (P : Rho → Prop) (μ : Rho → Nat) (h0 : P ρ) (h1 : ∀ ρ', P ρ' → t ρ' (fun k => if k = true then v ρ' { E with nx := fun ρ'' => P ρ'' ∧ μ ρ'' < μ ρ', ct := fun ρ'' => P ρ'' ∧ μ ρ'' < μ ρ', bk := E.nx } else E.nx ρ') (fun cls => E.er cls ρ')) : wWhile t v ρ E := ⟨P, μ, h0, h1⟩
end DL

set_option Elab.async false
set_option linter.all false
set_option maxRecDepth 100000
/-! The data layer: loops and comprehensions, read from the top. -/
namespace DL
open PySem PySem.Spec PyProof.Rows L2
theorem range_at {a : Int} {n k : Nat} {d : D} (h : (rangeD a n)[k]? = some d) : d = .int (a + k) ∧ k < n := by
  unfold rangeD at h
  rw [List.getElem?_map] at h
  cases e : (List.range n)[k]? with
  | none => rw [e] at h; cases h
  | some j =>
    have hk : k < n := by have := get_lt e; rwa [List.length_range] at this
    rw [List.getElem?_range hk] at e
    cases e
    rw [List.getElem?_range hk] at h
    cases h
    exact ⟨rfl, hk⟩
theorem range0_at {n k : Nat} {d : D} (h : (rangeD 0 n)[k]? = some d) : d = .int (k : Int) ∧ k < n := by
  have := range_at h
  rwa [Int.zero_add] at this
theorem range_len (a : Int) (n : Nat) : (rangeD a n).length = n := by simp [rangeD]
theorem atI_of {α : Type} {l : List α} {i : Int} {j : Nat} {x : α} (h : i = (j : Int)) (e : l[j]? = some x) : L2.atI l i = some x := by
  subst h
  exact atI_nat e
/-- a comprehension that is told by what it has at each turn -/
theorem lc_go {tup : Bool} {is vs : List Nat} {wt : TW} {we : EW} {ρ : Rho} {Q : R → Prop} {ds : List D} (A : Nat → List D) (h0 : A 0 = [])
    (h1 : ∀ k d, ds[k]? = some d → gwNames tup is d fun es => (∀ i ∈ is, i < ρ.length) ∧ wt (putA (wipeR ρ vs) is es) (fun b => if b = true then we (putA (wipeR ρ vs) is es) (fun r => ∃ z, r.dat = some z ∧ (A k).length < 16777216 ∧ A (k + 1) = A k ++ [z]) (fun _ => False) else A (k + 1) = A k) (fun _ => False))
    (h2 : Q (.l true (A ds.length))) : lcQ tup is vs wt we ρ Q ds :=
  ⟨fun k acc => acc = A k, h0.symm, fun k acc d hd e => by
    subst e
    have := h1 k d hd
    simp only [eq_comm (a := A (k + 1))] at this
    exact this, fun acc e => by rw [e]; exact h2⟩
theorem gwN1 (i : Nat) (d : D) (Q : List D → Prop) : gwNames false [i] d Q = Q [d] := rfl
theorem gwNt (is : List Nat) (ds : List D) (Q : List D → Prop) : gwNames true is (.tuple ds) Q = (ds.length = is.length ∧ Q ds) := by
  unfold gwNames
  exact propext ⟨fun h => by obtain ⟨_, e, h⟩ := h; cases e; exact h, fun h => ⟨_, rfl, h⟩⟩
theorem take_succ_map {α β : Type} {l : List α} {k : Nat} {x : α} (f : α → β) (h : l[k]? = some x) : (l.take (k + 1)).map f = (l.take k).map f ++ [f x] := by
  rw [List.take_succ, h, List.map_append]
  rfl
theorem range_succ_map {β : Type} (k : Nat) (f : Nat → β) : (List.range (k + 1)).map f = (List.range k).map f ++ [f k] := by
  rw [List.range_succ, List.map_append]
  rfl
end DL

set_option Elab.async false
set_option linter.all false
set_option maxRecDepth 100000
/-! The data layer: calls with keywords alone, in the order of the parameters. -/
namespace DL
open PySem PySem.Spec PyProof.Rows L2
def BindsK (K : PySem.W.Frag) (fd : FuncData) (ps : List Str) : Prop := ∀ (s : Shared) (ws : List Value), K.In s.heap → ws.length = ps.length → BindsTo s fd ⟨[], ps.zip ws⟩ (ps.zip ws)
section
variable {X : Cx} {CX : CXT} {W : WX} {k : Nat} {f : Addr} {fd : FuncData} {ps : List Str} {sp : Sp} {E : L2.St → XK} {x : Str} {p pos : Pos} {kws : List Keyword} {tk : TA}
theorem run_fnK {pins : List (Addr × Obj)} {σ : L2.St} {H : Hp} {s : Shared} {Q : VK} {us : List Value} {vs : List V} (F : FnOk X.prog X.w X.K X.mg X.base CX k f fd ps sp) (hr : Room k X.A) (hb : BindsK X.K fd ps) (hx : PassesAt CX X σ (E σ))
    (I : Inv X pins σ H s) (r : Vals vs us) (h : sp vs H Q (E σ)) : wpAny (model X.prog X.w) X.A (call (.ref f) [] (ps.zip us)) (EP X pins σ Q) X.xe s := by
  have hl : us.length = ps.length := by rw [← r.length]; exact F.len _ _ _ _ h
  have b := hb s us I.kIn hl
  refine wpAny_call (codeAny_mono (F.run X.A X.stack s H ⟨[], ps.zip us⟩ us vs Q (E σ) hr I.env0 b r h) fun r s' hq => ?_)
  cases r with
  | error e => exact hx pins H s e s' I hq
  | ok fl =>
    cases fl with
    | ret u => exact I.after hq
    | next => exact False.elim hq
    | brk => exact False.elim hq
    | cont => exact False.elim hq
/-- f(k = v, ..), all parameters by keywords -/
theorem pe_callKA (F : FnOk X.prog X.w X.K X.mg X.base CX k f fd ps sp) (hr : Room k X.A) (hg : Gl X x) (hm : X.mg x = some (.ref f)) (hk : PySem.W.keepIn X.K (.ref f) = true) (hb : BindsK X.K fd ps) (hx : ∀ σ, PassesAt CX X σ (E σ))
    (hkw : PK X kws tk) (hall : (backToKw pos (keywordEach kws X.env)).all (·.1.isSome) = true := by rfl) (hks : (backToKw pos (keywordEach kws X.env)).filterMap (·.1) = ps := by rfl)
    (hdb : (x == ("__debug__" : Str)) = false := by decide)
    (hpl : ((backTo pos (starEach [] X.env)).any (·.1) || (backToKw pos (keywordEach kws X.env)).any (·.1.isNone)) = false := by rfl) :
    PE X (.Call (.Name x p) [] kws pos) (tCallS sp E tk) := by
  refine ⟨fun pins s σ H Q I h => ?_⟩
  refine wpAny_Call_Name_kw (ld_glob I hg hm ?_ hdb)
  refine PySem.W.callWith_KW0 (h₀ := X.base) I.ok.mod.kin hk hall (thn (hkw.run pos pins s σ H _ I h) fun ws s2 ⟨zs, H2, I2, rz, q2⟩ => ⟨I2.kIn, ?_⟩) hpl
  rw [hks, List.append_nil]
  exact run_fnK F hr hb (hx σ) I2 rz q2
end
abbrev PDk (X : Cx) (W : WX) (kws : List Keyword) (ws : AW) : Prop := PK X kws (TDa X.K W ws)
section
variable {X : Cx} {W : WX} {e : Expr} {kws : List Keyword} {w : EW} {ws : AW} {nm : Option Str} {kpos : Pos}
theorem pk_imp {t t' : TA} (h : PK X kws t) (i : ∀ σ H Q, t' σ H Q → t σ H Q) : PK X kws t' := ⟨fun pos pins s σ H Q I q => h.run pos pins s σ H Q I (i _ _ _ q)⟩
theorem pdk_nil : PDk X W [] wNil := pk_imp pk_nil fun σ H Q ⟨G, B0, H0, B, ρ, Qd, Qe, S, q, ok, _⟩ => ok _ _ _ _ S (Stp.refl ..) .nil trivial q
theorem pdk_cons (ha : PD X W e w) (hr : PDk X W kws ws) : PDk X W (⟨nm, e, kpos⟩ :: kws) (wCons w ws) :=
  pk_imp (pk_cons ha hr) fun σ H Q ⟨G, B0, H0, B, ρ, Qd, Qe, S, q, ok, er⟩ => by
    refine ⟨G, B0, H0, B, ρ, _, Qe, S, q, fun r x B1 H1 S1 s1 r1 q1 => ?_, er⟩
    refine ⟨G, B0, H0, B1, ρ, _, Qe, S1, q1, fun rs xs B2 H2 S2 s2 r2 a2 q2 => ok _ _ _ _ S2 (s1.trans s2) (.cons (r1.step s2) (r2.from s1)) ⟨fun o1 j u e1 o2 e2 => ?_, a2⟩ q2, erT er s1⟩
    obtain ⟨y, f1, f2⟩ := r2.get e1
    rw [e2] at f1; cases f1
    obtain ⟨p, ep, hp⟩ := f2.own_new o2
    obtain ⟨q', v, eq, hq⟩ := r1.own_at o1
    rw [ep] at eq; cases eq
    rw [hp] at hq; cases hq
end
theorem funBindsK {K : PySem.W.Frag} {x qual : Str} {st : Stmt} {f : Addr} {fd : FuncData} (F : Fun K x qual st f fd) {ps : List Str}
    (h : ∀ (kV doc pm : Value) (an : Option Addr) (cdv ct : Value) (us : List Value), us.length = ps.length → bindArgs (PySem.W.fnOf x qual (defArgs st) (defBody st) (defScope st) .none kV doc pm an cdv ct) ⟨[], ps.zip us⟩ = pure (ps.zip us)) : BindsK K fd ps := by
  obtain ⟨⟨oc, od, kV, doc, pm, an, cdv, ct, osl, rfl, lk, hcd⟩, _⟩ := F
  intro s us _ hl
  exact .of_eq (h kV doc pm an cdv ct us hl)
end DL

set_option Elab.async false
set_option linter.all false
set_option maxRecDepth 100000
set_option maxHeartbeats 4000000
/-! The data layer: x.extend(y), y a list or a tuple. -/
namespace DL
open PySem PySem.Spec PyProof.Rows L2
section
theorem ext_tup (l : Addr) (items : Array Value) (n : Nat) (b : Addr) (items2 : Array Value) (n2 : Nat) (dd : Option Addr) (sl : Array (Option Value)) (hs0 : ¬(!items.isEmpty && Builtin.List.listTooLong (items.size + items2.size)) = true) (hs1 : items.size ≤ sizeLine) (hs2 : items.size + items2.size ≤ sizeLine + 1) :
    Meets (Builtin.«list.extend» ⟨[.ref l, .ref b], []⟩) (fun _ R s => s.heap.get? l = some { cls := .type "list", dict := none, data := .seq items n, slots := #[] } ∧ s.heap.get? b = some { cls := .type "tuple", dict := dd, data := .seq items2 n2, slots := sl } ∧ R (.ok (.ret Value.none)) { s with heap := s.heap.update l (Obj.mapSeq fun x => x ++ items2), toks := s.toks }) :=
  .of_wp fun prog w A R s h => by
    obtain ⟨hp, g, d, tk, os⟩ := s; obtain ⟨hl, hb, h⟩ := h; have f1 := AutoSeq1.idx_int; have f2 := AutoSeq1.sub_tuple_tuple; have f3 := AutoSeq1.sub_list_list; have f4 := AutoSeq1.sub_tuple_list; have f5 := AutoSeq1.sub_list_tuple;
    have fits : (items ++ items2).size ≤ sizeLine + 1 := by
      rw [Array.size_append]
      exact hs2
    wp_walk using (wpAny_updateSeq hl rfl (hz := hs1) (_hz' := fits)), AutoSeq1.wpAny_loadPart' hl, AutoSeq1.wpAny_loadPart' hb; exact ⟨_, rfl, h⟩
end
section
variable {X : Cx}
def rExtT (K : Frag) : V → List V → Hp → VK → Prop := fun x vs H Q => ∃ l b xs zs, x = .ref l ∧ vs = [.ref b] ∧ H l = some (.lst xs) ∧ SqT K H b zs ∧ xs.length + zs.length ≤ sizeLine ∧ Q .non (upd H l (.lst (xs ++ zs)))
theorem mt_extT : MtM X "list.extend" (rExtT X.K) := by
  intro pins s σ H x vs v us Q I rx rv h
  obtain ⟨l, b, xs, zs, rfl, rfl, hH, hB, hz, q⟩ := h
  cases rx
  obtain ⟨u, rfl, ru⟩ := rv.one
  cases ru
  obtain ⟨z, its, n, r, hl, e⟩ := I.lstM hH
  obtain ⟨its2, r2, ⟨o2, e2, c2, n2, d2⟩, hl2⟩ := I.tuple hB
  have h2 := r2.length
  have hsz : its.toArray.size + its2.toArray.size ≤ sizeLine := by rw [List.size_toArray, List.size_toArray]; omega
  have hlong : ¬ (!its.toArray.isEmpty && Builtin.List.listTooLong (its.toArray.size + its2.toArray.size)) = true := by
    rw [notLongL hsz, Bool.and_false]
    exact Bool.false_ne_true
  have e2' : s.heap.get? b = some { cls := .type "tuple", dict := o2.dict, data := .seq its2.toArray n2, slots := o2.slots } := by
    rw [e2]
    cases o2
    simp only at c2 d2
    subst c2
    subst d2
    rfl
  refine call_meets F.slot_list_extend ⟨_, e, rfl⟩ F.entry_list_extend (F.args_list_extend_2 _ _)
    (ext_tup l its.toArray n b its2.toArray n2 o2.dict o2.slots hlong (by rw [List.size_toArray]; omega) (by omega)) ⟨e, e2', ?_⟩
  refine ⟨.non, _, I.lset (its' := its ++ its2) hH e (by simp) (r.append r2) ?_, rfl, q⟩
  rw [List.length_append]
  omega
def rExtB (K : Frag) : V → List V → Hp → VK → Prop := fun x vs H Q => rExtend x vs H Q ∨ rExtT K x vs H Q
theorem mt_extB : MtM X "list.extend" (rExtB X.K) := fun pins s σ H x vs v us Q I rx rv h =>
  h.elim (mt_extend pins s σ H x vs v us Q I rx rv) (mt_extT pins s σ H x vs v us Q I rx rv)
def extOf : R → Option (List D)
  | .l _ xs => some xs
  | .s (.tuple xs) => some xs
  | _ => none
/-- x.extend(y), y a list or a tuple -/
def wExt (i : Nat) (w : EW) : SW := fun ρ E => ∃ ds, ρ[i]? = some (some (.l true ds)) ∧ w ρ (fun r => ∃ es, extOf r = some es ∧ ds.length + es.length ≤ 16777216 ∧ E.nx (ρ.set i (some (.l true (ds ++ es))))) (fun cls => E.er cls ρ)
variable {W : WX} {st : Stmt} {w : EW}
theorem pds_ext {i : Nat} (h : PS X st (tDrop (tBM X.K "list" (rExtB X.K) (tVar i) (tCons (TDe X.K W w) tNil)))) : PSD X W st (wExt i w) := ps_imp h fun D σ H ⟨G, B0, H0, B, ρ, E, S, ⟨ds, e1, q⟩, l⟩ => by
  obtain ⟨x, e2, ⟨p, xs, ex, h1, h2, h3, h4, h5⟩⟩ := S.sl i _ e1
  subst ex
  refine ⟨_, e2, .inl ⟨rfl, xs, .inl (.inl h1)⟩, G, B0, H0, B, ρ, _, _, S, q, fun r y B' H' S' s r' q' => ?_, fun cls d B' H' q' S' s => l.er cls d ρ σ B' H' S' s.bb q'⟩
  obtain ⟨es, eq, hlen, q'⟩ := q'
  have k1 : H' p = some (.lst xs) := (hide_some (s.hh p _ (by rw [hide_out h4]; exact h1))).2
  have fin : ∀ (xs2 : List V), DpAll X.K B' xs2 es → D.nx σ (upd H' p (.lst (xs ++ xs2))) := fun xs2 g2 =>
    l.nx _ _ _ _ (S'.mut (r' := .l true (ds ++ es)) e1 rfl e2 ⟨p, _, rfl, upd_same, (DpAll.mono s.bb h2).append g2, s.nw p _ h3 (by rw [hide_out h4]; exact h1), h4, h5⟩) s.bb q'
  match r, eq, r' with
  | .l o es', eq, r' =>
    cases eq
    obtain ⟨p2, xs2, rfl, g1, g2, _⟩ := r'
    exact .inl ⟨p, p2, xs, xs2, rfl, rfl, k1, (hide_some g1).2, by rw [line_eq, h2.length, g2.length]; exact hlen, fin xs2 g2⟩
  | .s (.tuple es'), eq, r' =>
    cases eq
    obtain ⟨p2, xs2, rfl, g1, g2⟩ := Rs.tup r'
    exact .inr ⟨p, p2, xs, xs2, rfl, rfl, k1, (g1.up (S'.bh.trans (hide_le H'))).t, by rw [line_eq, h2.length, g2.length]; exact hlen, fin xs2 g2⟩
end
theorem extOf_l (o : Bool) (ds : List D) : extOf (.l o ds) = some ds := rfl
theorem extOf_t (ds : List D) : extOf (.s (.tuple ds)) = some ds := rfl
def extQ (r : R) (Q : List D → Prop) : Prop := ∃ es, extOf r = some es ∧ Q es
theorem extQ_l (o : Bool) (ds : List D) (Q : List D → Prop) : extQ (.l o ds) Q = Q ds := propext ⟨fun ⟨_, e, h⟩ => by cases e; exact h, fun h => ⟨_, rfl, h⟩⟩
theorem extQ_t (ds : List D) (Q : List D → Prop) : extQ (.s (.tuple ds)) Q = Q ds := propext ⟨fun ⟨_, e, h⟩ => by cases e; exact h, fun h => ⟨_, rfl, h⟩⟩
theorem u_ext (i : Nat) (w : EW) (ρ : Rho) (Y : DEnds) : wExt i w ρ Y = getQ i ρ fun r0 => ownQ r0 fun ds => w ρ (fun r => extQ r fun es => ds.length + es.length ≤ 16777216 ∧ setQ i ρ (.l true (ds ++ es)) Y.nx) (fun cls => Y.er cls ρ) := by
  unfold wExt getQ ownQ extQ setQ
  refine propext ⟨fun ⟨n, h, q⟩ => ⟨_, h, n, rfl, ?_⟩, fun ⟨r, h, n, e, q⟩ => ⟨n, by rw [h, e], ?_⟩⟩
  · simpa only [get_lt h, true_and] using q
  · simpa only [get_lt h, true_and] using q
end DL

set_option Elab.async false
set_option linter.all false
set_option maxRecDepth 100000
set_option maxHeartbeats 4000000
/-! The data layer: y = [x.pop(e) for k in ..], x a list of one's own. -/
namespace DL
open PySem PySem.Spec PyProof.Rows L2
theorem DpAll.dropAt {K : Frag} {H : Hp} : ∀ {xs : List V} {ds : List D} (j : Nat), DpAll K H xs ds → DpAll K H (xs.eraseIdx j) (ds.eraseIdx j)
  | _, _, _, .nil => .nil
  | _, _, 0, .cons _ t => t
  | _, _, j + 1, .cons h t => .cons h (DpAll.dropAt j t)
/-- t = [x.pop(we) for k in wi], x the list in slot i -/
def wPopAll (t i k : Nat) (wi : IW) (we : EW) : SW := fun ρ E => ∃ ds0, ρ[i]? = some (some (.l true ds0)) ∧ wi ρ (fun ds => ∃ P : Nat → List D → List D → Prop, P 0 ds0 [] ∧
  (∀ j rest acc d, ds[j]? = some d → P j rest acc → k < ρ.length ∧ we (putA (wipeR (ρ.set i (some (.l true rest))) [k]) [k] [d]) (fun r => ∃ n z, r = .s (.int n) ∧ 0 ≤ n ∧ n < 2 ^ 62 ∧ rest[n.toNat]? = some z ∧ acc.length < 16777216 ∧ P (j + 1) (rest.eraseIdx n.toNat) (acc ++ [z])) (fun _ => False)) ∧
  ∀ rest acc, P ds.length rest acc → t < ρ.length ∧ E.nx ((ρ.set i (some (.l true rest))).set t (some (.l true acc)))) (fun cls => E.er cls ρ)
theorem pds_popAll {X : Cx} {W : WX} {st : Stmt} {t i k : Nat} {wi : IW} {we : EW} (h : PS X st (tAsg (tLc (TDiF X.K W wi) (gC X.K false [k]) (TDt X.K W0 wYes) (tBM X.K "list" rPopAt (tVar i) (tCons (TDe X.K W0 we) tNil)) [k]) (gName t))) (hik : i ≠ k) : PSD X W st (wPopAll t i k wi we) :=
  ps_imp h fun Dn σ H ⟨G, B0, H0, B, ρ, E, S, ⟨ds0, e1, q⟩, l⟩ => by
  refine ⟨G, B0, H0, B, ρ, _, _, S, q, fun ds J B1 H1 S1 s1 it ⟨P, p0, turn, done⟩ => ?_, fun cls d B' H' q' S' s => l.er cls d ρ σ B' H' S' s.bb q'⟩
  intro Dl hD
  have dG : Dl ∉ G.at_ := S1.notG hD
  have d0 : hide G H0 Dl = none := S1.st.hh.free (hide_free hD)
  have aw : ∀ (j : Nat) (r : R), ρ[j]? = some (some r) → owns r = true → σ[j]? ≠ some (some (.ref Dl)) := fun j r e1 o e2 => by
    obtain ⟨x, f1, f2⟩ := S1.sl j r e1
    rw [e2] at f1; cases f1
    obtain ⟨p, u, ep, k1, _⟩ := f2.own o
    cases ep
    rw [hD] at k1; cases k1
  have hi : i < ρ.length := (List.getElem?_eq_some_iff.mp e1).1
  obtain ⟨x0, e2, ⟨p, xs0, ex0, _⟩⟩ := S1.sl i _ e1
  subst ex0
  have pD : p ≠ Dl := fun z => aw i _ e1 rfl (by rw [e2, z])
  have aw' : ∀ (rest : List D) (j : Nat) (r : R), (ρ.set i (some (.l true rest)))[j]? = some (some r) → owns r = true → σ[j]? ≠ some (some (.ref Dl)) := fun rest j r f1 o => by
    by_cases z : j = i
    · subst z; exact aw j _ e1 rfl
    · rw [List.getElem?_set_ne (Ne.symm z)] at f1; exact aw j r f1 o
  have same : ρ.set i (some (.l true ds0)) = ρ := List.ext_getElem? fun j => by
    by_cases z : i = j
    · subst z; rw [List.getElem?_set_self hi, e1]
    · rw [List.getElem?_set_ne z]
  refine ⟨fun j m H => m = ds.length - j ∧ j ≤ ds.length ∧ ∃ (B' : Hp) (rest acc : List D) (av : List V), Stt X.K G B0 H0 B' H σ (ρ.set i (some (.l true rest))) ∧ Same B1 B' ∧ H Dl = some (.lst av) ∧ DpAll X.K B' av acc ∧ B' Dl = none ∧ P j rest acc,
    ⟨_, rfl, Nat.zero_le _, B1, ds0, [], [], by rw [same]; exact S1.new hD, Same.refl _, upd_same, .nil, S1.freeB hD, p0⟩, ?_⟩
  rintro j m H2 ⟨rfl, hj, B2, rest, acc, av, S2, s2, hd, ha, hb, p2⟩
  have lat : LatF G B0 H0 B1 B2 H2 := ⟨s2, S2.bh, S2.gok, S2.st⟩
  by_cases hlt : j < ds.length
  · refine .inr ⟨it.go j _ _ lat hlt, fun H' => j + 1 ≤ ds.length ∧ ∃ (B' : Hp) (rest acc : List D) (av : List V), Stt X.K G B0 H0 B' H' σ (ρ.set i (some (.l true rest))) ∧ Same B1 B' ∧ H' Dl = some (.lst av) ∧ DpAll X.K B' av acc ∧ B' Dl = none ∧ P (j + 1) rest acc,
      fun H' ⟨z1, z2⟩ => ⟨ds.length - (j + 1), by omega, rfl, z1, z2⟩, fun x H3 y => ?_⟩
    obtain ⟨d, B3, y1, y2, s3, b3, g3⟩ := it.yld j _ _ x H3 lat hlt y
    have S3 := S2.step s3 b3 g3
    obtain ⟨hk, q3⟩ := turn j rest acc d y1 p2
    have trk : hide G H2 Dl = some (.lst av) := by rw [hide_out dG]; exact hd
    refine (?_ : wipe (putV (wipe σ [k]) [k] [x]) [k] = wipe σ [k] ∧ _)
    refine ⟨wipe_putV [k] [x] _ (wipe_wipe [k] fun _ h => h) (fun _ h => h), ?_⟩
    have T3 : Stt X.K G B0 H0 B3 H3 (putV (wipe σ [k]) [k] [x]) (putA (wipeR (ρ.set i (some (.l true rest))) [k]) [k] [d]) := Stt.putA [k] (S3.wipe [k]) (.cons y2 .nil) fun n hn => by
      rw [wipeR_length, List.length_set]
      rcases List.mem_cons.mp hn with rfl | hn
      · exact hk
      · cases hn
    refine ⟨G, B0, H0, B3, _, (fun b => b = true), fun _ => False, T3, rfl, fun b B4 H4 T4 s4 q4 => ?_, fun _ _ _ _ z => z.elim⟩
    subst q4
    refine iteT ?_
    have S4 := S3.step s4 T4.bh T4.gok
    obtain ⟨x4, f1, ⟨p4, xs4, ex4, g1, _⟩⟩ := S4.sl i _ (List.getElem?_set_self hi)
    have f1' := f1
    rw [e2] at f1
    cases f1
    cases ex4
    have look : (putV (wipe σ [k]) [k] [x])[i]? = some (some (.ref p)) := by
      show ((σ.set k none).set k (some x))[i]? = _
      rw [List.getElem?_set_ne (Ne.symm hik), List.getElem?_set_ne (Ne.symm hik), e2]
    refine ⟨_, look, .inl ⟨rfl, xs4, .inl (.inl g1)⟩, ?_⟩
    refine ⟨G, B0, H0, B4, _, _, _, T4, q3, fun r y5 B5 H5 T5 s5 r5 ⟨n, z, ez, n0, n1, hz, hlen, p5⟩ => ?_, fun _ _ _ _ z => z.elim⟩
    subst ez
    cases r5.int
    have S5 := S4.step s5 T5.bh T5.gok
    obtain ⟨x5, f5, ⟨p5', xs5, ex5, k1, k2, k3, k4, k5⟩⟩ := S5.sl i _ (List.getElem?_set_self hi)
    rw [e2] at f5
    cases f5
    cases ex5
    obtain ⟨yv, hy, hyd⟩ := k2.get hz
    have hlt5 : n.toNat < xs5.length := (List.getElem?_eq_some_iff.mp hy).1
    have t5 := s5.hh _ _ (s4.hh _ _ (s3.hh _ _ trk))
    have h5 : H5 Dl = some (.lst av) := (hide_some t5).2
    have b5 : B5 Dl = none := s5.nw _ _ (s4.nw _ _ (s3.nw _ _ hb trk) (s3.hh _ _ trk)) (s4.hh _ _ (s3.hh _ _ trk))
    have sq : seqIndex? n xs5.length = some n.toNat := by
      unfold seqIndex?
      simp only [show ¬ n < 0 by omega, if_false]
      rw [if_pos]
      simp only [Bool.and_eq_true, decide_eq_true_eq]
      omega
    refine ⟨p, xs5, n, n.toNat, yv, rfl, rfl, k1, by omega, by omega, sq, hy, ?_⟩
    have S6 := S5.mut (r' := .l true (rest.eraseIdx n.toNat)) (o := .lst (xs5.eraseIdx n.toNat)) (List.getElem?_set_self hi) rfl e2 ⟨p, _, rfl, upd_same, k2.dropAt n.toNat, k3, k4, k5⟩
    rw [List.set_set] at S6
    have S7 := S6.side (o := .lst (av ++ [yv])) b5 dG d0 (aw' _)
    exact ⟨av, by rw [upd_ne (Ne.symm pD)]; exact h5, by rw [line_eq, ha.length]; exact hlen, hlt, B5, _, acc ++ [z], av ++ [yv], S7, ((s2.trans s3.bb).trans s4.bb).trans s5.bb, upd_same, (DpAll.mono ((s3.bb.trans s4.bb).trans s5.bb) ha).append (.cons hyd .nil), b5, p5⟩
  · have e : j = ds.length := by omega
    subst e
    refine .inl ⟨it.stop _ _ lat, ?_⟩
    obtain ⟨ht, q4⟩ := done rest acc p2
    refine l.nx _ _ _ _ (S2.fillG (x := .ref Dl) (r := .l true acc) ⟨Dl, av, rfl, hd, ha, hb, dG, d0⟩ t (by rw [← S2.len, List.length_set]; exact ht) fun m u y _ f1 _ o2 f2 f3 => ?_) (s1.bb.trans s2) q4
    subst f3
    exact aw' rest m u f1 o2 f2
/-! x.insert(n, y) -/
abbrev rIns : V → List V → Hp → VK → Prop := fun x vs H Q => ∃ (l : Addr) (xs : List V) (n : Int) (y : V), x = .ref l ∧ vs = [.int n, y] ∧ H l = some (.lst xs) ∧ xs.length < sizeLine ∧ 0 ≤ n ∧ n < 2 ^ 63 ∧ Q .non (upd H l (.lst (xs.take n.toNat ++ [y] ++ xs.drop n.toNat)))
theorem mt_ins {X : Cx} : MtR X "list.insert" rIns := mt_insert
def wInsert (i : Nat) (wa wb : EW) : SW := fun ρ E => ∃ ds, ρ[i]? = some (some (.l true ds)) ∧ wa ρ (fun r => ∃ n, r = .s (.int n) ∧ wb ρ (fun u => ∃ d, u.dat = some d ∧ 0 ≤ n ∧ n < 2 ^ 62 ∧ ds.length < 16777216 ∧ E.nx (ρ.set i (some (.l true (ds.take n.toNat ++ [d] ++ ds.drop n.toNat))))) (fun cls => E.er cls ρ)) (fun cls => E.er cls ρ)
theorem pds_insert {X : Cx} {W : WX} {st : Stmt} {wa wb : EW} {i : Nat} (h : PS X st (tDrop (tBM X.K "list" rIns (tVar i) (tCons (TDe X.K W wa) (tCons (TDe X.K W wb) tNil))))) : PSD X W st (wInsert i wa wb) := ps_imp h fun Dn σ H ⟨G, B0, H0, B, ρ, E, S, ⟨ds, e1, q⟩, l⟩ => by
  obtain ⟨x, e2, ⟨p, xs, ex, h1, h2, h3, h4, h5⟩⟩ := S.sl i _ e1
  subst ex
  refine ⟨_, e2, .inl ⟨rfl, xs, .inl (.inl h1)⟩, G, B0, H0, B, ρ, _, _, S, q, fun r y B' H' S' s r' q' => ?_, fun cls d B' H' q' S' s => l.er cls d ρ σ B' H' S' s.bb q'⟩
  obtain ⟨n, en, q'⟩ := q'
  subst en
  cases r'.int
  refine ⟨G, B0, H0, B', ρ, _, _, S', q', fun u y2 B2 H2 S2 s2 r2 q2 => ?_, fun cls d B2 H2 q2 S2 s2 => l.er cls d ρ σ B2 H2 S2 (s.bb.trans s2.bb) q2⟩
  obtain ⟨d, ed, n0, n1, hlen, q2⟩ := q2
  have t := s2.hh _ _ (s.hh _ _ (by rw [hide_out h4]; exact h1 : hide G H p = some (.lst xs)))
  have k1 : H2 p = some (.lst xs) := (hide_some t).2
  have nw : B2 p = none := s2.nw _ _ (s.nw p _ h3 (by rw [hide_out h4]; exact h1)) (s.hh _ _ (by rw [hide_out h4]; exact h1))
  have ha : DpAll X.K B2 xs ds := DpAll.mono (s.bb.trans s2.bb) h2
  refine ⟨p, xs, n, y2, rfl, rfl, k1, by rw [line_eq, h2.length]; exact hlen, n0, by omega, ?_⟩
  exact l.nx _ _ _ _ (S2.mut (r' := .l true (ds.take n.toNat ++ [d] ++ ds.drop n.toNat)) e1 rfl e2 ⟨p, _, rfl, upd_same, ((ha.take _).append (.cons (r2.dat ed) .nil)).append (ha.drop _), nw, h4, h5⟩) (s.bb.trans s2.bb) q2
/-! {k: v} -/
def wDisp1 (wk wv : EW) : EW := fun ρ Q E => wk ρ (fun r => ∃ e y, r = .s e ∧ ofK e = some y ∧ wv ρ (fun u => ∃ d, u.dat = some d ∧ Q (.k true [(y, d)])) E) E
theorem pd_disp1 {X : Cx} {W : WX} {e : Expr} {wk wv : EW} (h : PE X e (tDisp [(TDe X.K W wk, TDe X.K W wv)])) : PD X W e (wDisp1 wk wv) := pe_imp h fun σ H Q ⟨G, B0, H0, B, ρ, Qd, Qe, S, q, ok, er⟩ => by
  intro p hp
  have pG : p ∉ G.at_ := S.notG hp
  have p0 : hide G H0 p = none := S.st.hh.free (hide_free hp)
  have aw : ∀ (j : Nat) (r : R), ρ[j]? = some (some r) → owns r = true → σ[j]? ≠ some (some (.ref p)) := fun j r e1 o e2 => by
    obtain ⟨x, f1, f2⟩ := S.sl j r e1
    rw [e2] at f1; cases f1
    obtain ⟨b, u, ep, k1, _⟩ := f2.own o
    cases ep
    rw [hp] at k1; cases k1
  have s0 : Stp G B H B (upd H p (.dK [])) := Stp.new hp
  refine ⟨G, B0, H0, B, ρ, _, Qe, S.new hp, q, fun r x B1 H1 S1 s1 r1 ⟨e, y, er', ey, q1⟩ => ?_, fun cls d B1 H1 q1 S1 s1 => er cls d B1 H1 q1 S1 (s0.trans s1)⟩
  subst er'
  obtain rfl := kV_of (show Dp X.K B1 x e from r1) ey
  refine ⟨G, B0, H0, B1, ρ, _, Qe, S1, q1, fun u v B2 H2 S2 s2 r2 ⟨d, ed, q2⟩ => ?_, fun cls d B2 H2 q2 S2 s2 => er cls d B2 H2 q2 S2 ((s0.trans s1).trans s2)⟩
  have s02 := (s0.trans s1).trans s2
  have t0 : hide G (upd H p (.dK [])) p = some (.dK []) := by rw [hide_out pG, upd_same]
  have t2 : H2 p = some (.dK []) := (hide_some (s2.hh _ _ (s1.hh _ _ t0))).2
  have b2 : B2 p = none := s2.nw _ _ (s1.nw _ _ (S.freeB hp) t0) (s1.hh _ _ t0)
  refine ⟨t2, [(y, v)], rfl, by show 1 ≤ 15; decide, ?_⟩
  refine ok (.k true [(y, d)]) (.ref p) B2 _ (S2.side b2 pG p0 aw) ⟨s02.bb, fun b w eb => ?_, s02.nw⟩ ⟨p, [(y, v)], rfl, by rw [hide_out pG]; exact upd_same, .cons (r2.dat ed) .nil, fun _ => ⟨b2, hide_free hp⟩⟩ q2
  rw [hide_upd pG, upd_ne (ne_of_none eb (hide_free hp))]
  exact s02.hh _ _ eb
/-! as words from the top -/
def popAllQ (t i k : Nat) (we : EW) (ρ : Rho) (E : DEnds) (ds0 ds : List D) : Prop := ∃ P : Nat → List D → List D → Prop, P 0 ds0 [] ∧
  (∀ j rest acc d, ds[j]? = some d → P j rest acc → k < ρ.length ∧ we (putA (wipeR (ρ.set i (some (.l true rest))) [k]) [k] [d]) (fun r => ∃ n z, r = .s (.int n) ∧ 0 ≤ n ∧ n < 2 ^ 62 ∧ rest[n.toNat]? = some z ∧ acc.length < 16777216 ∧ P (j + 1) (rest.eraseIdx n.toNat) (acc ++ [z])) (fun _ => False)) ∧
  ∀ rest acc, P ds.length rest acc → t < ρ.length ∧ E.nx ((ρ.set i (some (.l true rest))).set t (some (.l true acc)))
theorem u_popAll (t i k : Nat) (wi : IW) (we : EW) (ρ : Rho) (Y : DEnds) : wPopAll t i k wi we ρ Y = getQ i ρ fun r => ownQ r fun ds0 => wi ρ (fun ds => popAllQ t i k we ρ Y ds0 ds) (fun cls => Y.er cls ρ) := by
  unfold wPopAll getQ ownQ popAllQ
  exact propext ⟨fun ⟨n, h, q⟩ => ⟨_, h, n, rfl, q⟩, fun ⟨r, h, n, e, q⟩ => ⟨n, by rw [h, e], q⟩⟩
theorem u_insert (i : Nat) (wa wb : EW) (ρ : Rho) (Y : DEnds) : wInsert i wa wb ρ Y = getQ i ρ fun r => ownQ r fun ds => wa ρ (fun r => intQ r fun n => wb ρ (fun u => datQ u fun d => 0 ≤ n ∧ n < 2 ^ 62 ∧ ds.length < 16777216 ∧ setQ i ρ (.l true (ds.take n.toNat ++ [d] ++ ds.drop n.toNat)) Y.nx) (fun cls => Y.er cls ρ)) (fun cls => Y.er cls ρ) := by
  unfold wInsert getQ ownQ intQ datQ setQ
  refine propext ⟨fun ⟨n, h, q⟩ => ⟨_, h, n, rfl, ?_⟩, fun ⟨r, h, n, e, q⟩ => ⟨n, by rw [h, e], ?_⟩⟩
  · simpa only [get_lt h, true_and] using q
  · simpa only [get_lt h, true_and] using q
theorem u_disp1 (wk wv : EW) (ρ : Rho) (Q : R → Prop) (E : Value → Prop) : wDisp1 wk wv ρ Q E = wk ρ (fun r => keyQ r fun y => wv ρ (fun u => datQ u fun d => Q (.k true [(y, d)])) E) E := by
  unfold wDisp1
  have e : (fun r : R => ∃ e y, r = .s e ∧ ofK e = some y ∧ wv ρ (fun u => ∃ d, u.dat = some d ∧ Q (.k true [(y, d)])) E) = fun r => keyQ r fun y => wv ρ (fun u => datQ u fun d => Q (.k true [(y, d)])) E := rfl
  rw [e]
end DL

set_option Elab.async false
set_option linter.all false
set_option maxRecDepth 100000
set_option maxHeartbeats 4000000
/-! The data layer: x.index(y), x.index(y, from). -/
namespace DL
open PySem PySem.Spec PyProof.Rows L2
theorem index_from (l : Addr) (items : Array Value) (n : Nat) (dd : Option Addr) (sl : Array (Option Value)) (x : Value) (tk0 : Tok) (e : Value → Bool) (i j : Nat) (hj : j < items.size) (hij : i ≤ j) (few : (j : Int) < 2 ^ 63 - 1)
    (hit : e items[j] = true) (no : ∀ m (hm : m < items.size), i ≤ m → m < j → e items[m] = false) :
    Meets (Builtin.«list.index» ⟨[.ref l, x, .int (i : Int) tk0], []⟩)
      (fun A R s => s.heap.get? l = some { cls := .type "list", dict := dd, data := .seq items n, slots := sl } ∧ (∀ y, y ∈ items → SeqAt.EqAt A.in1 s y x (e y)) ∧ R (.ok (.ret (.int j s.toks))) { s with toks := s.toks + 1 }) := by
  intro prog w A R s h
  obtain ⟨hp, g, d, tk, os⟩ := s
  obtain ⟨hl, he, h⟩ := h
  have f1 := AutoSeq1.idx_int
  wp_walk using AutoSeq1.wpAny_loadPart' hl
  have a1 : ((fun b : Int => if b < 0 then max 0 (b + (items.size : Int)) else b) ((some (i : Int)).getD 0)) = ((i : Nat) : Int) := by simp; omega
  have a2 : ((fun b : Int => if b < 0 then max 0 (b + (items.size : Int)) else b) (Option.getD none (2 ^ 63 - 1))) = 2 ^ 63 - 1 := by
    simp
  rw [a1, a2]
  exact ⟨plainId_quiet MeetsSeq.plain_index_loop _, codeAny_builtin MeetsSeq.entry_index_loop (by
    rw [Around.under_plainId MeetsSeq.plain_index_loop _]
    exact SeqAt.index_loopAt l items n dd sl x e (2 ^ 63 - 1) j hj few hit _ i rfl hij no prog w A R _ ⟨hl, he, h⟩)⟩
section
variable {X : Cx}
/-- x.index(y) and x.index(y, from), y there, all flat -/
def rIndAny (K : Frag) : V → List V → Hp → VK → Prop := fun x xs H Q => ∃ (a : Addr) (ys : List V) (y : V) (i j : Nat) (z : V), x = V.ref a ∧ ((xs = [y] ∧ i = 0) ∨ xs = [y, .int (i : Int)]) ∧ SqL K H a ys ∧ flatV y = true ∧ ys.all flatV = true ∧ i ≤ j ∧ ys[j]? = some z ∧ eqV z y = true ∧
  (∀ (m : Nat) (z' : V), i ≤ m → m < j → ys[m]? = some z' → eqV z' y = false) ∧ Q (.int (j : Nat)) H
theorem mt_indAny : MtR X "list.index" (rIndAny X.K) := by
  intro pins s σ H x xs v us Q I rx rxs h
  obtain ⟨a, ys, y, i, j, z, rfl, hx, hs, fy, fys, hij, hz, hzj, hno, q⟩ := h
  rcases hx with ⟨rfl, rfl⟩ | rfl
  · exact mt_index pins s σ H _ _ v us Q I rx rxs ⟨a, ys, y, j, z, rfl, rfl, hs, fy, fys, hz, hzj, fun m z' h1 h2 => hno m z' (Nat.zero_le _) h1 h2, q⟩
  · cases rx
    obtain ⟨uy, ui, rfl, ry, ri⟩ := rxs.two
    obtain ⟨ti, rfl⟩ := ri
    obtain ⟨its, rv, ⟨⟨cls, dd, data, sl⟩, n, ho, hc, hdn, hd⟩, hlen⟩ := I.list hs
    simp only at hc hd
    subst hc hd
    obtain ⟨u, hu, ru⟩ := rv.get hz
    obtain ⟨jl, je⟩ := List.getElem?_eq_some_iff.mp hu
    have vl := rv.length
    have line := sizeLine_eq
    refine call_meets PySem.F.slot_list_index ⟨_, ho, rfl⟩ PySem.F.entry_list_index (PySem.F.args_list_index_3 _ _ _)
      (index_from a its.toArray n dd sl uy ti (eqU y) i j (by simpa using jl) hij (by omega) ?_ ?_) ⟨ho, fun w hw => mem_eqAt ry fy rv fys w (by simpa using hw), ⟨.int (j : Nat), H, I.tok _, ⟨_, rfl⟩, q⟩⟩
    · have e1 : its.toArray[j]'(by simpa using jl) = u := by simpa using je
      rw [e1, eqU_of ru (flat_at fys hz)]
      exact hzj
    · intro m hm him hmj
      have ml : m < its.length := by simpa using hm
      have my : m < ys.length := by omega
      have at_ : ys[m]? = some ys[m] := List.getElem?_eq_getElem my
      obtain ⟨u2, hu2, ru2⟩ := rv.get at_
      obtain ⟨_, me⟩ := List.getElem?_eq_some_iff.mp hu2
      have e1 : its.toArray[m] = u2 := by simpa using me
      rw [e1, eqU_of ru2 (flat_at fys at_)]
      exact hno m _ him hmj at_
end
def lstOf : R → Option (List D)
  | .l _ xs => some xs
  | .s (.list xs) => some xs
  | _ => none
/-- x.index(y), x.index(y, from): flat items, y there -/
def IndAt (ds : List D) (rs : List R) (Q : R → Prop) : Prop := ∃ (y z : D) (i j : Nat), ((rs = [.s y] ∧ i = 0) ∨ rs = [.s y, .s (.int (i : Int))]) ∧ flatD y = true ∧ ds.all flatD = true ∧ i ≤ j ∧ ds[j]? = some z ∧ PyData.eqv z y = true ∧
  (∀ (m : Nat) (z' : D), i ≤ m → m < j → ds[m]? = some z' → PyData.eqv z' y = false) ∧ Q (.s (.int (j : Int)))
def wInd (w : EW) (ws : AW) : EW := fun ρ Q E => w ρ (fun r => ∃ ds, lstOf r = some ds ∧ ws ρ (fun rs => IndAt ds rs Q) E) E
theorem pd_ind {X : Cx} {W : WX} {e : Expr} {w : EW} {ws : AW} (h : PE X e (tBM X.K "list" (rIndAny X.K) (TDe X.K W w) (TDa X.K W ws))) : PD X W e (wInd w ws) := pe_imp h fun σ H Q ⟨G, B0, H0, B, ρ, Qd, Qe, S, q, ok, er⟩ => by
  refine ⟨G, B0, H0, B, ρ, _, Qe, S, q, fun r x B1 H1 S1 s1 r1 ⟨ds, el, q1⟩ => ?_, er⟩
  have there : ∀ (B2 H2 : Hp), Stt X.K G B0 H0 B2 H2 σ ρ → Rs X.K G H B2 H2 x r → ∃ p xs, x = .ref p ∧ SqL X.K H2 p xs ∧ DpAll X.K B2 xs ds := fun B2 H2 S2 r2 => by
    match r, el, r2 with
    | .l o xs', el, r2 =>
      cases el
      obtain ⟨p, xs, e1, h1, h2, _⟩ := r2
      exact ⟨p, xs, e1, .inl (.inl (hide_some h1).2), h2⟩
    | .s (.list xs'), el, r2 =>
      cases el
      cases (show Dp X.K B2 x (.list _) from r2) with
      | lst h1 h2 => exact ⟨_, _, rfl, Same.sqL (S2.bh.trans (hide_le H2)) h1, h2⟩
  obtain ⟨p, xs, rfl, hq, _⟩ := there B1 H1 S1 r1
  refine ⟨.inl ⟨rfl, xs, hq⟩, G, B0, H0, B1, ρ, _, Qe, S1, q1, fun rs vs B2 H2 S2 s2 r2 _ q2 => ?_, fun cls d B2 H2 q2 S2 s2 => er cls d B2 H2 q2 S2 (s1.trans s2)⟩
  obtain ⟨y, z, i, j, hr, fy, fd, hij, hz, hzy, hno, q3⟩ := q2
  obtain ⟨p2, ys, e2, hq2, hd⟩ := there B2 H2 S2 (r1.step s2)
  cases e2
  obtain ⟨zv, k1, k2⟩ := hd.get hz
  have fin : ∀ (yv : V), Dp X.K B2 yv y → ((vs = [yv] ∧ i = 0) ∨ vs = [yv, .int (i : Int)]) → rIndAny X.K (.ref p) vs H2 Q := fun yv hy hv =>
    ⟨p, ys, yv, i, j, zv, rfl, hv, hq2, flatV_of hy fy, flatAll_of hd fd, hij, k1, by rw [eqV_of k2 hy (List.all_eq_true.mp fd z (List.mem_of_getElem? hz)) fy]; exact hzy, fun m z' m1 m2 m3 => by
      obtain ⟨d', f1, f2⟩ := hd.get' m3
      rw [eqV_of f2 hy (List.all_eq_true.mp fd d' (List.mem_of_getElem? f1)) fy]
      exact hno m d' m1 m2 f1, ok (.s (.int (j : Int))) (.int (j : Int)) B2 H2 S2 (s1.trans s2) (show Dp X.K B2 (.int (j : Int)) (.int (j : Int)) from .int _) q3⟩
  rcases hr with ⟨rfl, e0⟩ | rfl
  · obtain ⟨yv, rfl, h1⟩ := r2.one
    exact fin yv h1 (.inl ⟨rfl, e0⟩)
  · obtain ⟨yv, iv, rfl, h1, h2⟩ := r2.two
    cases h2.int
    exact fin yv h1 (.inr rfl)
def lstQ' (r : R) (Q : List D → Prop) : Prop := ∃ ds, lstOf r = some ds ∧ Q ds
theorem lstQ'_l (o : Bool) (ds : List D) (Q : List D → Prop) : lstQ' (.l o ds) Q = Q ds := propext ⟨fun ⟨_, e, h⟩ => by cases e; exact h, fun h => ⟨_, rfl, h⟩⟩
theorem lstQ'_L (ds : List D) (Q : List D → Prop) : lstQ' (.s (.list ds)) Q = Q ds := propext ⟨fun ⟨_, e, h⟩ => by cases e; exact h, fun h => ⟨_, rfl, h⟩⟩
theorem u_ind (w : EW) (ws : AW) (ρ : Rho) (Q : R → Prop) (E : Value → Prop) : wInd w ws ρ Q E = w ρ (fun r => lstQ' r fun ds => ws ρ (fun rs => IndAt ds rs Q) E) E := rfl
/-! list(x), x a list, a tuple or a dict -/
def fListB : FL := fun rs Q => fList rs Q ∨ ∃ r kvs, rs = [r] ∧ r.kv = some kvs ∧ Q (.l true (kvs.map fun p => kD p.1))
theorem DpAll.keys {K : Frag} {B : Hp} : ∀ {xs : List (Key × V)} {kvs : List (Key × D)}, KvP K B xs kvs → DpAll K B (xs.map fun kv => kV kv.1) (kvs.map fun p => kD p.1)
  | _, _, .nil => .nil
  | _, _, .cons (k := k) _ t => .cons (by cases k <;> constructor) (DpAll.keys t)
theorem c_listB {X : Cx} (hc : X.calm = true) : CallR X (.type "list") (liftL X.K fListB) := by
  intro pins s σ H xs us Q I rx hh
  obtain ⟨G, Hs, B, rs, Qd, c, ra, h | ⟨r, kvs, rfl, e1, q⟩, k⟩ := hh
  · exact c_list pins s σ H xs us Q I rx ⟨G, Hs, B, rs, Qd, c, ra, h, k⟩
  · obtain ⟨x, rfl, r1⟩ := ra.one
    obtain ⟨p, ys, rfl, h1, h2⟩ := r1.kv e1 c.bh
    exact call_listD hc pins s σ H _ us Q I rx ⟨p, ys, rfl, h1, fun l hl => k.lst c hl (DpAll.keys h2) q⟩
theorem fListB_t (ds : List D) (Q : R → Prop) : fListB [.s (.tuple ds)] Q = Q (.l true ds) := by simp [fListB, fList, R.seq, kv_t]
theorem fListB_L (ds : List D) (Q : R → Prop) : fListB [.s (.list ds)] Q = Q (.l true ds) := by simp [fListB, fList, R.seq, kv_L]
theorem fListB_l (o : Bool) (ds : List D) (Q : R → Prop) : fListB [.l o ds] Q = Q (.l true ds) := by simp [fListB, fList, R.seq, kv_l]
theorem fListB_k (o : Bool) (kvs : List (Key × D)) (Q : R → Prop) : fListB [.k o kvs] Q = Q (.l true (kvs.map fun p => kD p.1)) := by simp [fListB, fList, seq_k, kv_k]
end DL

set_option Elab.async false
set_option linter.all false
set_option maxRecDepth 100000
/-! The data layer: dicts that are walked; get, update. -/
namespace DL
open PySem PySem.Spec PyProof.Rows L2
/-! ### a dict of one's own is locked from here on -/
def lkR (r : R) (k : R → Prop) : Prop := match r with
  | .k true kvs => k (.z kvs)
  | r => k r
def wLkS (i : Nat) (v : SW) : SW := fun ρ E => ∃ r, ρ[i]? = some (some r) ∧ lkR r fun r' => v (ρ.set i (some r')) E
theorem ps_lockO {X : Cx} {st : Stmt} {t : TS} (h : PS X st t) : PS X st (fun D σ H => t D σ H ∨ ∃ d u, H d = some u ∧ Mut (some u) ∧ ∀ od, t D σ (upd H d (.frz od u))) := ⟨fun pins s σ H D I hw => by
  rcases hw with hw | ⟨d, u, hd, mu, hw⟩
  · exact h.run pins s σ H D I hw
  · obtain ⟨od, I1⟩ := I.lock hd mu
    exact h.run pins s σ _ D I1 (hw od)⟩
section
variable {K : Frag} {G : Gh} {B0 H0 B H : Hp} {σ : L2.St} {ρ : Rho}
theorem Stt.lock {i : Nat} {ds : List (Key × D)} (h : Stt K G B0 H0 B H σ ρ) (e1 : ρ[i]? = some (some (.k true ds))) : ∃ p u, H p = some u ∧ Mut (some u) ∧ ∀ od, ∃ B', Stt K G B0 H0 B' (upd H p (.frz od u)) σ (ρ.set i (some (.z ds))) ∧ Same B B' := by
  obtain ⟨x, f1, ⟨p, xs, rfl, h1, h2, h3, h4, h5⟩⟩ := h.sl i _ e1
  refine ⟨p, _, h1, trivial, fun od => ?_⟩
  have hi : i < ρ.length := (List.getElem?_eq_some_iff.mp e1).1
  have bb : Same B (upd B p (.frz od (.dK xs))) := fun b u e => by rw [upd_ne (ne_of_none e h3)]; exact e
  have hu : hide G (upd H p (.frz od (.dK xs))) = upd (hide G H) p (.frz od (.dK xs)) := hide_upd h4
  refine ⟨upd B p (.frz od (.dK xs)), ⟨by rw [List.length_set]; exact h.len, fun b u e => ?_, ghost_upd h4 h.gok, ⟨h.st.bb.trans bb, fun b u e => ?_, fun b u z1 z2 => ?_⟩, fun j v e => ?_, fun j m v w y hjm z1 z2 o1 o2 z3 z4 => ?_⟩, bb⟩
  · rw [hu]
    by_cases z : b = p
    · subst z; rw [upd_same] at e ⊢; exact e
    · rw [upd_ne z] at e ⊢; exact h.bh _ _ e
  · rw [hu, upd_ne (ne_of_none e h5)]; exact h.st.hh _ _ e
  · rw [upd_ne (ne_of_none z2 h5)]; exact h.st.nw b u z1 z2
  · by_cases qj : j = i
    · subst qj
      rw [List.getElem?_set_self hi] at e; cases e
      exact ⟨_, f1, p, xs, od, rfl, upd_same, KvP.mono bb h2⟩
    · rw [List.getElem?_set_ne (Ne.symm qj)] at e
      obtain ⟨y, g1, g2⟩ := h.sl j v e
      refine ⟨y, g1, ?_⟩
      have ne : ∀ q, y = .ref q → owns v = true → q ≠ p := fun q ey ov eqp => by
        subst ey; subst eqp
        exact h.dis j i v _ _ qj e e1 ov rfl g1 f1
      match v, g2, ne with
      | .s d, g2, _ => exact Dp.mono bb g2
      | .l false ds, ⟨q, xs, e, k1, k2⟩, _ => exact ⟨q, xs, e, k1, DpAll.mono bb k2⟩
      | .l true ds, ⟨q, xs, e, k1, k2, k3, k4, k5⟩, ne => exact ⟨q, xs, e, by rw [upd_ne (ne q e rfl)]; exact k1, DpAll.mono bb k2, by rw [upd_ne (ne q e rfl)]; exact k3, k4, k5⟩
      | .k false ds, ⟨q, xs, e, k1, k2⟩, _ => exact ⟨q, xs, e, k1, KvP.mono bb k2⟩
      | .k true ds, ⟨q, xs, e, k1, k2, k3, k4, k5⟩, ne => exact ⟨q, xs, e, by rw [upd_ne (ne q e rfl)]; exact k1, KvP.mono bb k2, by rw [upd_ne (ne q e rfl)]; exact k3, k4, k5⟩
      | .t false ds, ⟨q, xs, e, k1, k2⟩, _ => exact ⟨q, xs, e, k1, KvP.mono bb k2⟩
      | .t true ds, ⟨q, xs, e, k1, k2, k3, k4, k5⟩, ne => exact ⟨q, xs, e, by rw [upd_ne (ne q e rfl)]; exact k1, KvP.mono bb k2, by rw [upd_ne (ne q e rfl)]; exact k3, k4, k5⟩
      | .g, g2, _ => exact g2
      | .h, g2, _ => exact g2
      | .z ds, g2, _ => exact LkD.mono bb g2
  · by_cases qj : j = i
    · subst qj
      rw [List.getElem?_set_self hi] at z1; cases z1; cases o1
    · rw [List.getElem?_set_ne (Ne.symm qj)] at z1
      by_cases qm : m = i
      · subst qm
        rw [List.getElem?_set_self hi] at z2; cases z2; cases o2
      · rw [List.getElem?_set_ne (Ne.symm qm)] at z2
        exact h.dis j m v w y hjm z1 z2 o1 o2 z3 z4
end
section
variable {X : Cx} {W : WX} {st : Stmt} {v : SW}
theorem pds_lk {i : Nat} (h : PSD X W st v) : PSD X W st (wLkS i v) := ps_imp (ps_lockO h) fun D σ H ⟨G, B0, H0, B, ρ, E, S, ⟨r, e1, q⟩, l⟩ => by
  have same : ρ.set i (some r) = ρ := List.ext_getElem? fun j => by
    by_cases z : i = j
    · subst z
      rw [List.getElem?_set_self (List.getElem?_eq_some_iff.mp e1).1, e1]
    · rw [List.getElem?_set_ne z]
  match r, e1, q, same with
  | .k true ds, e1, q, _ =>
    obtain ⟨p, u, h1, mu, h2⟩ := S.lock e1
    refine .inr ⟨p, u, h1, mu, fun od => ?_⟩
    obtain ⟨B', S', s⟩ := h2 od
    exact ⟨G, B0, H0, B', _, E, S', q, l.up s⟩
  | .k false ds, e1, q, same => exact .inl ⟨G, B0, H0, B, ρ, E, S, by have q' : v (ρ.set i (some (.k false ds))) E := q; rw [same] at q'; exact q', l⟩
  | .l o ds, e1, q, same => exact .inl ⟨G, B0, H0, B, ρ, E, S, by have q' : v (ρ.set i (some (.l o ds))) E := q; rw [same] at q'; exact q', l⟩
  | .t o ds, e1, q, same => exact .inl ⟨G, B0, H0, B, ρ, E, S, by have q' : v (ρ.set i (some (.t o ds))) E := q; rw [same] at q'; exact q', l⟩
  | .s d, e1, q, same => exact .inl ⟨G, B0, H0, B, ρ, E, S, by have q' : v (ρ.set i (some (.s d))) E := q; rw [same] at q'; exact q', l⟩
  | .g, e1, q, same => exact .inl ⟨G, B0, H0, B, ρ, E, S, by have q' : v (ρ.set i (some .g)) E := q; rw [same] at q'; exact q', l⟩
  | .h, e1, q, same => exact .inl ⟨G, B0, H0, B, ρ, E, S, by have q' : v (ρ.set i (some .h)) E := q; rw [same] at q'; exact q', l⟩
  | .z ds, e1, q, same => exact .inl ⟨G, B0, H0, B, ρ, E, S, by have q' : v (ρ.set i (some (.z ds))) E := q; rw [same] at q'; exact q', l⟩
end
/-! ### for x in a list, a tuple, a locked dict; d.values() -/
section
variable {K : Frag} {G : Gh} {Later : Hp → Hp → Prop}
theorem dp_key {B : Hp} (k : Key) : Dp K B (kV k) (kD k) := by cases k <;> constructor
theorem KvP.at_ {B : Hp} : ∀ {xs : List (Key × V)} {ds : List (Key × D)} {i : Nat} {k : Key} {x : V}, KvP K B xs ds → xs[i]? = some (k, x) → ∃ d, ds[i]? = some (k, d) ∧ Dp K B x d
  | _, _, _, _, _, .nil, e => by simp at e
  | _, _, 0, _, _, .cons h _, e => by simp at e; obtain ⟨rfl, rfl⟩ := e; exact ⟨_, by simp, h⟩
  | _, _, i + 1, _, _, .cons _ t, e => by
    obtain ⟨d, h1, h2⟩ := KvP.at_ (i := i) t (by simpa using e)
    exact ⟨d, by simpa using h1, h2⟩
theorem itd_keys {a : Addr} {o : Obj} {xs : List (Key × V)} {ds : List (Key × D)} (h : ∀ B H, Later B H → H a = some (.frz o (.dK xs)) ∧ KvP K B xs ds ∧ Same B (hide G H) ∧ G.ok H) : ItD K G Later (Itk a o xs) (ds.map fun p => kD p.1) := by
  refine ⟨fun i B H l hi => ?_, fun B H l => ?_, fun i B H x H' l hi y => ?_⟩
  · obtain ⟨h1, h2, _⟩ := h B H l
    exact ⟨h1, by rw [h2.length]; simpa using hi⟩
  · obtain ⟨h1, h2, _⟩ := h B H l
    exact ⟨h1, by rw [h2.length]; simp⟩
  · obtain ⟨h1, h2, h3, h4⟩ := h B H l
    obtain ⟨rfl, k, v, e, rfl⟩ := y
    obtain ⟨d, e1, e2⟩ := h2.at_ e
    exact ⟨kD k, B, by rw [List.getElem?_map, e1]; rfl, dp_key k, Stp.refl .., h3, h4⟩
theorem itd_vals {a : Addr} {o : Obj} {xs : List (Key × V)} {ds : List (Key × D)} (h : ∀ B H, Later B H → H a = some (.frz o (.dK xs)) ∧ KvP K B xs ds ∧ Same B (hide G H) ∧ G.ok H) : ItD K G Later (Itd a o xs) (ds.map (·.2)) := by
  refine ⟨fun i B H l hi => ?_, fun B H l => ?_, fun i B H x H' l hi y => ?_⟩
  · obtain ⟨h1, h2, _⟩ := h B H l
    exact ⟨h1, by rw [h2.length]; simpa using hi⟩
  · obtain ⟨h1, h2, _⟩ := h B H l
    exact ⟨h1, by rw [h2.length]; simp⟩
  · obtain ⟨h1, h2, h3, h4⟩ := h B H l
    obtain ⟨rfl, k, e⟩ := y
    obtain ⟨d, e1, e2⟩ := h2.at_ e
    exact ⟨d, B, by rw [List.getElem?_map, e1]; rfl, e2, Stp.refl .., h3, h4⟩
end
def R.itmC : R → Option (List D)
  | .z kvs => some (kvs.map fun p => kD p.1)
  | r => r.seq
def R.itmF : R → Option (List D)
  | .z kvs => some (kvs.map fun p => kD p.1)
  | r => r.stab
def wItC (w : EW) : IW := fun ρ Q E => w ρ (fun r => ∃ ds, r.itmC = some ds ∧ Q ds) E
def wItF (w : EW) : IW := fun ρ Q E => w ρ (fun r => ∃ ds, r.itmF = some ds ∧ Q ds) E
def iAnyK (K : Frag) (tl : TE) : TI := fun σ H R => tl σ H fun x H1 => ∃ a, x = .ref a ∧ (((∃ xs, SqL K H1 a xs) ∧ R (Itl K a) H1) ∨ ((∃ xs, SqT K H1 a xs) ∧ R (Itt K a) H1) ∨ ∃ o kvs, H1 a = some (.frz o (.dK kvs)) ∧ R (Itk a o kvs) H1)
section
variable {X : Cx} {W : WX} {tg e : Expr} {w : EW} {tl : TE}
theorem pi_anyK {l : Expr} (hl : PE X l tl) : PI X tg l (iAnyK X.K tl) := by
  refine ⟨fun pins s σ H R I h => ?_⟩
  refine thn (hl.run pins s σ H _ I h) fun v s1 ⟨x, H1, I1, r1, q1⟩ => ?_
  obtain ⟨a, e, q1⟩ := q1
  subst e
  cases r1
  have fp : ∀ b ∈ [s1.heap.objs.size], FpOk X pins H1 b := fun b hb => by
    have e : b = s1.heap.objs.size := by simpa using hb
    subst e
    exact I1.fpOk (Nat.le_refl _) (I1.hok.fresh (Nat.le_refl _))
  rcases q1 with ⟨⟨xs, hq⟩, q⟩ | ⟨⟨xs, hq⟩, q⟩ | ⟨o, kvs, hd, q⟩
  · obtain ⟨its, rv, p, hz⟩ := I1.list hq
    refine wpAny_pyIter_list p.isList ?_
    exact ⟨s1.heap.objs.size, [s1.heap.objs.size], _, _, H1, rfl, I1.kept (t' := s1.toks) fun b o e => Heap.get?_push_of_some _ e, turn_list a _, ⟨_, Heap.get?_push_size _ rfl, rfl, rfl⟩, fp, q⟩
  · obtain ⟨its, rv, p, hz⟩ := I1.tuple hq
    refine wpAny_pyIter_tuple (show s1.heap.IsTuple a its.toArray from p) ?_
    exact ⟨s1.heap.objs.size, [s1.heap.objs.size], _, _, H1, rfl, I1.kept (t' := s1.toks) fun b o e => Heap.get?_push_of_some _ e, turn_tuple a _, ⟨_, Heap.get?_push_size _ rfl, rfl, rfl⟩, fp, q⟩
  · obtain ⟨hs, hgd, hx, es, ep, vs, hdt, hsz, kv, hm⟩ := I1.frzK hd
    refine iter_keys hs hgd hx hdt (pi_one (tk := s1.toks) I1 _ (turn_keys _ hdt) ⟨_, Heap.get?_push_size _ rfl, rfl, ?_⟩ q)
    rw [hsz] <;> rfl
theorem pic_it (h : PD X W e w) : PIC X W tg e (wItC w) := pi_imp (pi_anyK h) fun σ H Q ⟨G, B0, H0, B, ρ, Qd, Qe, S, q, ok, er⟩ => by
  refine ⟨G, B0, H0, B, ρ, _, Qe, S, q, fun r x B' H' S' s r' q' => ?_, er⟩
  obtain ⟨ds, e1, q'⟩ := q'
  cases r with
  | s d =>
    cases d with
    | list es =>
      cases e1
      cases (show Dp X.K B' x (.list ds) from r') with
      | lst h1 h2 =>
        exact ⟨_, rfl, .inl ⟨⟨_, Same.sqL (S'.bh.trans (hide_le H')) h1⟩, ok _ _ _ _ S' s (itd_list fun B2 H2 ⟨l1, l2, l3⟩ => ⟨Same.sqL (l2.trans (hide_le H2)) (Same.sqL l1.bb h1), DpAll.mono l1.bb h2, l2, l3⟩) q'⟩⟩
    | tuple es =>
      cases e1
      cases (show Dp X.K B' x (.tuple ds) from r') with
      | tup h1 h2 =>
        exact ⟨_, rfl, .inr (.inl ⟨⟨_, Same.sqT (S'.bh.trans (hide_le H')) h1.t⟩, ok _ _ _ _ S' s (itd_tup fun B2 H2 ⟨l1, l2, l3⟩ => ⟨Same.sqT (l2.trans (hide_le H2)) (Same.sqT l1.bb h1.t), DpAll.mono l1.bb h2, l2, l3⟩) q'⟩)⟩
    | _ => cases e1
  | l own es =>
    cases e1
    obtain ⟨p, xs, rfl, h1, h2, _⟩ := r'
    exact ⟨p, rfl, .inl ⟨⟨xs, .inl (.inl (hide_some h1).2)⟩, ok _ _ _ _ S' s (itd_list fun B2 H2 ⟨l1, l2, l3⟩ => ⟨.inl (.inl (hide_some (l1.hh _ _ h1)).2), DpAll.mono l1.bb h2, l2, l3⟩) q'⟩⟩
  | z kvs =>
    cases e1
    obtain ⟨p, xs, o, rfl, h1, h2⟩ := r'
    exact ⟨p, rfl, .inr (.inr ⟨o, xs, (hide_some (S'.bh _ _ h1)).2, ok _ _ _ _ S' s (itd_keys fun B2 H2 ⟨l1, l2, l3⟩ => ⟨(hide_some (l2 _ _ (l1.bb _ _ h1))).2, KvP.mono l1.bb h2, l2, l3⟩) q'⟩)⟩
  | _ => cases e1
theorem pif_it (h : PD X W e w) : PIF X W tg e (wItF w) := pi_imp (pi_anyK h) fun σ H Q ⟨G, B0, H0, B, ρ, Qd, Qe, S, q, ok, er⟩ => by
  refine ⟨G, B0, H0, B, ρ, _, Qe, S, q, fun r x B' H' S' s r' q' => ?_, er⟩
  obtain ⟨ds, e1, q'⟩ := q'
  cases r with
  | s d =>
    cases d with
    | list es =>
      cases e1
      cases (show Dp X.K B' x (.list ds) from r') with
      | lst h1 h2 =>
        exact ⟨_, rfl, .inl ⟨⟨_, Same.sqL (S'.bh.trans (hide_le H')) h1⟩, ok _ _ _ _ S' s (itd_list fun B2 H2 ⟨l1, l2, l3, _⟩ => ⟨Same.sqL (l2.trans (hide_le H2)) (Same.sqL l1 h1), DpAll.mono l1 h2, l2, l3⟩) q'⟩⟩
    | tuple es =>
      cases e1
      cases (show Dp X.K B' x (.tuple ds) from r') with
      | tup h1 h2 =>
        exact ⟨_, rfl, .inr (.inl ⟨⟨_, Same.sqT (S'.bh.trans (hide_le H')) h1.t⟩, ok _ _ _ _ S' s (itd_tup fun B2 H2 ⟨l1, l2, l3, _⟩ => ⟨Same.sqT (l2.trans (hide_le H2)) (Same.sqT l1 h1.t), DpAll.mono l1 h2, l2, l3⟩) q'⟩)⟩
    | _ => cases e1
  | z kvs =>
    cases e1
    obtain ⟨p, xs, o, rfl, h1, h2⟩ := r'
    exact ⟨p, rfl, .inr (.inr ⟨o, xs, (hide_some (S'.bh _ _ h1)).2, ok _ _ _ _ S' s (itd_keys fun B2 H2 ⟨l1, l2, l3, _⟩ => ⟨(hide_some (l2 _ _ (l1 _ _ h1))).2, KvP.mono l1 h2, l2, l3⟩) q'⟩)⟩
  | _ => cases e1
def wVals (w : EW) : IW := fun ρ Q E => w ρ (fun r => ∃ kvs, r = .z kvs ∧ Q (kvs.map (·.2))) E
theorem pic_vals (h : PI X tg e (iVals (TDe X.K W w))) : PIC X W tg e (wVals w) := pi_imp h fun σ H Q ⟨G, B0, H0, B, ρ, Qd, Qe, S, q, ok, er⟩ => by
  refine ⟨G, B0, H0, B, ρ, _, Qe, S, q, fun r x B' H' S' s r' q' => ?_, er⟩
  obtain ⟨kvs, rfl, q'⟩ := q'
  obtain ⟨p, xs, o, rfl, h1, h2⟩ := r'
  exact ⟨p, o, xs, rfl, (hide_some (S'.bh _ _ h1)).2, ok _ _ _ _ S' s (itd_vals fun B2 H2 ⟨l1, l2, l3⟩ => ⟨(hide_some (l2 _ _ (l1.bb _ _ h1))).2, KvP.mono l1.bb h2, l2, l3⟩) q'⟩
theorem pif_vals (h : PI X tg e (iVals (TDe X.K W w))) : PIF X W tg e (wVals w) := pi_imp h fun σ H Q ⟨G, B0, H0, B, ρ, Qd, Qe, S, q, ok, er⟩ => by
  refine ⟨G, B0, H0, B, ρ, _, Qe, S, q, fun r x B' H' S' s r' q' => ?_, er⟩
  obtain ⟨kvs, rfl, q'⟩ := q'
  obtain ⟨p, xs, o, rfl, h1, h2⟩ := r'
  exact ⟨p, o, xs, rfl, (hide_some (S'.bh _ _ h1)).2, ok _ _ _ _ S' s (itd_vals fun B2 H2 ⟨l1, l2, l3, _⟩ => ⟨(hide_some (l2 _ _ (l1 _ _ h1))).2, KvP.mono l1 h2, l2, l3⟩) q'⟩
/-! ### d.get(k, x) -/
def wGet (w wy wx : EW) : EW := fun ρ Q E => w ρ (fun r => ∃ kvs, r.kv = some kvs ∧ wy ρ (fun y => ∃ d k, y = .s d ∧ ofK d = some k ∧ wx ρ (fun z => ∃ d', z = .s d' ∧ Q (.s ((kGet kvs k).getD d'))) E) E) E
theorem pd_get {wy wx : EW} (h : PE X e (tDGet2 (TDe X.K W w) (TDe X.K W wy) (TDe X.K W wx))) : PD X W e (wGet w wy wx) := pe_imp h fun σ H Q ⟨G, B0, H0, B, ρ, Qd, Qe, S, q, ok, er⟩ => by
  refine ⟨G, B0, H0, B, ρ, _, Qe, S, q, fun r x B1 H1 S1 s1 r1 ⟨kvs, e1, q1⟩ => ?_, er⟩
  obtain ⟨p, xs, rfl, h1, h2⟩ := r1.kv e1 S1.bh
  refine ⟨p, rfl, .inl ⟨xs, h1⟩, G, B0, H0, B1, ρ, _, Qe, S1, q1, fun y v B2 H2 S2 s2 r2 ⟨d, k, ey, hk, q2⟩ => ?_, erT er s1⟩
  subst ey
  cases kV_of (show Dp X.K B2 v d from r2) hk
  refine ⟨G, B0, H0, B2, ρ, _, Qe, S2, q2, fun z u B3 H3 S3 s3 r3 ⟨d', ez, q3⟩ => ?_, erT er (s1.trans s2)⟩
  subst ez
  obtain ⟨p', xs', ep, h1', h2'⟩ := ((r1.step s2).step s3).kv e1 S3.bh
  cases ep
  refine ⟨valV xs' k, .inl ⟨xs', k, h1', rfl, rfl⟩, ?_⟩
  refine ok (.s ((kGet kvs k).getD d')) _ _ _ S3 ((s1.trans s2).trans s3) ?_ q3
  show Dp X.K B3 ((valV xs' k).getD u) ((kGet kvs k).getD d')
  rcases h2'.find k with ⟨a, b⟩ | ⟨w', d2, a, b, c⟩
  · rw [a, b]; exact r3
  · rw [a, b]; exact c
end
/-! ### d.update(e) -/
def rUpd : V → List V → Hp → VK → Prop := fun x xs H Q => ∃ a b kvs more, x = .ref a ∧ xs = [.ref b] ∧ a ≠ b ∧ H a = some (.dK kvs) ∧ Rd H b (.dK more) ∧ kvs.length + more.length ≤ sizeLine ∧ Q .non (upd H a (.dK (mergeK kvs more)))
theorem mt_upd {X : Cx} : MtR X "dict.update" rUpd := by
  intro pins s σ H x xs v us Q I rx rs h
  obtain ⟨a, b, kvs, more, rfl, rfl, ne, ha, hb, hz, q⟩ := h
  obtain ⟨u, rfl, ru⟩ := vals1 rs
  cases rx
  cases ru
  obtain ⟨z1, hd1, vs1, rel1, dd1⟩ := dk_of I.hok ha
  obtain ⟨z2, hd2, vs2, rel2, dd2⟩ := dk_rd I.hok hb
  refine call_meetsIn PySem.F.slot_dict_update dd1.typeIs PySem.F.entry_dict_update (PySem.F.args_dict_update_2 _ _) (meets_dict_update (mixKind X.prog X.w) a b ne hd2) ⟨vs1, vs2, dd1, dd2, by rw [← rel1.length, ← rel2.length]; exact hz, fun h' m1 _ sb => ?_⟩
  have he : ∃ q, h'.get? a = some q := let ⟨q, _, _, hq, _⟩ := m1; ⟨q, hq⟩
  have hl := length_mergeK more kvs
  exact ⟨.non, _, d_write (t' := s.toks) I (by rw [ha]; exact True.intro) sb he (dk_new (by omega) hd1 (rel2.merge rel1) m1), rfl, q⟩
def updOf : R → Option (List (Key × D))
  | .k true kvs => some kvs
  | .s (.dict es) => unK es
  | .z kvs => some kvs
  | _ => none
theorem updOf_kv {r : R} {kvs : List (Key × D)} (h : updOf r = some kvs) : r.kv = some kvs := by
  unfold updOf at h
  split at h
  · exact h
  · exact h
  · exact h
  · cases h
def wUpd (i : Nat) (w : EW) : SW := fun ρ E => ∃ kvs, ρ[i]? = some (some (.k true kvs)) ∧ w ρ (fun r => ∃ more, updOf r = some more ∧ kvs.length + more.length ≤ 16777216 ∧ E.nx (ρ.set i (some (.k true (kMerge kvs more))))) (fun cls => E.er cls ρ)
section
variable {X : Cx} {W : WX} {st : Stmt} {w : EW}
theorem pds_upd {i : Nat} (h : PS X st (tDrop (tBM X.K "dict" rUpd (tVar i) (tCons (TDe X.K W w) tNil)))) : PSD X W st (wUpd i w) := ps_imp h fun D σ H ⟨G, B0, H0, B, ρ, E, S, ⟨kvs, e1, q⟩, l⟩ => by
  obtain ⟨x, e2, ⟨p, xs, ex, h1, h2, h3, h4, h5⟩⟩ := S.sl i _ e1
  subst ex
  refine ⟨_, e2, .inr (.inr (.inl ⟨rfl, .inl ⟨_, h1⟩⟩)), G, B0, H0, B, ρ, _, _, S, q, fun r y B' H' S' s r' q' => ?_, fun cls d B' H' q' S' s => l.er cls d ρ σ B' H' S' s.bb q'⟩
  obtain ⟨more, em, hlen, q'⟩ := q'
  have k1 : H' p = some (.dK xs) := (hide_some (s.hh p _ (by rw [hide_out h4]; exact h1))).2
  have b1 : B' p = none := s.nw p _ h3 (by rw [hide_out h4]; exact h1)
  obtain ⟨p2, xs2, rfl, g1, g2⟩ := r'.kv (updOf_kv em) S'.bh
  refine ⟨p, p2, xs, xs2, rfl, rfl, fun e => ?_, k1, g1, by rw [line_eq, h2.length, g2.length]; exact hlen, ?_⟩
  · subst e
    match r, em, r' with
    | .k true es, _, ⟨p3, _, e3, _, _, f3⟩ =>
      cases e3
      have := (f3 rfl).2
      rw [hide_out h4, h1] at this
      cases this
    | .s (.dict es), _, r' =>
      cases (show Dp X.K B' (.ref p) (.dict es) from r') with
      | dic z _ => rw [b1] at z; cases z
    | .z es, _, ⟨p3, _, _, e3, z, _⟩ =>
      cases e3
      rw [b1] at z; cases z
  · exact l.nx _ _ _ _ (S'.mut (r' := .k true (kMerge kvs more)) e1 rfl e2 ⟨p, _, rfl, upd_same, KvP.merge g2 (KvP.mono s.bb h2), b1, h4, h5⟩) s.bb q'
end
/-! ### {k: v for names in wi if wt} -/
def wDc (wi : IW) (tup : Bool) (is vs : List Nat) (wt : TW) (wk we : EW) : EW := fun ρ Q E => wi ρ (fun ds => ∃ P : Nat → List (Key × D) → Prop, P 0 [] ∧
  (∀ n acc d, ds[n]? = some d → P n acc → gwNames tup is d fun es => (∀ i ∈ is, i < ρ.length) ∧ wt (putA (wipeR ρ vs) is es) (fun b => if b = true then wk (putA (wipeR ρ vs) is es) (fun y => ∃ e k, y = .s e ∧ ofK e = some k ∧
    we (putA (wipeR ρ vs) is es) (fun r => ∃ z, r.dat = some z ∧ acc.length < 16777216 ∧ P (n + 1) (kPut acc k z)) (fun _ => False)) (fun _ => False) else P (n + 1) acc) (fun _ => False)) ∧
  ∀ acc, P ds.length acc → Q (.k true acc)) E
theorem dc_core_d {K : Frag} {W : WX} {wi : IW} {tup : Bool} {is vs : List Nat} {wt : TW} {wk we : EW} (hsub : ∀ i ∈ is, i ∈ vs) (h1 : tup = true ∨ ∃ i, is = [i]) :
    ∀ σ H Q, TDe K W (wDc wi tup is vs wt wk we) σ H Q → tDc (TDiC K W wi) (gC K tup is) (TDt K W0 wt) (TDe K W0 wk) (TDe K W0 we) vs σ H Q := by
  rintro σ H Q ⟨G, B0, H0, B, ρ, Qd, Qe, S, q, ok, er⟩
  refine ⟨G, B0, H0, B, ρ, _, Qe, S, q, fun ds J B1 H1 S1 s1 it ⟨P, p0, turn, done⟩ => ?_, er⟩
  intro Dl hD
  have dG : Dl ∉ G.at_ := S1.notG hD
  have d0 : hide G H0 Dl = none := S1.st.hh.free (hide_free hD)
  have dS : hide G H Dl = none := s1.hh.free (hide_free hD)
  have aw : ∀ (j : Nat) (r : R), ρ[j]? = some (some r) → owns r = true → σ[j]? ≠ some (some (.ref Dl)) := fun j r e1 o e2 => by
    obtain ⟨x, f1, f2⟩ := S1.sl j r e1
    rw [e2] at f1; cases f1
    obtain ⟨p, u, ep, k1, _⟩ := f2.own o
    cases ep
    rw [hD] at k1; cases k1
  refine ⟨fun i m H => m = ds.length - i ∧ i ≤ ds.length ∧ ∃ (B' : Hp) (av : List (Key × V)) (acc : List (Key × D)), Stt K G B0 H0 B' H σ ρ ∧ Stp G B1 H1 B' H ∧ H Dl = some (.dK av) ∧ KvP K B' av acc ∧ B' Dl = none ∧ P i acc,
    ⟨_, rfl, Nat.zero_le _, B1, [], [], S1.new hD, Stp.new hD, upd_same, .nil, S1.freeB hD, p0⟩, ?_⟩
  rintro i m H2 ⟨rfl, hi, B2, av, acc, S2, s2, hd, ha, hb, p2⟩
  have lat : LatC G B1 H1 B2 H2 := ⟨s2, S2.bh, S2.gok⟩
  by_cases hlt : i < ds.length
  · refine .inr ⟨it.go i _ _ lat hlt, fun H' => i + 1 ≤ ds.length ∧ ∃ (B' : Hp) (av : List (Key × V)) (acc : List (Key × D)), Stt K G B0 H0 B' H' σ ρ ∧ Stp G B1 H1 B' H' ∧ H' Dl = some (.dK av) ∧ KvP K B' av acc ∧ B' Dl = none ∧ P (i + 1) acc, fun H' ⟨z1, z2⟩ => ⟨ds.length - (i + 1), by omega, rfl, z1, z2⟩, fun x H3 y => ?_⟩
    obtain ⟨d, B3, e1, e2, s3, b3, g3⟩ := it.yld i _ _ x H3 lat hlt y
    have S3 := S2.step s3 b3 g3
    have trk : hide G H2 Dl = some (.dK av) := by rw [hide_out dG]; exact hd
    have q3 := turn i acc d e1 p2
    have fin : ∀ (xs : List V) (es : List D), DpAll K B3 xs es → (∀ i ∈ is, i < ρ.length) → wt (putA (wipeR ρ vs) is es) (fun b => if b = true then wk (putA (wipeR ρ vs) is es) (fun y => ∃ e k, y = .s e ∧ ofK e = some k ∧ we (putA (wipeR ρ vs) is es) (fun r => ∃ z, r.dat = some z ∧ acc.length < 16777216 ∧ P (i + 1) (kPut acc k z)) (fun _ => False)) (fun _ => False) else P (i + 1) acc) (fun _ => False) →
        (wipe (putV (wipe σ vs) is xs) vs = wipe σ vs ∧ TDt K W0 wt (putV (wipe σ vs) is xs) H3 fun b H4 => if b = true then TDe K W0 wk (putV (wipe σ vs) is xs) H4 fun u H5 => TDe K W0 we (putV (wipe σ vs) is xs) H5 fun y H6 => ∃ acc k, u = kV k ∧ H6 Dl = some (.dK acc) ∧ acc.length < sizeLine ∧
          (i + 1 ≤ ds.length ∧ ∃ (B' : Hp) (av : List (Key × V)) (acc' : List (Key × D)), Stt K G B0 H0 B' (upd H6 Dl (.dK (putK acc k y))) σ ρ ∧ Stp G B1 H1 B' (upd H6 Dl (.dK (putK acc k y))) ∧ (upd H6 Dl (.dK (putK acc k y))) Dl = some (.dK av) ∧ KvP K B' av acc' ∧ B' Dl = none ∧ P (i + 1) acc')
          else (i + 1 ≤ ds.length ∧ ∃ (B' : Hp) (av : List (Key × V)) (acc : List (Key × D)), Stt K G B0 H0 B' H4 σ ρ ∧ Stp G B1 H1 B' H4 ∧ H4 Dl = some (.dK av) ∧ KvP K B' av acc ∧ B' Dl = none ∧ P (i + 1) acc)) := by
      intro xs es hx hl q
      refine ⟨wipe_putV is xs _ (wipe_wipe vs fun _ h => h) hsub, ?_⟩
      have T3 : Stt K G B0 H0 B3 H3 (putV (wipe σ vs) is xs) (putA (wipeR ρ vs) is es) := Stt.putA is (S3.wipe vs) hx fun i hi => by rw [wipeR_length]; exact hl i hi
      refine ⟨G, B0, H0, B3, _, _, _, T3, q, fun b B4 H4 T4 s4 q4 => ?_, fun _ _ _ _ z => z.elim⟩
      have S4 := S3.step s4 T4.bh T4.gok
      cases b with
      | false => exact iteF ⟨hlt, B4, av, acc, S4, (s2.trans s3).trans s4, (hide_some (s4.hh _ _ (s3.hh _ _ trk))).2, KvP.mono (s3.bb.trans s4.bb) ha, s4.nw _ _ (s3.nw _ _ hb trk) (s3.hh _ _ trk), (if_neg Bool.false_ne_true).mp q4⟩
      | true =>
        refine iteT ⟨G, B0, H0, B4, _, _, _, T4, (if_pos rfl).mp q4, fun yk u B5 H5 T5 s5 r5 ⟨e, k, ey, ek, q5⟩ => ?_, fun _ _ _ _ z => z.elim⟩
        subst ey
        have S5 := S4.step s5 T5.bh T5.gok
        cases kV_of (show Dp K B5 u e from r5) ek
        refine ⟨G, B0, H0, B5, _, _, _, T5, q5, fun r y B6 H6 T6 s6 r6 ⟨z, ez, hlen, p6⟩ => ?_, fun _ _ _ _ z => z.elim⟩
        have S6 := S5.step s6 T6.bh T6.gok
        have t6 := s6.hh _ _ (s5.hh _ _ (s4.hh _ _ (s3.hh _ _ trk)))
        have h6 : H6 Dl = some (.dK av) := (hide_some t6).2
        have b6 : B6 Dl = none := s6.nw _ _ (s5.nw _ _ (s4.nw _ _ (s3.nw _ _ hb trk) (s3.hh _ _ trk)) (s4.hh _ _ (s3.hh _ _ trk))) (s5.hh _ _ (s4.hh _ _ (s3.hh _ _ trk)))
        have s16 := (((s2.trans s3).trans s4).trans s5).trans s6
        refine ⟨av, k, rfl, h6, by rw [line_eq, ha.length]; exact hlen, hlt, B6, putK av k y, kPut acc k z, S6.side b6 dG d0 aw, ⟨s16.bb, fun b v e => ?_, s16.nw⟩, upd_same, KvP.put (KvP.mono (((s3.bb.trans s4.bb).trans s5.bb).trans s6.bb) ha) k (r6.dat ez), b6, p6⟩
        rw [hide_upd dG, upd_ne (ne_of_none e (hide_free hD))]
        exact s16.hh _ _ e
    cases tup with
    | true =>
      obtain ⟨es, rfl, hn, hl, q4⟩ := (if_pos rfl).mp q3
      cases e2 with
      | tup k1 k2 => exact ⟨_, _, rfl, (k1.up (b3.trans (hide_le H3))).t, k2.length.trans hn, gNames_ok is _ _ _ _ (k2.length.trans hn) (fin _ es k2 hl q4)⟩
    | false =>
      rcases h1 with h1 | ⟨i1, rfl⟩
      · cases h1
      · obtain ⟨hl, q4⟩ := (if_neg Bool.false_ne_true).mp q3
        exact fin [x] [d] (.cons e2 .nil) hl q4
  · have e : i = ds.length := by omega
    subst e
    refine .inl ⟨it.stop _ _ lat, ok (.k true acc) (.ref Dl) B2 H2 S2 (s1.trans s2) ⟨Dl, av, rfl, by rw [hide_out dG]; exact hd, ha, fun _ => ⟨hb, dS⟩⟩ (done acc p2)⟩
theorem pd_dc {X : Cx} {W : WX} {e : Expr} {wi : IW} {tup : Bool} {is vs : List Nat} {wt : TW} {wk we : EW} (h : PE X e (tDc (TDiC X.K W wi) (gC X.K tup is) (TDt X.K W0 wt) (TDe X.K W0 wk) (TDe X.K W0 we) vs)) (hsub : ∀ i ∈ is, i ∈ vs) (h1 : tup = true ∨ ∃ i, is = [i]) : PD X W e (wDc wi tup is vs wt wk we) :=
  pe_imp h (dc_core_d hsub h1)
end DL

set_option Elab.async false
set_option linter.all false
set_option maxRecDepth 100000
/-! The data layer with a cost: how many draws of the source are taken at most. The words stay. -/
namespace DL
open PySem PySem.Spec PyProof.Rows L2

/-- a cost: what must be let before, from what is let behind -/
structure Cost where
  f : Nat → Nat
  sum : ∀ n, f n = n + f 0
theorem Cost.le (k : Cost) (n : Nat) : n ≤ k.f n := by rw [k.sum]; omega
theorem Cost.mono (k : Cost) {m n : Nat} (h : m ≤ n) : k.f m ≤ k.f n := by rw [k.sum m, k.sum n]; omega
def Cost.nil : Cost := ⟨fun n => n, fun n => by omega⟩
def Cost.seq (a b : Cost) : Cost := ⟨fun n => a.f (b.f n), fun n => by rw [a.sum (b.f n), a.sum (b.f 0), b.sum n]; omega⟩
def Cost.rep (N : Nat) (a : Cost) : Cost := ⟨fun n => n + N * a.f 0, fun n => by omega⟩
def Cost.of (k : Nat) : Cost := ⟨fun n => n + k, fun n => by omega⟩
theorem Cost.nil_seq (b : Cost) : Cost.nil.seq b = b := rfl
section
variable {K : Frag} {d c : Addr} {m n : Nat} {H H' B0 H0 B B' Hs : Hp} {σ : L2.St} {ρ : Rho} {x : V} {r : R}
theorem srcOk.less (h : srcOk d c n H) (le : m ≤ n) : srcOk d c m H := by
  obtain ⟨cells, i, t, h1, h2, h3, h4, h5, h6, h7⟩ := h
  exact ⟨cells, i, t, h1, h2, h3, h4, h5, h6, by omega⟩
abbrev srcB (d c : Addr) : Gh := srcG d c 0
theorem hide_re : hide (srcG d c m) H = hide (srcG d c n) H := rfl
theorem Stp.re (s : Stp (srcG d c m) B H B' H') : Stp (srcG d c n) B H B' H' := ⟨s.bb, s.hh, s.nw⟩
theorem src_at {d' c' : Addr} {m' : Nat} (e : srcG d c m = srcG d' c' m') : d = d' := by
  have := congrArg Gh.at_ e
  have h : [d, c] = [d', c'] := this
  exact (List.cons.inj h).1
theorem src_deck {a c' : Addr} (e : srcG d c m = deckG a c') : False := by
  have : (V.non : V) = .ref a := congrArg Gh.val e
  cases this
theorem SlotR.re (h : SlotR K (srcG d c m) B0 H0 B H x r) : SlotR K (srcG d c n) B0 H0 B H x r := by
  match r, h with
  | .s d, h => exact h
  | .l false ds, h => exact h
  | .l true ds, h => exact h
  | .k false ds, h => exact h
  | .k true ds, h => exact h
  | .t false ds, h => exact h
  | .t true ds, h => exact h
  | .g, ⟨a, c', e, g⟩ => exact (src_deck g).elim
  | .h, ⟨d', c', n', e, g⟩ => exact ⟨d, c, n, by rw [e, src_at g], rfl⟩
  | .z ds, h => exact h
theorem Rs.re (h : Rs K (srcG d c m) Hs B H x r) : Rs K (srcG d c n) Hs B H x r := by
  match r, h with
  | .s d, h => exact h
  | .l o ds, h => exact h
  | .k o ds, h => exact h
  | .t o ds, h => exact h
  | .g, ⟨a, c', e, g⟩ => exact (src_deck g).elim
  | .h, ⟨d', c', n', e, g⟩ => exact ⟨d, c, n, by rw [e, src_at g], rfl⟩
  | .z ds, h => exact h
theorem RsAll.re : ∀ {xs : List V} {rs : List R}, RsAll K (srcG d c m) Hs B H xs rs → RsAll K (srcG d c n) Hs B H xs rs
  | _, _, .nil => .nil
  | _, _, .cons h t => .cons h.re (RsAll.re t)
theorem Stt.re (S : Stt K (srcG d c m) B0 H0 B H σ ρ) (cr : srcOk d c n H) : Stt K (srcG d c n) B0 H0 B H σ ρ :=
  ⟨S.len, S.bh, cr, S.st.re, fun i r e => let ⟨x, e1, e2⟩ := S.sl i r e; ⟨x, e1, e2.re⟩, S.dis⟩
theorem Stt.b (S : Stt K (srcG d c n) B0 H0 B H σ ρ) : Stt K (srcB d c) B0 H0 B H σ ρ := S.re (srcOk.less S.gok (Nat.zero_le _))
end
/-! ### expressions -/
def TCe (K : Frag) (W : WX) (k : Cost) (w : EW) : TE := fun σ H Q => ∃ (d c : Addr) (n : Nat) (B0 H0 B : Hp) (ρ : Rho) (Qd : R → Prop) (Qe : Value → Prop), Stt K (srcB d c) B0 H0 B H σ ρ ∧ srcOk d c (k.f n) H ∧ w ρ Qd Qe ∧
  (∀ r x B' H', Stt K (srcB d c) B0 H0 B' H' σ ρ → Stp (srcB d c) B H B' H' → Rs K (srcB d c) H B' H' x r → srcOk d c n H' → Qd r → Q x H') ∧ (∀ cls dd B' H', Qe cls → Stt K (srcB d c) B0 H0 B' H' σ ρ → Stp (srcB d c) B H B' H' → srcOk d c n H' → W cls dd σ H')
def TCt (K : Frag) (W : WX) (k : Cost) (w : TW) : TT := fun σ H Q => ∃ (d c : Addr) (n : Nat) (B0 H0 B : Hp) (ρ : Rho) (Qd : Bool → Prop) (Qe : Value → Prop), Stt K (srcB d c) B0 H0 B H σ ρ ∧ srcOk d c (k.f n) H ∧ w ρ Qd Qe ∧
  (∀ b B' H', Stt K (srcB d c) B0 H0 B' H' σ ρ → Stp (srcB d c) B H B' H' → srcOk d c n H' → Qd b → Q b H') ∧ (∀ cls dd B' H', Qe cls → Stt K (srcB d c) B0 H0 B' H' σ ρ → Stp (srcB d c) B H B' H' → srcOk d c n H' → W cls dd σ H')
def TCa (K : Frag) (W : WX) (k : Cost) (w : AW) : TA := fun σ H Q => ∃ (d c : Addr) (n : Nat) (B0 H0 B : Hp) (ρ : Rho) (Qd : List R → Prop) (Qe : Value → Prop), Stt K (srcB d c) B0 H0 B H σ ρ ∧ srcOk d c (k.f n) H ∧ w ρ Qd Qe ∧
  (∀ rs xs B' H', Stt K (srcB d c) B0 H0 B' H' σ ρ → Stp (srcB d c) B H B' H' → RsAll K (srcB d c) H B' H' xs rs → Apart xs rs → srcOk d c n H' → Qd rs → Q xs H') ∧ (∀ cls dd B' H', Qe cls → Stt K (srcB d c) B0 H0 B' H' σ ρ → Stp (srcB d c) B H B' H' → srcOk d c n H' → W cls dd σ H')
def TCo (K : Frag) (W : WX) (k : Cost) (w : OW) : TO := fun σ H Q => ∃ (d c : Addr) (n : Nat) (B0 H0 B : Hp) (ρ : Rho) (Qd : Option Int → Prop) (Qe : Value → Prop), Stt K (srcB d c) B0 H0 B H σ ρ ∧ srcOk d c (k.f n) H ∧ w ρ Qd Qe ∧
  (∀ b B' H', Stt K (srcB d c) B0 H0 B' H' σ ρ → Stp (srcB d c) B H B' H' → srcOk d c n H' → Qd b → Q b H') ∧ (∀ cls dd B' H', Qe cls → Stt K (srcB d c) B0 H0 B' H' σ ρ → Stp (srcB d c) B H B' H' → srcOk d c n H' → W cls dd σ H')
abbrev PC (X : Cx) (W : WX) (k : Cost) (e : Expr) (w : EW) : Prop := PE X e (TCe X.K W k w)
abbrev PCt (X : Cx) (W : WX) (k : Cost) (e : Expr) (w : TW) : Prop := PT X e (TCt X.K W k w)
abbrev PCa (X : Cx) (W : WX) (k : Cost) (es : List Expr) (w : AW) : Prop := PA X es (TCa X.K W k w)
abbrev PCw (X : Cx) (W : WX) (k : Cost) (e : Expr) (w : TW) : Prop := PW X e (TCt X.K W k w)
def erC {K : Frag} {W : WX} {d c : Addr} {n m : Nat} {B0 H0 B H B1 H1 : Hp} {σ : L2.St} {ρ : Rho} {Qe : Value → Prop}
    (er : ∀ cls dd B' H', Qe cls → Stt K (srcB d c) B0 H0 B' H' σ ρ → Stp (srcB d c) B H B' H' → srcOk d c n H' → W cls dd σ H') (s1 : Stp (srcB d c) B H B1 H1) (le : n ≤ m) :
    ∀ cls dd B' H', Qe cls → Stt K (srcB d c) B0 H0 B' H' σ ρ → Stp (srcB d c) B1 H1 B' H' → srcOk d c m H' → W cls dd σ H' := fun cls dd B' H' q S s cr => er cls dd B' H' q S (s1.trans s) (cr.less le)
section
variable {X : Cx} {W : WX} {e a b : Expr} {es : List Expr} {wa wb wc w : EW} {ws : AW} {wt wt' : TW} {pos : Pos} {k k1 k2 k3 : Cost}
/-- what takes no draws -/
theorem pc_of (h : PD X W e w) : PC X W .nil e w := pe_imp h fun σ H Q ⟨d, c, n, B0, H0, B, ρ, Qd, Qe, S, cr, q, ok, er⟩ =>
  ⟨srcG d c n, B0, H0, B, ρ, Qd, Qe, S.re cr, q, fun r x B' H' S' s r' q' => ok r x B' H' S'.b s.re r'.re S'.gok q', fun cls dd B' H' q' S' s => er cls dd B' H' q' S'.b s.re S'.gok⟩
theorem pct_of (h : PDt X W e wt) : PCt X W .nil e wt := pt_imp h fun σ H Q ⟨d, c, n, B0, H0, B, ρ, Qd, Qe, S, cr, q, ok, er⟩ =>
  ⟨srcG d c n, B0, H0, B, ρ, Qd, Qe, S.re cr, q, fun b B' H' S' s q' => ok b B' H' S'.b s.re S'.gok q', fun cls dd B' H' q' S' s => er cls dd B' H' q' S'.b s.re S'.gok⟩
theorem pcw_of (h : PDw X W e wt) : PCw X W .nil e wt := pw_imp h fun σ H Q ⟨d, c, n, B0, H0, B, ρ, Qd, Qe, S, cr, q, ok, er⟩ =>
  ⟨srcG d c n, B0, H0, B, ρ, Qd, Qe, S.re cr, q, fun b B' H' S' s q' => ok b B' H' S'.b s.re S'.gok q', fun cls dd B' H' q' S' s => er cls dd B' H' q' S'.b s.re S'.gok⟩
theorem pca_of (h : PDa X W es ws) : PCa X W .nil es ws := pa_imp h fun σ H Q ⟨d, c, n, B0, H0, B, ρ, Qd, Qe, S, cr, q, ok, er⟩ =>
  ⟨srcG d c n, B0, H0, B, ρ, Qd, Qe, S.re cr, q, fun rs xs B' H' S' s r' ap q' => ok rs xs B' H' S'.b s.re r'.re ap S'.gok q', fun cls dd B' H' q' S' s => er cls dd B' H' q' S'.b s.re S'.gok⟩
theorem po_imp {X : Cx} {o : Option Expr} {t t' : TO} (h : PO X o t) (i : ∀ σ H Q, t' σ H Q → t σ H Q) : PO X o t' := ⟨fun pins s σ H Q I q => h.run pins s σ H Q I (i _ _ _ q)⟩
theorem pco_of {o : Option Expr} {wo : OW} (h : PO X o (TDo X.K W wo)) : PO X o (TCo X.K W .nil wo) := po_imp h fun σ H Q ⟨d, c, n, B0, H0, B, ρ, Qd, Qe, S, cr, q, ok, er⟩ =>
  ⟨srcG d c n, B0, H0, B, ρ, Qd, Qe, S.re cr, q, fun b B' H' S' s q' => ok b B' H' S'.b s.re S'.gok q', fun cls dd B' H' q' S' s => er cls dd B' H' q' S'.b s.re S'.gok⟩
theorem pca_cons (ha : PC X W k1 e w) (hr : PCa X W k2 es ws) (hs : starEach (e :: es) X.env = (false, eval e X.env) :: starEach es X.env := by rfl) : PCa X W (k1.seq k2) (e :: es) (wCons w ws) :=
  pa_imp (pa_cons ha hr hs) fun σ H Q ⟨d, c, n, B0, H0, B, ρ, Qd, Qe, S, cr, q, ok, er⟩ => by
    refine ⟨d, c, k2.f n, B0, H0, B, ρ, _, Qe, S, cr, q, fun r x B1 H1 S1 s1 r1 c1 q1 => ?_, erC er (Stp.refl ..) (k2.le n)⟩
    refine ⟨d, c, n, B0, H0, B1, ρ, _, Qe, S1, c1, q1, fun rs xs B2 H2 S2 s2 r2 a2 c2 q2 => ok _ _ _ _ S2 (s1.trans s2) (.cons (r1.step s2) (r2.from s1)) ⟨fun o1 j u e1 o2 e2 => ?_, a2⟩ c2 q2, erC er s1 (Nat.le_refl _)⟩
    obtain ⟨y, f1, f2⟩ := r2.get e1
    rw [e2] at f1; cases f1
    obtain ⟨p, ep, hp⟩ := f2.own_new o2
    obtain ⟨q', v, eq, hq⟩ := r1.own_at o1
    rw [ep] at eq; cases eq
    rw [hp] at hq; cases hq
theorem pc_frz (h : PC X W k e w) : PC X W k e (wFrz w) := pe_imp h fun σ H Q ⟨d, c, n, B0, H0, B, ρ, Qd, Qe, S, cr, q, ok, er⟩ => by
  refine ⟨d, c, n, B0, H0, B, ρ, _, Qe, S, cr, q, fun r x B1 H1 S1 s1 r1 c1 q1 => ?_, er⟩
  cases r with
  | l own ds =>
    cases own with
    | false => exact ok _ _ _ _ S1 s1 r1 c1 q1
    | true =>
      obtain ⟨p, xs, rfl, h1, h2, h3⟩ := r1
      obtain ⟨hb, hn⟩ := h3 rfl
      have bb : Same B1 (upd B1 p (.lst xs)) := fun b o e => by rw [upd_ne (ne_of_none e hb)]; exact e
      have bh : Same (upd B1 p (.lst xs)) (hide (srcB d c) H1) := fun b o e => by
        by_cases z : b = p
        · subst z; rw [upd_same] at e; cases e; exact h1
        · rw [upd_ne z] at e; exact S1.bh _ _ e
      have s2 : Stp (srcB d c) B H (upd B1 p (.lst xs)) H1 := ⟨s1.bb.trans bb, s1.hh, fun b o e1 e2 => by
        rw [upd_ne (ne_of_none e2 hn)]; exact s1.nw b o e1 e2⟩
      exact ok (.s (.list ds)) _ _ _ (S.step s2 bh S1.gok) s2 (.lst (.inl (.inl upd_same)) (DpAll.mono bb h2)) c1 q1
  | k own ds =>
    cases own with
    | false => exact ok _ _ _ _ S1 s1 r1 c1 q1
    | true =>
      obtain ⟨p, xs, rfl, h1, h2, h3⟩ := r1
      obtain ⟨hb, hn⟩ := h3 rfl
      have bb : Same B1 (upd B1 p (.dK xs)) := fun b o e => by rw [upd_ne (ne_of_none e hb)]; exact e
      have bh : Same (upd B1 p (.dK xs)) (hide (srcB d c) H1) := fun b o e => by
        by_cases z : b = p
        · subst z; rw [upd_same] at e; cases e; exact h1
        · rw [upd_ne z] at e; exact S1.bh _ _ e
      have s2 : Stp (srcB d c) B H (upd B1 p (.dK xs)) H1 := ⟨s1.bb.trans bb, s1.hh, fun b o e1 e2 => by
        rw [upd_ne (ne_of_none e2 hn)]; exact s1.nw b o e1 e2⟩
      exact ok (.s (.dict (kvD ds))) _ _ _ (S.step s2 bh S1.gok) s2 (.dic upd_same (KvP.kv (KvP.mono bb h2))) c1 q1
  | _ => exact ok _ _ _ _ S1 s1 r1 c1 q1
/-- a built-in's end: with what is let -/
theorem endC {K : Frag} {d c : Addr} {n : Nat} {B0 H0 B H B1 H1 : Hp} {σ : L2.St} {ρ : Rho} {Qd : R → Prop} {Q : VK}
    (ok : ∀ r x B' H', Stt K (srcB d c) B0 H0 B' H' σ ρ → Stp (srcB d c) B H B' H' → Rs K (srcB d c) H B' H' x r → srcOk d c n H' → Qd r → Q x H')
    (S1 : Stt K (srcB d c) B0 H0 B1 H1 σ ρ) (s1 : Stp (srcB d c) B H B1 H1) (c1 : srcOk d c n H1) : Cont K (srcG d c n) B1 H1 Qd Q :=
  fun r3 z B3 H3 s3 bh gk rz qz => ok _ _ _ _ (((S1.re c1).step s3 bh gk).b) (s1.trans s3.re) (Rs.from rz.re s1) gk qz
theorem op_coreC {f : F2} (h : PE X e (tOp (lift2 X.K f) (TCe X.K W k1 wa) (TCe X.K W k2 wb))) : PC X W (k1.seq k2) e (wOp f wa wb) :=
  pe_imp h fun σ H Q ⟨d, c, n, B0, H0, B, ρ, Qd, Qe, S, cr, q, ok, er⟩ => by
    refine ⟨d, c, k2.f n, B0, H0, B, ρ, _, Qe, S, cr, q, fun r x B1 H1 S1 s1 r1 c1 q1 => ?_, erC er (Stp.refl ..) (k2.le n)⟩
    refine ⟨d, c, n, B0, H0, B1, ρ, _, Qe, S1, c1, q1, fun r' y B2 H2 S2 s2 r2 c2 q2 => ?_, erC er s1 (Nat.le_refl _)⟩
    exact ⟨srcG d c n, H, B2, r, r', _, ⟨S2.bh, c2⟩, (r1.step s2).re, (r2.from s1).re, q2, endC ok S2 (s1.trans s2) c2⟩
theorem pc_op {op : Operator} {f : F2} (ho : OpR X (binaryOp op) (lift2 X.K f)) (ha : PC X W k1 a wa) (hb : PC X W k2 b wb) : PC X W (k1.seq k2) (.BinOp a op b pos) (wOp f wa wb) := op_coreC (pe_op ho ha hb)
theorem pc_cmp {op : CmpOp} {f : F2} (ho : OpR X (compareOp op) (lift2 X.K f)) (ha : PC X W k1 a wa) (hb : PC X W k2 b wb) (hm : behindInMarks op b = false) : PC X W (k1.seq k2) (.Compare a [op] [b] pos) (wOp f wa wb) := op_coreC (pe_cmpR ho ha hb hm)
theorem pc_ix {f : F2} (hr : IxR X (lift2 X.K f)) (ha : PC X W k1 a wa) (hb : PC X W k2 b wb) (hs : PlainIx b) : PC X W (k1.seq k2) (.Subscript a b pos) (wOp f wa wb) := op_coreC (pe_ix hr ha hb hs)
theorem pc_un {op : UnaryOp} {f : F1} (ho : UnR X (unaryOp op) (lift1 X.K f)) (ha : PC X W k a wa) : PC X W k (.UnaryOp op a pos) (wUn f wa) :=
  pe_imp (pe_un ho ha) fun σ H Q ⟨d, c, n, B0, H0, B, ρ, Qd, Qe, S, cr, q, ok, er⟩ => by
    refine ⟨d, c, n, B0, H0, B, ρ, _, Qe, S, cr, q, fun r x B1 H1 S1 s1 r1 c1 q1 => ?_, er⟩
    exact ⟨srcG d c n, H, B1, r, _, ⟨S1.bh, c1⟩, r1.re, q1, endC ok S1 s1 c1⟩
theorem call_coreC {f : FL} (h : PE X e (tCB (liftL X.K f) (TCa X.K W k ws))) : PC X W k e (wCall1 f ws) :=
  pe_imp h fun σ H Q ⟨d, c, n, B0, H0, B, ρ, Qd, Qe, S, cr, q, ok, er⟩ => by
    refine ⟨d, c, n, B0, H0, B, ρ, _, Qe, S, cr, q, fun rs xs B1 H1 S1 s1 r1 _ c1 q1 => ?_, er⟩
    exact ⟨srcG d c n, H, B1, rs, _, ⟨S1.bh, c1⟩, r1.re, q1, endC ok S1 s1 c1⟩
theorem pc_tup {x1} (h : PCa X W k es ws) : PC X W k (.Tuple es x1 pos) (wTup ws) := pe_imp (peN_tup h) fun σ H Q ⟨d, c, n, B0, H0, B, ρ, Qd, Qe, S, cr, q, ok, er⟩ => by
  refine ⟨d, c, n, B0, H0, B, ρ, _, Qe, S, cr, q, fun rs xs B1 H1 S1 s1 r1 _ c1 q1 => ?_, er⟩
  obtain ⟨ds, e1, hl, q1⟩ := q1
  have h1 := dats_all r1 e1
  refine ⟨by rw [line_eq, h1.length]; exact hl, fun p o hp hn => ?_⟩
  have s2 : Stp (srcB d c) B1 H1 (upd B1 p (.frz o (.tup xs))) (upd H1 p (.frz o (.tup xs))) := Stp.newS hp (S1.freeB hp)
  exact ok (.s (.tuple ds)) _ _ _ (S1.newS hp) (s1.trans s2) (Dp.tup (.inl ⟨o, upd_same, hn⟩) (DpAll.mono s2.bb h1)) (ghost_upd (G := srcG d c n) (S1.notG hp) c1) q1
theorem pc_lst (h : PCa X W k es ws) : PC X W k (.List es pos) (wLst ws) := pe_imp (pe_lst h) fun σ H Q ⟨d, c, n, B0, H0, B, ρ, Qd, Qe, S, cr, q, ok, er⟩ => by
  refine ⟨d, c, n, B0, H0, B, ρ, _, Qe, S, cr, q, fun rs xs B1 H1 S1 s1 r1 _ c1 q1 => ?_, er⟩
  obtain ⟨ds, e1, hl, q1⟩ := q1
  have h1 := dats_all r1 e1
  refine ⟨by rw [line_eq, h1.length]; exact hl, fun p hp => ?_⟩
  exact ok (.l true ds) _ _ _ (S1.new hp) (s1.trans (Stp.new hp)) ⟨p, xs, rfl, by rw [hide_out (S1.notG hp), upd_same], h1, fun _ => ⟨S1.freeB hp, s1.hh.free (hide_free hp)⟩⟩ (ghost_upd (G := srcG d c n) (S1.notG hp) c1) q1
/-! ### tests -/
theorem pct_val (h : PC X W k e w) (he : ∀ whole, isTrue e X.env whole = (do let v ← whole; standAt e.pos; holding [v] (truthy v)) := by intro _; rfl) : PCt X W k e (wTst w) :=
  pt_imp (pt_val h he) fun σ H Q ⟨d, c, n, B0, H0, B, ρ, Qd, Qe, S, cr, q, ok, er⟩ => by
    refine ⟨d, c, n, B0, H0, B, ρ, _, Qe, S, cr, q, fun r x B1 H1 S1 s1 r1 c1 q1 => ?_, er⟩
    obtain ⟨b, rfl, q1⟩ := q1
    cases (show Dp X.K B1 x (.bool b) from r1)
    exact ⟨b, rfl, ok _ _ _ S1 s1 c1 q1⟩
theorem pct_cmp {op : CmpOp} {f : F2} (ho : OpR X (compareOp op) (lift2 X.K f)) (ha : PC X W k1 a wa) (hb : PC X W k2 b wb) (hm : behindInMarks op b = false) : PCt X W (k1.seq k2) (.Compare a [op] [b] pos) (wTst (wOp f wa wb)) :=
  pt_imp (pt_cmpR ho ha hb hm) fun σ H Q ⟨d, c, n, B0, H0, B, ρ, Qd, Qe, S, cr, q, ok, er⟩ => by
    refine ⟨d, c, k2.f n, B0, H0, B, ρ, _, Qe, S, cr, q, fun r x B1 H1 S1 s1 r1 c1 q1 => ?_, erC er (Stp.refl ..) (k2.le n)⟩
    refine ⟨d, c, n, B0, H0, B1, ρ, _, Qe, S1, c1, q1, fun r' y B2 H2 S2 s2 r2 c2 q2 => ?_, erC er s1 (Nat.le_refl _)⟩
    refine ⟨srcG d c n, H, B2, r, r', _, ⟨S2.bh, c2⟩, (r1.step s2).re, (r2.from s1).re, q2, fun r3 z B3 H3 s3 bh gk rz qz => ?_⟩
    obtain ⟨k, rfl, qz⟩ := qz
    cases (show Dp X.K B3 z (.bool k) from rz)
    exact ⟨k, rfl, ok _ _ _ (((S2.re c2).step s3 bh gk).b) ((s1.trans s2).trans s3.re) gk qz⟩
theorem pct_not (ha : PCt X W k a wt) : PCt X W k (.UnaryOp .Not a pos) (wNotT wt) :=
  pt_imp (pt_not ha) fun σ H Q ⟨d, c, n, B0, H0, B, ρ, Qd, Qe, S, cr, q, ok, er⟩ => ⟨d, c, n, B0, H0, B, ρ, _, Qe, S, cr, q, fun k B1 H1 S1 s1 c1 q1 => ok _ _ _ S1 s1 c1 q1, er⟩
theorem pcw_and {rest : List Expr} (ha : PCt X W k1 a wt) (hb : PCw X W k2 (.BoolOp .And (b :: rest) pos) wt') : PCw X W (k1.seq k2) (.BoolOp .And (a :: b :: rest) pos) (wAndT wt wt') :=
  pw_imp (pw_and ha hb) fun σ H Q ⟨d, c, n, B0, H0, B, ρ, Qd, Qe, S, cr, q, ok, er⟩ => by
    refine ⟨d, c, k2.f n, B0, H0, B, ρ, _, Qe, S, cr, q, fun k B1 H1 S1 s1 c1 q1 => ?_, erC er (Stp.refl ..) (k2.le n)⟩
    cases k with
    | true => exact iteT ⟨d, c, n, B0, H0, B1, ρ, _, Qe, S1, c1, (if_pos rfl).mp q1, fun k B2 H2 S2 s2 c2 q2 => ok _ _ _ S2 (s1.trans s2) c2 q2, erC er s1 (Nat.le_refl _)⟩
    | false => exact iteF (ok _ _ _ S1 s1 (c1.less (k2.le n)) ((if_neg Bool.false_ne_true).mp q1))
theorem pcw_or {rest : List Expr} (ha : PCt X W k1 a wt) (hb : PCw X W k2 (.BoolOp .Or (b :: rest) pos) wt') : PCw X W (k1.seq k2) (.BoolOp .Or (a :: b :: rest) pos) (wOrT wt wt') :=
  pw_imp (pw_or ha hb) fun σ H Q ⟨d, c, n, B0, H0, B, ρ, Qd, Qe, S, cr, q, ok, er⟩ => by
    refine ⟨d, c, k2.f n, B0, H0, B, ρ, _, Qe, S, cr, q, fun k B1 H1 S1 s1 c1 q1 => ?_, erC er (Stp.refl ..) (k2.le n)⟩
    cases k with
    | true => exact iteT (ok _ _ _ S1 s1 (c1.less (k2.le n)) ((if_pos rfl).mp q1))
    | false => exact iteF ⟨d, c, n, B0, H0, B1, ρ, _, Qe, S1, c1, (if_neg Bool.false_ne_true).mp q1, fun k B2 H2 S2 s2 c2 q2 => ok _ _ _ S2 (s1.trans s2) c2 q2, erC er s1 (Nat.le_refl _)⟩
theorem pcw_and1 (ha : PCt X W k a wt) : PCw X W k (.BoolOp .And [a] pos) wt := pw_and1 ha
theorem pcw_or1 (ha : PCt X W k a wt) : PCw X W k (.BoolOp .Or [a] pos) wt := pw_or1 ha
theorem pct_w (h : PCw X W k e wt) : PCt X W k e wt := h.pt
/-! ### and, or, not, if as values -/
theorem pc_one {op} (h : PC X W k a w) : PC X W k (.BoolOp op [a] pos) w := pe_one h
theorem pc_and {rest : List Expr} (ha : PC X W k1 a wa) (hb : PC X W k2 (.BoolOp .And (b :: rest) pos) wb) : PC X W (k1.seq k2) (.BoolOp .And (a :: b :: rest) pos) (wAndV wa wb) :=
  pe_imp (pe_and ha hb) fun σ H Q ⟨d, c, n, B0, H0, B, ρ, Qd, Qe, S, cr, q, ok, er⟩ => by
    refine ⟨d, c, k2.f n, B0, H0, B, ρ, _, Qe, S, cr, q, fun r x B1 H1 S1 s1 r1 c1 q1 => ?_, erC er (Stp.refl ..) (k2.le n)⟩
    obtain ⟨k, rfl, q1⟩ := q1
    cases (show Dp X.K B1 x (.bool k) from r1)
    refine ⟨k, rfl, ?_⟩
    cases k with
    | true => exact iteT ⟨d, c, n, B0, H0, B1, ρ, _, Qe, S1, c1, (if_pos rfl).mp q1, fun r y B2 H2 S2 s2 r2 c2 q2 => ok _ _ _ _ S2 (s1.trans s2) (r2.from s1) c2 q2, erC er s1 (Nat.le_refl _)⟩
    | false => exact iteF (ok (.s (.bool false)) _ _ _ S1 s1 (.bl false) (c1.less (k2.le n)) ((if_neg Bool.false_ne_true).mp q1))
theorem pc_or {rest : List Expr} (ha : PC X W k1 a wa) (hb : PC X W k2 (.BoolOp .Or (b :: rest) pos) wb) : PC X W (k1.seq k2) (.BoolOp .Or (a :: b :: rest) pos) (wOrV wa wb) :=
  pe_imp (pe_or ha hb) fun σ H Q ⟨d, c, n, B0, H0, B, ρ, Qd, Qe, S, cr, q, ok, er⟩ => by
    refine ⟨d, c, k2.f n, B0, H0, B, ρ, _, Qe, S, cr, q, fun r x B1 H1 S1 s1 r1 c1 q1 => ?_, erC er (Stp.refl ..) (k2.le n)⟩
    obtain ⟨k, rfl, q1⟩ := q1
    cases (show Dp X.K B1 x (.bool k) from r1)
    refine ⟨k, rfl, ?_⟩
    cases k with
    | true => exact iteT (ok (.s (.bool true)) _ _ _ S1 s1 (.bl true) (c1.less (k2.le n)) ((if_pos rfl).mp q1))
    | false => exact iteF ⟨d, c, n, B0, H0, B1, ρ, _, Qe, S1, c1, (if_neg Bool.false_ne_true).mp q1, fun r y B2 H2 S2 s2 r2 c2 q2 => ok _ _ _ _ S2 (s1.trans s2) (r2.from s1) c2 q2, erC er s1 (Nat.le_refl _)⟩
theorem pc_not (ha : PC X W k a wa) : PC X W k (.UnaryOp .Not a pos) (wNotV wa) :=
  pe_imp (pe_not ha) fun σ H Q ⟨d, c, n, B0, H0, B, ρ, Qd, Qe, S, cr, q, ok, er⟩ => by
    refine ⟨d, c, n, B0, H0, B, ρ, _, Qe, S, cr, q, fun r x B1 H1 S1 s1 r1 c1 q1 => ?_, er⟩
    obtain ⟨k, rfl, q1⟩ := q1
    cases (show Dp X.K B1 x (.bool k) from r1)
    exact ⟨k, rfl, ok (.s (.bool (!k))) _ _ _ S1 s1 (.bl _) c1 q1⟩
theorem pc_if {t : Expr} (hc : PCt X W k1 t wt) (ha : PC X W k2 a wa) (hb : PC X W k3 b wb) : PC X W (k1.seq (k2.seq k3)) (.IfExp t a b pos) (wIf wt wa wb) :=
  pe_imp (pe_ifExp hc ha hb) fun σ H Q ⟨d, c, n, B0, H0, B, ρ, Qd, Qe, S, cr, q, ok, er⟩ => by
    have l2 : n ≤ k2.f (k3.f n) := Nat.le_trans (k3.le n) (k2.le _)
    refine ⟨d, c, k2.f (k3.f n), B0, H0, B, ρ, _, Qe, S, cr, q, fun k B1 H1 S1 s1 c1 q1 => ?_, erC er (Stp.refl ..) l2⟩
    cases k with
    | true => exact iteT ⟨d, c, n, B0, H0, B1, ρ, _, Qe, S1, c1.less (k2.mono (k3.le n)), (if_pos rfl).mp q1, fun r y B2 H2 S2 s2 r2 c2 q2 => ok _ _ _ _ S2 (s1.trans s2) (r2.from s1) c2 q2, erC er s1 (Nat.le_refl _)⟩
    | false => exact iteF ⟨d, c, n, B0, H0, B1, ρ, _, Qe, S1, c1.less (k2.le _), (if_neg Bool.false_ne_true).mp q1, fun r y B2 H2 S2 s2 r2 c2 q2 => ok _ _ _ _ S2 (s1.trans s2) (r2.from s1) c2 q2, erC er s1 (Nat.le_refl _)⟩
/-! ### slices -/
theorem pco_some (h : PC X W k e w) : PO X (some e) (TCo X.K W k (wOSome w)) := ⟨fun pins s σ H Q I ⟨d, c, n, B0, H0, B, ρ, Qd, Qe, S, cr, q, ok, er⟩ => (po_some h).run pins s σ H Q I (by
  refine ⟨d, c, n, B0, H0, B, ρ, _, Qe, S, cr, q, fun r x B' H' S' s r' c' q' => ?_, er⟩
  obtain ⟨n, rfl, q'⟩ := q'
  cases r'.int
  exact ⟨n, rfl, ok _ _ _ S' s c' q'⟩)⟩
theorem pc_sl {wl wh : OW} (h : PE X e (tSl (liftS X.K fSl) (TCe X.K W k1 w) (TCo X.K W k2 wl) (TCo X.K W k3 wh))) : PC X W (k1.seq (k2.seq k3)) e (wSl w wl wh) := pe_imp h fun σ H Q ⟨d, c, n, B0, H0, B, ρ, Qd, Qe, S, cr, q, ok, er⟩ => by
  have l2 : n ≤ k2.f (k3.f n) := Nat.le_trans (k3.le n) (k2.le _)
  refine ⟨d, c, k2.f (k3.f n), B0, H0, B, ρ, _, Qe, S, cr, q, fun r x B1 H1 S1 s1 r1 c1 q1 => ?_, erC er (Stp.refl ..) l2⟩
  refine ⟨d, c, k3.f n, B0, H0, B1, ρ, _, Qe, S1, c1, q1, fun lo B2 H2 S2 s2 c2 q2 => ?_, erC er s1 (k3.le n)⟩
  refine ⟨d, c, n, B0, H0, B2, ρ, _, Qe, S2, c2, q2, fun hi B3 H3 S3 s3 c3 q3 => ?_, erC er (s1.trans s2) (Nat.le_refl _)⟩
  have s13 := (s1.trans s2).trans s3
  exact ⟨srcG d c n, H, B3, r, _, ⟨S3.bh, c3⟩, (r1.step (s2.trans s3)).re, q3, endC ok S3 s13 c3⟩
end
end DL

set_option Elab.async false
set_option linter.all false
set_option maxRecDepth 100000
/-! The data layer with a cost: statements, loops, comprehensions, defs, calls. -/
namespace DL
open PySem PySem.Spec PyProof.Rows L2

structure LinksC (K : Frag) (W : WX) (d c : Addr) (n : Nat) (B0 H0 B : Hp) (E : DEnds) (D : Ends) : Prop where
  nx : ∀ ρ' σ' B' H', Stt K (srcB d c) B0 H0 B' H' σ' ρ' → Same B B' → srcOk d c n H' → E.nx ρ' → D.nx σ' H'
  bk : ∀ ρ' σ' B' H', Stt K (srcB d c) B0 H0 B' H' σ' ρ' → Same B B' → srcOk d c n H' → E.bk ρ' → D.bk σ' H'
  ct : ∀ ρ' σ' B' H', Stt K (srcB d c) B0 H0 B' H' σ' ρ' → Same B B' → srcOk d c n H' → E.ct ρ' → D.ct σ' H'
  rt : ∀ r x B' H', Stp (srcB d c) B0 H0 B' H' → Same B' (hide (srcB d c) H') → srcOk d c n H' → Rs K (srcB d c) H0 B' H' x r → E.rt r → D.rt x H'
  er : ∀ cls dd ρ' σ' B' H', Stt K (srcB d c) B0 H0 B' H' σ' ρ' → Same B B' → srcOk d c n H' → E.er cls ρ' → W cls dd σ' H'
section
variable {K : Frag} {W : WX} {d c : Addr} {n m : Nat} {B0 H0 B B1 : Hp} {E : DEnds} {D : Ends}
theorem LinksC.up (l : LinksC K W d c n B0 H0 B E D) (s : Same B B1) : LinksC K W d c n B0 H0 B1 E D :=
  ⟨fun a b c d e f => l.nx a b c d e (s.trans f), fun a b c d e f => l.bk a b c d e (s.trans f), fun a b c d e f => l.ct a b c d e (s.trans f), l.rt, fun a b c d e f g h => l.er a b c d e f g (s.trans h)⟩
theorem LinksC.more (l : LinksC K W d c n B0 H0 B E D) (le : n ≤ m) : LinksC K W d c m B0 H0 B E D :=
  ⟨fun a b c d e f g => l.nx a b c d e f (g.less le), fun a b c d e f g => l.bk a b c d e f (g.less le), fun a b c d e f g => l.ct a b c d e f (g.less le), fun a b c d e f g => l.rt a b c d e f (g.less le), fun a b c d e f g h i => l.er a b c d e f g h (i.less le)⟩
end
def TCs (K : Frag) (W : WX) (k : Cost) (w : SW) : TS := fun D σ H => ∃ (d c : Addr) (n : Nat) (B0 H0 B : Hp) (ρ : Rho) (E : DEnds), Stt K (srcB d c) B0 H0 B H σ ρ ∧ srcOk d c (k.f n) H ∧ w ρ E ∧ LinksC K W d c n B0 H0 B E D
abbrev PSC (X : Cx) (W : WX) (k : Cost) (st : Stmt) (w : SW) : Prop := PS X st (TCs X.K W k w)
abbrev PSCs (X : Cx) (W : WX) (k : Cost) (st : List Stmt) (w : SW) : Prop := PSs X st (TCs X.K W k w)
section
variable {X : Cx} {W : WX} {e a b : Expr} {st : Stmt} {rest th el : List Stmt} {es : List Expr} {wa wb wc w : EW} {ws : AW} {wt wt' : TW} {v u : SW} {pos : Pos} {k k1 k2 k3 : Cost}
theorem low_s {K : Frag} {W : WX} {D : Ends} {σ : L2.St} {H : Hp} {w : SW} : TCs K W .nil w D σ H → TDs K W w D σ H := fun ⟨d, c, n, B0, H0, B, ρ, E, S, cr, q, l⟩ =>
  ⟨srcG d c n, B0, H0, B, ρ, E, S.re cr, q, ⟨fun ρ' σ' B' H' S' s q => l.nx _ _ _ _ S'.b s S'.gok q, fun ρ' σ' B' H' S' s q => l.bk _ _ _ _ S'.b s S'.gok q, fun ρ' σ' B' H' S' s q => l.ct _ _ _ _ S'.b s S'.gok q,
    fun r x B' H' s b g r' q => l.rt r x B' H' s.re b g r'.re q, fun cls dd ρ' σ' B' H' S' s q => l.er cls dd ρ' σ' B' H' S'.b s S'.gok q⟩⟩
theorem psc_of (h : PSD X W st v) : PSC X W .nil st v := ps_imp h fun D σ H => low_s
theorem pscs_of (h : PSDs X W rest v) : PSCs X W .nil rest v := pss_imp h fun D σ H => low_s
theorem pscs_one (h : PSC X W k st v) : PSCs X W k [st] v := pss_one h
theorem pscs_cons (h : PSC X W k1 st v) (hr : PSCs X W k2 rest u) : PSCs X W (k1.seq k2) (st :: rest) (wSeq v u) := pss_imp (pss_cons h hr) fun D σ H ⟨d, c, n, B0, H0, B, ρ, E, S, cr, q, l⟩ => by
  have m := l.more (k2.le n)
  exact ⟨d, c, k2.f n, B0, H0, B, ρ, _, S, cr, q, ⟨fun ρ' σ' B' H' S' s c' q' => ⟨d, c, n, B0, H0, B', ρ', E, S', c', q', l.up s⟩, m.bk, m.ct, m.rt, m.er⟩⟩
theorem pscs_le (h : PSCs X W k1 rest v) (hk : k1.f 0 ≤ k2.f 0) : PSCs X W k2 rest v := pss_imp h fun D σ H ⟨d, c, n, B0, H0, B, ρ, E, S, cr, q, l⟩ =>
  ⟨d, c, n, B0, H0, B, ρ, E, S, cr.less (by rw [k1.sum, k2.sum]; omega), q, l⟩
theorem psc_ret (h : PC X W k e w) : PSC X W k (.Return (some e) pos) (wRet w) := ps_imp (ps_ret h) fun D σ H ⟨d, c, n, B0, H0, B, ρ, E, S, cr, q, l⟩ =>
  ⟨d, c, n, B0, H0, B, ρ, _, _, S, cr, q, fun r x B' H' S' s r' c' q' => l.rt r x B' H' S'.st S'.bh c' (r'.from S.st) q', fun cls dd B' H' q' S' s c' => l.er cls dd ρ σ B' H' S' s.bb c' q'⟩
theorem psc_set {i : Nat} (h : PS X st (tAsg (TCe X.K W k w) (gName i))) : PSC X W k st (wAsg i w) := ps_imp h fun D σ H ⟨d, c, n, B0, H0, B, ρ, E, S, cr, q, l⟩ =>
  ⟨d, c, n, B0, H0, B, ρ, _, _, S, cr, q, fun r x B' H' S' s r' c' ⟨hi, k, q'⟩ => l.nx _ _ _ _ (S.fill s S' k r' i (by rw [← S.len]; exact hi)) s.bb c' q', fun cls dd B' H' q' S' s c' => l.er cls dd ρ σ B' H' S' s.bb c' q'⟩
theorem psc_asgT {g : GW} (h : PS X st (tAsg (TCe X.K W k w) (TDg X.K g))) : PSC X W k st (wAsgT w g) := ps_imp h fun D σ H ⟨d, c, n, B0, H0, B, ρ, E, S, cr, q, l⟩ =>
  ⟨d, c, n, B0, H0, B, ρ, _, _, S, cr, q, fun r x B' H' S' s r' c' ⟨dd, e, q'⟩ => ⟨srcG d c n, B0, H0, B', ρ, dd, _, S'.re c', r'.dat e, q', fun ρ2 σ2 B2 H2 S2 s2 q2 => l.nx _ _ _ _ S2.b (s.bb.trans s2) S2.gok q2⟩, fun cls dd B' H' q' S' s c' => l.er cls dd ρ σ B' H' S' s.bb c' q'⟩
theorem psc_par {i j : Nat} (h : PS X st (tPar i j (TCa X.K W k (wCons wa (wCons wb wNil))))) : PSC X W k st (wPar i j wa wb) := ps_imp h fun D σ H ⟨d, c, n, B0, H0, B, ρ, E, S, cr, q, l⟩ => by
  refine ⟨d, c, n, B0, H0, B, ρ, (fun rs => ∃ r u, rs = [r, u] ∧ (i < ρ.length ∧ j < ρ.length ∧ keeps r = true ∧ keeps u = true ∧ E.nx ((ρ.set i (some r)).set j (some u)))), fun cls => E.er cls ρ, S, cr, ?_, ?_, fun cls dd B' H' q' S' s c' => l.er cls dd ρ σ B' H' S' s.bb c' q'⟩
  · show wa ρ (fun r => wb ρ (fun u => wNil ρ _ _) _) _
    have e : (fun r => wb ρ (fun u => wNil ρ (fun rs => ∃ r' u', r :: u :: rs = [r', u'] ∧ (i < ρ.length ∧ j < ρ.length ∧ keeps r' = true ∧ keeps u' = true ∧ E.nx ((ρ.set i (some r')).set j (some u')))) (fun cls => E.er cls ρ)) (fun cls => E.er cls ρ)) =
        (fun r => wb ρ (fun u => i < ρ.length ∧ j < ρ.length ∧ keeps r = true ∧ keeps u = true ∧ E.nx ((ρ.set i (some r)).set j (some u))) (fun cls => E.er cls ρ)) := by
      funext r
      congr 1
      funext u
      apply propext
      constructor
      · rintro ⟨r', u', e, z⟩
        cases e
        exact z
      · intro z
        exact ⟨r, u, rfl, z⟩
    rw [e]
    exact q
  · rintro rs xs B' H' S' s r' ap c' ⟨r, u, rfl, hi, hj, k1, k2, q'⟩
    cases r' with
    | cons h1 h2 => cases h2 with
      | cons h2 h3 =>
        cases h3
        rename_i x y
        have S1 := S.fill s S' k1 h1 i (by rw [← S.len]; exact hi)
        refine ⟨x, y, rfl, l.nx _ _ _ _ (S1.fillG (h2.slot k2 S.st.hh) j (by rw [List.length_set, ← S.len]; exact hj) fun m v z hm e1 o1 o2 e2 e3 => ?_) s.bb c' q'⟩
        by_cases qm : m = i
        · subst qm
          rw [List.getElem?_set_self hi] at e1; cases e1
          rw [List.getElem?_set_self (by rw [← S.len]; exact hi)] at e2; cases e2
          exact ap.1 o2 0 u rfl o1 (by rw [e3]; rfl)
        · rw [List.getElem?_set_ne (Ne.symm qm)] at e1 e2
          exact S.away h2 o1 m v z e1 o2 e2 e3
theorem psc_if (hc : PCt X W k1 e wt) (ha : PSCs X W k2 th v) (hb : PSCs X W k3 el u) : PSC X W (k1.seq (k2.seq k3)) (.If e th el pos) (wIfS wt v u) := ps_imp (ps_if hc ha hb) fun D σ H ⟨d, c, n, B0, H0, B, ρ, E, S, cr, q, l⟩ => by
  have l2 : n ≤ k2.f (k3.f n) := Nat.le_trans (k3.le n) (k2.le _)
  exact ⟨d, c, k2.f (k3.f n), B0, H0, B, ρ, _, _, S, cr, q, fun k B' H' S' s c' q' => by
    cases k with
    | true => exact iteT ⟨d, c, n, B0, H0, B', ρ, E, S', c'.less (k2.mono (k3.le n)), (if_pos rfl).mp q', l.up s.bb⟩
    | false => exact iteF ⟨d, c, n, B0, H0, B', ρ, E, S', c'.less (k2.le _), (if_neg Bool.false_ne_true).mp q', l.up s.bb⟩, fun cls dd B' H' q' S' s c' => l.er cls dd ρ σ B' H' S' s.bb (c'.less l2) q'⟩
theorem psc_aug {i : Nat} {g : Int → Int → Int} (h : PS X st (tAug i (TCe X.K W k w) (ipI g))) : PSC X W k st (wAug i g w) := ps_imp h fun D σ H ⟨d, c, n, B0, H0, B, ρ, E, S, cr, ⟨nn, e1, q⟩, l⟩ => by
  obtain ⟨x, e2, hr⟩ := S.sl i _ e1
  cases (show Dp X.K B x (.int nn) from hr)
  refine ⟨.int nn, e2, d, c, n, B0, H0, B, ρ, _, _, S, cr, q, fun r y B' H' S' s r' c' q' => ?_, fun cls dd B' H' q' S' s c' => l.er cls dd ρ σ B' H' S' s.bb c' q'⟩
  obtain ⟨m, rfl, q'⟩ := q'
  cases (show Dp X.K B' y (.int m) from r')
  exact ⟨nn, m, rfl, rfl, l.nx _ _ _ _ (S'.put (r := .s (.int (g nn m))) rfl (show Dp X.K B' (.int (g nn m)) (.int (g nn m)) from .int _) i ((List.getElem?_eq_some_iff.mp e1).1)) s.bb c' q'⟩
theorem psc_expr (h : PS X st (tDrop (TCe X.K W k w))) : PSC X W k st (wExpr w) := ps_imp h fun D σ H ⟨d, c, n, B0, H0, B, ρ, E, S, cr, q, l⟩ =>
  ⟨d, c, n, B0, H0, B, ρ, _, _, S, cr, q, fun r x B' H' S' s r' c' q' => l.nx _ _ _ _ S' s.bb c' q', fun cls dd B' H' q' S' s c' => l.er cls dd ρ σ B' H' S' s.bb c' q'⟩
theorem psc_append {i : Nat} (h : PS X st (tDrop (tBM X.K "list" rAppend (tVar i) (tCons (TCe X.K W k w) tNil)))) : PSC X W k st (wAppend i w) := ps_imp h fun D σ H ⟨d, c, n, B0, H0, B, ρ, E, S, cr, ⟨ds, e1, q⟩, l⟩ => by
  obtain ⟨x, e2, ⟨p, xs, ex, h1, h2, h3, h4, h5⟩⟩ := S.sl i _ e1
  subst ex
  refine ⟨_, e2, .inl ⟨rfl, xs, .inl (.inl h1)⟩, d, c, n, B0, H0, B, ρ, _, _, S, cr, q, fun r y B' H' S' s r' c' q' => ?_, fun cls dd B' H' q' S' s c' => l.er cls dd ρ σ B' H' S' s.bb c' q'⟩
  obtain ⟨dd, ed, hlen, q'⟩ := q'
  have k1 : H' p = some (.lst xs) := (hide_some (s.hh p _ (by rw [hide_out h4]; exact h1))).2
  refine ⟨p, xs, y, rfl, rfl, k1, by rw [line_eq, h2.length]; exact hlen, ?_⟩
  have T := (S'.re c').mut (r' := .l true (ds ++ [dd])) e1 rfl e2 ⟨p, _, rfl, upd_same, (DpAll.mono s.bb h2).append (.cons (r'.dat ed) .nil), s.nw p _ h3 (by rw [hide_out h4]; exact h1), h4, h5⟩
  exact l.nx _ _ _ _ T.b s.bb T.gok q'
theorem psc_ext {i : Nat} (h : PS X st (tDrop (tBM X.K "list" (rExtB X.K) (tVar i) (tCons (TCe X.K W k w) tNil)))) : PSC X W k st (wExt i w) := ps_imp h fun D σ H ⟨d, c, n, B0, H0, B, ρ, E, S, cr, ⟨ds, e1, q⟩, l⟩ => by
  obtain ⟨x, e2, ⟨p, xs, ex, h1, h2, h3, h4, h5⟩⟩ := S.sl i _ e1
  subst ex
  refine ⟨_, e2, .inl ⟨rfl, xs, .inl (.inl h1)⟩, d, c, n, B0, H0, B, ρ, _, _, S, cr, q, fun r y B' H' S' s r' c' q' => ?_, fun cls dd B' H' q' S' s c' => l.er cls dd ρ σ B' H' S' s.bb c' q'⟩
  obtain ⟨es, eq, hlen, q'⟩ := q'
  have k1 : H' p = some (.lst xs) := (hide_some (s.hh p _ (by rw [hide_out h4]; exact h1))).2
  have fin : ∀ (xs2 : List V), DpAll X.K B' xs2 es → D.nx σ (upd H' p (.lst (xs ++ xs2))) := fun xs2 g2 => by
    have T := (S'.re c').mut (r' := .l true (ds ++ es)) e1 rfl e2 ⟨p, _, rfl, upd_same, (DpAll.mono s.bb h2).append g2, s.nw p _ h3 (by rw [hide_out h4]; exact h1), h4, h5⟩
    exact l.nx _ _ _ _ T.b s.bb T.gok q'
  match r, eq, r' with
  | .l o es', eq, r' =>
    cases eq
    obtain ⟨p2, xs2, rfl, g1, g2, _⟩ := r'
    exact .inl ⟨p, p2, xs, xs2, rfl, rfl, k1, (hide_some g1).2, by rw [line_eq, h2.length, g2.length]; exact hlen, fin xs2 g2⟩
  | .s (.tuple es'), eq, r' =>
    cases eq
    obtain ⟨p2, xs2, rfl, g1, g2⟩ := Rs.tup r'
    exact .inr ⟨p, p2, xs, xs2, rfl, rfl, k1, (g1.up (S'.bh.trans (hide_le H'))).t, by rw [line_eq, h2.length, g2.length]; exact hlen, fin xs2 g2⟩
theorem psc_setIx {i : Nat} {we wi : EW} (h : PS X st (tAsg (TCe X.K W k1 we) (gSub (tVar i) (TCe X.K W k2 wi) rSetB))) : PSC X W (k1.seq k2) st (wSetIx i we wi) := ps_imp h fun D σ H ⟨d, c, n, B0, H0, B, ρ, E, S, cr, ⟨r0, e1, o1, q⟩, l⟩ => by
  refine ⟨d, c, k2.f n, B0, H0, B, ρ, _, _, S, cr, q, fun r y B' H' S' s r' c' q' => ?_, fun cls dd B' H' q' S' s c' => l.er cls dd ρ σ B' H' S' s.bb (c'.less (k2.le n)) q'⟩
  obtain ⟨dd, ed, q'⟩ := q'
  obtain ⟨x, e2, sx⟩ := S'.sl i _ e1
  refine ⟨_, e2, d, c, n, B0, H0, B', ρ, _, _, S', c', q', fun z w1 B2 H2 S2 s2 z' c2 q2 => ?_, fun cls dd B2 H2 q2 S2 s2 c2 => l.er cls dd ρ σ B2 H2 S2 (s.bb.trans s2.bb) c2 q2⟩
  obtain ⟨x2, f2, sx2⟩ := S2.sl i _ e1
  rw [e2] at f2
  cases f2
  cases r0 with
  | l own ds =>
    cases own with
    | false => cases o1
    | true =>
      obtain ⟨nn, j, rfl, hj, q2⟩ := q2
      cases (show Dp X.K B2 w1 (.int nn) from z')
      obtain ⟨p2, xs2, rfl, g1, g2, g3, g4, g5⟩ := sx2
      refine .inl ⟨p2, xs2, nn, j, rfl, rfl, g1, by rw [g2.length]; exact hj, ?_⟩
      have T := (S2.re c2).mut (r' := .l true (ds.set j dd)) e1 rfl e2 ⟨p2, _, rfl, upd_same, g2.set j (Dp.mono s2.bb (r'.dat ed)), g3, g4, g5⟩
      exact l.nx _ _ _ _ T.b (s.bb.trans s2.bb) T.gok q2
  | k own kvs =>
    cases own with
    | false => cases o1
    | true =>
      obtain ⟨e, y', rfl, hk, hl, q2⟩ := q2
      cases kV_of (show Dp X.K B2 w1 e from z') hk
      obtain ⟨p2, xs2, rfl, g1, g2, g3, g4, g5⟩ := sx2
      refine .inr ⟨p2, _, rfl, .inl ⟨xs2, y', g1, rfl, by rw [g2.length, line_eq]; exact hl, rfl⟩, ?_⟩
      have T := (S2.re c2).mut (r' := .k true (kPut kvs y' dd)) e1 rfl e2 ⟨p2, _, rfl, upd_same, g2.put y' (Dp.mono s2.bb (r'.dat ed)), g3, g4, g5⟩
      exact l.nx _ _ _ _ T.b (s.bb.trans s2.bb) T.gok q2
  | _ => exact q2.elim
theorem psc_frz {i : Nat} (h : PSC X W k st v) : PSC X W k st (wFrzS i v) := ps_imp h fun D σ H ⟨d, c, n, B0, H0, B, ρ, E, S, cr, ⟨r, e1, q⟩, l⟩ => by
  have same : ρ.set i (some r) = ρ := List.ext_getElem? fun j => by
    by_cases z : i = j
    · subst z
      rw [List.getElem?_set_self (List.getElem?_eq_some_iff.mp e1).1, e1]
    · rw [List.getElem?_set_ne z]
  match r, e1, q, same with
  | .l true ds, e1, q, _ =>
    obtain ⟨B', S', s⟩ := S.freeze e1
    exact ⟨d, c, n, B0, H0, B', _, E, S', cr, q, l.up s⟩
  | .k true ds, e1, q, _ =>
    obtain ⟨B', S', s⟩ := S.freezeK e1
    exact ⟨d, c, n, B0, H0, B', _, E, S', cr, q, l.up s⟩
  | .l false ds, e1, q, same => exact ⟨d, c, n, B0, H0, B, ρ, E, S, cr, by have q' : v (ρ.set i (some (.l false ds))) E := q; rw [same] at q'; exact q', l⟩
  | .k false ds, e1, q, same => exact ⟨d, c, n, B0, H0, B, ρ, E, S, cr, by have q' : v (ρ.set i (some (.k false ds))) E := q; rw [same] at q'; exact q', l⟩
  | .t o ds, e1, q, same => exact ⟨d, c, n, B0, H0, B, ρ, E, S, cr, by have q' : v (ρ.set i (some (.t o ds))) E := q; rw [same] at q'; exact q', l⟩
  | .s z, e1, q, same => exact ⟨d, c, n, B0, H0, B, ρ, E, S, cr, by have q' : v (ρ.set i (some (.s z))) E := q; rw [same] at q'; exact q', l⟩
  | .g, e1, q, same => exact ⟨d, c, n, B0, H0, B, ρ, E, S, cr, by have q' : v (ρ.set i (some .g)) E := q; rw [same] at q'; exact q', l⟩
  | .h, e1, q, same => exact ⟨d, c, n, B0, H0, B, ρ, E, S, cr, by have q' : v (ρ.set i (some .h)) E := q; rw [same] at q'; exact q', l⟩
  | .z ds, e1, q, same => exact ⟨d, c, n, B0, H0, B, ρ, E, S, cr, by have q' : v (ρ.set i (some (.z ds))) E := q; rw [same] at q'; exact q', l⟩
end
/-! ### what is walked -/
def wLen (N : Nat) (wi : IW) : IW := fun ρ Q E => wi ρ (fun ds => ds.length ≤ N ∧ Q ds) E
def TCiF (K : Frag) (W : WX) (k : Cost) (w : IW) : TI := fun σ H Q => ∃ (d c : Addr) (n : Nat) (B0 H0 B : Hp) (ρ : Rho) (Qd : List D → Prop) (Qe : Value → Prop), Stt K (srcB d c) B0 H0 B H σ ρ ∧ srcOk d c (k.f n) H ∧ w ρ Qd Qe ∧
  (∀ ds J B' H', Stt K (srcB d c) B0 H0 B' H' σ ρ → Stp (srcB d c) B H B' H' → (∀ m, ItD K (srcG d c m) (LatF (srcG d c m) B0 H0 B') J ds) → srcOk d c n H' → Qd ds → Q J H') ∧ (∀ cls dd B' H', Qe cls → Stt K (srcB d c) B0 H0 B' H' σ ρ → Stp (srcB d c) B H B' H' → srcOk d c n H' → W cls dd σ H')
def TCiC (K : Frag) (W : WX) (k : Cost) (w : IW) : TI := fun σ H Q => ∃ (d c : Addr) (n : Nat) (B0 H0 B : Hp) (ρ : Rho) (Qd : List D → Prop) (Qe : Value → Prop), Stt K (srcB d c) B0 H0 B H σ ρ ∧ srcOk d c (k.f n) H ∧ w ρ Qd Qe ∧
  (∀ ds J B' H', Stt K (srcB d c) B0 H0 B' H' σ ρ → Stp (srcB d c) B H B' H' → (∀ m, ItD K (srcG d c m) (LatC (srcG d c m) B' H') J ds) → srcOk d c n H' → Qd ds → Q J H') ∧ (∀ cls dd B' H', Qe cls → Stt K (srcB d c) B0 H0 B' H' σ ρ → Stp (srcB d c) B H B' H' → srcOk d c n H' → W cls dd σ H')
abbrev PICC (X : Cx) (W : WX) (k : Cost) (tg e : Expr) (w : IW) : Prop := PI X tg e (TCiC X.K W k w)
abbrev PIFC (X : Cx) (W : WX) (k : Cost) (tg e : Expr) (w : IW) : Prop := PI X tg e (TCiF X.K W k w)
section
variable {X : Cx} {W : WX} {tg e a b : Expr} {w : EW} {ws : AW} {wi : IW} {k k1 k2 k3 : Cost}
theorem picc_seq (h : PC X W k e w) : PICC X W k tg e (wSeqC w) := pi_imp (pi_any h) fun σ H Q ⟨d, c, n, B0, H0, B, ρ, Qd, Qe, S, cr, q, ok, er⟩ => by
  refine ⟨d, c, n, B0, H0, B, ρ, _, Qe, S, cr, q, fun r x B' H' S' s r' c' q' => ?_, er⟩
  obtain ⟨ds, e1, q'⟩ := q'
  cases r with
  | s z =>
    cases z with
    | list es =>
      cases e1
      cases (show Dp X.K B' x (.list ds) from r') with
      | lst h1 h2 =>
        exact ⟨_, rfl, .inl ⟨⟨_, Same.sqL (S'.bh.trans (hide_le H')) h1⟩, ok _ _ _ _ S' s (fun m => itd_list fun B2 H2 ⟨l1, l2, l3⟩ => ⟨Same.sqL (l2.trans (hide_le H2)) (Same.sqL l1.bb h1), DpAll.mono l1.bb h2, l2, l3⟩) c' q'⟩⟩
    | tuple es =>
      cases e1
      cases (show Dp X.K B' x (.tuple ds) from r') with
      | tup h1 h2 =>
        exact ⟨_, rfl, .inr ⟨⟨_, Same.sqT (S'.bh.trans (hide_le H')) h1.t⟩, ok _ _ _ _ S' s (fun m => itd_tup fun B2 H2 ⟨l1, l2, l3⟩ => ⟨Same.sqT (l2.trans (hide_le H2)) (Same.sqT l1.bb h1.t), DpAll.mono l1.bb h2, l2, l3⟩) c' q'⟩⟩
    | _ => cases e1
  | l own es =>
    cases e1
    obtain ⟨p, xs, rfl, h1, h2, _⟩ := r'
    exact ⟨p, rfl, .inl ⟨⟨xs, .inl (.inl (hide_some h1).2)⟩, ok _ _ _ _ S' s (fun m => itd_list fun B2 H2 ⟨l1, l2, l3⟩ => ⟨.inl (.inl (hide_some (l1.hh _ _ h1)).2), DpAll.mono l1.bb h2, l2, l3⟩) c' q'⟩⟩
  | _ => cases e1
theorem pifc_seq (h : PC X W k e w) : PIFC X W k tg e (wSeqF w) := pi_imp (pi_any h) fun σ H Q ⟨d, c, n, B0, H0, B, ρ, Qd, Qe, S, cr, q, ok, er⟩ => by
  refine ⟨d, c, n, B0, H0, B, ρ, _, Qe, S, cr, q, fun r x B' H' S' s r' c' q' => ?_, er⟩
  obtain ⟨ds, e1, q'⟩ := q'
  cases r with
  | s z =>
    cases z with
    | list es =>
      cases e1
      cases (show Dp X.K B' x (.list ds) from r') with
      | lst h1 h2 =>
        exact ⟨_, rfl, .inl ⟨⟨_, Same.sqL (S'.bh.trans (hide_le H')) h1⟩, ok _ _ _ _ S' s (fun m => itd_list fun B2 H2 ⟨l1, l2, l3, _⟩ => ⟨Same.sqL (l2.trans (hide_le H2)) (Same.sqL l1 h1), DpAll.mono l1 h2, l2, l3⟩) c' q'⟩⟩
    | tuple es =>
      cases e1
      cases (show Dp X.K B' x (.tuple ds) from r') with
      | tup h1 h2 =>
        exact ⟨_, rfl, .inr ⟨⟨_, Same.sqT (S'.bh.trans (hide_le H')) h1.t⟩, ok _ _ _ _ S' s (fun m => itd_tup fun B2 H2 ⟨l1, l2, l3, _⟩ => ⟨Same.sqT (l2.trans (hide_le H2)) (Same.sqT l1 h1.t), DpAll.mono l1 h2, l2, l3⟩) c' q'⟩⟩
    | _ => cases e1
  | _ => cases e1
theorem picc_range1 (h : PI X tg e (iRng1 (TCa X.K W k ws))) : PICC X W k tg e (wRange1 ws) := pi_imp h fun σ H Q ⟨d, c, n, B0, H0, B, ρ, Qd, Qe, S, cr, q, ok, er⟩ => by
  refine ⟨d, c, n, B0, H0, B, ρ, _, Qe, S, cr, q, fun rs xs B' H' S' s r' _ c' q' => ?_, er⟩
  obtain ⟨n, rfl, h1, h2, q'⟩ := q'
  obtain ⟨x, rfl, r1⟩ := r'.one
  cases r1.int
  exact ⟨n, rfl, h1, h2, ok _ _ _ _ S' s (fun m => itd_range fun B2 H2 ⟨_, l2, l3⟩ => ⟨l2, l3⟩) c' q'⟩
theorem picc_range2 (h : PI X tg e (iRng2 (TCa X.K W k ws))) : PICC X W k tg e (wRange2 ws) := pi_imp h fun σ H Q ⟨d, c, n, B0, H0, B, ρ, Qd, Qe, S, cr, q, ok, er⟩ => by
  refine ⟨d, c, n, B0, H0, B, ρ, _, Qe, S, cr, q, fun rs xs B' H' S' s r' _ c' q' => ?_, er⟩
  obtain ⟨m, n, rfl, h1, q'⟩ := q'
  obtain ⟨x, y, rfl, r1, r2⟩ := r'.two
  cases r1.int; cases r2.int
  exact ⟨m, n, rfl, h1, ok _ _ _ _ S' s (fun m => itd_range fun B2 H2 ⟨_, l2, l3⟩ => ⟨l2, l3⟩) c' q'⟩
theorem pifc_range1 (h : PI X tg e (iRng1 (TCa X.K W k ws))) : PIFC X W k tg e (wRange1 ws) := pi_imp h fun σ H Q ⟨d, c, n, B0, H0, B, ρ, Qd, Qe, S, cr, q, ok, er⟩ => by
  refine ⟨d, c, n, B0, H0, B, ρ, _, Qe, S, cr, q, fun rs xs B' H' S' s r' _ c' q' => ?_, er⟩
  obtain ⟨n, rfl, h1, h2, q'⟩ := q'
  obtain ⟨x, rfl, r1⟩ := r'.one
  cases r1.int
  exact ⟨n, rfl, h1, h2, ok _ _ _ _ S' s (fun m => itd_range fun B2 H2 ⟨_, l2, l3, _⟩ => ⟨l2, l3⟩) c' q'⟩
theorem pifc_range2 (h : PI X tg e (iRng2 (TCa X.K W k ws))) : PIFC X W k tg e (wRange2 ws) := pi_imp h fun σ H Q ⟨d, c, n, B0, H0, B, ρ, Qd, Qe, S, cr, q, ok, er⟩ => by
  refine ⟨d, c, n, B0, H0, B, ρ, _, Qe, S, cr, q, fun rs xs B' H' S' s r' _ c' q' => ?_, er⟩
  obtain ⟨m, n, rfl, h1, q'⟩ := q'
  obtain ⟨x, y, rfl, r1, r2⟩ := r'.two
  cases r1.int; cases r2.int
  exact ⟨m, n, rfl, h1, ok _ _ _ _ S' s (fun m => itd_range fun B2 H2 ⟨_, l2, l3, _⟩ => ⟨l2, l3⟩) c' q'⟩
/-! ### for -/
theorem rep_at {k : Cost} {n N i L : Nat} (h : i < L) : n + (L - i) * k.f 0 = k.f (n + (L - (i + 1)) * k.f 0) := by
  rw [k.sum (n + (L - (i + 1)) * k.f 0), show L - i = (L - (i + 1)) + 1 by omega, Nat.succ_mul]
  omega
theorem psc_for {N : Nat} {g : GW} {v : SW} {st : Stmt} (h : PS X st (tFor (TCiF X.K W k1 wi) (TDg X.K g) (TCs X.K W k2 v))) : PSC X W (k1.seq (k2.rep N)) st (wFor (wLen N wi) g v) := ps_imp h fun D σ H ⟨d, c, n, B0, H0, B, ρ, E, S, cr, q, l⟩ => by
  refine ⟨d, c, n + N * k2.f 0, B0, H0, B, ρ, _, _, S, cr, q, fun ds J B1 H1 S1 s1 it c1 ⟨hN, P, p0, turn, done⟩ => ?_, fun cls dd B' H' q' S' s c' => l.er cls dd ρ σ B' H' S' s.bb (c'.less (Nat.le_add_right _ _)) q'⟩
  refine ⟨fun i m σ H => m = ds.length - i ∧ i ≤ ds.length ∧ ∃ B' ρ', Stt X.K (srcB d c) B0 H0 B' H σ ρ' ∧ Same B1 B' ∧ srcOk d c (n + (ds.length - i) * k2.f 0) H ∧ P i ρ', ⟨_, rfl, Nat.zero_le _, B1, ρ, S1, Same.refl _, c1.less (Nat.add_le_add_left (Nat.mul_le_mul_right _ (by omega)) _), p0⟩, ?_⟩
  rintro i m σ2 H2 ⟨rfl, hi, B2, ρ2, S2, s2, c2, p2⟩
  by_cases hlt : i < ds.length
  · rw [rep_at (N := N) hlt] at c2
    have S2' := S2.re c2
    have lat : LatF (srcG d c (k2.f (n + (ds.length - (i + 1)) * k2.f 0))) B0 H0 B1 B2 H2 := ⟨s2, S2'.bh, S2'.gok, S2'.st⟩
    refine .inr ⟨(it _).go i _ _ lat hlt, fun σ' H' => i + 1 ≤ ds.length ∧ ∃ B' ρ', Stt X.K (srcB d c) B0 H0 B' H' σ' ρ' ∧ Same B1 B' ∧ srcOk d c (n + (ds.length - (i + 1)) * k2.f 0) H' ∧ P (i + 1) ρ', fun σ' H' ⟨z1, z2⟩ => ⟨ds.length - (i + 1), by omega, rfl, z1, z2⟩, fun x H' y => ?_⟩
    obtain ⟨dd, B3, e1, e2, s3, b3, g3⟩ := (it _).yld i _ _ x H' lat hlt y
    have S3 := S2'.step s3 b3 g3
    refine ⟨srcG d c (k2.f (n + (ds.length - (i + 1)) * k2.f 0)), B0, H0, B3, ρ2, dd, _, S3, e2, turn i dd ρ2 e1 p2, fun ρ4 σ4 B4 H4 S4 s4 q4 => ⟨d, c, n + (ds.length - (i + 1)) * k2.f 0, B0, H0, B4, ρ4, _, S4.b, S4.gok, q4, ?_⟩⟩
    have s14 := (s2.trans s3.bb).trans s4
    have s04 := s1.bb.trans s14
    have lem := l.more (Nat.le_add_right n ((ds.length - (i + 1)) * k2.f 0))
    exact ⟨fun ρ' σ' B' H' S' s c' q' => ⟨hlt, B', ρ', S', s14.trans s, c', q'⟩, fun ρ' σ' B' H' S' s c' q' => lem.nx _ _ _ _ S' (s04.trans s) c' q', fun ρ' σ' B' H' S' s c' q' => ⟨hlt, B', ρ', S', s14.trans s, c', q'⟩, lem.rt, fun cls dd ρ' σ' B' H' S' s c' q' => lem.er cls dd ρ' σ' B' H' S' (s04.trans s) c' q'⟩
  · have e : i = ds.length := by omega
    subst e
    have c3 : srcOk d c n H2 := c2.less (Nat.le_add_right _ _)
    have S2' := S2.re c3
    exact .inl ⟨(it n).stop _ _ ⟨s2, S2'.bh, S2'.gok, S2'.st⟩, l.nx _ _ _ _ S2 (s1.bb.trans s2) c3 (done ρ2 p2)⟩
end
/-! ### comprehensions -/
abbrev PCts (X : Cx) (k : Cost) (ifs : List Expr) (wt : TW) : Prop := PTs X ifs (TCt X.K W0 k wt)
theorem pcts_of {X : Cx} {ifs : List Expr} {wt : TW} (h : PDts X ifs wt) : PCts X .nil ifs wt := pts_imp h fun σ H Q ⟨d, c, n, B0, H0, B, ρ, Qd, Qe, S, cr, q, ok, er⟩ =>
  ⟨srcG d c n, B0, H0, B, ρ, Qd, Qe, S.re cr, q, fun b B' H' S' s q' => ok b B' H' S'.b s.re S'.gok q', fun cls dd B' H' q' S' s => er cls dd B' H' q' S'.b s.re S'.gok⟩
theorem pcts_one {X : Cx} {k : Cost} {c : Expr} {wt : TW} (h : PCt X W0 k c wt) : PCts X k [c] wt := pts_one h
theorem lc_core_c {K : Frag} {W : WX} {k1 k2 k3 : Cost} {N : Nat} {wi : IW} {tup : Bool} {is vs : List Nat} {wt : TW} {we : EW} (hsub : ∀ i ∈ is, i ∈ vs) (h1 : tup = true ∨ ∃ i, is = [i]) :
    ∀ σ H Q, TCe K W (k1.seq ((k2.seq k3).rep N)) (wLc (wLen N wi) tup is vs wt we) σ H Q → tLc (TCiC K W k1 wi) (gC K tup is) (TCt K W0 k2 wt) (TCe K W0 k3 we) vs σ H Q := by
  rintro σ H Q ⟨d, c, n, B0, H0, B, ρ, Qd, Qe, S, cr, q, ok, er⟩
  refine ⟨d, c, n + N * (k2.seq k3).f 0, B0, H0, B, ρ, _, Qe, S, cr, q, fun ds J B1 H1 S1 s1 it c1 ⟨hN, P, p0, turn, done⟩ => ?_, erC er (Stp.refl ..) (Nat.le_add_right _ _)⟩
  intro Dl hD
  have dG : Dl ∉ (srcB d c).at_ := S1.notG hD
  have d0 : hide (srcB d c) H0 Dl = none := S1.st.hh.free (hide_free hD)
  have dS : hide (srcB d c) H Dl = none := s1.hh.free (hide_free hD)
  have aw : ∀ (j : Nat) (r : R), ρ[j]? = some (some r) → owns r = true → σ[j]? ≠ some (some (.ref Dl)) := fun j r e1 o e2 => by
    obtain ⟨x, f1, f2⟩ := S1.sl j r e1
    rw [e2] at f1; cases f1
    obtain ⟨p, u, ep, k1, _⟩ := f2.own o
    cases ep
    rw [hD] at k1; cases k1
  refine ⟨fun i m H => m = ds.length - i ∧ i ≤ ds.length ∧ ∃ (B' : Hp) (av : List V) (acc : List D), Stt K (srcB d c) B0 H0 B' H σ ρ ∧ Stp (srcB d c) B1 H1 B' H ∧ H Dl = some (.lst av) ∧ DpAll K B' av acc ∧ B' Dl = none ∧ srcOk d c (n + (ds.length - i) * (k2.seq k3).f 0) H ∧ P i acc,
    ⟨_, rfl, Nat.zero_le _, B1, [], [], S1.new hD, Stp.new hD, upd_same, .nil, S1.freeB hD, ghost_upd (G := srcG d c _) dG (c1.less (Nat.add_le_add_left (Nat.mul_le_mul_right _ (by omega)) _)), p0⟩, ?_⟩
  rintro i m H2 ⟨rfl, hi, B2, av, acc, S2, s2, hd, ha, hb, c2, p2⟩
  by_cases hlt : i < ds.length
  · rw [rep_at (N := N) hlt] at c2
    have S2' := S2.re c2
    have lat : LatC (srcG d c ((k2.seq k3).f (n + (ds.length - (i + 1)) * (k2.seq k3).f 0))) B1 H1 B2 H2 := ⟨s2.re, S2'.bh, S2'.gok⟩
    refine .inr ⟨(it _).go i _ _ lat hlt, fun H' => i + 1 ≤ ds.length ∧ ∃ (B' : Hp) (av : List V) (acc : List D), Stt K (srcB d c) B0 H0 B' H' σ ρ ∧ Stp (srcB d c) B1 H1 B' H' ∧ H' Dl = some (.lst av) ∧ DpAll K B' av acc ∧ B' Dl = none ∧ srcOk d c (n + (ds.length - (i + 1)) * (k2.seq k3).f 0) H' ∧ P (i + 1) acc, fun H' ⟨z1, z2⟩ => ⟨ds.length - (i + 1), by omega, rfl, z1, z2⟩, fun x H3 y => ?_⟩
    obtain ⟨dd, B3, e1, e2, s3', b3, g3⟩ := (it _).yld i _ _ x H3 lat hlt y
    have s3 : Stp (srcB d c) B2 H2 B3 H3 := s3'.re
    have S3 : Stt K (srcB d c) B0 H0 B3 H3 σ ρ := S2.step s3 b3 (srcOk.less g3 (Nat.zero_le _))
    have trk : hide (srcB d c) H2 Dl = some (.lst av) := by rw [hide_out dG]; exact hd
    have q3 := turn i acc dd e1 p2
    have fin : ∀ (xs : List V) (es : List D), DpAll K B3 xs es → (∀ i ∈ is, i < ρ.length) → wt (putA (wipeR ρ vs) is es) (fun b => if b = true then we (putA (wipeR ρ vs) is es) (fun r => ∃ z, r.dat = some z ∧ acc.length < 16777216 ∧ P (i + 1) (acc ++ [z])) (fun _ => False) else P (i + 1) acc) (fun _ => False) →
        (wipe (putV (wipe σ vs) is xs) vs = wipe σ vs ∧ TCt K W0 k2 wt (putV (wipe σ vs) is xs) H3 fun b H4 => if b = true then TCe K W0 k3 we (putV (wipe σ vs) is xs) H4 fun y H5 => ∃ acc, H5 Dl = some (.lst acc) ∧ acc.length < sizeLine ∧
          (i + 1 ≤ ds.length ∧ ∃ (B' : Hp) (av : List V) (acc' : List D), Stt K (srcB d c) B0 H0 B' (upd H5 Dl (.lst (acc ++ [y]))) σ ρ ∧ Stp (srcB d c) B1 H1 B' (upd H5 Dl (.lst (acc ++ [y]))) ∧ (upd H5 Dl (.lst (acc ++ [y]))) Dl = some (.lst av) ∧ DpAll K B' av acc' ∧ B' Dl = none ∧ srcOk d c (n + (ds.length - (i + 1)) * (k2.seq k3).f 0) (upd H5 Dl (.lst (acc ++ [y]))) ∧ P (i + 1) acc')
          else (i + 1 ≤ ds.length ∧ ∃ (B' : Hp) (av : List V) (acc : List D), Stt K (srcB d c) B0 H0 B' H4 σ ρ ∧ Stp (srcB d c) B1 H1 B' H4 ∧ H4 Dl = some (.lst av) ∧ DpAll K B' av acc ∧ B' Dl = none ∧ srcOk d c (n + (ds.length - (i + 1)) * (k2.seq k3).f 0) H4 ∧ P (i + 1) acc)) := by
      intro xs es hx hl q
      refine ⟨wipe_putV is xs _ (wipe_wipe vs fun _ h => h) hsub, ?_⟩
      have T3 : Stt K (srcB d c) B0 H0 B3 H3 (putV (wipe σ vs) is xs) (putA (wipeR ρ vs) is es) := Stt.putA is (S3.wipe vs) hx fun i hi => by rw [wipeR_length]; exact hl i hi
      refine ⟨d, c, k3.f (n + (ds.length - (i + 1)) * (k2.seq k3).f 0), B0, H0, B3, _, _, _, T3, g3, q, fun b B4 H4 T4 s4 c4 q4 => ?_, fun _ _ _ _ z => z.elim⟩
      have S4 := S3.step s4 T4.bh T4.gok
      cases b with
      | false => exact iteF ⟨hlt, B4, av, acc, S4, (s2.trans s3).trans s4, (hide_some (s4.hh _ _ (s3.hh _ _ trk))).2, DpAll.mono (s3.bb.trans s4.bb) ha, s4.nw _ _ (s3.nw _ _ hb trk) (s3.hh _ _ trk), c4.less (k3.le _), (if_neg Bool.false_ne_true).mp q4⟩
      | true =>
        refine iteT ⟨d, c, (n + (ds.length - (i + 1)) * (k2.seq k3).f 0), B0, H0, B4, _, _, _, T4, c4, (if_pos rfl).mp q4, fun r y B5 H5 T5 s5 r5 c5 ⟨z, ez, hlen, p5⟩ => ?_, fun _ _ _ _ z => z.elim⟩
        have S5 := S4.step s5 T5.bh T5.gok
        have t5 := s5.hh _ _ (s4.hh _ _ (s3.hh _ _ trk))
        have h5 : H5 Dl = some (.lst av) := (hide_some t5).2
        have b5 : B5 Dl = none := s5.nw _ _ (s4.nw _ _ (s3.nw _ _ hb trk) (s3.hh _ _ trk)) (s4.hh _ _ (s3.hh _ _ trk))
        have s15 := ((s2.trans s3).trans s4).trans s5
        refine ⟨av, h5, by rw [line_eq, ha.length]; exact hlen, hlt, B5, av ++ [y], acc ++ [z], S5.side b5 dG d0 aw, ⟨s15.bb, fun b v e => ?_, s15.nw⟩, upd_same, (DpAll.mono ((s3.bb.trans s4.bb).trans s5.bb) ha).append (.cons (r5.dat ez) .nil), b5, ghost_upd (G := srcG d c _) dG c5, p5⟩
        rw [hide_upd dG, upd_ne (ne_of_none e (hide_free hD))]
        exact s15.hh _ _ e
    cases tup with
    | true =>
      obtain ⟨es, rfl, hn, hl, q4⟩ := (if_pos rfl).mp q3
      cases e2 with
      | tup k1 k2 => exact ⟨_, _, rfl, (k1.up (b3.trans (hide_le H3))).t, k2.length.trans hn, gNames_ok is _ _ _ _ (k2.length.trans hn) (fin _ es k2 hl q4)⟩
    | false =>
      rcases h1 with h1 | ⟨i1, rfl⟩
      · cases h1
      · obtain ⟨hl, q4⟩ := (if_neg Bool.false_ne_true).mp q3
        exact fin [x] [dd] (.cons e2 .nil) hl q4
  · have e : i = ds.length := by omega
    subst e
    have c3 : srcOk d c n H2 := c2.less (Nat.le_add_right _ _)
    have S2' := S2.re c3
    refine .inl ⟨(it n).stop _ _ ⟨s2.re, S2'.bh, S2'.gok⟩, ok (.l true acc) (.ref Dl) B2 H2 S2 (s1.trans s2) ⟨Dl, av, rfl, by rw [hide_out dG]; exact hd, ha, fun _ => ⟨hb, dS⟩⟩ c3 (done acc p2)⟩
section
variable {X : Cx} {W : WX} {e : Expr} {st : Stmt} {wi : IW} {tup : Bool} {is vs : List Nat} {wt : TW} {we : EW} {k1 k2 k3 : Cost} {N : Nat}
theorem pc_lc (h : PE X e (tLc (TCiC X.K W k1 wi) (gC X.K tup is) (TCt X.K W0 k2 wt) (TCe X.K W0 k3 we) vs)) (hsub : ∀ i ∈ is, i ∈ vs) (h1 : tup = true ∨ ∃ i, is = [i]) : PC X W (k1.seq ((k2.seq k3).rep N)) e (wLc (wLen N wi) tup is vs wt we) :=
  pe_imp h (lc_core_c hsub h1)
theorem psc_setLc {i : Nat} (h : PS X st (tAsg (tLc (TCiC X.K W k1 wi) (gC X.K tup is) (TCt X.K W0 k2 wt) (TCe X.K W0 k3 we) vs) (gName i))) (hsub : ∀ i ∈ is, i ∈ vs) (h1 : tup = true ∨ ∃ i, is = [i]) : PSC X W (k1.seq ((k2.seq k3).rep N)) st (wAsg i (wLc (wLen N wi) tup is vs wt we)) :=
  psc_set (ps_imp h fun D σ H q => lc_core_c hsub h1 σ H _ q)
end
/-! ### defs, calls -/
def spC (K : Frag) (k : Cost) (c : Ct) : Sp := fun vs H Q E => ∃ (d cc : Addr) (n : Nat) (F : Hp) (rs : List R) (Qd : R → Prop) (Qe : Value → Prop), Same F (hide (srcB d cc) H) ∧ srcOk d cc (k.f n) H ∧ RsAll K (srcB d cc) H F H vs (rs.map peek) ∧ c (rs.map peek) Qd Qe ∧
  (∀ r x F' H', Stp (srcB d cc) F H F' H' → Same F' (hide (srcB d cc) H') → srcOk d cc n H' → Rs K (srcB d cc) H F' H' x r → Qd r → Q x H') ∧ (∀ cls dd F' H', Stp (srcB d cc) F H F' H' → Same F' (hide (srcB d cc) H') → srcOk d cc n H' → Qe cls → E cls dd H')
theorem fnC {P : Program} {wd : World} {K : Frag} {mg : Str → Option Value} {base : Heap} {x qual : Str} {st : Stmt} {f : Addr} {fd : FuncData} {N ps : List Str} {k : Nat} {ck : Cost} {c : Ct} {w : SW} (F : Fun K x qual st f fd) (S : FnScope N ps (defScope st))
    (hlen : ∀ rs Q E, c rs Q E → rs.length = ps.length)
    (hb : ∀ (cdv : Value) (A : Around) (outer : List Env) (s : Shared) (H : Hp) (E : XK), Room k (A.deeper (envOfC qual (defScope st) s.heap.objs.size f cdv)) →
      PSCs (cxOf (L2.CX P wd) P wd K mg base N qual (defScope st) f cdv A outer s H E) (fun cls d _ H => E cls d H) ck (defBody st) w)
    (hw : ∀ rs Q E, c rs Q E → w (rho N.length rs) { nx := fun _ => Q (.s .none), rt := Q, er := fun cls _ => E cls }) : FnOk P wd K mg base (L2.CX P wd) (k + 1) f fd ps (spC K ck c) := by
  refine F.okX S (fun vs H Q E h => ?_) (fun cdv A outer s H vs Q E hr h => ?_)
  · obtain ⟨d, cc, n, F', rs, Qd, Qe, _, _, h1, h2, _⟩ := h
    exact h1.length.trans (hlen _ _ _ h2)
  · obtain ⟨d, cc, n, F', rs, Qd, Qe, s0, g0, h1, h2, ok, er⟩ := h
    refine ⟨_, hb cdv A outer s H E hr, d, cc, n, F', H, F', _, _, stt_start s0 (g0.less (Nat.zero_le _)) h1, g0, hw _ _ _ h2, ?_⟩
    exact ⟨fun ρ' σ' B' H' S' s c' q => ok (.s .none) .non B' H' S'.st S'.bh c' .non q, fun _ _ _ _ _ _ _ q => q.elim, fun _ _ _ _ _ _ _ q => q.elim, fun r x B' H' s b g r' q => ok r x B' H' s b g r' q, fun cls dd ρ' σ' B' H' S' s c' q => er cls dd B' H' S'.st S'.bh c' q⟩
theorem pc_call {X : Cx} {W : WX} {e : Expr} {k k1 : Cost} {c : Ct} {ws : AW} (h : PE X e (tCallS (spC X.K k c) (WE W) (TCa X.K W k1 ws))) : PC X W (k1.seq k) e (wCall c ws) :=
  pe_imp h fun σ H Q ⟨d, cc, n, B0, H0, B, ρ, Qd, Qe, S, cr, q, ok, er⟩ => by
    refine ⟨d, cc, k.f n, B0, H0, B, ρ, _, Qe, S, cr, q, fun rs xs B1 H1 S1 s1 r1 _ c1 q1 => ?_, erC er (Stp.refl ..) (k.le n)⟩
    exact ⟨d, cc, n, B1, rs, Qd, Qe, S1.bh, c1, r1.peek, q1, fun r x F' H' s b g r' q' => ok r x F' H' (S1.step s b (g.less (Nat.zero_le _))) (s1.trans s) (r'.from s1) g q', fun cls dd F' H' s b g q' => er cls dd F' H' q' (S1.step s b (g.less (Nat.zero_le _))) (s1.trans s) g⟩
/-- a def that takes no draws, its arguments do -/
theorem pc_callP {X : Cx} {W : WX} {e : Expr} {k1 : Cost} {c : Ct} {ws : AW} (h : PE X e (tCallS (spD X.K c) (WE W) (TCa X.K W k1 ws))) : PC X W k1 e (wCall c ws) :=
  pe_imp h fun σ H Q ⟨d, cc, n, B0, H0, B, ρ, Qd, Qe, S, cr, q, ok, er⟩ => by
    refine ⟨d, cc, n, B0, H0, B, ρ, _, Qe, S, cr, q, fun rs xs B1 H1 S1 s1 r1 _ c1 q1 => ?_, er⟩
    exact ⟨srcG d cc n, B1, rs, Qd, Qe, S1.bh, c1, r1.re.peek, q1, fun r x F' H' s b g r' q' => ok r x F' H' (((S1.re c1).step s b g).b) (s1.trans s.re) (Rs.from (Rs.re r') s1) g q', fun cls dd F' H' s b g q' => er cls dd F' H' q' (((S1.re c1).step s b g).b) (s1.trans s.re) g⟩
end DL

set_option Elab.async false
set_option linter.all false
set_option maxRecDepth 100000
/-! The data layer: the source of drawn numbers. -/
namespace DL
open PySem PySem.Spec PyProof.Rows L2
section
variable {X : Cx}
/-- x[k], x a dict of one's own, k there -/
def rIxK : R2 := fun x y H Q => ∃ p kvs k v, x = .ref p ∧ y = kV k ∧ H p = some (.dK kvs) ∧ valV kvs k = some v ∧ Q v H
theorem ix_dk (hu : X.A.units + 64 < cLine) : IxR X rIxK := by
  intro value slice pins s σ H x y v u Q I rx ry hh hs
  obtain ⟨p, kvs, k, z, rfl, rfl, h5, h3, q⟩ := hh
  have h7 : DGet H p (kV k) (some z) := h3 ▸ DGet.k h5
  cases rx
  have hT : s.TypeIs (.ref p) "dict" := by
    obtain ⟨_, _, _, _, dd⟩ := dk_rd I.hok (.inl h5)
    exact dd.typeIs
  exact tail_any hT slot_dict_getitem.lookup (d_getItem (by omega) I h7 ry fun w' s' I' rw' => ⟨z, H, I', rw', q⟩) hs
end
/-- the source's dict -/
def sKv (c : Addr) (i : Nat) (t : Int) : List (Key × V) := [(.inr "cells", .ref c), (.inr "at", .int i), (.inr "turn", .int t)]
theorem n_ca : ¬ (("cells" : Str) = "at") := by decide
theorem n_ct : ¬ (("cells" : Str) = "turn") := by decide
theorem n_at : ¬ (("at" : Str) = "turn") := by decide
theorem n_ta : ¬ (("turn" : Str) = "at") := by decide
section
variable (c : Addr) (i j : Nat) (t u : Int)
theorem sKv_cells : valV (sKv c i t) (.inr "cells") = some (.ref c) := by simp [sKv, valV, n_ca, n_ct, n_at, n_ta]
theorem sKv_at : valV (sKv c i t) (.inr "at") = some (.int i) := by simp [sKv, valV, n_ca, n_ct, n_at, n_ta]
theorem sKv_turn : valV (sKv c i t) (.inr "turn") = some (.int t) := by simp [sKv, valV, n_ca, n_ct, n_at, n_ta]
theorem sKv_pa : putK (sKv c i t) (.inr "at") (.int j) = sKv c j t := by simp [sKv, putK, n_ca, n_ct, n_at, n_ta]
theorem sKv_pt : putK (sKv c i t) (.inr "turn") (.int u) = sKv c i u := by simp [sKv, putK, n_ca, n_ct, n_at, n_ta]
theorem sKv_len : (sKv c i t).length < sizeLine := by rw [sizeLine_eq]; show 3 < 16777216; decide
theorem sKv_mk : mergeK [] [(.inr "cells", .ref c), (.inr "at", .int i), (.inr "turn", .int t)] = sKv c i t := by simp [sKv, mergeK, putK, n_ca, n_ct, n_at, n_ta]
end
structure SrcAt (d c : Addr) (H : Hp) (cells : List Int) (i : Nat) (t : Int) : Prop where
  h1 : H d = some (.dK (sKv c i t))
  h2 : H c = some (.lst (cells.map V.int))
  h3 : ∀ x ∈ cells, 0 ≤ x ∧ x < 10 ^ 60
  hi : i < cells.length
  len : cells.length ≤ 63
  t0 : 0 ≤ t
section
variable {d c p : Addr} {H : Hp} {cells : List Int} {i j n : Nat} {t u x : Int} {o : HO}
theorem SrcAt.ne (s : SrcAt d c H cells i t) : d ≠ c := ne_of s.h1 s.h2 (by intro z; cases z)
theorem SrcAt.of (h : srcOk d c n H) : ∃ cells i t, SrcAt d c H cells i t ∧ t + (n : Int) ≤ srcTop := by
  obtain ⟨cells, i, t, h1, h2, h3, h4, h5, h6, h7⟩ := h
  exact ⟨cells, i, t, ⟨h1, h2, h3, h4, h5, h6⟩, h7⟩
theorem SrcAt.ok (s : SrcAt d c H cells i t) (h : t + (n : Int) ≤ srcTop) : srcOk d c n H := ⟨cells, i, t, s.h1, s.h2, s.h3, s.hi, s.len, s.t0, h⟩
theorem SrcAt.setT (s : SrcAt d c H cells i t) (h : 0 ≤ u) : SrcAt d c (upd H d (.dK (sKv c i u))) cells i u :=
  ⟨upd_same, by rw [upd_ne s.ne.symm]; exact s.h2, s.h3, s.hi, s.len, h⟩
theorem SrcAt.setA (s : SrcAt d c H cells i t) (h : j < cells.length) : SrcAt d c (upd H d (.dK (sKv c j t))) cells j t :=
  ⟨upd_same, by rw [upd_ne s.ne.symm]; exact s.h2, s.h3, h, s.len, s.t0⟩
theorem SrcAt.setC (s : SrcAt d c H cells i t) (k : Nat) (h : 0 ≤ x) (h' : x < 10 ^ 60) : SrcAt d c (upd H c (.lst ((cells.map V.int).set k (.int x)))) (cells.set k x) i t :=
  ⟨by rw [upd_ne s.ne]; exact s.h1, by rw [upd_same, List.map_set], fun y hy => by
    rcases List.mem_or_eq_of_mem_set hy with hy | rfl
    · exact s.h3 y hy
    · exact ⟨h, h'⟩, by rw [List.length_set]; exact s.hi, by rw [List.length_set]; exact s.len, s.t0⟩
theorem SrcAt.cell (s : SrcAt d c H cells i t) : ∃ x, cells[i]? = some x ∧ (cells.map V.int)[i]? = some (.int x) ∧ 0 ≤ x ∧ x < 10 ^ 60 := by
  refine ⟨cells[i]'s.hi, List.getElem?_eq_getElem s.hi, by rw [List.getElem?_map, List.getElem?_eq_getElem s.hi]; rfl, ?_⟩
  exact s.h3 _ (List.getElem_mem s.hi)
theorem hide_src {H' : Hp} {m : Nat} (hs : ∀ b, b ∉ [d, c] → H' b = H b) : hide (srcG d c m) H' = hide (srcG d c m) H := by
  funext z
  by_cases q : z ∈ (srcG d c m).at_
  · rw [hide_in q, hide_in q]
  · rw [hide_out q, hide_out q, hs z q]
end
/-- what a draw hands back -/
def c_draw : Ct := fun rs Q _ => ∃ n : Int, rs = [.h, .s (.int n)] ∧ 0 < n ∧ n < 1073741824 ∧ ∀ r : Int, 0 ≤ r → r < n → Q (.s (.int r))
theorem srcTop_abs {t : Int} (h0 : 0 ≤ t) (h : t ≤ srcTop) : t.natAbs < 2 ^ 4001 := by
  have e : ((t.natAbs : Nat) : Int) ≤ ((2 ^ 4000 : Nat) : Int) := by
    rw [Int.natAbs_of_nonneg h0, Int.natCast_pow]
    exact h
  have e2 : t.natAbs ≤ 2 ^ 4000 := Int.ofNat_le.mp e
  exact Nat.lt_of_le_of_lt e2 (Nat.pow_lt_pow_right (by decide) (by decide))
theorem le_srcTop {m : Nat} (h : m ≤ 2 ^ 200) : (m : Int) ≤ srcTop := by
  have e : m ≤ 2 ^ 4000 := Nat.le_trans h (Nat.pow_le_pow_right (by decide) (by decide))
  have e2 : (m : Int) ≤ ((2 ^ 4000 : Nat) : Int) := Int.ofNat_le.mpr e
  rw [Int.natCast_pow] at e2
  exact e2
theorem mul_turn {t : Int} (h0 : 0 ≤ t) (h : t ≤ srcTop) : CMulW t t := wide_mul (srcTop_abs h0 h) (srcTop_abs h0 h) (by decide) (by decide) (by decide)
/-! ### the source is made; the law's start -/
def spSrc (K : Frag) : Sp := fun vs H Q _ => ∃ (a : Addr) (ns : List Int), vs = [.ref a] ∧ SqL K H a (ns.map V.int) ∧ ns.length ≤ 63 ∧
  ∀ (H' : Hp) (d c : Addr) (cells : List Int), Same H H' → H d = none → H c = none → SrcAt d c H' cells 0 0 → Q (.ref d) H'
def tSrcC : TE := tOp (rI (fun _ j => 0 < j) fun i j => .int (i % j)) (tCB (fun xs H Q => (∃ i, xs = [.int i] ∧ Q (.int i) H) ∨ ∃ k, xs = [.bl k] ∧ Q (.int (if k then 1 else 0)) H) (tCons (tVar 2) tNil)) (tOp (rI CPow fun i j => .int (i ^ j.toNat)) (tC (.int 10)) (tC (.int 60)))
theorem src_read {K : Frag} {H : Hp} {vs : List V} {Q : VK} {E : XK} {nx : L2.St → Hp → Prop} (h : spSrc K vs H Q E) :
    tSeq (tAsg (tLc (iList K (tSl (rSlL K) (tVar 0) tNoPart (tPart (tC (.int 63))))) (gName 2) tYes tSrcC [2]) (gName 1))
      (tSeq (tIfS (tTest (tOp (rEqD K) (tVar 1) (tLst tNil))) (tAsg (tLst (tCons (tC (.int 0)) tNil)) (gName 1)) tNext)
        (tRet (tDisp [(tC (.str "cells"), tVar 1), (tC (.str "at"), tC (.int 0)), (tC (.str "turn"), tC (.int 0))]))) { nx := nx, rt := Q } (L2.start ["script", "cells", "cell"] vs) H := by
  obtain ⟨a, ns, rfl, hS, hl, k⟩ := h
  refine ⟨_, rfl, _, rfl, a, _, rfl, hS, fun p hp => ?_⟩
  rw [cut63 hl]
  have s1 : Same H (upd H p (.lst (ns.map V.int))) := fun b o e => by rw [upd_ne (ne_of_none e hp)]; exact e
  refine ⟨p, rfl, ⟨_, .inl (.inl upd_same)⟩, fun D hD => ?_⟩
  have npD : p ≠ D := fun e => by rw [← e, upd_same] at hD; cases hD
  have hD0 : H D = none := by rw [upd_ne npD.symm] at hD; exact hD
  refine lc_list (K := K) (a := p) (xs := ns.map V.int) (fun i H' => ∃ cells : List Int, H' = upd (upd H p (.lst (ns.map V.int))) D (.lst (cells.map V.int)) ∧ cells.length ≤ i ∧ ∀ x ∈ cells, 0 ≤ x ∧ x < 10 ^ 60) ⟨[], rfl, Nat.le_refl _, fun x hx => by cases hx⟩ ?_ ?_ ?_
  · rintro i H' _ ⟨cells, rfl, _⟩
    exact .inl (.inl (by rw [upd_ne npD, upd_same]))
  · rintro i x H' hi ⟨cells, rfl, hc, hb⟩
    obtain ⟨z, rfl⟩ : ∃ z, x = V.int z := by
      rw [List.getElem?_map] at hi
      cases e : ns[i]? with
      | none => rw [e] at hi; cases hi
      | some z => rw [e] at hi; exact ⟨z, (Option.some.inj hi).symm⟩
    have hi63 : i < ns.length := by
      have q := (List.getElem?_eq_some_iff.mp hi).1
      rw [List.length_map] at q
      exact q
    refine ⟨rfl, ?_⟩
    unfold tYes
    refine iteT ?_
    refine ⟨_, rfl, .inl ⟨_, rfl, _, _, rfl, rfl, by unfold CPow; decide, _, _, rfl, rfl, (by show (0 : Int) < _; decide), cells.map V.int, upd_same, by rw [List.length_map, line_eq]; omega, cells ++ [z % 10 ^ 60], ?_, by simp; omega, fun y hy => ?_⟩⟩
    · rw [upd_upd, List.map_append]
      rfl
    · rcases List.mem_append.mp hy with hy | hy
      · exact hb y hy
      · have e : y = z % 10 ^ 60 := by simpa using hy
        rw [e]
        exact ⟨Int.emod_nonneg _ (by decide), Int.emod_lt_of_pos _ (by decide)⟩
  · rintro H' ⟨cells, rfl, hc, hb⟩
    rw [List.length_map] at hc
    -- the list stands in slot 1
    have fin : ∀ (H1 : Hp) (c : Addr) (cells : List Int), Same H H1 → H c = none → H1 c = some (.lst (cells.map V.int)) → (∀ x ∈ cells, 0 ≤ x ∧ x < 10 ^ 60) → 0 < cells.length → cells.length ≤ 63 →
        tRet (tDisp [(tC (.str "cells"), tVar 1), (tC (.str "at"), tC (.int 0)), (tC (.str "turn"), tC (.int 0))]) { nx := nx, rt := Q } [some (.ref a), some (.ref c), none] H1 := by
      intro H1 c cells sm hc0 hc1 hb h0 h63 q hq
      have nqc : q ≠ c := fun e => by rw [e, hc1] at hq; cases hq
      have hq0 : H q = none := by
        cases e : H q with
        | none => rfl
        | some o => rw [sm _ _ e] at hq; cases hq
      refine ⟨_, rfl, upd_same, [(.inr "cells", .ref c), (.inr "at", .int 0), (.inr "turn", .int 0)], rfl, by show 3 ≤ 15; decide, ?_⟩
      rw [upd_upd, show mergeK [] [(Sum.inr "cells", V.ref c), (.inr "at", .int 0), (.inr "turn", .int 0)] = sKv c 0 0 from sKv_mk c 0 0]
      refine k _ q c cells (fun b o e => ?_) hq0 hc0 ⟨upd_same, by rw [upd_ne nqc.symm]; exact hc1, hb, h0, h63, Int.le_refl 0⟩
      rw [upd_ne (ne_of_none e hq0)]
      exact sm _ _ e
    have s2 : Same H (upd (upd H p (.lst (ns.map V.int))) D (.lst (cells.map V.int))) := fun b o e => by
      rw [upd_ne (ne_of_none e hD0)]; exact s1 b o e
    refine ⟨_, rfl, Nat.zero_le _, fun q hq => ?_⟩
    have nqD : q ≠ D := fun e => by rw [e, upd_same] at hq; cases hq
    refine ⟨_, _, .lst (.inl (.inl (by rw [upd_ne nqD.symm, upd_same]))) (old_ints cells), .lst (.inl (.inl upd_same)) .nil, sh_ints cells, by decide, _, rfl, ?_⟩
    rw [eqv_nil]
    have s3 : ∀ {H1 : Hp}, Same H H1 → H1 q = none → Same H (upd H1 q (.lst [])) := fun {H1} e hn b o h => by
      rw [upd_ne (ne_of_none (e b o h) hn)]; exact e b o h
    refine ite2 (fun he => ?_) (fun he => ?_)
    · refine ⟨by show 1 ≤ sizeLine; decide, fun r hr => ?_⟩
      have hr0 : H r = none := by
        cases e : H r with
        | none => rfl
        | some o => rw [s3 s2 hq _ _ e] at hr; cases hr
      refine fin _ r [0] (fun b o e => ?_) hr0 upd_same (fun x hx => ?_) (by decide) (by decide)
      · rw [upd_ne (ne_of_none e hr0)]; exact s3 s2 hq _ _ e
      · have : x = 0 := by simpa using hx
        subst this
        exact ⟨by decide, by decide⟩
    · refine fin _ D cells (s3 s2 hq) hD0 (by rw [upd_ne nqD.symm, upd_same]) hb ?_ (by omega)
      cases cells with
      | nil => simp at he
      | cons x xs => simp
theorem law_readC {K : Frag} {H : Hp} {vs : List V} {Q : VK} {E : XK} {nx : L2.St → Hp → Prop} {N : List Str} {w : SW} {kb : Cost} (hN : 2 ≤ N.length) (hk : (kb.f 0 : Int) ≤ srcTop) (h : spLaw K vs H Q E)
    (hw : ∀ ns : List Int, ns.length ≤ 63 → w (some (.s (.list (ns.map PyData.int))) :: some .h :: List.replicate (N.length - 2) none) { nx := fun _ => False, rt := fun r => r = .s (.bool true) }) :
    tSeq (tAsg (tCallS (spSrc K) (WE W0) (tCons (tVar 0) tNil)) (gName 1)) (TCs K W0 kb w) { nx := nx, rt := Q } (L2.start N vs) H := by
  obtain ⟨a, ns, rfl, hS, hl, k⟩ := h
  refine ⟨_, rfl, a, ns, rfl, hS, hl, fun H1 d c cells s ha hc at0 => ?_⟩
  have nin : ∀ b o, H b = some o → b ∉ (srcB d c).at_ := fun b o e z => by
    rcases List.mem_cons.mp z with rfl | z
    · rw [ha] at e; cases e
    · rcases List.mem_cons.mp z with rfl | z
      · rw [hc] at e; cases e
      · cases z
  have hS' : SqL K (hide (srcB d c) H1) a (ns.map V.int) := by
    rcases hS with (h | ⟨o, h⟩) | h
    · exact .inl (.inl (by rw [hide_out (nin _ _ h)]; exact s _ _ h))
    · exact .inl (.inr ⟨o, by rw [hide_out (nin _ _ h)]; exact s _ _ h⟩)
    · exact .inr h
  have cr : srcOk d c (kb.f 0) H1 := at0.ok (by rw [Int.zero_add]; exact hk)
  refine ⟨d, c, 0, hide (srcB d c) H1, H1, hide (srcB d c) H1, _, _, ?_, cr, hw ns hl, ⟨fun _ _ _ _ _ _ _ z => z.elim, fun _ _ _ _ _ _ _ z => z.elim, fun _ _ _ _ _ _ _ z => z.elim, fun r x B' H' _ _ _ r' z => ?_, fun _ _ _ _ _ _ _ _ _ z => z.elim⟩⟩
  · refine ⟨?_, Same.refl _, cr.less (Nat.zero_le _), Stp.refl .., fun i r e => ?_, fun i j r u x _ e1 _ o1 _ _ _ => ?_⟩
    · unfold L2.start
      simp
      omega
    · match i, e with
      | 0, e => cases e; exact ⟨.ref a, by unfold L2.start; simp, .lst hS' (DpAll.ints ns)⟩
      | 1, e =>
        cases e
        refine ⟨.ref d, ?_, d, c, 0, rfl, rfl⟩
        rw [List.getElem?_set_self]
        unfold L2.start
        simp
        omega
      | i + 2, e =>
        have : some r ∈ List.replicate (N.length - 2) (none : Option R) := List.mem_of_getElem? (i := i) (by simpa using e)
        exact nomatch List.eq_of_mem_replicate this
    · match i, e1 with
      | 0, e => cases e; cases o1
      | 1, e => cases e; cases o1
      | i + 2, e =>
        have : some r ∈ List.replicate (N.length - 2) (none : Option R) := List.mem_of_getElem? (i := i) (by simpa using e)
        exact nomatch List.eq_of_mem_replicate this
  · subst z
    cases (show Dp K B' x (.bool true) from r')
    exact k _
end DL

set_option Elab.async false
set_option linter.all false
set_option maxRecDepth 100000
/-! The data layer: sorted of a tuple. -/
namespace DL
open PySem PySem.Spec PyProof.Rows PySem.W L2
section
variable {prog : Program} {w : World} {A : Around} {E : Value → Shared → Prop} {s : Shared}
theorem collect_tup {l : Addr} {vs : List Value} {o : Obj} {n : Nat} {Q : List Value → Shared → Prop} (ho : s.heap.get? l = some o) (hc : o.cls = .type "tuple") (hd : o.data = .seq vs.toArray n)
    (h : Q vs { s with heap := (s.heap.push (seqObj "list" #[] 0)).update s.heap.objs.size (Obj.mapSeq (· ++ vs.toArray)) }) (hsz : vs.length ≤ sizeLine) :
    wpAny (model prog w) A (collect (.ref l)) Q E s := by
  unfold collect
  refine wpAny_bind (wpAny_runValue (codeAny_builtin entry_proto_collect' ?_))
  show wpAny _ _ (do again (.builtin "list.__iadd__" ⟨[← newList [], .ref l], []⟩)) _ _ s
  refine wpAny_bind (wpAny_newList (wpAny_pure ⟨Code.quiet_builtin _ (by decide +kernel), codeAny_builtin entry_list_iadd' ?_⟩))
  show wpAny _ _ (Builtin.List.listExtendWith (.ref s.heap.objs.size) (.ref l) (.ref s.heap.objs.size)) _ _ { s with heap := s.heap.push (seqObj "list" #[] 0) }
  unfold Builtin.List.listExtendWith
  have ho' : (s.heap.push (seqObj "list" #[] 0)).get? l = some o := Heap.get?_push_of_some _ ho
  refine wpAny_bind (wpAny_typeOf (T := "tuple") ⟨o, ho', hc⟩ ?_)
  have ht : (Value.type "tuple" == Value.type "tuple") = true := by rfl
  rw [if_pos (by rw [ht]; simp)]
  refine wpAny_bind (listItems_at ho' hd ?_)
  refine wpAny_bind (listItems_at (xs := #[]) (n := 0) (Heap.get?_push_size _ rfl) rfl ?_)
  rw [if_neg (by simp)]
  refine wpAny_bind (listUpdate_at (xs := #[]) (n := 0) (Heap.get?_push_size _ rfl) rfl ?_ (Nat.zero_le _) (by show (#[] ++ vs.toArray).size ≤ sizeLine + 1; simp only [Array.size_append, List.size_toArray, List.length_nil]; omega))
  refine wpAny_pure ?_
  show wpAny (model prog w) A (do
      let o ← load s.heap.objs.size
      match o.data with
      | .seq xs _ => pure xs.toList
      | _ => unsupported "internal:collect") Q E { s with heap := (s.heap.push (seqObj "list" #[] 0)).update s.heap.objs.size (Obj.mapSeq (· ++ vs.toArray)) }
  refine wpAny_bind (wpAny_load (get?_update_seq (Heap.get?_push_size _ rfl) _) ?_)
  show wpAny _ _ (pure ((#[] : Array Value) ++ vs.toArray).toList) Q E _
  rw [show ((#[] : Array Value) ++ vs.toArray).toList = vs by simp]
  exact wpAny_pure h
theorem sortedT_of_sort {l : Addr} {vs : List Value} {o : Obj} {n : Nat} {Q : Value → Shared → Prop} (ho : s.heap.get? l = some o) (hc : o.cls = .type "tuple") (hd : o.data = .seq vs.toArray n) (hL : vs.length ≤ sizeLine)
    (body : ∀ E' : Value → Shared → Prop, wpAny (model prog w) A.in1.in1 (Builtin.«list.sort» ⟨[.ref (s.heap.objs.size + 1)], []⟩) (fun f s' => f = .done (.ret .none) ∧ Q (.ref (s.heap.objs.size + 1)) s') E' { s with heap := copyHeap s.heap vs }) :
    wpAny (model prog w) A (call (.builtin "sorted") [.ref l]) Q E s := by
  refine Calls.call_function_entry kind_sorted plain_sorted entry_sorted (args_sorted1 _) ?_
  unfold Builtin.«sorted»
  refine wpAny_bind (m := checkCount "sorted" 1 1 _) (wpAny_pure ?_)
  refine wpAny_bind (collect_tup ho hc hd ?_ hL)
  refine wpAny_bind (wpAny_newList ?_ hL)
  have hsz : ((s.heap.push (seqObj "list" #[] 0)).update s.heap.objs.size (Obj.mapSeq (· ++ vs.toArray))).objs.size = s.heap.objs.size + 1 := by
    rw [Heap.size_update, size_push']
  show wpAny _ _ _ _ _ { s with heap := copyHeap s.heap vs }
  rw [hsz]
  refine wpAny_bind (wpAny_holding (wpAny_call_entry_kw slot_list_sort ⟨_, copyHeap_at s.heap vs, rfl⟩ entry_list_sort ?body (args_list_sort _)))
  case body =>
    show wpAny (model prog w) A.in1.in1 (Builtin.«list.sort» ⟨[.ref (s.heap.objs.size + 1)], []⟩) _ _ _
    refine wpAny_mono (body _) (fun f s' hf => ?_) fun _ _ e => e
    obtain ⟨rfl, hq⟩ := hf
    exact ⟨_, rfl, wpAny_pure ⟨_, rfl, hq⟩⟩
theorem sortedT_data {β : Type} {vs : List Value} {bs : List β} {enc : β → PyData} {R : Value → β → Prop} {l : Addr} {o : Obj} {n : Nat} {Q : Value → Shared → Prop} (ho : s.heap.get? l = some o) (hc : o.cls = .type "tuple") (hd : o.data = .seq vs.toArray n)
    (e : EachIs R vs bs) (er : EachIs (fun v b => ∃ as, Reads s.heap v (enc b) as) vs bs) (hal : AllAlike (bs.map enc)) (hk : Sortable (bs.map enc)) (hL : bs.length ≤ sizeLine)
    (hu : ∀ b, b ∈ bs → A.units + 2 + (enc b).depth < cLine) (h : ∀ out, out.length = bs.length → EachIs R out (bs.mergeSort (dataLe false enc)) → Q (.ref (s.heap.objs.size + 1)) { s with heap := sortedAll s.heap vs (List.toArray out) }) :
    wpAny (model prog w) A (call (.builtin "sorted") [.ref l]) Q E s := by
  have er' : EachIs (fun v b => ∃ as, Reads (sortingHeap (copyHeap s.heap vs) (s.heap.objs.size + 1) vs) v (enc b) as) vs bs := er.mono fun _ _ ⟨as, r⟩ => ⟨as, PyProof.Rows.Reads.keeps (fun _ _ => sorting_copy_old) r⟩
  have hL' : vs.length ≤ sizeLine := by rw [e.length]; exact hL
  exact sortedT_of_sort ho hc hd hL' fun _ => list_sort_vals (s := { s with heap := copyHeap s.heap vs }) (copyHeap_at s.heap vs)
    (SortsAt.data (s := { s with heap := sortingHeap (copyHeap s.heap vs) (s.heap.objs.size + 1) vs }) (each_map (R := fun v d => ∃ as, Reads (sortingHeap (copyHeap s.heap vs) (s.heap.objs.size + 1) vs) v d as) enc er') hal hk (bound_map hu)) hL'
    ⟨rfl, h _ (by rw [sortVals_length false rfl]; exact e.length) (sortVals_data false e er' hal)⟩
end
def fSortT : FL := fun rs Q => ∃ ds, rs = [.s (.tuple ds)] ∧ SrtOk ds ∧ Q (.l true (sortD ds))
theorem c_sortT {X : Cx} (hu : X.A.units + 64 < cLine) : CallR X (.builtin "sorted") (liftL X.K fSortT) := by
  intro pins s σ H xs us Q I rx hh
  obtain ⟨G, Hs, B, rs, Qd, c, ra, ⟨ds, rfl, so, q⟩, k⟩ := hh
  obtain ⟨x, rfl, r1⟩ := ra.one
  obtain ⟨u, rfl, rx'⟩ := vals1 rx
  obtain ⟨p, xs, rfl, h1, h2⟩ := r1.tup
  cases rx'
  obtain ⟨o, its, n, ho, hn, hd, _, rv⟩ := (h1.up c.le).obj I
  have hc : o.cls = .type "tuple" := hn.1
  have ev := vd_all rv h2
  refine sortedT_data (enc := id) (R := Vd X.K B) (vs := its.toList) ho hc hd ev (vd_reads I c.le ev fun d hd => (so.ly d hd).1) (by rw [List.map_id]; exact so.al) (by rw [List.map_id]; exact so.so) (by rw [line_eq]; exact so.ln) (fun d hd => ?_) fun out ho eo => ?_
  · have := (so.ly d hd).2
    show X.A.units + 2 + d.depth < cLine
    omega
  · obtain ⟨ys, ry, hy⟩ := vd_back eo
    obtain ⟨n, at'⟩ := sortedAll_at s.heap its.toList (List.toArray out)
    have hp : H (s.heap.objs.size + 1) = none := I.hok.fresh (Nat.le_succ _)
    refine ⟨.ref (s.heap.objs.size + 1), upd H (s.heap.objs.size + 1) (.lst ys), I.laid (t' := s.toks) (fun b o e => sortedAll_old e) (Nat.le_succ _) ⟨?_, out, n, ry, at'⟩, rfl, k.lst c hp hy q⟩
    rw [ry.length, ho, line_eq]
    exact so.ln
theorem fSortT_t (ds : List D) (Q : R → Prop) : fSortT [.s (.tuple ds)] Q = (SrtOk ds ∧ Q (.l true (sortD ds))) := propext ⟨fun ⟨_, e, h⟩ => by cases e; exact h, fun h => ⟨_, rfl, h⟩⟩
theorem draw_at (Q : R → Prop) (E : Value → Prop) (i : Int) : c_draw [.h, .s (.int i)] Q E = (0 < i ∧ i < 1073741824 ∧ ∀ r : Int, 0 ≤ r → r < i → Q (.s (.int r))) := propext ⟨fun ⟨_, e, h⟩ => by cases e; exact h, fun h => ⟨_, rfl, h⟩⟩
theorem u_len (N : Nat) (wi : IW) (ρ : Rho) (Q : List D → Prop) (E : Value → Prop) : wLen N wi ρ Q E = wi ρ (fun ds => ds.length ≤ N ∧ Q ds) E := rfl
theorem ixN_at {n j : Nat} (hj : j < n) : ixN n (j : Int) = some j := by
  unfold ixN
  rw [if_pos (by omega), if_pos (by omega), Int.toNat_natCast]
end DL

set_option Elab.async false
set_option linter.all false
set_option maxRecDepth 100000
/-! The data layer: max with a default; comprehensions with two generators. -/
namespace DL
open PySem PySem.Spec PyProof.Rows L2
/-! ### a built-in with keywords -/
abbrev FK := List R → List R → (R → Prop) → Prop
def liftK (K : Frag) (f : FK) : List V → List V → Hp → VK → Prop := fun xs zs H Q => ∃ G Hs B rs us Qd, Ctx K G B H ∧ RsAll K G Hs B H xs rs ∧ RsAll K G Hs B H zs us ∧ f rs us Qd ∧ Cont K G B H Qd Q
def wCallK (f : FK) (ws us : AW) : EW := fun ρ Q E => ws ρ (fun rs => us ρ (fun zs => f rs zs Q) E) E
theorem pd_callK {X : Cx} {W : WX} {e : Expr} {f : FK} {ws us : AW} (h : PE X e (tCKw (liftK X.K f) (TDa X.K W ws) (TDa X.K W us))) : PD X W e (wCallK f ws us) :=
  pe_imp h fun σ H Q ⟨G, B0, H0, B, ρ, Qd, Qe, S, q, ok, er⟩ => by
    refine ⟨G, B0, H0, B, ρ, _, Qe, S, q, fun rs xs B1 H1 S1 s1 r1 _ q1 => ?_, er⟩
    refine ⟨G, B0, H0, B1, ρ, _, Qe, S1, q1, fun us zs B2 H2 S2 s2 r2 _ q2 => ?_, erT er s1⟩
    exact ⟨G, H, B2, rs, us, _, ⟨S2.bh, S2.gok⟩, r1.step s2, r2.from s1, q2, fun r3 z B3 H3 s3 bh gk rz qz => ok _ _ _ _ (S2.step s3 bh gk) ((s1.trans s2).trans s3) (rz.from (s1.trans s2)) qz⟩
/-- the greatest one, or what is told for none -/
def topI : List Int → Int → Int
  | [], d => d
  | n :: ns, _ => ns.foldl max n
def fMaxD : FK := fun rs us Q => ∃ (o : Bool) (ns : List Int) (d : Int), rs = [.l o (ns.map PyData.int)] ∧ us = [.s (.int d)] ∧ Q (.s (.int (topI ns d)))
theorem ints_read {h : Heap} : ∀ {us : List Value} {ns : List Int}, IntsAre us ns → ReadsAll h us (ns.map PyData.int) []
  | _, _, .nil => .nil
  | _, _, .cons n t r => .cons (as := []) (bs := []) (.int n t) (ints_read r)
theorem depth_ints (ns : List Int) : PyData.depthAll (ns.map PyData.int) = 0 := by
  induction ns with
  | nil => simp [PyData.depthAll]
  | cons n ns ih => rw [List.map_cons, PyData.depthAll, ih]; simp [PyData.depth]
theorem c_maxD {X : Cx} (hc : X.calm = true) (hu : X.A.units + 64 < cLine) : CallRK X (.builtin "max") ["default"] (liftK X.K fMaxD) := by
  intro pins s σ H xs zs us ws Q I rx rz hh
  obtain ⟨G, Hs, B, rs, ds, Qd, c, ra, rb, ⟨o, ns, d, rfl, rfl, q⟩, k⟩ := hh
  obtain ⟨x, rfl, p, vs, rfl, h1, h2, _⟩ := ra.one
  obtain ⟨y, rfl, ry⟩ := rb.one
  cases ry.int
  cases h2.ints'
  obtain ⟨its, rv, hl, _⟩ := I.list (.inl (.inl (hide_some h1).2))
  obtain ⟨u, rfl, t, rfl⟩ := vals1 rz
  rw [Vals.ref1 rx]
  have up : ∀ {h' : Heap} {tk : Nat}, (∀ b o, s.heap.get? b = some o → h'.get? b = some o) → Inv X pins σ H { s with heap := h', toks := tk } := fun hk => I.kept hk
  refine PySem.W.max_list_default (vs := its.toArray) (xs := ns.map PyData.int) (as := []) (I.ok.hd hc) hl.isList (ints_read rv.ints) ⟨fun a ha b hb => ?_, fun a ha => ?_⟩ (by rw [depth_ints]; omega) (fun e h' tk hk => ?_) fun y ys i v h' tk bs e hi r hk => ?_
  · obtain ⟨i, _, rfl⟩ := List.mem_map.mp ha
    obtain ⟨j, _, rfl⟩ := List.mem_map.mp hb
    simp [PySem.W.alike]
  · obtain ⟨i, _, rfl⟩ := List.mem_map.mp ha
    exact fun z => nomatch z
  · obtain rfl : ns = [] := List.map_eq_nil_iff.mp e
    exact ⟨.int d, H, up hk, ⟨t, rfl⟩, k.dat c (.int _) q⟩
  · cases ns with
    | nil => cases e
    | cons n ns =>
      rw [List.map_cons] at e
      injection e with e1 e2
      subst e1 e2
      rw [PySem.W.maxD_ints] at r
      cases r
      exact ⟨.int _, H, up hk, ⟨_, rfl⟩, k.dat c (.int _) q⟩
/-! ### [elt for names in wi if wt for names1 in wi1 if wt1] -/
def wLc2 (wi : IW) (tup : Bool) (is : List Nat) (wt : TW) (wi1 : IW) (tup1 : Bool) (is1 : List Nat) (wt1 : TW) (we : EW) (vs vs1 : List Nat) : EW := fun ρ Q E => wi ρ (fun ds => ∃ P : Nat → List D → Prop, P 0 [] ∧
  (∀ k acc d, ds[k]? = some d → P k acc → gwNames tup is d fun es => (∀ i ∈ is, i < ρ.length) ∧ wt (putA (wipeR ρ vs) is es) (fun b => if b = true then wi1 (putA (wipeR ρ vs) is es) (fun ds1 => ∃ P1 : Nat → List D → Prop, P1 0 acc ∧
    (∀ j acc1 d1, ds1[j]? = some d1 → P1 j acc1 → gwNames tup1 is1 d1 fun es1 => (∀ i ∈ is1, i < ρ.length) ∧ wt1 (putA (wipeR (putA (wipeR ρ vs) is es) vs1) is1 es1) (fun b => if b = true then we (putA (wipeR (putA (wipeR ρ vs) is es) vs1) is1 es1) (fun r => ∃ z, r.dat = some z ∧ acc1.length < 16777216 ∧ P1 (j + 1) (acc1 ++ [z])) (fun _ => False) else P1 (j + 1) acc1) (fun _ => False)) ∧
    ∀ acc1, P1 ds1.length acc1 → P (k + 1) acc1) (fun _ => False) else P (k + 1) acc) (fun _ => False)) ∧
  ∀ acc, P ds.length acc → Q (.l true acc)) E
theorem putA_length : ∀ (ρ : Rho) (is : List Nat) (es : List D), (putA ρ is es).length = ρ.length
  | ρ, [], es => by cases es <;> rfl
  | ρ, i :: is, [] => rfl
  | ρ, i :: is, e :: es => by
    show (putA (ρ.set i (some (.s e))) is es).length = _
    rw [putA_length, List.length_set]
theorem lc2_core_d {K : Frag} {W : WX} {wi wi1 : IW} {tup tup1 : Bool} {is is1 vs vs1 : List Nat} {wt wt1 : TW} {we : EW} (hsub : ∀ i ∈ is, i ∈ vs) (hsub1 : ∀ i ∈ is1, i ∈ vs1) (h1 : tup = true ∨ ∃ i, is = [i]) (h2 : tup1 = true ∨ ∃ i, is1 = [i]) :
    ∀ σ H Q, TDe K W (wLc2 wi tup is wt wi1 tup1 is1 wt1 we vs vs1) σ H Q → tLc2 (TDiC K W wi) (gC K tup is) (TDt K W0 wt) (TDiF K W0 wi1) (gC K tup1 is1) (TDt K W0 wt1) (TDe K W0 we) vs vs1 σ H Q := by
  rintro σ H Q ⟨G, B0, H0, B, ρ, Qd, Qe, S, q, ok, er⟩
  refine ⟨G, B0, H0, B, ρ, _, Qe, S, q, fun ds J B1 H1 S1 s1 it ⟨P, p0, turn, done⟩ => ?_, er⟩
  intro Dl hD
  have dG : Dl ∉ G.at_ := S1.notG hD
  have d0 : hide G H0 Dl = none := S1.st.hh.free (hide_free hD)
  have dS : hide G H Dl = none := s1.hh.free (hide_free hD)
  have aw : ∀ (j : Nat) (r : R), ρ[j]? = some (some r) → owns r = true → σ[j]? ≠ some (some (.ref Dl)) := fun j r e1 o e2 => by
    obtain ⟨x, f1, f2⟩ := S1.sl j r e1
    rw [e2] at f1; cases f1
    obtain ⟨p, u, ep, k1, _⟩ := f2.own o
    cases ep
    rw [hD] at k1; cases k1
  refine ⟨fun i m H => m = ds.length - i ∧ i ≤ ds.length ∧ ∃ (B' : Hp) (av : List V) (acc : List D), Stt K G B0 H0 B' H σ ρ ∧ Stp G B1 H1 B' H ∧ H Dl = some (.lst av) ∧ DpAll K B' av acc ∧ B' Dl = none ∧ P i acc,
    ⟨_, rfl, Nat.zero_le _, B1, [], [], S1.new hD, Stp.new hD, upd_same, .nil, S1.freeB hD, p0⟩, ?_⟩
  rintro i m H2 ⟨rfl, hi, B2, av, acc, S2, s2, hd, ha, hb, p2⟩
  have lat : LatC G B1 H1 B2 H2 := ⟨s2, S2.bh, S2.gok⟩
  by_cases hlt : i < ds.length
  · refine .inr ⟨it.go i _ _ lat hlt, fun H' => i + 1 ≤ ds.length ∧ ∃ (B' : Hp) (av : List V) (acc : List D), Stt K G B0 H0 B' H' σ ρ ∧ Stp G B1 H1 B' H' ∧ H' Dl = some (.lst av) ∧ DpAll K B' av acc ∧ B' Dl = none ∧ P (i + 1) acc, fun H' ⟨z1, z2⟩ => ⟨ds.length - (i + 1), by omega, rfl, z1, z2⟩, fun x H3 y => ?_⟩
    obtain ⟨d, B3, e1, e2, s3, b3, g3⟩ := it.yld i _ _ x H3 lat hlt y
    have S3 := S2.step s3 b3 g3
    have trk : hide G H2 Dl = some (.lst av) := by rw [hide_out dG]; exact hd
    have q3 := turn i acc d e1 p2
    have fin : ∀ (xs : List V) (es : List D), DpAll K B3 xs es → (∀ i ∈ is, i < ρ.length) →
        wt (putA (wipeR ρ vs) is es) (fun b => if b = true then wi1 (putA (wipeR ρ vs) is es) (fun ds1 => ∃ P1 : Nat → List D → Prop, P1 0 acc ∧
          (∀ j acc1 d1, ds1[j]? = some d1 → P1 j acc1 → gwNames tup1 is1 d1 fun es1 => (∀ i ∈ is1, i < ρ.length) ∧ wt1 (putA (wipeR (putA (wipeR ρ vs) is es) vs1) is1 es1) (fun b => if b = true then we (putA (wipeR (putA (wipeR ρ vs) is es) vs1) is1 es1) (fun r => ∃ z, r.dat = some z ∧ acc1.length < 16777216 ∧ P1 (j + 1) (acc1 ++ [z])) (fun _ => False) else P1 (j + 1) acc1) (fun _ => False)) ∧
          ∀ acc1, P1 ds1.length acc1 → P (i + 1) acc1) (fun _ => False) else P (i + 1) acc) (fun _ => False) →
        (wipe (putV (wipe σ vs) is xs) vs = wipe σ vs ∧ TDt K W0 wt (putV (wipe σ vs) is xs) H3 fun b H3' =>
          if b = true then TDiF K W0 wi1 (putV (wipe σ vs) is xs) H3' fun J1 H4 => ∃ W1 : Nat → Nat → Hp → Prop, (∃ m, W1 0 m H4) ∧ ∀ j k H, W1 j k H →
            (J1.stop j H ∧ (i + 1 ≤ ds.length ∧ ∃ (B' : Hp) (av : List V) (acc : List D), Stt K G B0 H0 B' H σ ρ ∧ Stp G B1 H1 B' H ∧ H Dl = some (.lst av) ∧ DpAll K B' av acc ∧ B' Dl = none ∧ P (i + 1) acc)) ∨
            (J1.go j H ∧ ∃ Nx1 : Hp → Prop, (∀ H', Nx1 H' → ∃ k', k' < k ∧ W1 (j + 1) k' H') ∧ ∀ x H', J1.yld j H x H' → gC K tup1 is1 x (wipe (putV (wipe σ vs) is xs) vs1) H' fun σ3 H5 => wipe σ3 vs1 = wipe (putV (wipe σ vs) is xs) vs1 ∧ TDt K W0 wt1 σ3 H5 fun b H6 =>
              if b = true then TDe K W0 we σ3 H6 fun y H7 => ∃ acc, H7 Dl = some (.lst acc) ∧ acc.length < sizeLine ∧ Nx1 (upd H7 Dl (.lst (acc ++ [y]))) else Nx1 H6)
          else (i + 1 ≤ ds.length ∧ ∃ (B' : Hp) (av : List V) (acc : List D), Stt K G B0 H0 B' H3' σ ρ ∧ Stp G B1 H1 B' H3' ∧ H3' Dl = some (.lst av) ∧ DpAll K B' av acc ∧ B' Dl = none ∧ P (i + 1) acc)) := by
      intro xs es hx hl q
      refine ⟨wipe_putV is xs _ (wipe_wipe vs fun _ h => h) hsub, ?_⟩
      have mk : ∀ {B' H' : Hp}, Stt K G B0 H0 B' H' σ ρ → DpAll K B' xs es → Stt K G B0 H0 B' H' (putV (wipe σ vs) is xs) (putA (wipeR ρ vs) is es) := fun S' hx' => Stt.putA is (S'.wipe vs) hx' fun i hi => by rw [wipeR_length]; exact hl i hi
      refine ⟨G, B0, H0, B3, _, _, _, mk S3 hx, q, fun b B4 H4 T4 s4 q4 => ?_, fun _ _ _ _ z => z.elim⟩
      have S4 := S3.step s4 T4.bh T4.gok
      have t4 := s4.hh _ _ (s3.hh _ _ trk)
      have b4 : B4 Dl = none := s4.nw _ _ (s3.nw _ _ hb trk) (s3.hh _ _ trk)
      cases b with
      | false => exact iteF ⟨hlt, B4, av, acc, S4, (s2.trans s3).trans s4, (hide_some t4).2, DpAll.mono (s3.bb.trans s4.bb) ha, b4, (if_neg Bool.false_ne_true).mp q4⟩
      | true =>
        refine iteT ⟨G, B0, H0, B4, _, _, _, T4, (if_pos rfl).mp q4, fun ds1 J1 B5 H5 T5 s5 it1 ⟨P1, p10, turn1, done1⟩ => ?_, fun _ _ _ _ z => z.elim⟩
        have S5 := S4.step s5 T5.bh T5.gok
        have t5 := s5.hh _ _ t4
        have b5 : B5 Dl = none := s5.nw _ _ b4 t4
        have s15 := ((s2.trans s3).trans s4).trans s5
        refine ⟨fun j k H => k = ds1.length - j ∧ j ≤ ds1.length ∧ ∃ (B' : Hp) (av : List V) (acc1 : List D), Stt K G B0 H0 B' H σ ρ ∧ Stp G B1 H1 B' H ∧ Same B5 B' ∧ H Dl = some (.lst av) ∧ DpAll K B' av acc1 ∧ B' Dl = none ∧ DpAll K B' xs es ∧ P1 j acc1,
          ⟨_, rfl, Nat.zero_le _, B5, av, acc, S5, s15, Same.refl _, (hide_some t5).2, DpAll.mono ((s3.bb.trans s4.bb).trans s5.bb) ha, b5, DpAll.mono (s4.bb.trans s5.bb) hx, p10⟩, ?_⟩
        rintro j k H6 ⟨rfl, hj, B6, av6, acc6, S6, s6, m6, hd6, ha6, hb6, hx6, p6⟩
        have lat6 : LatF G B0 H0 B5 B6 H6 := ⟨m6, S6.bh, S6.gok, S6.st⟩
        by_cases jlt : j < ds1.length
        · refine .inr ⟨it1.go j _ _ lat6 jlt, fun H' => j + 1 ≤ ds1.length ∧ ∃ (B' : Hp) (av : List V) (acc1 : List D), Stt K G B0 H0 B' H' σ ρ ∧ Stp G B1 H1 B' H' ∧ Same B5 B' ∧ H' Dl = some (.lst av) ∧ DpAll K B' av acc1 ∧ B' Dl = none ∧ DpAll K B' xs es ∧ P1 (j + 1) acc1, fun H' ⟨z1, z2⟩ => ⟨ds1.length - (j + 1), by omega, rfl, z1, z2⟩, fun x7 H7 y7 => ?_⟩
          obtain ⟨d7, B7, e71, e72, s7, b7, g7⟩ := it1.yld j _ _ x7 H7 lat6 jlt y7
          have S7 := S6.step s7 b7 g7
          have trk6 : hide G H6 Dl = some (.lst av6) := by rw [hide_out dG]; exact hd6
          have t7 := s7.hh _ _ trk6
          have hb7 : B7 Dl = none := s7.nw _ _ hb6 trk6
          have q7 := turn1 j acc6 d7 e71 p6
          have T7 := mk S7 (DpAll.mono s7.bb hx6)
          have fin1 : ∀ (xs1 : List V) (es1 : List D), DpAll K B7 xs1 es1 → (∀ i ∈ is1, i < ρ.length) → wt1 (putA (wipeR (putA (wipeR ρ vs) is es) vs1) is1 es1) (fun b => if b = true then we (putA (wipeR (putA (wipeR ρ vs) is es) vs1) is1 es1) (fun r => ∃ z, r.dat = some z ∧ acc6.length < 16777216 ∧ P1 (j + 1) (acc6 ++ [z])) (fun _ => False) else P1 (j + 1) acc6) (fun _ => False) →
              (wipe (putV (wipe (putV (wipe σ vs) is xs) vs1) is1 xs1) vs1 = wipe (putV (wipe σ vs) is xs) vs1 ∧ TDt K W0 wt1 (putV (wipe (putV (wipe σ vs) is xs) vs1) is1 xs1) H7 fun b H8 =>
                if b = true then TDe K W0 we (putV (wipe (putV (wipe σ vs) is xs) vs1) is1 xs1) H8 fun y H9 => ∃ acc, H9 Dl = some (.lst acc) ∧ acc.length < sizeLine ∧
                  (j + 1 ≤ ds1.length ∧ ∃ (B' : Hp) (av : List V) (acc1 : List D), Stt K G B0 H0 B' (upd H9 Dl (.lst (acc ++ [y]))) σ ρ ∧ Stp G B1 H1 B' (upd H9 Dl (.lst (acc ++ [y]))) ∧ Same B5 B' ∧ (upd H9 Dl (.lst (acc ++ [y]))) Dl = some (.lst av) ∧ DpAll K B' av acc1 ∧ B' Dl = none ∧ DpAll K B' xs es ∧ P1 (j + 1) acc1)
                else (j + 1 ≤ ds1.length ∧ ∃ (B' : Hp) (av : List V) (acc1 : List D), Stt K G B0 H0 B' H8 σ ρ ∧ Stp G B1 H1 B' H8 ∧ Same B5 B' ∧ H8 Dl = some (.lst av) ∧ DpAll K B' av acc1 ∧ B' Dl = none ∧ DpAll K B' xs es ∧ P1 (j + 1) acc1)) := by
            intro xs1 es1 hx1 hl1 q
            refine ⟨wipe_putV is1 xs1 _ (wipe_wipe vs1 fun _ h => h) hsub1, ?_⟩
            have T7' : Stt K G B0 H0 B7 H7 (putV (wipe (putV (wipe σ vs) is xs) vs1) is1 xs1) (putA (wipeR (putA (wipeR ρ vs) is es) vs1) is1 es1) := Stt.putA is1 (T7.wipe vs1) hx1 fun i hi => by rw [wipeR_length, putA_length, wipeR_length]; exact hl1 i hi
            refine ⟨G, B0, H0, B7, _, _, _, T7', q, fun b B8 H8 T8 s8 q8 => ?_, fun _ _ _ _ z => z.elim⟩
            have S8 := S7.step s8 T8.bh T8.gok
            have t8 := s8.hh _ _ t7
            have hb8 : B8 Dl = none := s8.nw _ _ hb7 t7
            cases b with
            | false => exact iteF ⟨jlt, B8, av6, acc6, S8, (s6.trans s7).trans s8, (m6.trans s7.bb).trans s8.bb, (hide_some t8).2, DpAll.mono (s7.bb.trans s8.bb) ha6, hb8, DpAll.mono (s7.bb.trans s8.bb) hx6, (if_neg Bool.false_ne_true).mp q8⟩
            | true =>
              refine iteT ⟨G, B0, H0, B8, _, _, _, T8, (if_pos rfl).mp q8, fun r y B9 H9 T9 s9 r9 ⟨z, ez, hlen, p9⟩ => ?_, fun _ _ _ _ z => z.elim⟩
              have S9 := S8.step s9 T9.bh T9.gok
              have t9 := s9.hh _ _ t8
              have hb9 : B9 Dl = none := s9.nw _ _ hb8 t8
              have s19 := ((s6.trans s7).trans s8).trans s9
              have m9 := (s7.bb.trans s8.bb).trans s9.bb
              refine ⟨av6, (hide_some t9).2, by rw [line_eq, ha6.length]; exact hlen, jlt, B9, av6 ++ [y], acc6 ++ [z], S9.side hb9 dG d0 aw, ⟨s19.bb, fun b v e => ?_, s19.nw⟩, m6.trans m9, upd_same, (DpAll.mono m9 ha6).append (.cons (r9.dat ez) .nil), hb9, DpAll.mono m9 hx6, p9⟩
              rw [hide_upd dG, upd_ne (ne_of_none e (hide_free hD))]
              exact s19.hh _ _ e
          cases tup1 with
          | true =>
            obtain ⟨es1, rfl, hn, hl1, q8⟩ := (if_pos rfl).mp q7
            cases e72 with
            | tup k1 k2 => exact ⟨_, _, rfl, (k1.up (b7.trans (hide_le H7))).t, k2.length.trans hn, gNames_ok is1 _ _ _ _ (k2.length.trans hn) (fin1 _ es1 k2 hl1 q8)⟩
          | false =>
            rcases h2 with h2 | ⟨i1, rfl⟩
            · cases h2
            · obtain ⟨hl1, q8⟩ := (if_neg Bool.false_ne_true).mp q7
              exact fin1 [x7] [d7] (.cons e72 .nil) hl1 q8
        · have e : j = ds1.length := by omega
          subst e
          exact .inl ⟨it1.stop _ _ lat6, hlt, B6, av6, acc6, S6, s6, hd6, ha6, hb6, done1 acc6 p6⟩
    cases tup with
    | true =>
      obtain ⟨es, rfl, hn, hl, q4⟩ := (if_pos rfl).mp q3
      cases e2 with
      | tup k1 k2 => exact ⟨_, _, rfl, (k1.up (b3.trans (hide_le H3))).t, k2.length.trans hn, gNames_ok is _ _ _ _ (k2.length.trans hn) (fin _ es k2 hl q4)⟩
    | false =>
      rcases h1 with h1 | ⟨i1, rfl⟩
      · cases h1
      · obtain ⟨hl, q4⟩ := (if_neg Bool.false_ne_true).mp q3
        exact fin [x] [d] (.cons e2 .nil) hl q4
  · have e : i = ds.length := by omega
    subst e
    refine .inl ⟨it.stop _ _ lat, ok (.l true acc) (.ref Dl) B2 H2 S2 (s1.trans s2) ⟨Dl, av, rfl, by rw [hide_out dG]; exact hd, ha, fun _ => ⟨hb, dS⟩⟩ (done acc p2)⟩
theorem pd_lc2 {X : Cx} {W : WX} {e : Expr} {wi wi1 : IW} {tup tup1 : Bool} {is is1 vs vs1 : List Nat} {wt wt1 : TW} {we : EW} (h : PE X e (tLc2 (TDiC X.K W wi) (gC X.K tup is) (TDt X.K W0 wt) (TDiF X.K W0 wi1) (gC X.K tup1 is1) (TDt X.K W0 wt1) (TDe X.K W0 we) vs vs1))
    (hsub : ∀ i ∈ is, i ∈ vs) (hsub1 : ∀ i ∈ is1, i ∈ vs1) (h1 : tup = true ∨ ∃ i, is = [i]) (h2 : tup1 = true ∨ ∃ i, is1 = [i]) : PD X W e (wLc2 wi tup is wt wi1 tup1 is1 wt1 we vs vs1) :=
  pe_imp h (lc2_core_d hsub hsub1 h1 h2)
theorem pds_setLc2 {X : Cx} {W : WX} {st : Stmt} {i : Nat} {wi wi1 : IW} {tup tup1 : Bool} {is is1 vs vs1 : List Nat} {wt wt1 : TW} {we : EW} (h : PS X st (tAsg (tLc2 (TDiC X.K W wi) (gC X.K tup is) (TDt X.K W0 wt) (TDiF X.K W0 wi1) (gC X.K tup1 is1) (TDt X.K W0 wt1) (TDe X.K W0 we) vs vs1) (gName i)))
    (hsub : ∀ i ∈ is, i ∈ vs) (hsub1 : ∀ i ∈ is1, i ∈ vs1) (h1 : tup = true ∨ ∃ i, is = [i]) (h2 : tup1 = true ∨ ∃ i, is1 = [i]) : PSD X W st (wAsg i (wLc2 wi tup is wt wi1 tup1 is1 wt1 we vs vs1)) :=
  pds_set (ps_imp h fun D σ H q => lc2_core_d hsub hsub1 h1 h2 σ H _ q)
end DL

set_option Elab.async false
set_option linter.all false
set_option maxRecDepth 100000
set_option maxHeartbeats 4000000
namespace LK
open PySem PySem.Spec PyProof.Rows L2 DL
/-! ### places, scopes (printed by gen.py) -/
def top (i : Nat) : Stmt := PySem.Challenge.pw_heapsworn_k12_statements_judged.main.body.getD i (.Pass ⟨0, 0, 0, 0⟩)
abbrev s_is_int : Stmt := top 5
abbrev N_is_int : List Str := ["thing"]
abbrev P_is_int : List Str := ["thing"]
theorem sc_is_int : FnScope N_is_int P_is_int (defScope s_is_int) := ⟨rfl, rfl, rfl, by decide +kernel, rfl, by decide +kernel, by decide +kernel⟩
abbrev s_within : Stmt := top 6
abbrev N_within : List Str := ["thing", "low", "high"]
abbrev P_within : List Str := ["thing", "low", "high"]
theorem sc_within : FnScope N_within P_within (defScope s_within) := ⟨rfl, rfl, rfl, by decide +kernel, rfl, by decide +kernel, by decide +kernel⟩
abbrev s_is_row : Stmt := top 7
abbrev N_is_row : List Str := ["thing", "fewest", "most"]
abbrev P_is_row : List Str := ["thing", "fewest", "most"]
theorem sc_is_row : FnScope N_is_row P_is_row (defScope s_is_row) := ⟨rfl, rfl, rfl, by decide +kernel, rfl, by decide +kernel, by decide +kernel⟩
abbrev s_is_word : Stmt := top 8
abbrev N_is_word : List Str := ["thing", "words"]
abbrev P_is_word : List Str := ["thing", "words"]
theorem sc_is_word : FnScope N_is_word P_is_word (defScope s_is_word) := ⟨rfl, rfl, rfl, by decide +kernel, rfl, by decide +kernel, by decide +kernel⟩
abbrev s_is_name_of : Stmt := top 16
abbrev N_is_name_of : List Str := ["many", "hidden", "thing"]
abbrev P_is_name_of : List Str := ["many", "hidden", "thing"]
theorem sc_is_name_of : FnScope N_is_name_of P_is_name_of (defScope s_is_name_of) := ⟨rfl, rfl, rfl, by decide +kernel, rfl, by decide +kernel, by decide +kernel⟩
abbrev s_is_fact_of : Stmt := top 17
abbrev N_is_fact_of : List Str := ["many", "hidden", "thing"]
abbrev P_is_fact_of : List Str := ["many", "hidden", "thing"]
theorem sc_is_fact_of : FnScope N_is_fact_of P_is_fact_of (defScope s_is_fact_of) := ⟨rfl, rfl, rfl, by decide +kernel, rfl, by decide +kernel, by decide +kernel⟩
abbrev s_is_item_of : Stmt := top 18
abbrev N_is_item_of : List Str := ["many", "hidden", "thing", "out"]
abbrev P_is_item_of : List Str := ["many", "hidden", "thing"]
theorem sc_is_item_of : FnScope N_is_item_of P_is_item_of (defScope s_is_item_of) := ⟨rfl, rfl, rfl, by decide +kernel, rfl, by decide +kernel, by decide +kernel⟩
abbrev s_is_case_of : Stmt := top 19
abbrev N_is_case_of : List Str := ["many", "thing", "hidden", "facts", "items", "fact", "item"]
abbrev P_is_case_of : List Str := ["many", "thing"]
theorem sc_is_case_of : FnScope N_is_case_of P_is_case_of (defScope s_is_case_of) := ⟨rfl, rfl, rfl, by decide +kernel, rfl, by decide +kernel, by decide +kernel⟩
abbrev s_is_case : Stmt := top 20
abbrev N_is_case : List Str := ["many", "thing"]
abbrev P_is_case : List Str := ["many", "thing"]
theorem sc_is_case : FnScope N_is_case P_is_case (defScope s_is_case) := ⟨rfl, rfl, rfl, by decide +kernel, rfl, by decide +kernel, by decide +kernel⟩
abbrev s_is_statement : Stmt := top 21
abbrev N_is_statement : List Str := ["thing", "case"]
abbrev P_is_statement : List Str := ["thing"]
theorem sc_is_statement : FnScope N_is_statement P_is_statement (defScope s_is_statement) := ⟨rfl, rfl, rfl, by decide +kernel, rfl, by decide +kernel, by decide +kernel⟩
abbrev s_need_statement : Stmt := top 22
abbrev N_need_statement : List Str := ["statement"]
abbrev P_need_statement : List Str := ["statement"]
theorem sc_need_statement : FnScope N_need_statement P_need_statement (defScope s_need_statement) := ⟨rfl, rfl, rfl, by decide +kernel, rfl, by decide +kernel, by decide +kernel⟩
abbrev s_outs_in : Stmt := top 23
abbrev N_outs_in : List Str := ["item"]
abbrev P_outs_in : List Str := ["item"]
theorem sc_outs_in : FnScope N_outs_in P_outs_in (defScope s_outs_in) := ⟨rfl, rfl, rfl, by decide +kernel, rfl, by decide +kernel, by decide +kernel⟩
abbrev s_most_hidden : Stmt := top 24
abbrev N_most_hidden : List Str := ["statement", "case"]
abbrev P_most_hidden : List Str := ["statement"]
theorem sc_most_hidden : FnScope N_most_hidden P_most_hidden (defScope s_most_hidden) := ⟨rfl, rfl, rfl, by decide +kernel, rfl, by decide +kernel, by decide +kernel⟩
abbrev s_threshold_in : Stmt := top 25
abbrev N_threshold_in : List Str := ["statement"]
abbrev P_threshold_in : List Str := ["statement"]
theorem sc_threshold_in : FnScope N_threshold_in P_threshold_in (defScope s_threshold_in) := ⟨rfl, rfl, rfl, by decide +kernel, rfl, by decide +kernel, by decide +kernel⟩
abbrev s_threshold : Stmt := top 26
abbrev N_threshold : List Str := ["statement"]
abbrev P_threshold : List Str := ["statement"]
theorem sc_threshold : FnScope N_threshold P_threshold (defScope s_threshold) := ⟨rfl, rfl, rfl, by decide +kernel, rfl, by decide +kernel, by decide +kernel⟩
abbrev s_names_in : Stmt := top 27
abbrev N_names_in : List Str := ["case", "found", "word", "one", "other", "item"]
abbrev P_names_in : List Str := ["case"]
theorem sc_names_in : FnScope N_names_in P_names_in (defScope s_names_in) := ⟨rfl, rfl, rfl, by decide +kernel, rfl, by decide +kernel, by decide +kernel⟩
abbrev s_names_used : Stmt := top 28
abbrev N_names_used : List Str := ["statement", "found", "case", "name"]
abbrev P_names_used : List Str := ["statement"]
theorem sc_names_used : FnScope N_names_used P_names_used (defScope s_names_used) := ⟨rfl, rfl, rfl, by decide +kernel, rfl, by decide +kernel, by decide +kernel⟩
abbrev s_law_source : Stmt := top 30
abbrev N_law_source : List Str := ["script", "cells", "cell"]
abbrev P_law_source : List Str := ["script"]
theorem sc_law_source : FnScope N_law_source P_law_source (defScope s_law_source) := ⟨rfl, rfl, rfl, by decide +kernel, rfl, by decide +kernel, by decide +kernel⟩
abbrev s_law_draw : Stmt := top 31
abbrev N_law_draw : List Str := ["source", "many", "cells", "at", "cell", "turn", "mixed"]
abbrev P_law_draw : List Str := ["source", "many"]
theorem sc_law_draw : FnScope N_law_draw P_law_draw (defScope s_law_draw) := ⟨rfl, rfl, rfl, by decide +kernel, rfl, by decide +kernel, by decide +kernel⟩
abbrev s_law_name : Stmt := top 32
abbrev N_law_name : List Str := ["source", "count"]
abbrev P_law_name : List Str := ["source", "count"]
theorem sc_law_name : FnScope N_law_name P_law_name (defScope s_law_name) := ⟨rfl, rfl, rfl, by decide +kernel, rfl, by decide +kernel, by decide +kernel⟩
abbrev s_law_fact : Stmt := top 33
abbrev N_law_fact : List Str := ["source", "count", "word"]
abbrev P_law_fact : List Str := ["source", "count"]
theorem sc_law_fact : FnScope N_law_fact P_law_fact (defScope s_law_fact) := ⟨rfl, rfl, rfl, by decide +kernel, rfl, by decide +kernel, by decide +kernel⟩
abbrev s_law_item : Stmt := top 34
abbrev N_law_item : List Str := ["source", "count", "pick", "start", "end", "outs", "turn"]
abbrev P_law_item : List Str := ["source", "count"]
theorem sc_law_item : FnScope N_law_item P_law_item (defScope s_law_item) := ⟨rfl, rfl, rfl, by decide +kernel, rfl, by decide +kernel, by decide +kernel⟩
abbrev s_law_case : Stmt := top 35
abbrev N_law_case : List Str := ["source", "many", "hidden", "most", "count", "facts", "turn", "items"]
abbrev P_law_case : List Str := ["source", "many", "hidden", "most"]
theorem sc_law_case : FnScope N_law_case P_law_case (defScope s_law_case) := ⟨rfl, rfl, rfl, by decide +kernel, rfl, by decide +kernel, by decide +kernel⟩
abbrev s_law_outs : Stmt := top 36
abbrev N_law_outs : List Str := ["item"]
abbrev P_law_outs : List Str := ["item"]
theorem sc_law_outs : FnScope N_law_outs P_law_outs (defScope s_law_outs) := ⟨rfl, rfl, rfl, by decide +kernel, rfl, by decide +kernel, by decide +kernel⟩
abbrev s_law_right : Stmt := top 37
abbrev N_law_right : List Str := ["source", "many", "cases", "turn"]
abbrev P_law_right : List Str := ["source"]
theorem sc_law_right : FnScope N_law_right P_law_right (defScope s_law_right) := ⟨rfl, rfl, rfl, by decide +kernel, rfl, by decide +kernel, by decide +kernel⟩
abbrev s_law_used : Stmt := top 38
abbrev N_law_used : List Str := ["statement", "found", "hidden", "facts", "items", "one", "name"]
abbrev P_law_used : List Str := ["statement"]
theorem sc_law_used : FnScope N_law_used P_law_used (defScope s_law_used) := ⟨rfl, rfl, rfl, by decide +kernel, rfl, by decide +kernel, by decide +kernel⟩
abbrev s_law_spoiled_item : Stmt := top 39
abbrev N_law_spoiled_item : List Str := ["source", "count", "pick", "name", "rows"]
abbrev P_law_spoiled_item : List Str := ["source", "count"]
theorem sc_law_spoiled_item : FnScope N_law_spoiled_item P_law_spoiled_item (defScope s_law_spoiled_item) := ⟨rfl, rfl, rfl, by decide +kernel, rfl, by decide +kernel, by decide +kernel⟩
abbrev s_law_spoiled_fact : Stmt := top 40
abbrev N_law_spoiled_fact : List Str := ["source", "count", "pick", "name", "rows"]
abbrev P_law_spoiled_fact : List Str := ["source", "count"]
theorem sc_law_spoiled_fact : FnScope N_law_spoiled_fact P_law_spoiled_fact (defScope s_law_spoiled_fact) := ⟨rfl, rfl, rfl, by decide +kernel, rfl, by decide +kernel, by decide +kernel⟩
abbrev s_law_spoiled_case : Stmt := top 41
abbrev N_law_spoiled_case : List Str := ["source", "many", "case", "pick", "hidden", "facts", "items", "fact", "item", "at", "bad"]
abbrev P_law_spoiled_case : List Str := ["source", "many", "case"]
theorem sc_law_spoiled_case : FnScope N_law_spoiled_case P_law_spoiled_case (defScope s_law_spoiled_case) := ⟨rfl, rfl, rfl, by decide +kernel, rfl, by decide +kernel, by decide +kernel⟩
abbrev s_law_at_bounds : Stmt := top 42
abbrev N_law_at_bounds : List Str := ["statement", "case", "hidden", "facts", "items", "fact", "item", "great"]
abbrev P_law_at_bounds : List Str := ["statement", "case"]
theorem sc_law_at_bounds : FnScope N_law_at_bounds P_law_at_bounds (defScope s_law_at_bounds) := ⟨rfl, rfl, rfl, by decide +kernel, rfl, by decide +kernel, by decide +kernel⟩
abbrev s_law_refuses : Stmt := top 43
abbrev N_law_refuses : List Str := ["thing", "first", "second"]
abbrev P_law_refuses : List Str := ["thing"]
theorem sc_law_refuses : FnScope N_law_refuses P_law_refuses (defScope s_law_refuses) := ⟨rfl, rfl, rfl, by decide +kernel, rfl, by decide +kernel, by decide +kernel⟩
abbrev s_law_no_many : Stmt := top 44
abbrev N_law_no_many : List Str := ["thing", "case", "word"]
abbrev P_law_no_many : List Str := ["thing", "case"]
theorem sc_law_no_many : FnScope N_law_no_many P_law_no_many (defScope s_law_no_many) := ⟨rfl, rfl, rfl, by decide +kernel, rfl, by decide +kernel, by decide +kernel⟩
abbrev s_law : Stmt := top 45
abbrev N_law : List Str := ["script", "source", "statement", "many", "cases", "case", "found", "at", "turn", "thing", "odd", "wrong"]
abbrev P_law : List Str := ["script"]
theorem sc_law : FnScope N_law P_law (defScope s_law) := ⟨rfl, rfl, rfl, by decide +kernel, rfl, by decide +kernel, by decide +kernel⟩
/-- the addresses -/
structure Ad where
  c_HeapError : Addr
  c_BadMany : Addr
  c_BadStatement : Addr
  f_is_int : Addr
  d_is_int : FuncData
  f_within : Addr
  d_within : FuncData
  f_is_row : Addr
  d_is_row : FuncData
  f_is_word : Addr
  d_is_word : FuncData
  f_is_name_of : Addr
  d_is_name_of : FuncData
  f_is_fact_of : Addr
  d_is_fact_of : FuncData
  f_is_item_of : Addr
  d_is_item_of : FuncData
  f_is_case_of : Addr
  d_is_case_of : FuncData
  f_is_case : Addr
  d_is_case : FuncData
  f_is_statement : Addr
  d_is_statement : FuncData
  f_need_statement : Addr
  d_need_statement : FuncData
  f_outs_in : Addr
  d_outs_in : FuncData
  f_most_hidden : Addr
  d_most_hidden : FuncData
  f_threshold_in : Addr
  d_threshold_in : FuncData
  f_threshold : Addr
  d_threshold : FuncData
  f_names_in : Addr
  d_names_in : FuncData
  f_names_used : Addr
  d_names_used : FuncData
  f_law_source : Addr
  d_law_source : FuncData
  f_law_draw : Addr
  d_law_draw : FuncData
  f_law_name : Addr
  d_law_name : FuncData
  f_law_fact : Addr
  d_law_fact : FuncData
  f_law_item : Addr
  d_law_item : FuncData
  f_law_case : Addr
  d_law_case : FuncData
  f_law_outs : Addr
  d_law_outs : FuncData
  f_law_right : Addr
  d_law_right : FuncData
  f_law_used : Addr
  d_law_used : FuncData
  f_law_spoiled_item : Addr
  d_law_spoiled_item : FuncData
  f_law_spoiled_fact : Addr
  d_law_spoiled_fact : FuncData
  f_law_spoiled_case : Addr
  d_law_spoiled_case : FuncData
  f_law_at_bounds : Addr
  d_law_at_bounds : FuncData
  f_law_refuses : Addr
  d_law_refuses : FuncData
  f_law_no_many : Addr
  d_law_no_many : FuncData
  f_law : Addr
  d_law : FuncData
/-- what the top has written -/
structure Txt (K : Frag) (mg : Str → Option Value) (cl : Ad) : Prop where
  g_HeapError : mg "HeapError" = some (.ref cl.c_HeapError)
  x_HeapError : PySem.W.excIn K cl.c_HeapError [.type "ValueError", .type "Exception", .type "BaseException", .type "object"] "ValueError.__new__" = true
  k_HeapError : PySem.W.keepIn K (.ref cl.c_HeapError) = true
  s_HeapError : PySem.W.subIn K (.ref cl.c_HeapError) (.type "BaseException") = some true
  t_HeapError : PySem.W.typeIn K (.ref cl.c_HeapError) = some (.type "type")
  e_HeapError_BadMany : PySem.W.exmOne K (.ref cl.c_HeapError) (.ref cl.c_BadMany) = some false
  e_HeapError_BadStatement : PySem.W.exmOne K (.ref cl.c_HeapError) (.ref cl.c_BadStatement) = some false
  g_BadMany : mg "BadMany" = some (.ref cl.c_BadMany)
  x_BadMany : PySem.W.excIn K cl.c_BadMany [.type "ValueError", .type "Exception", .type "BaseException", .type "object"] "ValueError.__new__" = true
  k_BadMany : PySem.W.keepIn K (.ref cl.c_BadMany) = true
  s_BadMany : PySem.W.subIn K (.ref cl.c_BadMany) (.type "BaseException") = some true
  t_BadMany : PySem.W.typeIn K (.ref cl.c_BadMany) = some (.type "type")
  e_BadMany_BadMany : PySem.W.exmOne K (.ref cl.c_BadMany) (.ref cl.c_BadMany) = some true
  e_BadMany_BadStatement : PySem.W.exmOne K (.ref cl.c_BadMany) (.ref cl.c_BadStatement) = some false
  g_BadStatement : mg "BadStatement" = some (.ref cl.c_BadStatement)
  x_BadStatement : PySem.W.excIn K cl.c_BadStatement [.type "ValueError", .type "Exception", .type "BaseException", .type "object"] "ValueError.__new__" = true
  k_BadStatement : PySem.W.keepIn K (.ref cl.c_BadStatement) = true
  s_BadStatement : PySem.W.subIn K (.ref cl.c_BadStatement) (.type "BaseException") = some true
  t_BadStatement : PySem.W.typeIn K (.ref cl.c_BadStatement) = some (.type "type")
  e_BadStatement_BadMany : PySem.W.exmOne K (.ref cl.c_BadStatement) (.ref cl.c_BadMany) = some false
  e_BadStatement_BadStatement : PySem.W.exmOne K (.ref cl.c_BadStatement) (.ref cl.c_BadStatement) = some true
  F_is_int : Fun K "is_int" "is_int" s_is_int cl.f_is_int cl.d_is_int
  m_is_int : mg "is_int" = some (.ref cl.f_is_int)
  b_is_int : Binds K cl.d_is_int P_is_int []
  F_within : Fun K "within" "within" s_within cl.f_within cl.d_within
  m_within : mg "within" = some (.ref cl.f_within)
  b_within : Binds K cl.d_within P_within []
  F_is_row : Fun K "is_row" "is_row" s_is_row cl.f_is_row cl.d_is_row
  m_is_row : mg "is_row" = some (.ref cl.f_is_row)
  b_is_row : Binds K cl.d_is_row P_is_row []
  F_is_word : Fun K "is_word" "is_word" s_is_word cl.f_is_word cl.d_is_word
  m_is_word : mg "is_word" = some (.ref cl.f_is_word)
  b_is_word : Binds K cl.d_is_word P_is_word []
  F_is_name_of : Fun K "is_name_of" "is_name_of" s_is_name_of cl.f_is_name_of cl.d_is_name_of
  m_is_name_of : mg "is_name_of" = some (.ref cl.f_is_name_of)
  b_is_name_of : Binds K cl.d_is_name_of P_is_name_of []
  F_is_fact_of : Fun K "is_fact_of" "is_fact_of" s_is_fact_of cl.f_is_fact_of cl.d_is_fact_of
  m_is_fact_of : mg "is_fact_of" = some (.ref cl.f_is_fact_of)
  b_is_fact_of : Binds K cl.d_is_fact_of P_is_fact_of []
  F_is_item_of : Fun K "is_item_of" "is_item_of" s_is_item_of cl.f_is_item_of cl.d_is_item_of
  m_is_item_of : mg "is_item_of" = some (.ref cl.f_is_item_of)
  b_is_item_of : Binds K cl.d_is_item_of P_is_item_of []
  F_is_case_of : Fun K "is_case_of" "is_case_of" s_is_case_of cl.f_is_case_of cl.d_is_case_of
  m_is_case_of : mg "is_case_of" = some (.ref cl.f_is_case_of)
  b_is_case_of : Binds K cl.d_is_case_of P_is_case_of []
  F_is_case : Fun K "is_case" "is_case" s_is_case cl.f_is_case cl.d_is_case
  m_is_case : mg "is_case" = some (.ref cl.f_is_case)
  b_is_case : Binds K cl.d_is_case P_is_case []
  F_is_statement : Fun K "is_statement" "is_statement" s_is_statement cl.f_is_statement cl.d_is_statement
  m_is_statement : mg "is_statement" = some (.ref cl.f_is_statement)
  b_is_statement : Binds K cl.d_is_statement P_is_statement []
  F_need_statement : Fun K "need_statement" "need_statement" s_need_statement cl.f_need_statement cl.d_need_statement
  m_need_statement : mg "need_statement" = some (.ref cl.f_need_statement)
  b_need_statement : Binds K cl.d_need_statement P_need_statement []
  F_outs_in : Fun K "outs_in" "outs_in" s_outs_in cl.f_outs_in cl.d_outs_in
  m_outs_in : mg "outs_in" = some (.ref cl.f_outs_in)
  b_outs_in : Binds K cl.d_outs_in P_outs_in []
  F_most_hidden : Fun K "most_hidden" "most_hidden" s_most_hidden cl.f_most_hidden cl.d_most_hidden
  m_most_hidden : mg "most_hidden" = some (.ref cl.f_most_hidden)
  b_most_hidden : Binds K cl.d_most_hidden P_most_hidden []
  F_threshold_in : Fun K "threshold_in" "threshold_in" s_threshold_in cl.f_threshold_in cl.d_threshold_in
  m_threshold_in : mg "threshold_in" = some (.ref cl.f_threshold_in)
  b_threshold_in : Binds K cl.d_threshold_in P_threshold_in []
  F_threshold : Fun K "threshold" "threshold" s_threshold cl.f_threshold cl.d_threshold
  m_threshold : mg "threshold" = some (.ref cl.f_threshold)
  b_threshold : Binds K cl.d_threshold P_threshold []
  F_names_in : Fun K "names_in" "names_in" s_names_in cl.f_names_in cl.d_names_in
  m_names_in : mg "names_in" = some (.ref cl.f_names_in)
  b_names_in : Binds K cl.d_names_in P_names_in []
  F_names_used : Fun K "names_used" "names_used" s_names_used cl.f_names_used cl.d_names_used
  m_names_used : mg "names_used" = some (.ref cl.f_names_used)
  b_names_used : Binds K cl.d_names_used P_names_used []
  F_law_source : Fun K "_law_source" "_law_source" s_law_source cl.f_law_source cl.d_law_source
  m_law_source : mg "_law_source" = some (.ref cl.f_law_source)
  b_law_source : Binds K cl.d_law_source P_law_source []
  F_law_draw : Fun K "_law_draw" "_law_draw" s_law_draw cl.f_law_draw cl.d_law_draw
  m_law_draw : mg "_law_draw" = some (.ref cl.f_law_draw)
  b_law_draw : Binds K cl.d_law_draw P_law_draw []
  F_law_name : Fun K "_law_name" "_law_name" s_law_name cl.f_law_name cl.d_law_name
  m_law_name : mg "_law_name" = some (.ref cl.f_law_name)
  b_law_name : Binds K cl.d_law_name P_law_name []
  F_law_fact : Fun K "_law_fact" "_law_fact" s_law_fact cl.f_law_fact cl.d_law_fact
  m_law_fact : mg "_law_fact" = some (.ref cl.f_law_fact)
  b_law_fact : Binds K cl.d_law_fact P_law_fact []
  F_law_item : Fun K "_law_item" "_law_item" s_law_item cl.f_law_item cl.d_law_item
  m_law_item : mg "_law_item" = some (.ref cl.f_law_item)
  b_law_item : Binds K cl.d_law_item P_law_item []
  F_law_case : Fun K "_law_case" "_law_case" s_law_case cl.f_law_case cl.d_law_case
  m_law_case : mg "_law_case" = some (.ref cl.f_law_case)
  b_law_case : Binds K cl.d_law_case P_law_case []
  F_law_outs : Fun K "_law_outs" "_law_outs" s_law_outs cl.f_law_outs cl.d_law_outs
  m_law_outs : mg "_law_outs" = some (.ref cl.f_law_outs)
  b_law_outs : Binds K cl.d_law_outs P_law_outs []
  F_law_right : Fun K "_law_right" "_law_right" s_law_right cl.f_law_right cl.d_law_right
  m_law_right : mg "_law_right" = some (.ref cl.f_law_right)
  b_law_right : Binds K cl.d_law_right P_law_right []
  F_law_used : Fun K "_law_used" "_law_used" s_law_used cl.f_law_used cl.d_law_used
  m_law_used : mg "_law_used" = some (.ref cl.f_law_used)
  b_law_used : Binds K cl.d_law_used P_law_used []
  F_law_spoiled_item : Fun K "_law_spoiled_item" "_law_spoiled_item" s_law_spoiled_item cl.f_law_spoiled_item cl.d_law_spoiled_item
  m_law_spoiled_item : mg "_law_spoiled_item" = some (.ref cl.f_law_spoiled_item)
  b_law_spoiled_item : Binds K cl.d_law_spoiled_item P_law_spoiled_item []
  F_law_spoiled_fact : Fun K "_law_spoiled_fact" "_law_spoiled_fact" s_law_spoiled_fact cl.f_law_spoiled_fact cl.d_law_spoiled_fact
  m_law_spoiled_fact : mg "_law_spoiled_fact" = some (.ref cl.f_law_spoiled_fact)
  b_law_spoiled_fact : Binds K cl.d_law_spoiled_fact P_law_spoiled_fact []
  F_law_spoiled_case : Fun K "_law_spoiled_case" "_law_spoiled_case" s_law_spoiled_case cl.f_law_spoiled_case cl.d_law_spoiled_case
  m_law_spoiled_case : mg "_law_spoiled_case" = some (.ref cl.f_law_spoiled_case)
  b_law_spoiled_case : Binds K cl.d_law_spoiled_case P_law_spoiled_case []
  F_law_at_bounds : Fun K "_law_at_bounds" "_law_at_bounds" s_law_at_bounds cl.f_law_at_bounds cl.d_law_at_bounds
  m_law_at_bounds : mg "_law_at_bounds" = some (.ref cl.f_law_at_bounds)
  b_law_at_bounds : Binds K cl.d_law_at_bounds P_law_at_bounds []
  F_law_refuses : Fun K "_law_refuses" "_law_refuses" s_law_refuses cl.f_law_refuses cl.d_law_refuses
  m_law_refuses : mg "_law_refuses" = some (.ref cl.f_law_refuses)
  b_law_refuses : Binds K cl.d_law_refuses P_law_refuses []
  F_law_no_many : Fun K "_law_no_many" "_law_no_many" s_law_no_many cl.f_law_no_many cl.d_law_no_many
  m_law_no_many : mg "_law_no_many" = some (.ref cl.f_law_no_many)
  b_law_no_many : Binds K cl.d_law_no_many P_law_no_many []
  F_law : Fun K "law" "law" s_law cl.f_law cl.d_law
  m_law : mg "law" = some (.ref cl.f_law)
  b_law : Binds K cl.d_law P_law []
  n_all : mg "all" = none
  n_bool : mg "bool" = none
  n_int : mg "int" = none
  n_isinstance : mg "isinstance" = none
  n_len : mg "len" = none
  n_list : mg "list" = none
  n_max : mg "max" = none
  n_range : mg "range" = none
  n_sorted : mg "sorted" = none
  n_str : mg "str" = none
  n_tuple : mg "tuple" = none
  v_MOST_CASES : ∃ t, mg "MOST_CASES" = some (.int 12 t)
  v_MOST_FACTS : ∃ t, mg "MOST_FACTS" = some (.int 15 t)
  v_MOST_HIDDEN : ∃ t, mg "MOST_HIDDEN" = some (.int 2 t)
  v_MOST_ITEMS : ∃ t, mg "MOST_ITEMS" = some (.int 6 t)
  v_MOST_OUTS : ∃ t, mg "MOST_OUTS" = some (.int 4 t)
  v_MOST_VARIABLES : ∃ t, mg "MOST_VARIABLES" = some (.int 3 t)
def k_law_draw : Cost := .of 1
def k_law_name : Cost := .of 1
def k_law_fact : Cost := .of 3
def k_law_item : Cost := .of 1004
def k_law_case : Cost := .of 1007002
def k_law_right : Cost := .of 1007003002
def k_law_spoiled_item : Cost := .of 2
def k_law_spoiled_fact : Cost := .of 2
def k_law_spoiled_case : Cost := .of 9
section
variable {P : Program} {wd : World} {K : Frag} {mg : Str → Option Value} {base : Heap} {cl : Ad}
def w_is_int (K : Frag) (cl : Ad) : SW :=
  (wRet (wAndV (wIsi isI (wVar 0)) (wNotV (wIsi isB (wVar 0)))))
theorem ok_is_int (T : Txt K mg cl) {k : Nat} {c : Ct} (hlen : ∀ rs Q E, c rs Q E → rs.length = P_is_int.length)
    (hw : ∀ rs Q E, c rs Q E → w_is_int K cl (rho N_is_int.length rs) { nx := fun _ => Q (.s .none), rt := Q, er := fun cls _ => E cls }) :
    FnOk P wd K mg base (L2.CX P wd) (k + 1) cl.f_is_int cl.d_is_int P_is_int (spD K c) :=
  fnD T.F_is_int sc_is_int hlen (fun cdv A outer s H E hr => by
  have tk := takes_of (X := cxOf (L2.CX P wd) P wd K mg base N_is_int "is_int" (defScope s_is_int) cl.f_is_int cdv A outer s H E) rfl rfl rfl rfl
  exact (pds_one (pds_ret (pd_and (pd_isi (pe_callB call_isi (by rfl) T.n_isinstance (by decide +kernel) (pa_cons (pd_var (pv 0)) (pa_cons (pe_bltn (by rfl) T.n_int (by decide +kernel) rfl) pa_nil))) kit_int) (pd_one (pd_not (pd_isi (pe_callB call_isi (by rfl) T.n_isinstance (by decide +kernel) (pa_cons (pd_var (pv 0)) (pa_cons (pe_bltn (by rfl) T.n_bool (by decide +kernel) rfl) pa_nil))) kit_bool))))))) hw
def w_within (K : Frag) (cl : Ad) (c_is_int : Ct) : SW :=
  (wRet (wAndV (wCall c_is_int (wCons (wVar 0) wNil)) (wChain fLe fLe (wVar 1) (wVar 0) (wVar 2))))
theorem ok_within (T : Txt K mg cl) {k : Nat} {c : Ct} {j_is_int : Nat} {c_is_int : Ct} (G_is_int : FnOk P wd K mg base (L2.CX P wd) j_is_int cl.f_is_int cl.d_is_int P_is_int (spD K c_is_int)) (h_is_int : j_is_int ≤ k) (hlen : ∀ rs Q E, c rs Q E → rs.length = P_within.length)
    (hw : ∀ rs Q E, c rs Q E → w_within K cl c_is_int (rho N_within.length rs) { nx := fun _ => Q (.s .none), rt := Q, er := fun cls _ => E cls }) :
    FnOk P wd K mg base (L2.CX P wd) (k + 1) cl.f_within cl.d_within P_within (spD K c) :=
  fnD T.F_within sc_within hlen (fun cdv A outer s H E hr => by
  have tk := takes_of (X := cxOf (L2.CX P wd) P wd K mg base N_within "within" (defScope s_within) cl.f_within cdv A outer s H E) rfl rfl rfl rfl
  exact (pds_one (pds_ret (pd_and (pd_call (pe_callS G_is_int (hr.mono h_is_int) (by rfl) T.m_is_int T.F_is_int.kp T.b_is_int (fun σ => passAt tk σ) (pda_cons (pd_var (pv 0)) pda_nil))) (pd_one (pd_chain (pe_chain o_le o_le (pd_var (pv 1)) (pd_var (pv 0)) (pd_var (pv 2))))))))) hw
def w_is_row (K : Frag) (cl : Ad) : SW :=
  (wRet (wAndV (wIsi isT (wVar 0)) (wChain fLe fLe (wVar 1) (wCall1 fLen (wCons (wVar 0) wNil)) (wVar 2))))
theorem ok_is_row (T : Txt K mg cl) {k : Nat} {c : Ct} (hlen : ∀ rs Q E, c rs Q E → rs.length = P_is_row.length)
    (hw : ∀ rs Q E, c rs Q E → w_is_row K cl (rho N_is_row.length rs) { nx := fun _ => Q (.s .none), rt := Q, er := fun cls _ => E cls }) :
    FnOk P wd K mg base (L2.CX P wd) (k + 1) cl.f_is_row cl.d_is_row P_is_row (spD K c) :=
  fnD T.F_is_row sc_is_row hlen (fun cdv A outer s H E hr => by
  have tk := takes_of (X := cxOf (L2.CX P wd) P wd K mg base N_is_row "is_row" (defScope s_is_row) cl.f_is_row cdv A outer s H E) rfl rfl rfl rfl
  exact (pds_one (pds_ret (pd_and (pd_isi (pe_callB call_isi (by rfl) T.n_isinstance (by decide +kernel) (pa_cons (pd_var (pv 0)) (pa_cons (pe_bltn (by rfl) T.n_tuple (by decide +kernel) rfl) pa_nil))) kit_tuple) (pd_one (pd_chain (pe_chain o_le o_le (pd_var (pv 1)) (call_core (t := fun _ _ _ => True) (pe_callB c_len (by rfl) T.n_len (by decide +kernel) (pda_cons (pd_var (pv 0)) pda_nil))) (pd_var (pv 2))))))))) hw
def w_is_word (K : Frag) (cl : Ad) : SW :=
  (wRet (wAndV (wIsi isS (wVar 0)) (wOp (fIn false) (wVar 0) (wVar 1))))
theorem ok_is_word (T : Txt K mg cl) {k : Nat} {c : Ct} (hlen : ∀ rs Q E, c rs Q E → rs.length = P_is_word.length)
    (hw : ∀ rs Q E, c rs Q E → w_is_word K cl (rho N_is_word.length rs) { nx := fun _ => Q (.s .none), rt := Q, er := fun cls _ => E cls }) :
    FnOk P wd K mg base (L2.CX P wd) (k + 1) cl.f_is_word cl.d_is_word P_is_word (spD K c) :=
  fnD T.F_is_word sc_is_word hlen (fun cdv A outer s H E hr => by
  have tk := takes_of (X := cxOf (L2.CX P wd) P wd K mg base N_is_word "is_word" (defScope s_is_word) cl.f_is_word cdv A outer s H E) rfl rfl rfl rfl
  exact (pds_one (pds_ret (pd_and (pd_isi (pe_callB call_isi (by rfl) T.n_isinstance (by decide +kernel) (pa_cons (pd_var (pv 0)) (pa_cons (pe_bltn (by rfl) T.n_str (by decide +kernel) rfl) pa_nil))) kit_str) (pd_one (pd_cmp (o_in hr.units) (pd_var (pv 0)) (pd_var (pv 1)) (by rfl))))))) hw
def w_is_name_of (K : Frag) (cl : Ad) (c_is_int : Ct) : SW :=
  (wRet (wAndV (wCall c_is_int (wCons (wVar 2) wNil)) (wChain fLe fLt (wUn fNeg (wC (.s (.int 1)))) (wVar 2) (wOp fAdd (wVar 0) (wVar 1)))))
theorem ok_is_name_of (T : Txt K mg cl) {k : Nat} {c : Ct} {j_is_int : Nat} {c_is_int : Ct} (G_is_int : FnOk P wd K mg base (L2.CX P wd) j_is_int cl.f_is_int cl.d_is_int P_is_int (spD K c_is_int)) (h_is_int : j_is_int ≤ k) (hlen : ∀ rs Q E, c rs Q E → rs.length = P_is_name_of.length)
    (hw : ∀ rs Q E, c rs Q E → w_is_name_of K cl c_is_int (rho N_is_name_of.length rs) { nx := fun _ => Q (.s .none), rt := Q, er := fun cls _ => E cls }) :
    FnOk P wd K mg base (L2.CX P wd) (k + 1) cl.f_is_name_of cl.d_is_name_of P_is_name_of (spD K c) :=
  fnD T.F_is_name_of sc_is_name_of hlen (fun cdv A outer s H E hr => by
  have tk := takes_of (X := cxOf (L2.CX P wd) P wd K mg base N_is_name_of "is_name_of" (defScope s_is_name_of) cl.f_is_name_of cdv A outer s H E) rfl rfl rfl rfl
  exact (pds_one (pds_ret (pd_and (pd_call (pe_callS G_is_int (hr.mono h_is_int) (by rfl) T.m_is_int T.F_is_int.kp T.b_is_int (fun σ => passAt tk σ) (pda_cons (pd_var (pv 2)) pda_nil))) (pd_one (pd_chain (pe_chain o_le (o_lt hr.units0) (pd_un o_neg pd_int) (pd_var (pv 2)) (pd_op o_add (pd_var (pv 0)) (pd_var (pv 1)))))))))) hw
def w_is_fact_of (K : Frag) (cl : Ad) (c_is_row c_is_word c_is_name_of : Ct) : SW :=
  (wSeq (wIfS (wOrT (wNotT (wTst (wCall c_is_row (wCons (wVar 2) (wCons (wC (.s (.int 3))) (wCons (wC (.s (.int 3))) wNil)))))) (wNotT (wTst (wCall c_is_word (wCons (wOp fIx (wVar 2) (wC (.s (.int 0)))) (wCons (wTup (wCons (wC (.s (.str "same"))) (wCons (wC (.s (.str "unlike"))) wNil))) wNil))))))
  (wRet (wC (.s (.bool false))))
  wNext)
  (wRet (wAndV (wCall c_is_name_of (wCons (wVar 0) (wCons (wVar 1) (wCons (wOp fIx (wVar 2) (wC (.s (.int 1)))) wNil)))) (wCall c_is_name_of (wCons (wVar 0) (wCons (wVar 1) (wCons (wOp fIx (wVar 2) (wC (.s (.int 2)))) wNil)))))))
theorem ok_is_fact_of (T : Txt K mg cl) {k : Nat} {c : Ct} {j_is_row : Nat} {c_is_row : Ct} (G_is_row : FnOk P wd K mg base (L2.CX P wd) j_is_row cl.f_is_row cl.d_is_row P_is_row (spD K c_is_row)) (h_is_row : j_is_row ≤ k) {j_is_word : Nat} {c_is_word : Ct} (G_is_word : FnOk P wd K mg base (L2.CX P wd) j_is_word cl.f_is_word cl.d_is_word P_is_word (spD K c_is_word)) (h_is_word : j_is_word ≤ k) {j_is_name_of : Nat} {c_is_name_of : Ct} (G_is_name_of : FnOk P wd K mg base (L2.CX P wd) j_is_name_of cl.f_is_name_of cl.d_is_name_of P_is_name_of (spD K c_is_name_of)) (h_is_name_of : j_is_name_of ≤ k) (hlen : ∀ rs Q E, c rs Q E → rs.length = P_is_fact_of.length)
    (hw : ∀ rs Q E, c rs Q E → w_is_fact_of K cl c_is_row c_is_word c_is_name_of (rho N_is_fact_of.length rs) { nx := fun _ => Q (.s .none), rt := Q, er := fun cls _ => E cls }) :
    FnOk P wd K mg base (L2.CX P wd) (k + 1) cl.f_is_fact_of cl.d_is_fact_of P_is_fact_of (spD K c) :=
  fnD T.F_is_fact_of sc_is_fact_of hlen (fun cdv A outer s H E hr => by
  have tk := takes_of (X := cxOf (L2.CX P wd) P wd K mg base N_is_fact_of "is_fact_of" (defScope s_is_fact_of) cl.f_is_fact_of cdv A outer s H E) rfl rfl rfl rfl
  exact (pds_cons (pds_if (pdt_w (pdw_or (pdt_not (pdt_val (pd_call (pe_callS G_is_row (hr.mono h_is_row) (by rfl) T.m_is_row T.F_is_row.kp T.b_is_row (fun σ => passAt tk σ) (pda_cons (pd_var (pv 2)) (pda_cons pd_int (pda_cons pd_int pda_nil))))))) (pdw_or1 (pdt_not (pdt_val (pd_call (pe_callS G_is_word (hr.mono h_is_word) (by rfl) T.m_is_word T.F_is_word.kp T.b_is_word (fun σ => passAt tk σ) (pda_cons (pd_ix (o_ix hr.units) (pd_var (pv 2)) pd_int (fun _ _ => rfl)) (pda_cons (pd_tup (pda_cons pd_str (pda_cons pd_str pda_nil))) pda_nil)))))))))
  (pds_one (pds_ret pd_bl))
  pds_nil)
  (pds_one (pds_ret (pd_and (pd_call (pe_callS G_is_name_of (hr.mono h_is_name_of) (by rfl) T.m_is_name_of T.F_is_name_of.kp T.b_is_name_of (fun σ => passAt tk σ) (pda_cons (pd_var (pv 0)) (pda_cons (pd_var (pv 1)) (pda_cons (pd_ix (o_ix hr.units) (pd_var (pv 2)) pd_int (fun _ _ => rfl)) pda_nil))))) (pd_one (pd_call (pe_callS G_is_name_of (hr.mono h_is_name_of) (by rfl) T.m_is_name_of T.F_is_name_of.kp T.b_is_name_of (fun σ => passAt tk σ) (pda_cons (pd_var (pv 0)) (pda_cons (pd_var (pv 1)) (pda_cons (pd_ix (o_ix hr.units) (pd_var (pv 2)) pd_int (fun _ _ => rfl)) pda_nil))))))))))) hw
def w_is_item_of (K : Frag) (cl : Ad) (c_is_row c_is_word c_is_name_of : Ct) : SW :=
  (wSeq (wIfS (wOrT (wNotT (wTst (wCall c_is_row (wCons (wVar 2) (wCons (wC (.s (.int 3))) (wCons (wC (.s (.int 4))) wNil)))))) (wNotT (wTst (wCall c_is_word (wCons (wOp fIx (wVar 2) (wC (.s (.int 0)))) (wCons (wTup (wCons (wC (.s (.str "cell"))) (wCons (wC (.s (.str "chain"))) wNil))) wNil))))))
  (wRet (wC (.s (.bool false))))
  wNext)
  (wSeq (wIfS (wOrT (wNotT (wTst (wCall c_is_name_of (wCons (wVar 0) (wCons (wVar 1) (wCons (wOp fIx (wVar 2) (wC (.s (.int 1)))) wNil)))))) (wNotT (wTst (wCall c_is_name_of (wCons (wVar 0) (wCons (wVar 1) (wCons (wOp fIx (wVar 2) (wC (.s (.int 2)))) wNil)))))))
  (wRet (wC (.s (.bool false))))
  wNext)
  (wSeq (wIfS (wTst (wOp fEq (wCall1 fLen (wCons (wVar 2) wNil)) (wC (.s (.int 3)))))
  (wRet (wC (.s (.bool true))))
  wNext)
  (wSeq (wIfS (wOrT (wTst (wOp fEq (wOp fIx (wVar 2) (wC (.s (.int 0)))) (wC (.s (.str "cell"))))) (wNotT (wTst (wCall c_is_row (wCons (wOp fIx (wVar 2) (wC (.s (.int 3)))) (wCons (wC (.s (.int 0))) (wCons (wC (.s (.int 4))) wNil)))))))
  (wRet (wC (.s (.bool false))))
  wNext)
  (wRet (wCall1 fAll (wCons (wLc (wSeqC (wOp fIx (wVar 2) (wC (.s (.int 3))))) false [3] [3] wYes (wFrz (wCall c_is_name_of (wCons (wVar 0) (wCons (wVar 1) (wCons (wVar 3) wNil)))))) wNil)))))))
theorem ok_is_item_of (T : Txt K mg cl) {k : Nat} {c : Ct} {j_is_row : Nat} {c_is_row : Ct} (G_is_row : FnOk P wd K mg base (L2.CX P wd) j_is_row cl.f_is_row cl.d_is_row P_is_row (spD K c_is_row)) (h_is_row : j_is_row ≤ k) {j_is_word : Nat} {c_is_word : Ct} (G_is_word : FnOk P wd K mg base (L2.CX P wd) j_is_word cl.f_is_word cl.d_is_word P_is_word (spD K c_is_word)) (h_is_word : j_is_word ≤ k) {j_is_name_of : Nat} {c_is_name_of : Ct} (G_is_name_of : FnOk P wd K mg base (L2.CX P wd) j_is_name_of cl.f_is_name_of cl.d_is_name_of P_is_name_of (spD K c_is_name_of)) (h_is_name_of : j_is_name_of ≤ k) (hlen : ∀ rs Q E, c rs Q E → rs.length = P_is_item_of.length)
    (hw : ∀ rs Q E, c rs Q E → w_is_item_of K cl c_is_row c_is_word c_is_name_of (rho N_is_item_of.length rs) { nx := fun _ => Q (.s .none), rt := Q, er := fun cls _ => E cls }) :
    FnOk P wd K mg base (L2.CX P wd) (k + 1) cl.f_is_item_of cl.d_is_item_of P_is_item_of (spD K c) :=
  fnD T.F_is_item_of sc_is_item_of hlen (fun cdv A outer s H E hr => by
  have tk := takes_of (X := cxOf (L2.CX P wd) P wd K mg base N_is_item_of "is_item_of" (defScope s_is_item_of) cl.f_is_item_of cdv A outer s H E) rfl rfl rfl rfl
  exact (pds_cons (pds_if (pdt_w (pdw_or (pdt_not (pdt_val (pd_call (pe_callS G_is_row (hr.mono h_is_row) (by rfl) T.m_is_row T.F_is_row.kp T.b_is_row (fun σ => passAt tk σ) (pda_cons (pd_var (pv 2)) (pda_cons pd_int (pda_cons pd_int pda_nil))))))) (pdw_or1 (pdt_not (pdt_val (pd_call (pe_callS G_is_word (hr.mono h_is_word) (by rfl) T.m_is_word T.F_is_word.kp T.b_is_word (fun σ => passAt tk σ) (pda_cons (pd_ix (o_ix hr.units) (pd_var (pv 2)) pd_int (fun _ _ => rfl)) (pda_cons (pd_tup (pda_cons pd_str (pda_cons pd_str pda_nil))) pda_nil)))))))))
  (pds_one (pds_ret pd_bl))
  pds_nil)
  (pds_cons (pds_if (pdt_w (pdw_or (pdt_not (pdt_val (pd_call (pe_callS G_is_name_of (hr.mono h_is_name_of) (by rfl) T.m_is_name_of T.F_is_name_of.kp T.b_is_name_of (fun σ => passAt tk σ) (pda_cons (pd_var (pv 0)) (pda_cons (pd_var (pv 1)) (pda_cons (pd_ix (o_ix hr.units) (pd_var (pv 2)) pd_int (fun _ _ => rfl)) pda_nil))))))) (pdw_or1 (pdt_not (pdt_val (pd_call (pe_callS G_is_name_of (hr.mono h_is_name_of) (by rfl) T.m_is_name_of T.F_is_name_of.kp T.b_is_name_of (fun σ => passAt tk σ) (pda_cons (pd_var (pv 0)) (pda_cons (pd_var (pv 1)) (pda_cons (pd_ix (o_ix hr.units) (pd_var (pv 2)) pd_int (fun _ _ => rfl)) pda_nil))))))))))
  (pds_one (pds_ret pd_bl))
  pds_nil)
  (pds_cons (pds_if (pdt_cmp (o_eq hr.units) (call_core (t := fun _ _ _ => True) (pe_callB c_len (by rfl) T.n_len (by decide +kernel) (pda_cons (pd_var (pv 2)) pda_nil))) pd_int (nomark _))
  (pds_one (pds_ret pd_bl))
  pds_nil)
  (pds_cons (pds_if (pdt_w (pdw_or (pdt_cmp (o_eq hr.units) (pd_ix (o_ix hr.units) (pd_var (pv 2)) pd_int (fun _ _ => rfl)) pd_str (nomark _)) (pdw_or1 (pdt_not (pdt_val (pd_call (pe_callS G_is_row (hr.mono h_is_row) (by rfl) T.m_is_row T.F_is_row.kp T.b_is_row (fun σ => passAt tk σ) (pda_cons (pd_ix (o_ix hr.units) (pd_var (pv 2)) pd_int (fun _ _ => rfl)) (pda_cons pd_int (pda_cons (pd_const (v := .int 4) (d := .int 4) (pe_glob (v := .int 4) rfl T.v_MOST_OUTS.choose_spec ⟨_, rfl⟩) (fun _ => .int _)) pda_nil))))))))))
  (pds_one (pds_ret pd_bl))
  pds_nil)
  (pds_one (pds_ret (call_core (t := fun _ _ _ => True) (pe_callB (c_all rfl) (by rfl) T.n_all (by decide +kernel) (pda_cons (pd_lc (tup := false) (is := [3]) (pe_lc (own := [("out", 3)]) (g := gC K false [3]) rfl sc_is_item_of.nd (pic_seq (pd_ix (o_ix hr.units) (pd_var (pv 2)) pd_int (fun _ _ => rfl))) (blkOk_by (own := [("out", 3)]) (N := N_is_item_of) (sc := defScope s_is_item_of) (by decide +kernel)) (fun _ _ _ _ _ => (pg_name (i := 3) sc_is_item_of.nd rfl (by first | exact Or.inl rfl | exact Or.inr rfl))) (fun _ _ _ _ _ => pdts_nil) (fun _ _ _ _ _ => (pd_frz (pd_call (pe_callS G_is_name_of (hr.mono h_is_name_of) (by rfl) T.m_is_name_of T.F_is_name_of.kp T.b_is_name_of (fun σ => passAt takes0 σ) (pda_cons (pd_var (pv 0)) (pda_cons (pd_var (pv 1)) (pda_cons (pd_var (pv 3)) pda_nil)))))))) (by decide) (by first | exact Or.inl rfl | exact Or.inr ⟨_, rfl⟩)) pda_nil)))))))))) hw
def w_is_case_of (K : Frag) (cl : Ad) (c_within c_is_row c_is_fact_of c_is_item_of : Ct) : SW :=
  (wSeq (wIfS (wOrT (wNotT (wTst (wCall c_is_row (wCons (wVar 1) (wCons (wC (.s (.int 3))) (wCons (wC (.s (.int 3))) wNil)))))) (wNotT (wTst (wCall c_within (wCons (wOp fIx (wVar 1) (wC (.s (.int 0)))) (wCons (wC (.s (.int 0))) (wCons (wC (.s (.int 2))) wNil)))))))
  (wRet (wC (.s (.bool false))))
  wNext)
  (wSeq (wAsgT (wVar 1) (gwTup 3 (gwCons (gwName 2) (gwCons (gwName 3) (gwCons (gwName 4) gwNil)))))
  (wSeq (wIfS (wOrT (wNotT (wTst (wCall c_is_row (wCons (wVar 3) (wCons (wC (.s (.int 0))) (wCons (wC (.s (.int 15))) wNil)))))) (wNotT (wTst (wCall c_is_row (wCons (wVar 4) (wCons (wC (.s (.int 0))) (wCons (wC (.s (.int 6))) wNil)))))))
  (wRet (wC (.s (.bool false))))
  wNext)
  (wSeq (wIfS (wNotT (wTst (wCall1 fAll (wCons (wLc (wSeqC (wVar 3)) false [5] [5] wYes (wFrz (wCall c_is_fact_of (wCons (wVar 0) (wCons (wVar 2) (wCons (wVar 5) wNil)))))) wNil))))
  (wRet (wC (.s (.bool false))))
  wNext)
  (wRet (wCall1 fAll (wCons (wLc (wSeqC (wVar 4)) false [6] [6] wYes (wFrz (wCall c_is_item_of (wCons (wVar 0) (wCons (wVar 2) (wCons (wVar 6) wNil)))))) wNil)))))))
theorem ok_is_case_of (T : Txt K mg cl) {k : Nat} {c : Ct} {j_within : Nat} {c_within : Ct} (G_within : FnOk P wd K mg base (L2.CX P wd) j_within cl.f_within cl.d_within P_within (spD K c_within)) (h_within : j_within ≤ k) {j_is_row : Nat} {c_is_row : Ct} (G_is_row : FnOk P wd K mg base (L2.CX P wd) j_is_row cl.f_is_row cl.d_is_row P_is_row (spD K c_is_row)) (h_is_row : j_is_row ≤ k) {j_is_fact_of : Nat} {c_is_fact_of : Ct} (G_is_fact_of : FnOk P wd K mg base (L2.CX P wd) j_is_fact_of cl.f_is_fact_of cl.d_is_fact_of P_is_fact_of (spD K c_is_fact_of)) (h_is_fact_of : j_is_fact_of ≤ k) {j_is_item_of : Nat} {c_is_item_of : Ct} (G_is_item_of : FnOk P wd K mg base (L2.CX P wd) j_is_item_of cl.f_is_item_of cl.d_is_item_of P_is_item_of (spD K c_is_item_of)) (h_is_item_of : j_is_item_of ≤ k) (hlen : ∀ rs Q E, c rs Q E → rs.length = P_is_case_of.length)
    (hw : ∀ rs Q E, c rs Q E → w_is_case_of K cl c_within c_is_row c_is_fact_of c_is_item_of (rho N_is_case_of.length rs) { nx := fun _ => Q (.s .none), rt := Q, er := fun cls _ => E cls }) :
    FnOk P wd K mg base (L2.CX P wd) (k + 1) cl.f_is_case_of cl.d_is_case_of P_is_case_of (spD K c) :=
  fnD T.F_is_case_of sc_is_case_of hlen (fun cdv A outer s H E hr => by
  have tk := takes_of (X := cxOf (L2.CX P wd) P wd K mg base N_is_case_of "is_case_of" (defScope s_is_case_of) cl.f_is_case_of cdv A outer s H E) rfl rfl rfl rfl
  exact (pds_cons (pds_if (pdt_w (pdw_or (pdt_not (pdt_val (pd_call (pe_callS G_is_row (hr.mono h_is_row) (by rfl) T.m_is_row T.F_is_row.kp T.b_is_row (fun σ => passAt tk σ) (pda_cons (pd_var (pv 1)) (pda_cons pd_int (pda_cons pd_int pda_nil))))))) (pdw_or1 (pdt_not (pdt_val (pd_call (pe_callS G_within (hr.mono h_within) (by rfl) T.m_within T.F_within.kp T.b_within (fun σ => passAt tk σ) (pda_cons (pd_ix (o_ix hr.units) (pd_var (pv 1)) pd_int (fun _ _ => rfl)) (pda_cons pd_int (pda_cons (pd_const (v := .int 2) (d := .int 2) (pe_glob (v := .int 2) rfl T.v_MOST_HIDDEN.choose_spec ⟨_, rfl⟩) (fun _ => .int _)) pda_nil))))))))))
  (pds_one (pds_ret pd_bl))
  pds_nil)
  (pds_cons (pds_asgT (ps_asg (pd_var (pv 1)) (pgd_tup (pg_tup rfl (pgds_cons (pgs_cons (pgd_name (pg_name (i := 2) sc_is_case_of.nd rfl (by first | exact Or.inl rfl | exact Or.inr rfl))) (pgds_cons (pgs_cons (pgd_name (pg_name (i := 3) sc_is_case_of.nd rfl (by first | exact Or.inl rfl | exact Or.inr rfl))) (pgds_cons (pgs_cons (pgd_name (pg_name (i := 4) sc_is_case_of.nd rfl (by first | exact Or.inl rfl | exact Or.inr rfl))) pgds_nil))))))))))
  (pds_cons (pds_if (pdt_w (pdw_or (pdt_not (pdt_val (pd_call (pe_callS G_is_row (hr.mono h_is_row) (by rfl) T.m_is_row T.F_is_row.kp T.b_is_row (fun σ => passAt tk σ) (pda_cons (pd_var (pv 3)) (pda_cons pd_int (pda_cons (pd_const (v := .int 15) (d := .int 15) (pe_glob (v := .int 15) rfl T.v_MOST_FACTS.choose_spec ⟨_, rfl⟩) (fun _ => .int _)) pda_nil))))))) (pdw_or1 (pdt_not (pdt_val (pd_call (pe_callS G_is_row (hr.mono h_is_row) (by rfl) T.m_is_row T.F_is_row.kp T.b_is_row (fun σ => passAt tk σ) (pda_cons (pd_var (pv 4)) (pda_cons pd_int (pda_cons (pd_const (v := .int 6) (d := .int 6) (pe_glob (v := .int 6) rfl T.v_MOST_ITEMS.choose_spec ⟨_, rfl⟩) (fun _ => .int _)) pda_nil))))))))))
  (pds_one (pds_ret pd_bl))
  pds_nil)
  (pds_cons (pds_if (pdt_not (pdt_val (call_core (t := fun _ _ _ => True) (pe_callB (c_all rfl) (by rfl) T.n_all (by decide +kernel) (pda_cons (pd_lc (tup := false) (is := [5]) (pe_lc (own := [("fact", 5)]) (g := gC K false [5]) rfl sc_is_case_of.nd (pic_seq (pd_var (pv 3))) (blkOk_by (own := [("fact", 5)]) (N := N_is_case_of) (sc := defScope s_is_case_of) (by decide +kernel)) (fun _ _ _ _ _ => (pg_name (i := 5) sc_is_case_of.nd rfl (by first | exact Or.inl rfl | exact Or.inr rfl))) (fun _ _ _ _ _ => pdts_nil) (fun _ _ _ _ _ => (pd_frz (pd_call (pe_callS G_is_fact_of (hr.mono h_is_fact_of) (by rfl) T.m_is_fact_of T.F_is_fact_of.kp T.b_is_fact_of (fun σ => passAt takes0 σ) (pda_cons (pd_var (pv 0)) (pda_cons (pd_var (pv 2)) (pda_cons (pd_var (pv 5)) pda_nil)))))))) (by decide) (by first | exact Or.inl rfl | exact Or.inr ⟨_, rfl⟩)) pda_nil)))))
  (pds_one (pds_ret pd_bl))
  pds_nil)
  (pds_one (pds_ret (call_core (t := fun _ _ _ => True) (pe_callB (c_all rfl) (by rfl) T.n_all (by decide +kernel) (pda_cons (pd_lc (tup := false) (is := [6]) (pe_lc (own := [("item", 6)]) (g := gC K false [6]) rfl sc_is_case_of.nd (pic_seq (pd_var (pv 4))) (blkOk_by (own := [("item", 6)]) (N := N_is_case_of) (sc := defScope s_is_case_of) (by decide +kernel)) (fun _ _ _ _ _ => (pg_name (i := 6) sc_is_case_of.nd rfl (by first | exact Or.inl rfl | exact Or.inr rfl))) (fun _ _ _ _ _ => pdts_nil) (fun _ _ _ _ _ => (pd_frz (pd_call (pe_callS G_is_item_of (hr.mono h_is_item_of) (by rfl) T.m_is_item_of T.F_is_item_of.kp T.b_is_item_of (fun σ => passAt takes0 σ) (pda_cons (pd_var (pv 0)) (pda_cons (pd_var (pv 2)) (pda_cons (pd_var (pv 6)) pda_nil)))))))) (by decide) (by first | exact Or.inl rfl | exact Or.inr ⟨_, rfl⟩)) pda_nil)))))))))) hw
def w_is_case (K : Frag) (cl : Ad) (c_within c_is_case_of : Ct) : SW :=
  (wSeq (wIfS (wNotT (wTst (wCall c_within (wCons (wVar 0) (wCons (wC (.s (.int 0))) (wCons (wC (.s (.int 3))) wNil))))))
  (wRaise (.ref cl.c_BadMany))
  wNext)
  (wRet (wCall c_is_case_of (wCons (wVar 0) (wCons (wVar 1) wNil)))))
theorem ok_is_case (T : Txt K mg cl) {k : Nat} {c : Ct} {j_within : Nat} {c_within : Ct} (G_within : FnOk P wd K mg base (L2.CX P wd) j_within cl.f_within cl.d_within P_within (spD K c_within)) (h_within : j_within ≤ k) {j_is_case_of : Nat} {c_is_case_of : Ct} (G_is_case_of : FnOk P wd K mg base (L2.CX P wd) j_is_case_of cl.f_is_case_of cl.d_is_case_of P_is_case_of (spD K c_is_case_of)) (h_is_case_of : j_is_case_of ≤ k) (hlen : ∀ rs Q E, c rs Q E → rs.length = P_is_case.length)
    (hw : ∀ rs Q E, c rs Q E → w_is_case K cl c_within c_is_case_of (rho N_is_case.length rs) { nx := fun _ => Q (.s .none), rt := Q, er := fun cls _ => E cls }) :
    FnOk P wd K mg base (L2.CX P wd) (k + 1) cl.f_is_case cl.d_is_case P_is_case (spD K c) :=
  fnD T.F_is_case sc_is_case hlen (fun cdv A outer s H E hr => by
  have tk := takes_of (X := cxOf (L2.CX P wd) P wd K mg base N_is_case "is_case" (defScope s_is_case) cl.f_is_case cdv A outer s H E) rfl rfl rfl rfl
  exact (pds_cons (pds_if (pdt_not (pdt_val (pd_call (pe_callS G_within (hr.mono h_within) (by rfl) T.m_within T.F_within.kp T.b_within (fun σ => passAt tk σ) (pda_cons (pd_var (pv 0)) (pda_cons pd_int (pda_cons (pd_const (v := .int 3) (d := .int 3) (pe_glob (v := .int 3) rfl T.v_MOST_VARIABLES.choose_spec ⟨_, rfl⟩) (fun _ => .int _)) pda_nil)))))))
  (pds_one (pds_raise tk (pmk_own PySem.F.excBase_ValueError T.x_BadMany T.g_BadMany T.k_BadMany (raises_own T.s_BadMany T.t_BadMany) (by rfl)) rfl))
  pds_nil)
  (pds_one (pds_ret (pd_call (pe_callS G_is_case_of (hr.mono h_is_case_of) (by rfl) T.m_is_case_of T.F_is_case_of.kp T.b_is_case_of (fun σ => passAt tk σ) (pda_cons (pd_var (pv 0)) (pda_cons (pd_var (pv 1)) pda_nil)))))))) hw
def w_is_statement (K : Frag) (cl : Ad) (c_within c_is_row c_is_case_of : Ct) : SW :=
  (wSeq (wIfS (wOrT (wNotT (wTst (wCall c_is_row (wCons (wVar 0) (wCons (wC (.s (.int 2))) (wCons (wC (.s (.int 2))) wNil)))))) (wOrT (wNotT (wTst (wCall c_within (wCons (wOp fIx (wVar 0) (wC (.s (.int 0)))) (wCons (wC (.s (.int 0))) (wCons (wC (.s (.int 3))) wNil)))))) (wNotT (wTst (wCall c_is_row (wCons (wOp fIx (wVar 0) (wC (.s (.int 1)))) (wCons (wC (.s (.int 0))) (wCons (wC (.s (.int 12))) wNil))))))))
  (wRet (wC (.s (.bool false))))
  wNext)
  (wRet (wCall1 fAll (wCons (wLc (wSeqC (wOp fIx (wVar 0) (wC (.s (.int 1))))) false [1] [1] wYes (wFrz (wCall c_is_case_of (wCons (wOp fIx (wVar 0) (wC (.s (.int 0)))) (wCons (wVar 1) wNil))))) wNil))))
theorem ok_is_statement (T : Txt K mg cl) {k : Nat} {c : Ct} {j_within : Nat} {c_within : Ct} (G_within : FnOk P wd K mg base (L2.CX P wd) j_within cl.f_within cl.d_within P_within (spD K c_within)) (h_within : j_within ≤ k) {j_is_row : Nat} {c_is_row : Ct} (G_is_row : FnOk P wd K mg base (L2.CX P wd) j_is_row cl.f_is_row cl.d_is_row P_is_row (spD K c_is_row)) (h_is_row : j_is_row ≤ k) {j_is_case_of : Nat} {c_is_case_of : Ct} (G_is_case_of : FnOk P wd K mg base (L2.CX P wd) j_is_case_of cl.f_is_case_of cl.d_is_case_of P_is_case_of (spD K c_is_case_of)) (h_is_case_of : j_is_case_of ≤ k) (hlen : ∀ rs Q E, c rs Q E → rs.length = P_is_statement.length)
    (hw : ∀ rs Q E, c rs Q E → w_is_statement K cl c_within c_is_row c_is_case_of (rho N_is_statement.length rs) { nx := fun _ => Q (.s .none), rt := Q, er := fun cls _ => E cls }) :
    FnOk P wd K mg base (L2.CX P wd) (k + 1) cl.f_is_statement cl.d_is_statement P_is_statement (spD K c) :=
  fnD T.F_is_statement sc_is_statement hlen (fun cdv A outer s H E hr => by
  have tk := takes_of (X := cxOf (L2.CX P wd) P wd K mg base N_is_statement "is_statement" (defScope s_is_statement) cl.f_is_statement cdv A outer s H E) rfl rfl rfl rfl
  exact (pds_cons (pds_if (pdt_w (pdw_or (pdt_not (pdt_val (pd_call (pe_callS G_is_row (hr.mono h_is_row) (by rfl) T.m_is_row T.F_is_row.kp T.b_is_row (fun σ => passAt tk σ) (pda_cons (pd_var (pv 0)) (pda_cons pd_int (pda_cons pd_int pda_nil))))))) (pdw_or (pdt_not (pdt_val (pd_call (pe_callS G_within (hr.mono h_within) (by rfl) T.m_within T.F_within.kp T.b_within (fun σ => passAt tk σ) (pda_cons (pd_ix (o_ix hr.units) (pd_var (pv 0)) pd_int (fun _ _ => rfl)) (pda_cons pd_int (pda_cons (pd_const (v := .int 3) (d := .int 3) (pe_glob (v := .int 3) rfl T.v_MOST_VARIABLES.choose_spec ⟨_, rfl⟩) (fun _ => .int _)) pda_nil))))))) (pdw_or1 (pdt_not (pdt_val (pd_call (pe_callS G_is_row (hr.mono h_is_row) (by rfl) T.m_is_row T.F_is_row.kp T.b_is_row (fun σ => passAt tk σ) (pda_cons (pd_ix (o_ix hr.units) (pd_var (pv 0)) pd_int (fun _ _ => rfl)) (pda_cons pd_int (pda_cons (pd_const (v := .int 12) (d := .int 12) (pe_glob (v := .int 12) rfl T.v_MOST_CASES.choose_spec ⟨_, rfl⟩) (fun _ => .int _)) pda_nil)))))))))))
  (pds_one (pds_ret pd_bl))
  pds_nil)
  (pds_one (pds_ret (call_core (t := fun _ _ _ => True) (pe_callB (c_all rfl) (by rfl) T.n_all (by decide +kernel) (pda_cons (pd_lc (tup := false) (is := [1]) (pe_lc (own := [("case", 1)]) (g := gC K false [1]) rfl sc_is_statement.nd (pic_seq (pd_ix (o_ix hr.units) (pd_var (pv 0)) pd_int (fun _ _ => rfl))) (blkOk_by (own := [("case", 1)]) (N := N_is_statement) (sc := defScope s_is_statement) (by decide +kernel)) (fun _ _ _ _ _ => (pg_name (i := 1) sc_is_statement.nd rfl (by first | exact Or.inl rfl | exact Or.inr rfl))) (fun _ _ _ _ _ => pdts_nil) (fun _ _ _ _ _ => (pd_frz (pd_call (pe_callS G_is_case_of (hr.mono h_is_case_of) (by rfl) T.m_is_case_of T.F_is_case_of.kp T.b_is_case_of (fun σ => passAt takes0 σ) (pda_cons (pd_ix (o_ix hr.units) (pd_var (pv 0)) pd_int (fun _ _ => rfl)) (pda_cons (pd_var (pv 1)) pda_nil))))))) (by decide) (by first | exact Or.inl rfl | exact Or.inr ⟨_, rfl⟩)) pda_nil))))))) hw
def w_need_statement (K : Frag) (cl : Ad) (c_is_statement : Ct) : SW :=
  (wIfS (wNotT (wTst (wCall c_is_statement (wCons (wVar 0) wNil))))
  (wRaise (.ref cl.c_BadStatement))
  wNext)
theorem ok_need_statement (T : Txt K mg cl) {k : Nat} {c : Ct} {j_is_statement : Nat} {c_is_statement : Ct} (G_is_statement : FnOk P wd K mg base (L2.CX P wd) j_is_statement cl.f_is_statement cl.d_is_statement P_is_statement (spD K c_is_statement)) (h_is_statement : j_is_statement ≤ k) (hlen : ∀ rs Q E, c rs Q E → rs.length = P_need_statement.length)
    (hw : ∀ rs Q E, c rs Q E → w_need_statement K cl c_is_statement (rho N_need_statement.length rs) { nx := fun _ => Q (.s .none), rt := Q, er := fun cls _ => E cls }) :
    FnOk P wd K mg base (L2.CX P wd) (k + 1) cl.f_need_statement cl.d_need_statement P_need_statement (spD K c) :=
  fnD T.F_need_statement sc_need_statement hlen (fun cdv A outer s H E hr => by
  have tk := takes_of (X := cxOf (L2.CX P wd) P wd K mg base N_need_statement "need_statement" (defScope s_need_statement) cl.f_need_statement cdv A outer s H E) rfl rfl rfl rfl
  exact (pds_one (pds_if (pdt_not (pdt_val (pd_call (pe_callS G_is_statement (hr.mono h_is_statement) (by rfl) T.m_is_statement T.F_is_statement.kp T.b_is_statement (fun σ => passAt tk σ) (pda_cons (pd_var (pv 0)) pda_nil)))))
  (pds_one (pds_raise tk (pmk_own PySem.F.excBase_ValueError T.x_BadStatement T.g_BadStatement T.k_BadStatement (raises_own T.s_BadStatement T.t_BadStatement) (by rfl)) rfl))
  pds_nil))) hw
def w_outs_in (K : Frag) (cl : Ad) : SW :=
  (wRet (wIf (wTst (wOp fEq (wCall1 fLen (wCons (wVar 0) wNil)) (wC (.s (.int 4))))) (wOp fIx (wVar 0) (wC (.s (.int 3)))) (wTup wNil)))
theorem ok_outs_in (T : Txt K mg cl) {k : Nat} {c : Ct} (hlen : ∀ rs Q E, c rs Q E → rs.length = P_outs_in.length)
    (hw : ∀ rs Q E, c rs Q E → w_outs_in K cl (rho N_outs_in.length rs) { nx := fun _ => Q (.s .none), rt := Q, er := fun cls _ => E cls }) :
    FnOk P wd K mg base (L2.CX P wd) (k + 1) cl.f_outs_in cl.d_outs_in P_outs_in (spD K c) :=
  fnD T.F_outs_in sc_outs_in hlen (fun cdv A outer s H E hr => by
  have tk := takes_of (X := cxOf (L2.CX P wd) P wd K mg base N_outs_in "outs_in" (defScope s_outs_in) cl.f_outs_in cdv A outer s H E) rfl rfl rfl rfl
  exact (pds_one (pds_ret (pd_if (pdt_cmp (o_eq hr.units) (call_core (t := fun _ _ _ => True) (pe_callB c_len (by rfl) T.n_len (by decide +kernel) (pda_cons (pd_var (pv 0)) pda_nil))) pd_int (nomark _)) (pd_ix (o_ix hr.units) (pd_var (pv 0)) pd_int (fun _ _ => rfl)) (pd_tup pda_nil))))) hw
def w_most_hidden (K : Frag) (cl : Ad) : SW :=
  (wRet (wCallK fMaxD (wCons (wLc (wSeqC (wOp fIx (wVar 0) (wC (.s (.int 1))))) false [1] [1] wYes (wOp fIx (wVar 1) (wC (.s (.int 0))))) wNil) (wCons (wC (.s (.int 0))) wNil)))
theorem ok_most_hidden (T : Txt K mg cl) {k : Nat} {c : Ct} (hlen : ∀ rs Q E, c rs Q E → rs.length = P_most_hidden.length)
    (hw : ∀ rs Q E, c rs Q E → w_most_hidden K cl (rho N_most_hidden.length rs) { nx := fun _ => Q (.s .none), rt := Q, er := fun cls _ => E cls }) :
    FnOk P wd K mg base (L2.CX P wd) (k + 1) cl.f_most_hidden cl.d_most_hidden P_most_hidden (spD K c) :=
  fnD T.F_most_hidden sc_most_hidden hlen (fun cdv A outer s H E hr => by
  have tk := takes_of (X := cxOf (L2.CX P wd) P wd K mg base N_most_hidden "most_hidden" (defScope s_most_hidden) cl.f_most_hidden cdv A outer s H E) rfl rfl rfl rfl
  exact (pds_one (pds_ret (pd_callK (pe_callBK (c_maxD rfl hr.units) (by rfl) T.n_max (by decide +kernel) (pda_cons (pd_lc (tup := false) (is := [1]) (pe_lc (own := [("case", 1)]) (g := gC K false [1]) rfl sc_most_hidden.nd (pic_seq (pd_ix (o_ix hr.units) (pd_var (pv 0)) pd_int (fun _ _ => rfl))) (blkOk_by (own := [("case", 1)]) (N := N_most_hidden) (sc := defScope s_most_hidden) (by decide +kernel)) (fun _ _ _ _ _ => (pg_name (i := 1) sc_most_hidden.nd rfl (by first | exact Or.inl rfl | exact Or.inr rfl))) (fun _ _ _ _ _ => pdts_nil) (fun _ _ _ _ _ => (pd_ix (o_ix hr.units) (pd_var (pv 1)) pd_int (fun _ _ => rfl)))) (by decide) (by first | exact Or.inl rfl | exact Or.inr ⟨_, rfl⟩)) pda_nil) (pdk_cons pd_int pdk_nil)))))) hw
def w_threshold_in (K : Frag) (cl : Ad) (c_most_hidden : Ct) : SW :=
  (wRet (wOp fAdd (wCall c_most_hidden (wCons (wVar 0) wNil)) (wC (.s (.int 2)))))
theorem ok_threshold_in (T : Txt K mg cl) {k : Nat} {c : Ct} {j_most_hidden : Nat} {c_most_hidden : Ct} (G_most_hidden : FnOk P wd K mg base (L2.CX P wd) j_most_hidden cl.f_most_hidden cl.d_most_hidden P_most_hidden (spD K c_most_hidden)) (h_most_hidden : j_most_hidden ≤ k) (hlen : ∀ rs Q E, c rs Q E → rs.length = P_threshold_in.length)
    (hw : ∀ rs Q E, c rs Q E → w_threshold_in K cl c_most_hidden (rho N_threshold_in.length rs) { nx := fun _ => Q (.s .none), rt := Q, er := fun cls _ => E cls }) :
    FnOk P wd K mg base (L2.CX P wd) (k + 1) cl.f_threshold_in cl.d_threshold_in P_threshold_in (spD K c) :=
  fnD T.F_threshold_in sc_threshold_in hlen (fun cdv A outer s H E hr => by
  have tk := takes_of (X := cxOf (L2.CX P wd) P wd K mg base N_threshold_in "threshold_in" (defScope s_threshold_in) cl.f_threshold_in cdv A outer s H E) rfl rfl rfl rfl
  exact (pds_one (pds_ret (pd_op o_add (pd_call (pe_callS G_most_hidden (hr.mono h_most_hidden) (by rfl) T.m_most_hidden T.F_most_hidden.kp T.b_most_hidden (fun σ => passAt tk σ) (pda_cons (pd_var (pv 0)) pda_nil))) pd_int)))) hw
def w_threshold (K : Frag) (cl : Ad) (c_need_statement c_threshold_in : Ct) : SW :=
  (wSeq (wExpr (wCall c_need_statement (wCons (wVar 0) wNil)))
  (wRet (wCall c_threshold_in (wCons (wVar 0) wNil))))
theorem ok_threshold (T : Txt K mg cl) {k : Nat} {c : Ct} {j_need_statement : Nat} {c_need_statement : Ct} (G_need_statement : FnOk P wd K mg base (L2.CX P wd) j_need_statement cl.f_need_statement cl.d_need_statement P_need_statement (spD K c_need_statement)) (h_need_statement : j_need_statement ≤ k) {j_threshold_in : Nat} {c_threshold_in : Ct} (G_threshold_in : FnOk P wd K mg base (L2.CX P wd) j_threshold_in cl.f_threshold_in cl.d_threshold_in P_threshold_in (spD K c_threshold_in)) (h_threshold_in : j_threshold_in ≤ k) (hlen : ∀ rs Q E, c rs Q E → rs.length = P_threshold.length)
    (hw : ∀ rs Q E, c rs Q E → w_threshold K cl c_need_statement c_threshold_in (rho N_threshold.length rs) { nx := fun _ => Q (.s .none), rt := Q, er := fun cls _ => E cls }) :
    FnOk P wd K mg base (L2.CX P wd) (k + 1) cl.f_threshold cl.d_threshold P_threshold (spD K c) :=
  fnD T.F_threshold sc_threshold hlen (fun cdv A outer s H E hr => by
  have tk := takes_of (X := cxOf (L2.CX P wd) P wd K mg base N_threshold "threshold" (defScope s_threshold) cl.f_threshold cdv A outer s H E) rfl rfl rfl rfl
  exact (pds_cons (pds_expr (ps_expr (pd_call (pe_callS G_need_statement (hr.mono h_need_statement) (by rfl) T.m_need_statement T.F_need_statement.kp T.b_need_statement (fun σ => passAt tk σ) (pda_cons (pd_var (pv 0)) pda_nil)))))
  (pds_one (pds_ret (pd_call (pe_callS G_threshold_in (hr.mono h_threshold_in) (by rfl) T.m_threshold_in T.F_threshold_in.kp T.b_threshold_in (fun σ => passAt tk σ) (pda_cons (pd_var (pv 0)) pda_nil))))))) hw
def w_names_in_b1 (K : Frag) (cl : Ad) (c_outs_in : Ct) : SW :=
  (wExt 1 (wLst (wCons (wVar 3) (wCons (wVar 4) wNil))))
def w_names_in_b2 (K : Frag) (cl : Ad) (c_outs_in : Ct) : SW :=
  (wExt 1 (wOp fAdd (wLst (wCons (wOp fIx (wVar 5) (wC (.s (.int 1)))) (wCons (wOp fIx (wVar 5) (wC (.s (.int 2)))) wNil))) (wCall1 fListB (wCons (wCall c_outs_in (wCons (wVar 5) wNil)) wNil))))
def w_names_in (K : Frag) (cl : Ad) (c_outs_in : Ct) : SW :=
  (wSeq (wAsg 1 (wLst wNil))
  (wSeq (wFor (wSeqF (wOp fIx (wVar 0) (wC (.s (.int 1))))) (gwTup 3 (gwCons (gwName 2) (gwCons (gwName 3) (gwCons (gwName 4) gwNil)))) (w_names_in_b1 K cl c_outs_in))
  (wSeq (wFor (wSeqF (wOp fIx (wVar 0) (wC (.s (.int 2))))) (gwName 5) (w_names_in_b2 K cl c_outs_in))
  (wRetS 1))))
theorem ok_names_in (T : Txt K mg cl) {k : Nat} {c : Ct} {j_outs_in : Nat} {c_outs_in : Ct} (G_outs_in : FnOk P wd K mg base (L2.CX P wd) j_outs_in cl.f_outs_in cl.d_outs_in P_outs_in (spD K c_outs_in)) (h_outs_in : j_outs_in ≤ k) (hlen : ∀ rs Q E, c rs Q E → rs.length = P_names_in.length)
    (hw : ∀ rs Q E, c rs Q E → w_names_in K cl c_outs_in (rho N_names_in.length rs) { nx := fun _ => Q (.s .none), rt := Q, er := fun cls _ => E cls }) :
    FnOk P wd K mg base (L2.CX P wd) (k + 1) cl.f_names_in cl.d_names_in P_names_in (spD K c) :=
  fnD T.F_names_in sc_names_in hlen (fun cdv A outer s H E hr => by
  have tk := takes_of (X := cxOf (L2.CX P wd) P wd K mg base N_names_in "names_in" (defScope s_names_in) cl.f_names_in cdv A outer s H E) rfl rfl rfl rfl
  exact (pds_cons (pds_set (ps_set (i := 1) sc_names_in.nd rfl (by first | exact Or.inl rfl | exact Or.inr rfl) (pd_lst pda_nil)))
  (pds_cons (pds_for (ps_for (passes_of rfl) rfl (pif_seq (pd_ix (o_ix hr.units) (pd_var (pv 0)) pd_int (fun _ _ => rfl))) (pgd_tup (pg_tup rfl (pgds_cons (pgs_cons (pgd_name (pg_name (i := 2) sc_names_in.nd rfl (by first | exact Or.inl rfl | exact Or.inr rfl))) (pgds_cons (pgs_cons (pgd_name (pg_name (i := 3) sc_names_in.nd rfl (by first | exact Or.inl rfl | exact Or.inr rfl))) (pgds_cons (pgs_cons (pgd_name (pg_name (i := 4) sc_names_in.nd rfl (by first | exact Or.inl rfl | exact Or.inr rfl))) pgds_nil)))))))) (pds_one (pds_ext (i := 1) (ps_expr (pe_bm PySem.F.plainAttrs_list PySem.F.slot_list_extend PySem.F.type_list_extend mt_extB (pv 1) (pa_cons (pd_lst (pda_cons (pd_var (pv 3)) (pda_cons (pd_var (pv 4)) pda_nil))) pa_nil)))))))
  (pds_cons (pds_for (ps_for (passes_of rfl) rfl (pif_seq (pd_ix (o_ix hr.units) (pd_var (pv 0)) pd_int (fun _ _ => rfl))) (pgd_name (pg_name (i := 5) sc_names_in.nd rfl (by first | exact Or.inl rfl | exact Or.inr rfl))) (pds_one (pds_ext (i := 1) (ps_expr (pe_bm PySem.F.plainAttrs_list PySem.F.slot_list_extend PySem.F.type_list_extend mt_extB (pv 1) (pa_cons (pd_op o_add (pd_lst (pda_cons (pd_ix (o_ix hr.units) (pd_var (pv 5)) pd_int (fun _ _ => rfl)) (pda_cons (pd_ix (o_ix hr.units) (pd_var (pv 5)) pd_int (fun _ _ => rfl)) pda_nil))) (call_core (t := fun _ _ _ => True) (pe_callTy (c_listB rfl) (by rfl) T.n_list (by decide +kernel) (pda_cons (pd_call (pe_callS G_outs_in (hr.mono h_outs_in) (by rfl) T.m_outs_in T.F_outs_in.kp T.b_outs_in (fun σ => passAt tk σ) (pda_cons (pd_var (pv 5)) pda_nil))) pda_nil)))) pa_nil)))))))
  (pds_one (pds_retS (i := 1) (ps_ret (pv 1)))))))) hw
def w_names_used (K : Frag) (cl : Ad) (c_need_statement c_names_in : Ct) : SW :=
  (wSeq (wExpr (wCall c_need_statement (wCons (wVar 0) wNil)))
  (wSeq (wAsg 1 (wLc2 (wSeqC (wOp fIx (wVar 0) (wC (.s (.int 1))))) false [2] wYes (wSeqF (wFrz (wCall c_names_in (wCons (wVar 2) wNil)))) false [3] wYes (wVar 3) [2, 3] [3]))
  (wRet (wCall1 fTuple (wCons (wSortSc (wSeqC (wVar 1)) false [3] [3] (wTst (wChain fLe fLt (wC (.s (.int 0))) (wVar 3) (wOp fIx (wVar 0) (wC (.s (.int 0)))))) (wVar 3)) wNil)))))
theorem ok_names_used (T : Txt K mg cl) {k : Nat} {c : Ct} {j_need_statement : Nat} {c_need_statement : Ct} (G_need_statement : FnOk P wd K mg base (L2.CX P wd) j_need_statement cl.f_need_statement cl.d_need_statement P_need_statement (spD K c_need_statement)) (h_need_statement : j_need_statement ≤ k) {j_names_in : Nat} {c_names_in : Ct} (G_names_in : FnOk P wd K mg base (L2.CX P wd) j_names_in cl.f_names_in cl.d_names_in P_names_in (spD K c_names_in)) (h_names_in : j_names_in ≤ k) (hlen : ∀ rs Q E, c rs Q E → rs.length = P_names_used.length)
    (hw : ∀ rs Q E, c rs Q E → w_names_used K cl c_need_statement c_names_in (rho N_names_used.length rs) { nx := fun _ => Q (.s .none), rt := Q, er := fun cls _ => E cls }) :
    FnOk P wd K mg base (L2.CX P wd) (k + 1) cl.f_names_used cl.d_names_used P_names_used (spD K c) :=
  fnD T.F_names_used sc_names_used hlen (fun cdv A outer s H E hr => by
  have tk := takes_of (X := cxOf (L2.CX P wd) P wd K mg base N_names_used "names_used" (defScope s_names_used) cl.f_names_used cdv A outer s H E) rfl rfl rfl rfl
  exact (pds_cons (pds_expr (ps_expr (pd_call (pe_callS G_need_statement (hr.mono h_need_statement) (by rfl) T.m_need_statement T.F_need_statement.kp T.b_need_statement (fun σ => passAt tk σ) (pda_cons (pd_var (pv 0)) pda_nil)))))
  (pds_cons (pds_setLc2 (tup := false) (tup1 := false) (is := [2]) (is1 := [3]) (vs := [2, 3]) (vs1 := [3]) (ps_setLc2 (i := 1) (own := [("case", 2), ("name", 3)]) (vs1 := [3]) (g := gC K false [2]) (g1 := gC K false [3]) rfl sc_names_used.nd rfl rfl (sw_true rfl rfl rfl (by decide +kernel)) (pic_seq (pd_ix (o_ix hr.units) (pd_var (pv 0)) pd_int (fun _ _ => rfl))) (blkOk_by (own := [("case", 2), ("name", 3)]) (N := N_names_used) (sc := defScope s_names_used) (by decide +kernel)) (by decide) (fun _ _ _ _ _ => (pg_name (i := 2) sc_names_used.nd rfl (by first | exact Or.inl rfl | exact Or.inr rfl))) (fun _ _ _ _ _ => pdts_nil) (fun _ _ _ _ _ => (pif_seq (pd_frz (pd_call (pe_callS G_names_in (hr.mono h_names_in) (by rfl) T.m_names_in T.F_names_in.kp T.b_names_in (fun σ => passAt takes0 σ) (pda_cons (pd_var (pv 2)) pda_nil)))))) (fun _ _ _ _ _ => (pg_name (i := 3) sc_names_used.nd rfl (by first | exact Or.inl rfl | exact Or.inr rfl))) (fun _ _ _ _ _ => pdts_nil) (fun _ _ _ _ _ => (pd_var (pv 3)))) (by decide) (by decide) (by first | exact Or.inl rfl | exact Or.inr ⟨_, rfl⟩) (by first | exact Or.inl rfl | exact Or.inr ⟨_, rfl⟩))
  (pds_one (pds_ret (call_core (t := fun _ _ _ => True) (pe_callTy c_tuple (by rfl) T.n_tuple (by decide +kernel) (pda_cons (pd_sortSc (tup := false) (is := [3]) (pe_callB (cr_setAny rfl) (by rfl) T.n_sorted (by decide +kernel) (pa_cons (pe_scI (own := [("name", 3)]) (g := gC K false [3]) rfl sc_names_used.nd (pic_seq (pd_var (pv 1))) (blkOk_by (own := [("name", 3)]) (N := N_names_used) (sc := defScope s_names_used) (by decide +kernel)) (fun _ _ _ _ _ => (pg_name (i := 3) sc_names_used.nd rfl (by first | exact Or.inl rfl | exact Or.inr rfl))) (fun _ _ _ _ _ => (pdts_one (pdt_chain (pt_chain o_le (o_lt hr.units0) pd_int (pd_var (pv 3)) (pd_ix (o_ix hr.units) (pd_var (pv 0)) pd_int (fun _ _ => rfl)))))) (fun _ _ _ _ _ => (pd_var (pv 3)))) pa_nil)) (by decide) (by first | exact Or.inl rfl | exact Or.inr ⟨_, rfl⟩)) pda_nil)))))))) hw
def w_law_name (K : Frag) (cl : Ad) (c_law_draw : Ct) : SW :=
  (wRet (wOp fSub (wCall c_law_draw (wCons (wVar 0) (wCons (wFrz (wOp fAdd (wVar 1) (wC (.s (.int 1))))) wNil))) (wC (.s (.int 1)))))
theorem ok_law_name (T : Txt K mg cl) {k : Nat} {c : Ct} {j_law_draw : Nat} {c_law_draw : Ct} (G_law_draw : FnOk P wd K mg base (L2.CX P wd) j_law_draw cl.f_law_draw cl.d_law_draw P_law_draw (spC K k_law_draw c_law_draw)) (h_law_draw : j_law_draw ≤ k) (hlen : ∀ rs Q E, c rs Q E → rs.length = P_law_name.length)
    (hw : ∀ rs Q E, c rs Q E → w_law_name K cl c_law_draw (rho N_law_name.length rs) { nx := fun _ => Q (.s .none), rt := Q, er := fun cls _ => E cls }) :
    FnOk P wd K mg base (L2.CX P wd) (k + 1) cl.f_law_name cl.d_law_name P_law_name (spC K k_law_name c) :=
  fnC T.F_law_name sc_law_name hlen (fun cdv A outer s H E hr => by
  have tk := takes_of (X := cxOf (L2.CX P wd) P wd K mg base N_law_name "_law_name" (defScope s_law_name) cl.f_law_name cdv A outer s H E) rfl rfl rfl rfl
  exact (pscs_le (pscs_one (psc_ret (pc_op o_sub (pc_call (pe_callS G_law_draw (hr.mono h_law_draw) (by rfl) T.m_law_draw T.F_law_draw.kp T.b_law_draw (fun σ => passAt tk σ) (pca_cons (pc_of (pd_var (pv 0))) (pca_cons (pc_frz (pc_of (pd_op o_add (pd_var (pv 1)) pd_int))) (pca_of pda_nil))))) (pc_of pd_int)))) (by decide +kernel))) hw
def w_law_fact (K : Frag) (cl : Ad) (c_law_draw c_law_name : Ct) : SW :=
  (wSeq (wAsg 2 (wOp fIx (wLst (wCons (wC (.s (.str "same"))) (wCons (wC (.s (.str "unlike"))) (wCons (wC (.s (.str "unlike"))) wNil)))) (wCall c_law_draw (wCons (wVar 0) (wCons (wC (.s (.int 3))) wNil)))))
  (wRet (wTup (wCons (wVar 2) (wCons (wFrz (wCall c_law_name (wCons (wVar 0) (wCons (wVar 1) wNil)))) (wCons (wFrz (wCall c_law_name (wCons (wVar 0) (wCons (wVar 1) wNil)))) wNil))))))
theorem ok_law_fact (T : Txt K mg cl) {k : Nat} {c : Ct} {j_law_draw : Nat} {c_law_draw : Ct} (G_law_draw : FnOk P wd K mg base (L2.CX P wd) j_law_draw cl.f_law_draw cl.d_law_draw P_law_draw (spC K k_law_draw c_law_draw)) (h_law_draw : j_law_draw ≤ k) {j_law_name : Nat} {c_law_name : Ct} (G_law_name : FnOk P wd K mg base (L2.CX P wd) j_law_name cl.f_law_name cl.d_law_name P_law_name (spC K k_law_name c_law_name)) (h_law_name : j_law_name ≤ k) (hlen : ∀ rs Q E, c rs Q E → rs.length = P_law_fact.length)
    (hw : ∀ rs Q E, c rs Q E → w_law_fact K cl c_law_draw c_law_name (rho N_law_fact.length rs) { nx := fun _ => Q (.s .none), rt := Q, er := fun cls _ => E cls }) :
    FnOk P wd K mg base (L2.CX P wd) (k + 1) cl.f_law_fact cl.d_law_fact P_law_fact (spC K k_law_fact c) :=
  fnC T.F_law_fact sc_law_fact hlen (fun cdv A outer s H E hr => by
  have tk := takes_of (X := cxOf (L2.CX P wd) P wd K mg base N_law_fact "_law_fact" (defScope s_law_fact) cl.f_law_fact cdv A outer s H E) rfl rfl rfl rfl
  exact (pscs_le (pscs_cons (psc_set (ps_set (i := 2) sc_law_fact.nd rfl (by first | exact Or.inl rfl | exact Or.inr rfl) (pc_ix (o_ix hr.units) (pc_of (pd_lst (pda_cons pd_str (pda_cons pd_str (pda_cons pd_str pda_nil))))) (pc_call (pe_callS G_law_draw (hr.mono h_law_draw) (by rfl) T.m_law_draw T.F_law_draw.kp T.b_law_draw (fun σ => passAt tk σ) (pca_cons (pc_of (pd_var (pv 0))) (pca_cons (pc_of pd_int) (pca_of pda_nil))))) (fun _ _ => rfl))))
  (pscs_one (psc_ret (pc_tup (pca_cons (pc_of (pd_var (pv 2))) (pca_cons (pc_frz (pc_call (pe_callS G_law_name (hr.mono h_law_name) (by rfl) T.m_law_name T.F_law_name.kp T.b_law_name (fun σ => passAt tk σ) (pca_cons (pc_of (pd_var (pv 0))) (pca_cons (pc_of (pd_var (pv 1))) (pca_of pda_nil)))))) (pca_cons (pc_frz (pc_call (pe_callS G_law_name (hr.mono h_law_name) (by rfl) T.m_law_name T.F_law_name.kp T.b_law_name (fun σ => passAt tk σ) (pca_cons (pc_of (pd_var (pv 0))) (pca_cons (pc_of (pd_var (pv 1))) (pca_of pda_nil)))))) (pca_of pda_nil)))))))) (by decide +kernel))) hw
def w_law_item (K : Frag) (cl : Ad) (c_law_draw c_law_name : Ct) : SW :=
  (wSeq (wAsg 2 (wCall c_law_draw (wCons (wVar 0) (wCons (wC (.s (.int 5))) wNil))))
  (wSeq (wPar 3 4 (wCall c_law_name (wCons (wVar 0) (wCons (wVar 1) wNil))) (wCall c_law_name (wCons (wVar 0) (wCons (wVar 1) wNil))))
  (wSeq (wIfS (wTst (wOp fLt (wVar 2) (wC (.s (.int 2)))))
  (wFrzS 4 (wFrzS 3 (wRet (wTup (wCons (wC (.s (.str "cell"))) (wCons (wVar 3) (wCons (wVar 4) wNil)))))))
  wNext)
  (wSeq (wIfS (wTst (wOp fLt (wVar 2) (wC (.s (.int 4)))))
  (wFrzS 4 (wFrzS 3 (wRet (wTup (wCons (wC (.s (.str "chain"))) (wCons (wVar 3) (wCons (wVar 4) wNil)))))))
  wNext)
  (wSeq (wAsg 5 (wLc (wLen 1000 (wRange1 (wCons (wCall c_law_draw (wCons (wVar 0) (wCons (wC (.s (.int 4))) wNil))) wNil))) false [6] [6] wYes (wFrz (wCall c_law_name (wCons (wVar 0) (wCons (wVar 1) wNil))))))
  (wFrzS 4 (wFrzS 3 (wRet (wTup (wCons (wC (.s (.str "chain"))) (wCons (wVar 3) (wCons (wVar 4) (wCons (wCall1 fTuple (wCons (wVar 5) wNil)) wNil)))))))))))))
theorem ok_law_item (T : Txt K mg cl) {k : Nat} {c : Ct} {j_law_draw : Nat} {c_law_draw : Ct} (G_law_draw : FnOk P wd K mg base (L2.CX P wd) j_law_draw cl.f_law_draw cl.d_law_draw P_law_draw (spC K k_law_draw c_law_draw)) (h_law_draw : j_law_draw ≤ k) {j_law_name : Nat} {c_law_name : Ct} (G_law_name : FnOk P wd K mg base (L2.CX P wd) j_law_name cl.f_law_name cl.d_law_name P_law_name (spC K k_law_name c_law_name)) (h_law_name : j_law_name ≤ k) (hlen : ∀ rs Q E, c rs Q E → rs.length = P_law_item.length)
    (hw : ∀ rs Q E, c rs Q E → w_law_item K cl c_law_draw c_law_name (rho N_law_item.length rs) { nx := fun _ => Q (.s .none), rt := Q, er := fun cls _ => E cls }) :
    FnOk P wd K mg base (L2.CX P wd) (k + 1) cl.f_law_item cl.d_law_item P_law_item (spC K k_law_item c) :=
  fnC T.F_law_item sc_law_item hlen (fun cdv A outer s H E hr => by
  have tk := takes_of (X := cxOf (L2.CX P wd) P wd K mg base N_law_item "_law_item" (defScope s_law_item) cl.f_law_item cdv A outer s H E) rfl rfl rfl rfl
  exact (pscs_le (pscs_cons (psc_set (ps_set (i := 2) sc_law_item.nd rfl (by first | exact Or.inl rfl | exact Or.inr rfl) (pc_call (pe_callS G_law_draw (hr.mono h_law_draw) (by rfl) T.m_law_draw T.F_law_draw.kp T.b_law_draw (fun σ => passAt tk σ) (pca_cons (pc_of (pd_var (pv 0))) (pca_cons (pc_of pd_int) (pca_of pda_nil)))))))
  (pscs_cons (psc_par (i := 3) (j := 4) (ps_par rfl sc_law_item.nd rfl rfl (by decide) rfl rfl (pca_cons (pc_call (pe_callS G_law_name (hr.mono h_law_name) (by rfl) T.m_law_name T.F_law_name.kp T.b_law_name (fun σ => passAt tk σ) (pca_cons (pc_of (pd_var (pv 0))) (pca_cons (pc_of (pd_var (pv 1))) (pca_of pda_nil))))) (pca_cons (pc_call (pe_callS G_law_name (hr.mono h_law_name) (by rfl) T.m_law_name T.F_law_name.kp T.b_law_name (fun σ => passAt tk σ) (pca_cons (pc_of (pd_var (pv 0))) (pca_cons (pc_of (pd_var (pv 1))) (pca_of pda_nil))))) (pca_of pda_nil))) (by rfl)))
  (pscs_cons (psc_of (pds_if (pdt_cmp (o_lt hr.units0) (pd_var (pv 2)) pd_int (nomark _))
  (pds_one (pds_frz (i := 4) (pds_frz (i := 3) (pds_ret (pd_tup (pda_cons pd_str (pda_cons (pd_var (pv 3)) (pda_cons (pd_var (pv 4)) pda_nil))))))))
  pds_nil))
  (pscs_cons (psc_of (pds_if (pdt_cmp (o_lt hr.units0) (pd_var (pv 2)) pd_int (nomark _))
  (pds_one (pds_frz (i := 4) (pds_frz (i := 3) (pds_ret (pd_tup (pda_cons pd_str (pda_cons (pd_var (pv 3)) (pda_cons (pd_var (pv 4)) pda_nil))))))))
  pds_nil))
  (pscs_cons (psc_setLc (N := 1000) (tup := false) (is := [6]) (ps_setLc (i := 5) (own := [("turn", 6)]) (g := gC K false [6]) rfl sc_law_item.nd rfl rfl (sw_true rfl rfl rfl (by decide +kernel)) (picc_range1 (pi_range1 (by rfl) T.n_range (pca_cons (pc_call (pe_callS G_law_draw (hr.mono h_law_draw) (by rfl) T.m_law_draw T.F_law_draw.kp T.b_law_draw (fun σ => passAt tk σ) (pca_cons (pc_of (pd_var (pv 0))) (pca_cons (pc_of pd_int) (pca_of pda_nil))))) (pca_of pda_nil)))) (blkOk_by (own := [("turn", 6)]) (N := N_law_item) (sc := defScope s_law_item) (by decide +kernel)) (fun _ _ _ _ _ => (pg_name (i := 6) sc_law_item.nd rfl (by first | exact Or.inl rfl | exact Or.inr rfl))) (fun _ _ _ _ _ => (pcts_of pdts_nil)) (fun _ _ _ _ _ => (pc_frz (pc_call (pe_callS G_law_name (hr.mono h_law_name) (by rfl) T.m_law_name T.F_law_name.kp T.b_law_name (fun σ => passAt takes0 σ) (pca_cons (pc_of (pd_var (pv 0))) (pca_cons (pc_of (pd_var (pv 1))) (pca_of pda_nil)))))))) (by decide) (by first | exact Or.inl rfl | exact Or.inr ⟨_, rfl⟩))
  (pscs_one (psc_of (pds_frz (i := 4) (pds_frz (i := 3) (pds_ret (pd_tup (pda_cons pd_str (pda_cons (pd_var (pv 3)) (pda_cons (pd_var (pv 4)) (pda_cons (call_core (t := fun _ _ _ => True) (pe_callTy c_tuple (by rfl) T.n_tuple (by decide +kernel) (pda_cons (pd_var (pv 5)) pda_nil))) pda_nil))))))))))))))) (by decide +kernel))) hw
def w_law_case (K : Frag) (cl : Ad) (c_law_draw c_law_fact c_law_item : Ct) : SW :=
  (wSeq (wAsg 4 (wOp fAdd (wVar 1) (wVar 2)))
  (wSeq (wAsg 5 (wLc (wLen 1000 (wRange1 (wCons (wCall c_law_draw (wCons (wVar 0) (wCons (wC (.s (.int 3))) wNil))) wNil))) false [6] [6] wYes (wFrz (wCall c_law_fact (wCons (wVar 0) (wCons (wVar 4) wNil))))))
  (wSeq (wAsg 7 (wLc (wLen 1000 (wRange1 (wCons (wCall c_law_draw (wCons (wVar 0) (wCons (wFrz (wOp fAdd (wVar 3) (wC (.s (.int 1))))) wNil))) wNil))) false [6] [6] wYes (wFrz (wCall c_law_item (wCons (wVar 0) (wCons (wVar 4) wNil))))))
  (wRet (wTup (wCons (wVar 2) (wCons (wCall1 fTuple (wCons (wVar 5) wNil)) (wCons (wCall1 fTuple (wCons (wVar 7) wNil)) wNil))))))))
theorem ok_law_case (T : Txt K mg cl) {k : Nat} {c : Ct} {j_law_draw : Nat} {c_law_draw : Ct} (G_law_draw : FnOk P wd K mg base (L2.CX P wd) j_law_draw cl.f_law_draw cl.d_law_draw P_law_draw (spC K k_law_draw c_law_draw)) (h_law_draw : j_law_draw ≤ k) {j_law_fact : Nat} {c_law_fact : Ct} (G_law_fact : FnOk P wd K mg base (L2.CX P wd) j_law_fact cl.f_law_fact cl.d_law_fact P_law_fact (spC K k_law_fact c_law_fact)) (h_law_fact : j_law_fact ≤ k) {j_law_item : Nat} {c_law_item : Ct} (G_law_item : FnOk P wd K mg base (L2.CX P wd) j_law_item cl.f_law_item cl.d_law_item P_law_item (spC K k_law_item c_law_item)) (h_law_item : j_law_item ≤ k) (hlen : ∀ rs Q E, c rs Q E → rs.length = P_law_case.length)
    (hw : ∀ rs Q E, c rs Q E → w_law_case K cl c_law_draw c_law_fact c_law_item (rho N_law_case.length rs) { nx := fun _ => Q (.s .none), rt := Q, er := fun cls _ => E cls }) :
    FnOk P wd K mg base (L2.CX P wd) (k + 1) cl.f_law_case cl.d_law_case P_law_case (spC K k_law_case c) :=
  fnC T.F_law_case sc_law_case hlen (fun cdv A outer s H E hr => by
  have tk := takes_of (X := cxOf (L2.CX P wd) P wd K mg base N_law_case "_law_case" (defScope s_law_case) cl.f_law_case cdv A outer s H E) rfl rfl rfl rfl
  exact (pscs_le (pscs_cons (psc_of (pds_set (ps_set (i := 4) sc_law_case.nd rfl (by first | exact Or.inl rfl | exact Or.inr rfl) (pd_op o_add (pd_var (pv 1)) (pd_var (pv 2))))))
  (pscs_cons (psc_setLc (N := 1000) (tup := false) (is := [6]) (ps_setLc (i := 5) (own := [("turn", 6)]) (g := gC K false [6]) rfl sc_law_case.nd rfl rfl (sw_true rfl rfl rfl (by decide +kernel)) (picc_range1 (pi_range1 (by rfl) T.n_range (pca_cons (pc_call (pe_callS G_law_draw (hr.mono h_law_draw) (by rfl) T.m_law_draw T.F_law_draw.kp T.b_law_draw (fun σ => passAt tk σ) (pca_cons (pc_of (pd_var (pv 0))) (pca_cons (pc_of pd_int) (pca_of pda_nil))))) (pca_of pda_nil)))) (blkOk_by (own := [("turn", 6)]) (N := N_law_case) (sc := defScope s_law_case) (by decide +kernel)) (fun _ _ _ _ _ => (pg_name (i := 6) sc_law_case.nd rfl (by first | exact Or.inl rfl | exact Or.inr rfl))) (fun _ _ _ _ _ => (pcts_of pdts_nil)) (fun _ _ _ _ _ => (pc_frz (pc_call (pe_callS G_law_fact (hr.mono h_law_fact) (by rfl) T.m_law_fact T.F_law_fact.kp T.b_law_fact (fun σ => passAt takes0 σ) (pca_cons (pc_of (pd_var (pv 0))) (pca_cons (pc_of (pd_var (pv 4))) (pca_of pda_nil)))))))) (by decide) (by first | exact Or.inl rfl | exact Or.inr ⟨_, rfl⟩))
  (pscs_cons (psc_setLc (N := 1000) (tup := false) (is := [6]) (ps_setLc (i := 7) (own := [("turn", 6)]) (g := gC K false [6]) rfl sc_law_case.nd rfl rfl (sw_true rfl rfl rfl (by decide +kernel)) (picc_range1 (pi_range1 (by rfl) T.n_range (pca_cons (pc_call (pe_callS G_law_draw (hr.mono h_law_draw) (by rfl) T.m_law_draw T.F_law_draw.kp T.b_law_draw (fun σ => passAt tk σ) (pca_cons (pc_of (pd_var (pv 0))) (pca_cons (pc_frz (pc_of (pd_op o_add (pd_var (pv 3)) pd_int))) (pca_of pda_nil))))) (pca_of pda_nil)))) (blkOk_by (own := [("turn", 6)]) (N := N_law_case) (sc := defScope s_law_case) (by decide +kernel)) (fun _ _ _ _ _ => (pg_name (i := 6) sc_law_case.nd rfl (by first | exact Or.inl rfl | exact Or.inr rfl))) (fun _ _ _ _ _ => (pcts_of pdts_nil)) (fun _ _ _ _ _ => (pc_frz (pc_call (pe_callS G_law_item (hr.mono h_law_item) (by rfl) T.m_law_item T.F_law_item.kp T.b_law_item (fun σ => passAt takes0 σ) (pca_cons (pc_of (pd_var (pv 0))) (pca_cons (pc_of (pd_var (pv 4))) (pca_of pda_nil)))))))) (by decide) (by first | exact Or.inl rfl | exact Or.inr ⟨_, rfl⟩))
  (pscs_one (psc_of (pds_ret (pd_tup (pda_cons (pd_var (pv 2)) (pda_cons (call_core (t := fun _ _ _ => True) (pe_callTy c_tuple (by rfl) T.n_tuple (by decide +kernel) (pda_cons (pd_var (pv 5)) pda_nil))) (pda_cons (call_core (t := fun _ _ _ => True) (pe_callTy c_tuple (by rfl) T.n_tuple (by decide +kernel) (pda_cons (pd_var (pv 7)) pda_nil))) pda_nil)))))))))) (by decide +kernel))) hw
def w_law_outs (K : Frag) (cl : Ad) : SW :=
  (wRet (wIf (wTst (wOp fEq (wCall1 fLen (wCons (wVar 0) wNil)) (wC (.s (.int 4))))) (wOp fIx (wVar 0) (wC (.s (.int 3)))) (wTup wNil)))
theorem ok_law_outs (T : Txt K mg cl) {k : Nat} {c : Ct} (hlen : ∀ rs Q E, c rs Q E → rs.length = P_law_outs.length)
    (hw : ∀ rs Q E, c rs Q E → w_law_outs K cl (rho N_law_outs.length rs) { nx := fun _ => Q (.s .none), rt := Q, er := fun cls _ => E cls }) :
    FnOk P wd K mg base (L2.CX P wd) (k + 1) cl.f_law_outs cl.d_law_outs P_law_outs (spD K c) :=
  fnD T.F_law_outs sc_law_outs hlen (fun cdv A outer s H E hr => by
  have tk := takes_of (X := cxOf (L2.CX P wd) P wd K mg base N_law_outs "_law_outs" (defScope s_law_outs) cl.f_law_outs cdv A outer s H E) rfl rfl rfl rfl
  exact (pds_one (pds_ret (pd_if (pdt_cmp (o_eq hr.units) (call_core (t := fun _ _ _ => True) (pe_callB c_len (by rfl) T.n_len (by decide +kernel) (pda_cons (pd_var (pv 0)) pda_nil))) pd_int (nomark _)) (pd_ix (o_ix hr.units) (pd_var (pv 0)) pd_int (fun _ _ => rfl)) (pd_tup pda_nil))))) hw
def w_law_right_b1 (K : Frag) (cl : Ad) (c_law_draw c_law_case : Ct) : SW :=
  (wAppend 2 (wFrz (wCall c_law_case (wCons (wVar 0) (wCons (wVar 1) (wCons (wCall c_law_draw (wCons (wVar 0) (wCons (wC (.s (.int 3))) wNil))) (wCons (wC (.s (.int 6))) wNil)))))))
def w_law_right (K : Frag) (cl : Ad) (c_law_draw c_law_case : Ct) : SW :=
  (wSeq (wAsg 1 (wCall c_law_draw (wCons (wVar 0) (wCons (wC (.s (.int 4))) wNil))))
  (wSeq (wAsg 2 (wLst wNil))
  (wSeq (wFor (wLen 1000 (wRange1 (wCons (wOp fAdd (wC (.s (.int 1))) (wCall c_law_draw (wCons (wVar 0) (wCons (wC (.s (.int 4))) wNil)))) wNil))) (gwName 3) (w_law_right_b1 K cl c_law_draw c_law_case))
  (wRet (wTup (wCons (wVar 1) (wCons (wCall1 fTuple (wCons (wVar 2) wNil)) wNil)))))))
theorem ok_law_right (T : Txt K mg cl) {k : Nat} {c : Ct} {j_law_draw : Nat} {c_law_draw : Ct} (G_law_draw : FnOk P wd K mg base (L2.CX P wd) j_law_draw cl.f_law_draw cl.d_law_draw P_law_draw (spC K k_law_draw c_law_draw)) (h_law_draw : j_law_draw ≤ k) {j_law_case : Nat} {c_law_case : Ct} (G_law_case : FnOk P wd K mg base (L2.CX P wd) j_law_case cl.f_law_case cl.d_law_case P_law_case (spC K k_law_case c_law_case)) (h_law_case : j_law_case ≤ k) (hlen : ∀ rs Q E, c rs Q E → rs.length = P_law_right.length)
    (hw : ∀ rs Q E, c rs Q E → w_law_right K cl c_law_draw c_law_case (rho N_law_right.length rs) { nx := fun _ => Q (.s .none), rt := Q, er := fun cls _ => E cls }) :
    FnOk P wd K mg base (L2.CX P wd) (k + 1) cl.f_law_right cl.d_law_right P_law_right (spC K k_law_right c) :=
  fnC T.F_law_right sc_law_right hlen (fun cdv A outer s H E hr => by
  have tk := takes_of (X := cxOf (L2.CX P wd) P wd K mg base N_law_right "_law_right" (defScope s_law_right) cl.f_law_right cdv A outer s H E) rfl rfl rfl rfl
  exact (pscs_le (pscs_cons (psc_set (ps_set (i := 1) sc_law_right.nd rfl (by first | exact Or.inl rfl | exact Or.inr rfl) (pc_call (pe_callS G_law_draw (hr.mono h_law_draw) (by rfl) T.m_law_draw T.F_law_draw.kp T.b_law_draw (fun σ => passAt tk σ) (pca_cons (pc_of (pd_var (pv 0))) (pca_cons (pc_of pd_int) (pca_of pda_nil)))))))
  (pscs_cons (psc_of (pds_set (ps_set (i := 2) sc_law_right.nd rfl (by first | exact Or.inl rfl | exact Or.inr rfl) (pd_lst pda_nil))))
  (pscs_cons (psc_for (N := 1000) (ps_for (passes_of rfl) rfl (pifc_range1 (pi_range1 (by rfl) T.n_range (pca_cons (pc_op o_add (pc_of pd_int) (pc_call (pe_callS G_law_draw (hr.mono h_law_draw) (by rfl) T.m_law_draw T.F_law_draw.kp T.b_law_draw (fun σ => passAt tk σ) (pca_cons (pc_of (pd_var (pv 0))) (pca_cons (pc_of pd_int) (pca_of pda_nil)))))) (pca_of pda_nil)))) (pgd_name (pg_name (i := 3) sc_law_right.nd rfl (by first | exact Or.inl rfl | exact Or.inr rfl))) (pscs_one (psc_append (i := 2) (ps_expr (pe_bm PySem.F.plainAttrs_list PySem.F.slot_list_append PySem.F.type_list_append mt_append (pv 2) (pa_cons (pc_frz (pc_call (pe_callS G_law_case (hr.mono h_law_case) (by rfl) T.m_law_case T.F_law_case.kp T.b_law_case (fun σ => passAt tk σ) (pca_cons (pc_of (pd_var (pv 0))) (pca_cons (pc_of (pd_var (pv 1))) (pca_cons (pc_call (pe_callS G_law_draw (hr.mono h_law_draw) (by rfl) T.m_law_draw T.F_law_draw.kp T.b_law_draw (fun σ => passAt tk σ) (pca_cons (pc_of (pd_var (pv 0))) (pca_cons (pc_of pd_int) (pca_of pda_nil))))) (pca_cons (pc_of pd_int) (pca_of pda_nil)))))))) pa_nil)))))))
  (pscs_one (psc_of (pds_ret (pd_tup (pda_cons (pd_var (pv 1)) (pda_cons (call_core (t := fun _ _ _ => True) (pe_callTy c_tuple (by rfl) T.n_tuple (by decide +kernel) (pda_cons (pd_var (pv 2)) pda_nil))) pda_nil))))))))) (by decide +kernel))) hw
def w_law_used_b1 (K : Frag) (cl : Ad) (c_law_outs : Ct) : SW :=
  (wExt 1 (wOp fAdd (wLst (wCons (wOp fIx (wVar 5) (wC (.s (.int 1)))) (wCons (wOp fIx (wVar 5) (wC (.s (.int 2)))) wNil))) (wCall1 fListB (wCons (wCall c_law_outs (wCons (wVar 5) wNil)) wNil))))
def w_law_used_b2 (K : Frag) (cl : Ad) (c_law_outs : Ct) : SW :=
  (wFor (wSeqF (wFrz (wOp fAdd (wVar 3) (wVar 4)))) (gwName 5) (w_law_used_b1 K cl c_law_outs))
def w_law_used (K : Frag) (cl : Ad) (c_law_outs : Ct) : SW :=
  (wSeq (wAsg 1 (wLst wNil))
  (wSeq (wFor (wSeqF (wOp fIx (wVar 0) (wC (.s (.int 1))))) (gwTup 3 (gwCons (gwName 2) (gwCons (gwName 3) (gwCons (gwName 4) gwNil)))) (w_law_used_b2 K cl c_law_outs))
  (wRet (wCall1 fTuple (wCons (wLc (wRange1 (wCons (wOp fIx (wVar 0) (wC (.s (.int 0)))) wNil)) false [6] [6] (wTst (wOp (fIn false) (wVar 6) (wVar 1))) (wVar 6)) wNil)))))
theorem ok_law_used (T : Txt K mg cl) {k : Nat} {c : Ct} {j_law_outs : Nat} {c_law_outs : Ct} (G_law_outs : FnOk P wd K mg base (L2.CX P wd) j_law_outs cl.f_law_outs cl.d_law_outs P_law_outs (spD K c_law_outs)) (h_law_outs : j_law_outs ≤ k) (hlen : ∀ rs Q E, c rs Q E → rs.length = P_law_used.length)
    (hw : ∀ rs Q E, c rs Q E → w_law_used K cl c_law_outs (rho N_law_used.length rs) { nx := fun _ => Q (.s .none), rt := Q, er := fun cls _ => E cls }) :
    FnOk P wd K mg base (L2.CX P wd) (k + 1) cl.f_law_used cl.d_law_used P_law_used (spD K c) :=
  fnD T.F_law_used sc_law_used hlen (fun cdv A outer s H E hr => by
  have tk := takes_of (X := cxOf (L2.CX P wd) P wd K mg base N_law_used "_law_used" (defScope s_law_used) cl.f_law_used cdv A outer s H E) rfl rfl rfl rfl
  exact (pds_cons (pds_set (ps_set (i := 1) sc_law_used.nd rfl (by first | exact Or.inl rfl | exact Or.inr rfl) (pd_lst pda_nil)))
  (pds_cons (pds_for (ps_for (passes_of rfl) rfl (pif_seq (pd_ix (o_ix hr.units) (pd_var (pv 0)) pd_int (fun _ _ => rfl))) (pgd_tup (pg_tup rfl (pgds_cons (pgs_cons (pgd_name (pg_name (i := 2) sc_law_used.nd rfl (by first | exact Or.inl rfl | exact Or.inr rfl))) (pgds_cons (pgs_cons (pgd_name (pg_name (i := 3) sc_law_used.nd rfl (by first | exact Or.inl rfl | exact Or.inr rfl))) (pgds_cons (pgs_cons (pgd_name (pg_name (i := 4) sc_law_used.nd rfl (by first | exact Or.inl rfl | exact Or.inr rfl))) pgds_nil)))))))) (pds_one (pds_for (ps_for (passes_of rfl) rfl (pif_seq (pd_frz (pd_op o_add (pd_var (pv 3)) (pd_var (pv 4))))) (pgd_name (pg_name (i := 5) sc_law_used.nd rfl (by first | exact Or.inl rfl | exact Or.inr rfl))) (pds_one (pds_ext (i := 1) (ps_expr (pe_bm PySem.F.plainAttrs_list PySem.F.slot_list_extend PySem.F.type_list_extend mt_extB (pv 1) (pa_cons (pd_op o_add (pd_lst (pda_cons (pd_ix (o_ix hr.units) (pd_var (pv 5)) pd_int (fun _ _ => rfl)) (pda_cons (pd_ix (o_ix hr.units) (pd_var (pv 5)) pd_int (fun _ _ => rfl)) pda_nil))) (call_core (t := fun _ _ _ => True) (pe_callTy (c_listB rfl) (by rfl) T.n_list (by decide +kernel) (pda_cons (pd_call (pe_callS G_law_outs (hr.mono h_law_outs) (by rfl) T.m_law_outs T.F_law_outs.kp T.b_law_outs (fun σ => passAt tk σ) (pda_cons (pd_var (pv 5)) pda_nil))) pda_nil)))) pa_nil))))))))))
  (pds_one (pds_ret (call_core (t := fun _ _ _ => True) (pe_callTy c_tuple (by rfl) T.n_tuple (by decide +kernel) (pda_cons (pd_lc (tup := false) (is := [6]) (pe_lc (own := [("name", 6)]) (g := gC K false [6]) rfl sc_law_used.nd (pic_range1 (pi_range1 (by rfl) T.n_range (pda_cons (pd_ix (o_ix hr.units) (pd_var (pv 0)) pd_int (fun _ _ => rfl)) pda_nil))) (blkOk_by (own := [("name", 6)]) (N := N_law_used) (sc := defScope s_law_used) (by decide +kernel)) (fun _ _ _ _ _ => (pg_name (i := 6) sc_law_used.nd rfl (by first | exact Or.inl rfl | exact Or.inr rfl))) (fun _ _ _ _ _ => (pdts_one (pdt_cmp (o_in hr.units) (pd_var (pv 6)) (pd_var (pv 1)) (by rfl)))) (fun _ _ _ _ _ => (pd_var (pv 6)))) (by decide) (by first | exact Or.inl rfl | exact Or.inr ⟨_, rfl⟩)) pda_nil)))))))) hw
def w_law_spoiled_item (K : Frag) (cl : Ad) (c_law_draw c_law_name : Ct) : SW :=
  (wSeq (wAsg 2 (wCall c_law_draw (wCons (wVar 0) (wCons (wC (.s (.int 9))) wNil))))
  (wSeq (wAsg 3 (wCall c_law_name (wCons (wVar 0) (wCons (wVar 1) wNil))))
  (wSeq (wAsg 4 (wLst (wCons (wTup (wCons (wC (.s (.str "cell"))) (wCons (wVar 3) (wCons (wVar 1) wNil)))) (wCons (wTup (wCons (wC (.s (.str "chain"))) (wCons (wUn fNeg (wC (.s (.int 2)))) (wCons (wVar 3) wNil)))) (wCons (wTup (wCons (wC (.s (.str "cell"))) (wCons (wVar 3) (wCons (wVar 3) (wCons (wTup wNil) wNil))))) (wCons (wTup (wCons (wC (.s (.str "chain"))) (wCons (wVar 3) wNil))) wNil))))))
  (wSeq (wExt 4 (wLst (wCons (wTup (wCons (wC (.s (.str "Chain"))) (wCons (wVar 3) (wCons (wUn fNeg (wC (.s (.int 1)))) wNil)))) (wCons (wTup (wCons (wC (.s (.str "chain"))) (wCons (wVar 3) (wCons (wUn fNeg (wC (.s (.int 1)))) (wCons (wFrz (wOp fMul (wTup (wCons (wVar 3) wNil)) (wC (.s (.int 5))))) wNil))))) (wCons (wTup (wCons (wC (.s (.str "chain"))) (wCons (wVar 3) (wCons (wUn fNeg (wC (.s (.int 1)))) (wCons (wTup (wCons (wUn fNeg (wC (.s (.int 1)))) (wCons (wVar 1) wNil))) wNil))))) wNil)))))
  (wSeq (wAppend 4 (wFrz (wLst (wCons (wC (.s (.str "cell"))) (wCons (wVar 3) (wCons (wVar 3) wNil))))))
  (wRet (wOp fIx (wOp fAdd (wVar 4) (wLst (wCons (wTup (wCons (wC (.s (.str "chain"))) (wCons (wC (.s (.bool true))) (wCons (wUn fNeg (wC (.s (.int 1)))) wNil)))) wNil))) (wVar 2))))))))
theorem ok_law_spoiled_item (T : Txt K mg cl) {k : Nat} {c : Ct} {j_law_draw : Nat} {c_law_draw : Ct} (G_law_draw : FnOk P wd K mg base (L2.CX P wd) j_law_draw cl.f_law_draw cl.d_law_draw P_law_draw (spC K k_law_draw c_law_draw)) (h_law_draw : j_law_draw ≤ k) {j_law_name : Nat} {c_law_name : Ct} (G_law_name : FnOk P wd K mg base (L2.CX P wd) j_law_name cl.f_law_name cl.d_law_name P_law_name (spC K k_law_name c_law_name)) (h_law_name : j_law_name ≤ k) (hlen : ∀ rs Q E, c rs Q E → rs.length = P_law_spoiled_item.length)
    (hw : ∀ rs Q E, c rs Q E → w_law_spoiled_item K cl c_law_draw c_law_name (rho N_law_spoiled_item.length rs) { nx := fun _ => Q (.s .none), rt := Q, er := fun cls _ => E cls }) :
    FnOk P wd K mg base (L2.CX P wd) (k + 1) cl.f_law_spoiled_item cl.d_law_spoiled_item P_law_spoiled_item (spC K k_law_spoiled_item c) :=
  fnC T.F_law_spoiled_item sc_law_spoiled_item hlen (fun cdv A outer s H E hr => by
  have tk := takes_of (X := cxOf (L2.CX P wd) P wd K mg base N_law_spoiled_item "_law_spoiled_item" (defScope s_law_spoiled_item) cl.f_law_spoiled_item cdv A outer s H E) rfl rfl rfl rfl
  exact (pscs_le (pscs_cons (psc_set (ps_set (i := 2) sc_law_spoiled_item.nd rfl (by first | exact Or.inl rfl | exact Or.inr rfl) (pc_call (pe_callS G_law_draw (hr.mono h_law_draw) (by rfl) T.m_law_draw T.F_law_draw.kp T.b_law_draw (fun σ => passAt tk σ) (pca_cons (pc_of (pd_var (pv 0))) (pca_cons (pc_of pd_int) (pca_of pda_nil)))))))
  (pscs_cons (psc_set (ps_set (i := 3) sc_law_spoiled_item.nd rfl (by first | exact Or.inl rfl | exact Or.inr rfl) (pc_call (pe_callS G_law_name (hr.mono h_law_name) (by rfl) T.m_law_name T.F_law_name.kp T.b_law_name (fun σ => passAt tk σ) (pca_cons (pc_of (pd_var (pv 0))) (pca_cons (pc_of (pd_var (pv 1))) (pca_of pda_nil)))))))
  (pscs_cons (psc_of (pds_set (ps_set (i := 4) sc_law_spoiled_item.nd rfl (by first | exact Or.inl rfl | exact Or.inr rfl) (pd_lst (pda_cons (pd_tup (pda_cons pd_str (pda_cons (pd_var (pv 3)) (pda_cons (pd_var (pv 1)) pda_nil)))) (pda_cons (pd_tup (pda_cons pd_str (pda_cons (pd_un o_neg pd_int) (pda_cons (pd_var (pv 3)) pda_nil)))) (pda_cons (pd_tup (pda_cons pd_str (pda_cons (pd_var (pv 3)) (pda_cons (pd_var (pv 3)) (pda_cons (pd_tup pda_nil) pda_nil))))) (pda_cons (pd_tup (pda_cons pd_str (pda_cons (pd_var (pv 3)) pda_nil))) pda_nil))))))))
  (pscs_cons (psc_of (pds_ext (i := 4) (ps_expr (pe_bm PySem.F.plainAttrs_list PySem.F.slot_list_extend PySem.F.type_list_extend mt_extB (pv 4) (pa_cons (pd_lst (pda_cons (pd_tup (pda_cons pd_str (pda_cons (pd_var (pv 3)) (pda_cons (pd_un o_neg pd_int) pda_nil)))) (pda_cons (pd_tup (pda_cons pd_str (pda_cons (pd_var (pv 3)) (pda_cons (pd_un o_neg pd_int) (pda_cons (pd_frz (pd_op o_mul (pd_tup (pda_cons (pd_var (pv 3)) pda_nil)) pd_int)) pda_nil))))) (pda_cons (pd_tup (pda_cons pd_str (pda_cons (pd_var (pv 3)) (pda_cons (pd_un o_neg pd_int) (pda_cons (pd_tup (pda_cons (pd_un o_neg pd_int) (pda_cons (pd_var (pv 1)) pda_nil))) pda_nil))))) pda_nil)))) pa_nil)))))
  (pscs_cons (psc_of (pds_append (i := 4) (ps_expr (pe_bm PySem.F.plainAttrs_list PySem.F.slot_list_append PySem.F.type_list_append mt_append (pv 4) (pa_cons (pd_frz (pd_lst (pda_cons pd_str (pda_cons (pd_var (pv 3)) (pda_cons (pd_var (pv 3)) pda_nil))))) pa_nil)))))
  (pscs_one (psc_of (pds_ret (pd_ix (o_ix hr.units) (pd_op o_add (pd_var (pv 4)) (pd_lst (pda_cons (pd_tup (pda_cons pd_str (pda_cons pd_bl (pda_cons (pd_un o_neg pd_int) pda_nil)))) pda_nil))) (pd_var (pv 2)) (fun _ _ => rfl)))))))))) (by decide +kernel))) hw
def w_law_spoiled_fact (K : Frag) (cl : Ad) (c_law_draw c_law_name : Ct) : SW :=
  (wSeq (wAsg 2 (wCall c_law_draw (wCons (wVar 0) (wCons (wC (.s (.int 6))) wNil))))
  (wSeq (wAsg 3 (wCall c_law_name (wCons (wVar 0) (wCons (wVar 1) wNil))))
  (wSeq (wAsg 4 (wLst (wCons (wTup (wCons (wC (.s (.str "same"))) (wCons (wVar 3) (wCons (wVar 1) wNil)))) (wCons (wTup (wCons (wC (.s (.str "unlike"))) (wCons (wUn fNeg (wC (.s (.int 2)))) (wCons (wVar 3) wNil)))) (wCons (wTup (wCons (wC (.s (.str "other"))) (wCons (wVar 3) (wCons (wVar 3) wNil)))) (wCons (wTup (wCons (wC (.s (.str "same"))) (wCons (wVar 3) wNil))) wNil))))))
  (wRet (wOp fIx (wOp fAdd (wVar 4) (wLst (wCons (wTup (wCons (wC (.s (.str "same"))) (wCons (wVar 3) (wCons (wUn fNeg (wC (.s (.int 1)))) (wCons (wTup wNil) wNil))))) (wCons (wTup (wCons (wC (.s (.str "unlike"))) (wCons (wC (.s (.bool false))) (wCons (wUn fNeg (wC (.s (.int 1)))) wNil)))) wNil)))) (wVar 2))))))
theorem ok_law_spoiled_fact (T : Txt K mg cl) {k : Nat} {c : Ct} {j_law_draw : Nat} {c_law_draw : Ct} (G_law_draw : FnOk P wd K mg base (L2.CX P wd) j_law_draw cl.f_law_draw cl.d_law_draw P_law_draw (spC K k_law_draw c_law_draw)) (h_law_draw : j_law_draw ≤ k) {j_law_name : Nat} {c_law_name : Ct} (G_law_name : FnOk P wd K mg base (L2.CX P wd) j_law_name cl.f_law_name cl.d_law_name P_law_name (spC K k_law_name c_law_name)) (h_law_name : j_law_name ≤ k) (hlen : ∀ rs Q E, c rs Q E → rs.length = P_law_spoiled_fact.length)
    (hw : ∀ rs Q E, c rs Q E → w_law_spoiled_fact K cl c_law_draw c_law_name (rho N_law_spoiled_fact.length rs) { nx := fun _ => Q (.s .none), rt := Q, er := fun cls _ => E cls }) :
    FnOk P wd K mg base (L2.CX P wd) (k + 1) cl.f_law_spoiled_fact cl.d_law_spoiled_fact P_law_spoiled_fact (spC K k_law_spoiled_fact c) :=
  fnC T.F_law_spoiled_fact sc_law_spoiled_fact hlen (fun cdv A outer s H E hr => by
  have tk := takes_of (X := cxOf (L2.CX P wd) P wd K mg base N_law_spoiled_fact "_law_spoiled_fact" (defScope s_law_spoiled_fact) cl.f_law_spoiled_fact cdv A outer s H E) rfl rfl rfl rfl
  exact (pscs_le (pscs_cons (psc_set (ps_set (i := 2) sc_law_spoiled_fact.nd rfl (by first | exact Or.inl rfl | exact Or.inr rfl) (pc_call (pe_callS G_law_draw (hr.mono h_law_draw) (by rfl) T.m_law_draw T.F_law_draw.kp T.b_law_draw (fun σ => passAt tk σ) (pca_cons (pc_of (pd_var (pv 0))) (pca_cons (pc_of pd_int) (pca_of pda_nil)))))))
  (pscs_cons (psc_set (ps_set (i := 3) sc_law_spoiled_fact.nd rfl (by first | exact Or.inl rfl | exact Or.inr rfl) (pc_call (pe_callS G_law_name (hr.mono h_law_name) (by rfl) T.m_law_name T.F_law_name.kp T.b_law_name (fun σ => passAt tk σ) (pca_cons (pc_of (pd_var (pv 0))) (pca_cons (pc_of (pd_var (pv 1))) (pca_of pda_nil)))))))
  (pscs_cons (psc_of (pds_set (ps_set (i := 4) sc_law_spoiled_fact.nd rfl (by first | exact Or.inl rfl | exact Or.inr rfl) (pd_lst (pda_cons (pd_tup (pda_cons pd_str (pda_cons (pd_var (pv 3)) (pda_cons (pd_var (pv 1)) pda_nil)))) (pda_cons (pd_tup (pda_cons pd_str (pda_cons (pd_un o_neg pd_int) (pda_cons (pd_var (pv 3)) pda_nil)))) (pda_cons (pd_tup (pda_cons pd_str (pda_cons (pd_var (pv 3)) (pda_cons (pd_var (pv 3)) pda_nil)))) (pda_cons (pd_tup (pda_cons pd_str (pda_cons (pd_var (pv 3)) pda_nil))) pda_nil))))))))
  (pscs_one (psc_of (pds_ret (pd_ix (o_ix hr.units) (pd_op o_add (pd_var (pv 4)) (pd_lst (pda_cons (pd_tup (pda_cons pd_str (pda_cons (pd_var (pv 3)) (pda_cons (pd_un o_neg pd_int) (pda_cons (pd_tup pda_nil) pda_nil))))) (pda_cons (pd_tup (pda_cons pd_str (pda_cons pd_bl (pda_cons (pd_un o_neg pd_int) pda_nil)))) pda_nil)))) (pd_var (pv 2)) (fun _ _ => rfl)))))))) (by decide +kernel))) hw
def w_law_spoiled_case_t1 (K : Frag) (cl : Ad) (c_law_draw c_law_spoiled_item c_law_spoiled_fact : Ct) : SW :=
  (wRet (wTup (wCons (wVar 4) (wCons (wVar 5) (wCons (wFrz (wOp fAdd (wOp fAdd (wSl (wSl (wVar 6) wONone (wOSome (wC (.s (.int 5))))) wONone (wOSome (wVar 9))) (wTup (wCons (wVar 10) wNil))) (wSl (wSl (wVar 6) wONone (wOSome (wC (.s (.int 5))))) (wOSome (wVar 9)) wONone))) wNil)))))
def w_law_spoiled_case_t2 (K : Frag) (cl : Ad) (c_law_draw c_law_spoiled_item c_law_spoiled_fact : Ct) : SW :=
  (wSeq (wAsg 10 (wCall c_law_spoiled_item (wCons (wVar 0) (wCons (wFrz (wOp fAdd (wVar 1) (wVar 4))) wNil))))
  (w_law_spoiled_case_t1 K cl c_law_draw c_law_spoiled_item c_law_spoiled_fact))
def w_law_spoiled_case_t3 (K : Frag) (cl : Ad) (c_law_draw c_law_spoiled_item c_law_spoiled_fact : Ct) : SW :=
  (wRet (wTup (wCons (wVar 4) (wCons (wFrz (wOp fAdd (wOp fAdd (wSl (wSl (wVar 5) wONone (wOSome (wC (.s (.int 14))))) wONone (wOSome (wVar 9))) (wTup (wCons (wVar 10) wNil))) (wSl (wSl (wVar 5) wONone (wOSome (wC (.s (.int 14))))) (wOSome (wVar 9)) wONone))) (wCons (wVar 6) wNil)))))
def w_law_spoiled_case_t4 (K : Frag) (cl : Ad) (c_law_draw c_law_spoiled_item c_law_spoiled_fact : Ct) : SW :=
  (wSeq (wAsg 10 (wCall c_law_spoiled_fact (wCons (wVar 0) (wCons (wFrz (wOp fAdd (wVar 1) (wVar 4))) wNil))))
  (w_law_spoiled_case_t3 K cl c_law_draw c_law_spoiled_item c_law_spoiled_fact))
def w_law_spoiled_case_t5 (K : Frag) (cl : Ad) (c_law_draw c_law_spoiled_item c_law_spoiled_fact : Ct) : SW :=
  (wRet (wOp fIx (wLst (wCons (wTup (wCons (wVar 4) (wCons (wVar 5) wNil))) (wCons (wTup (wCons (wVar 4) (wCons (wFrz (wCall1 fList (wCons (wVar 5) wNil))) (wCons (wVar 6) wNil)))) (wCons (wTup (wCons (wVar 4) (wCons (wVar 5) (wCons (wFrz (wCall1 fList (wCons (wVar 6) wNil))) wNil)))) wNil)))) (wCall c_law_draw (wCons (wVar 0) (wCons (wC (.s (.int 3))) wNil)))))
def w_law_spoiled_case_t6 (K : Frag) (cl : Ad) (c_law_draw c_law_spoiled_item c_law_spoiled_fact : Ct) : SW :=
  (wSeq (wIfS (wTst (wOp fEq (wVar 3) (wC (.s (.int 7)))))
  (wRet (wTup (wCons (wVar 4) (wCons (wVar 5) (wCons (wFrz (wOp fMul (wTup (wCons (wVar 8) wNil)) (wC (.s (.int 7))))) wNil)))))
  wNext)
  (w_law_spoiled_case_t5 K cl c_law_draw c_law_spoiled_item c_law_spoiled_fact))
def w_law_spoiled_case_t7 (K : Frag) (cl : Ad) (c_law_draw c_law_spoiled_item c_law_spoiled_fact : Ct) : SW :=
  (wSeq (wIfS (wTst (wOp fEq (wVar 3) (wC (.s (.int 6)))))
  (wRet (wTup (wCons (wVar 4) (wCons (wFrz (wOp fMul (wTup (wCons (wVar 7) wNil)) (wC (.s (.int 16))))) (wCons (wVar 6) wNil)))))
  wNext)
  (w_law_spoiled_case_t6 K cl c_law_draw c_law_spoiled_item c_law_spoiled_fact))
def w_law_spoiled_case_t8 (K : Frag) (cl : Ad) (c_law_draw c_law_spoiled_item c_law_spoiled_fact : Ct) : SW :=
  (wSeq (wIfS (wTst (wOp fEq (wVar 3) (wC (.s (.int 5)))))
  (wRet (wTup (wCons (wOp fIx (wLst (wCons (wC (.s (.int 3))) (wCons (wUn fNeg (wC (.s (.int 1)))) (wCons (wC (.s (.bool true))) (wCons (wC (.s .none)) wNil))))) (wCall c_law_draw (wCons (wVar 0) (wCons (wC (.s (.int 4))) wNil)))) (wCons (wTup wNil) (wCons (wFrz (wSl (wVar 6) wONone (wOSome (wC (.s (.int 0)))))) wNil)))))
  wNext)
  (w_law_spoiled_case_t7 K cl c_law_draw c_law_spoiled_item c_law_spoiled_fact))
def w_law_spoiled_case_t9 (K : Frag) (cl : Ad) (c_law_draw c_law_spoiled_item c_law_spoiled_fact : Ct) : SW :=
  (wSeq (wIfS (wTst (wOp fLt (wVar 3) (wC (.s (.int 5)))))
  (wSeq (wAsg 9 (wCall c_law_draw (wCons (wVar 0) (wCons (wFrz (wOp fAdd (wCall1 fLen (wCons (wVar 5) wNil)) (wC (.s (.int 1))))) wNil))))
  (w_law_spoiled_case_t4 K cl c_law_draw c_law_spoiled_item c_law_spoiled_fact))
  wNext)
  (w_law_spoiled_case_t8 K cl c_law_draw c_law_spoiled_item c_law_spoiled_fact))
def w_law_spoiled_case_t10 (K : Frag) (cl : Ad) (c_law_draw c_law_spoiled_item c_law_spoiled_fact : Ct) : SW :=
  (wSeq (wIfS (wTst (wOp fLt (wVar 3) (wC (.s (.int 3)))))
  (wSeq (wAsg 9 (wCall c_law_draw (wCons (wVar 0) (wCons (wFrz (wOp fAdd (wCall1 fLen (wCons (wVar 6) wNil)) (wC (.s (.int 1))))) wNil))))
  (w_law_spoiled_case_t2 K cl c_law_draw c_law_spoiled_item c_law_spoiled_fact))
  wNext)
  (w_law_spoiled_case_t9 K cl c_law_draw c_law_spoiled_item c_law_spoiled_fact))
def w_law_spoiled_case_t11 (K : Frag) (cl : Ad) (c_law_draw c_law_spoiled_item c_law_spoiled_fact : Ct) : SW :=
  (wSeq (wParN [7, 8] (wCons (wTup (wCons (wC (.s (.str "unlike"))) (wCons (wUn fNeg (wC (.s (.int 1)))) (wCons (wUn fNeg (wC (.s (.int 1)))) wNil)))) (wCons (wTup (wCons (wC (.s (.str "chain"))) (wCons (wUn fNeg (wC (.s (.int 1)))) (wCons (wUn fNeg (wC (.s (.int 1)))) (wCons (wTup (wCons (wUn fNeg (wC (.s (.int 1)))) (wCons (wUn fNeg (wC (.s (.int 1)))) (wCons (wUn fNeg (wC (.s (.int 1)))) (wCons (wUn fNeg (wC (.s (.int 1)))) wNil))))) wNil))))) wNil)))
  (w_law_spoiled_case_t10 K cl c_law_draw c_law_spoiled_item c_law_spoiled_fact))
def w_law_spoiled_case_t12 (K : Frag) (cl : Ad) (c_law_draw c_law_spoiled_item c_law_spoiled_fact : Ct) : SW :=
  (wSeq (wAsgT (wVar 2) (gwTup 3 (gwCons (gwName 4) (gwCons (gwName 5) (gwCons (gwName 6) gwNil)))))
  (w_law_spoiled_case_t11 K cl c_law_draw c_law_spoiled_item c_law_spoiled_fact))
def w_law_spoiled_case (K : Frag) (cl : Ad) (c_law_draw c_law_spoiled_item c_law_spoiled_fact : Ct) : SW :=
  (wSeq (wAsg 3 (wCall c_law_draw (wCons (wVar 0) (wCons (wC (.s (.int 9))) wNil))))
  (w_law_spoiled_case_t12 K cl c_law_draw c_law_spoiled_item c_law_spoiled_fact))
theorem ok_law_spoiled_case (T : Txt K mg cl) {k : Nat} {c : Ct} {j_law_draw : Nat} {c_law_draw : Ct} (G_law_draw : FnOk P wd K mg base (L2.CX P wd) j_law_draw cl.f_law_draw cl.d_law_draw P_law_draw (spC K k_law_draw c_law_draw)) (h_law_draw : j_law_draw ≤ k) {j_law_spoiled_item : Nat} {c_law_spoiled_item : Ct} (G_law_spoiled_item : FnOk P wd K mg base (L2.CX P wd) j_law_spoiled_item cl.f_law_spoiled_item cl.d_law_spoiled_item P_law_spoiled_item (spC K k_law_spoiled_item c_law_spoiled_item)) (h_law_spoiled_item : j_law_spoiled_item ≤ k) {j_law_spoiled_fact : Nat} {c_law_spoiled_fact : Ct} (G_law_spoiled_fact : FnOk P wd K mg base (L2.CX P wd) j_law_spoiled_fact cl.f_law_spoiled_fact cl.d_law_spoiled_fact P_law_spoiled_fact (spC K k_law_spoiled_fact c_law_spoiled_fact)) (h_law_spoiled_fact : j_law_spoiled_fact ≤ k) (hlen : ∀ rs Q E, c rs Q E → rs.length = P_law_spoiled_case.length)
    (hw : ∀ rs Q E, c rs Q E → w_law_spoiled_case K cl c_law_draw c_law_spoiled_item c_law_spoiled_fact (rho N_law_spoiled_case.length rs) { nx := fun _ => Q (.s .none), rt := Q, er := fun cls _ => E cls }) :
    FnOk P wd K mg base (L2.CX P wd) (k + 1) cl.f_law_spoiled_case cl.d_law_spoiled_case P_law_spoiled_case (spC K k_law_spoiled_case c) :=
  fnC T.F_law_spoiled_case sc_law_spoiled_case hlen (fun cdv A outer s H E hr => by
  have tk := takes_of (X := cxOf (L2.CX P wd) P wd K mg base N_law_spoiled_case "_law_spoiled_case" (defScope s_law_spoiled_case) cl.f_law_spoiled_case cdv A outer s H E) rfl rfl rfl rfl
  exact (pscs_le (pscs_cons (psc_set (ps_set (i := 3) sc_law_spoiled_case.nd rfl (by first | exact Or.inl rfl | exact Or.inr rfl) (pc_call (pe_callS G_law_draw (hr.mono h_law_draw) (by rfl) T.m_law_draw T.F_law_draw.kp T.b_law_draw (fun σ => passAt tk σ) (pca_cons (pc_of (pd_var (pv 0))) (pca_cons (pc_of pd_int) (pca_of pda_nil)))))))
  (pscs_cons (psc_of (pds_asgT (ps_asg (pd_var (pv 2)) (pgd_tup (pg_tup rfl (pgds_cons (pgs_cons (pgd_name (pg_name (i := 4) sc_law_spoiled_case.nd rfl (by first | exact Or.inl rfl | exact Or.inr rfl))) (pgds_cons (pgs_cons (pgd_name (pg_name (i := 5) sc_law_spoiled_case.nd rfl (by first | exact Or.inl rfl | exact Or.inr rfl))) (pgds_cons (pgs_cons (pgd_name (pg_name (i := 6) sc_law_spoiled_case.nd rfl (by first | exact Or.inl rfl | exact Or.inr rfl))) pgds_nil)))))))))))
  (pscs_cons (psc_of (pds_parT (is := [7, 8]) (by decide) (ps_asg (peN_tup (pda_cons (pd_tup (pda_cons pd_str (pda_cons (pd_un o_neg pd_int) (pda_cons (pd_un o_neg pd_int) pda_nil)))) (pda_cons (pd_tup (pda_cons pd_str (pda_cons (pd_un o_neg pd_int) (pda_cons (pd_un o_neg pd_int) (pda_cons (pd_tup (pda_cons (pd_un o_neg pd_int) (pda_cons (pd_un o_neg pd_int) (pda_cons (pd_un o_neg pd_int) (pda_cons (pd_un o_neg pd_int) pda_nil))))) pda_nil))))) pda_nil))) (pg_tup rfl (pgs_cons (pg_name (i := 7) sc_law_spoiled_case.nd rfl (by first | exact Or.inl rfl | exact Or.inr rfl)) (pgs_cons (pg_name (i := 8) sc_law_spoiled_case.nd rfl (by first | exact Or.inl rfl | exact Or.inr rfl)) pgs_nil))))))
  (pscs_cons (psc_if (pct_of (pdt_cmp (o_lt hr.units0) (pd_var (pv 3)) pd_int (nomark _)))
  (pscs_cons (psc_set (ps_set (i := 9) sc_law_spoiled_case.nd rfl (by first | exact Or.inl rfl | exact Or.inr rfl) (pc_call (pe_callS G_law_draw (hr.mono h_law_draw) (by rfl) T.m_law_draw T.F_law_draw.kp T.b_law_draw (fun σ => passAt tk σ) (pca_cons (pc_of (pd_var (pv 0))) (pca_cons (pc_frz (pc_of (pd_op o_add (call_core (t := fun _ _ _ => True) (pe_callB c_len (by rfl) T.n_len (by decide +kernel) (pda_cons (pd_var (pv 6)) pda_nil))) pd_int))) (pca_of pda_nil)))))))
  (pscs_cons (psc_set (ps_set (i := 10) sc_law_spoiled_case.nd rfl (by first | exact Or.inl rfl | exact Or.inr rfl) (pc_call (pe_callS G_law_spoiled_item (hr.mono h_law_spoiled_item) (by rfl) T.m_law_spoiled_item T.F_law_spoiled_item.kp T.b_law_spoiled_item (fun σ => passAt tk σ) (pca_cons (pc_of (pd_var (pv 0))) (pca_cons (pc_frz (pc_of (pd_op o_add (pd_var (pv 1)) (pd_var (pv 4))))) (pca_of pda_nil)))))))
  (pscs_one (psc_of (pds_ret (pd_tup (pda_cons (pd_var (pv 4)) (pda_cons (pd_var (pv 5)) (pda_cons (pd_frz (pd_op o_add (pd_op o_add (pd_sl (pe_slice o_sl (pd_sl (pe_slice o_sl (pd_var (pv 6)) pdo_none (pdo_some pd_int))) pdo_none (pdo_some (pd_var (pv 9))))) (pd_tup (pda_cons (pd_var (pv 10)) pda_nil))) (pd_sl (pe_slice o_sl (pd_sl (pe_slice o_sl (pd_var (pv 6)) pdo_none (pdo_some pd_int))) (pdo_some (pd_var (pv 9))) pdo_none)))) pda_nil)))))))))
  (pscs_of pds_nil))
  (pscs_cons (psc_if (pct_of (pdt_cmp (o_lt hr.units0) (pd_var (pv 3)) pd_int (nomark _)))
  (pscs_cons (psc_set (ps_set (i := 9) sc_law_spoiled_case.nd rfl (by first | exact Or.inl rfl | exact Or.inr rfl) (pc_call (pe_callS G_law_draw (hr.mono h_law_draw) (by rfl) T.m_law_draw T.F_law_draw.kp T.b_law_draw (fun σ => passAt tk σ) (pca_cons (pc_of (pd_var (pv 0))) (pca_cons (pc_frz (pc_of (pd_op o_add (call_core (t := fun _ _ _ => True) (pe_callB c_len (by rfl) T.n_len (by decide +kernel) (pda_cons (pd_var (pv 5)) pda_nil))) pd_int))) (pca_of pda_nil)))))))
  (pscs_cons (psc_set (ps_set (i := 10) sc_law_spoiled_case.nd rfl (by first | exact Or.inl rfl | exact Or.inr rfl) (pc_call (pe_callS G_law_spoiled_fact (hr.mono h_law_spoiled_fact) (by rfl) T.m_law_spoiled_fact T.F_law_spoiled_fact.kp T.b_law_spoiled_fact (fun σ => passAt tk σ) (pca_cons (pc_of (pd_var (pv 0))) (pca_cons (pc_frz (pc_of (pd_op o_add (pd_var (pv 1)) (pd_var (pv 4))))) (pca_of pda_nil)))))))
  (pscs_one (psc_of (pds_ret (pd_tup (pda_cons (pd_var (pv 4)) (pda_cons (pd_frz (pd_op o_add (pd_op o_add (pd_sl (pe_slice o_sl (pd_sl (pe_slice o_sl (pd_var (pv 5)) pdo_none (pdo_some pd_int))) pdo_none (pdo_some (pd_var (pv 9))))) (pd_tup (pda_cons (pd_var (pv 10)) pda_nil))) (pd_sl (pe_slice o_sl (pd_sl (pe_slice o_sl (pd_var (pv 5)) pdo_none (pdo_some pd_int))) (pdo_some (pd_var (pv 9))) pdo_none)))) (pda_cons (pd_var (pv 6)) pda_nil)))))))))
  (pscs_of pds_nil))
  (pscs_cons (psc_if (pct_of (pdt_cmp (o_eq hr.units) (pd_var (pv 3)) pd_int (nomark _)))
  (pscs_one (psc_ret (pc_tup (pca_cons (pc_ix (o_ix hr.units) (pc_of (pd_lst (pda_cons pd_int (pda_cons (pd_un o_neg pd_int) (pda_cons pd_bl (pda_cons pd_non pda_nil)))))) (pc_call (pe_callS G_law_draw (hr.mono h_law_draw) (by rfl) T.m_law_draw T.F_law_draw.kp T.b_law_draw (fun σ => passAt tk σ) (pca_cons (pc_of (pd_var (pv 0))) (pca_cons (pc_of pd_int) (pca_of pda_nil))))) (fun _ _ => rfl)) (pca_cons (pc_of (pd_tup pda_nil)) (pca_cons (pc_frz (pc_of (pd_sl (pe_slice o_sl (pd_var (pv 6)) pdo_none (pdo_some pd_int))))) (pca_of pda_nil)))))))
  (pscs_of pds_nil))
  (pscs_cons (psc_of (pds_if (pdt_cmp (o_eq hr.units) (pd_var (pv 3)) pd_int (nomark _))
  (pds_one (pds_ret (pd_tup (pda_cons (pd_var (pv 4)) (pda_cons (pd_frz (pd_op o_mul (pd_tup (pda_cons (pd_var (pv 7)) pda_nil)) pd_int)) (pda_cons (pd_var (pv 6)) pda_nil))))))
  pds_nil))
  (pscs_cons (psc_of (pds_if (pdt_cmp (o_eq hr.units) (pd_var (pv 3)) pd_int (nomark _))
  (pds_one (pds_ret (pd_tup (pda_cons (pd_var (pv 4)) (pda_cons (pd_var (pv 5)) (pda_cons (pd_frz (pd_op o_mul (pd_tup (pda_cons (pd_var (pv 8)) pda_nil)) pd_int)) pda_nil))))))
  pds_nil))
  (pscs_one (psc_ret (pc_ix (o_ix hr.units) (pc_of (pd_lst (pda_cons (pd_tup (pda_cons (pd_var (pv 4)) (pda_cons (pd_var (pv 5)) pda_nil))) (pda_cons (pd_tup (pda_cons (pd_var (pv 4)) (pda_cons (pd_frz (call_core (t := fun _ _ _ => True) (pe_callTy c_list (by rfl) T.n_list (by decide +kernel) (pda_cons (pd_var (pv 5)) pda_nil)))) (pda_cons (pd_var (pv 6)) pda_nil)))) (pda_cons (pd_tup (pda_cons (pd_var (pv 4)) (pda_cons (pd_var (pv 5)) (pda_cons (pd_frz (call_core (t := fun _ _ _ => True) (pe_callTy c_list (by rfl) T.n_list (by decide +kernel) (pda_cons (pd_var (pv 6)) pda_nil)))) pda_nil)))) pda_nil))))) (pc_call (pe_callS G_law_draw (hr.mono h_law_draw) (by rfl) T.m_law_draw T.F_law_draw.kp T.b_law_draw (fun σ => passAt tk σ) (pca_cons (pc_of (pd_var (pv 0))) (pca_cons (pc_of pd_int) (pca_of pda_nil))))) (fun _ _ => rfl)))))))))))) (by decide +kernel))) hw
def w_law_at_bounds (K : Frag) (cl : Ad) (c_is_case c_is_statement : Ct) : SW :=
  (wSeq (wAsgT (wVar 1) (gwTup 3 (gwCons (gwName 2) (gwCons (gwName 3) (gwCons (gwName 4) gwNil)))))
  (wSeq (wParN [5, 6] (wCons (wTup (wCons (wC (.s (.str "unlike"))) (wCons (wUn fNeg (wC (.s (.int 1)))) (wCons (wUn fNeg (wC (.s (.int 1)))) wNil)))) (wCons (wTup (wCons (wC (.s (.str "chain"))) (wCons (wUn fNeg (wC (.s (.int 1)))) (wCons (wUn fNeg (wC (.s (.int 1)))) (wCons (wTup (wCons (wUn fNeg (wC (.s (.int 1)))) (wCons (wUn fNeg (wC (.s (.int 1)))) (wCons (wUn fNeg (wC (.s (.int 1)))) (wCons (wUn fNeg (wC (.s (.int 1)))) wNil))))) wNil))))) wNil)))
  (wSeq (wAsg 7 (wTup (wCons (wC (.s (.int 2))) (wCons (wFrz (wOp fMul (wTup (wCons (wVar 5) wNil)) (wC (.s (.int 15))))) (wCons (wFrz (wOp fMul (wTup (wCons (wVar 6) wNil)) (wC (.s (.int 6))))) wNil)))))
  (wSeq (wIfS (wOrT (wTst (wOp (fIs true) (wCall c_is_case (wCons (wOp fIx (wVar 0) (wC (.s (.int 0)))) (wCons (wVar 7) wNil))) (wC (.s (.bool true))))) (wTst (wOp (fIs true) (wCall c_is_statement (wCons (wTup (wCons (wOp fIx (wVar 0) (wC (.s (.int 0)))) (wCons (wFrz (wOp fMul (wTup (wCons (wVar 7) wNil)) (wC (.s (.int 12))))) wNil))) wNil)) (wC (.s (.bool true))))))
  (wRet (wC (.s (.bool false))))
  wNext)
  (wRet (wAndV (wOp (fIs false) (wCall c_is_statement (wCons (wTup (wCons (wOp fIx (wVar 0) (wC (.s (.int 0)))) (wCons (wFrz (wOp fMul (wTup (wCons (wVar 1) wNil)) (wC (.s (.int 13))))) wNil))) wNil)) (wC (.s (.bool false)))) (wOp (fIs false) (wCall c_is_statement (wCons (wTup (wCons (wOp fIx (wVar 0) (wC (.s (.int 0)))) (wCons (wTup wNil) wNil))) wNil)) (wC (.s (.bool true))))))))))
theorem ok_law_at_bounds (T : Txt K mg cl) {k : Nat} {c : Ct} {j_is_case : Nat} {c_is_case : Ct} (G_is_case : FnOk P wd K mg base (L2.CX P wd) j_is_case cl.f_is_case cl.d_is_case P_is_case (spD K c_is_case)) (h_is_case : j_is_case ≤ k) {j_is_statement : Nat} {c_is_statement : Ct} (G_is_statement : FnOk P wd K mg base (L2.CX P wd) j_is_statement cl.f_is_statement cl.d_is_statement P_is_statement (spD K c_is_statement)) (h_is_statement : j_is_statement ≤ k) (hlen : ∀ rs Q E, c rs Q E → rs.length = P_law_at_bounds.length)
    (hw : ∀ rs Q E, c rs Q E → w_law_at_bounds K cl c_is_case c_is_statement (rho N_law_at_bounds.length rs) { nx := fun _ => Q (.s .none), rt := Q, er := fun cls _ => E cls }) :
    FnOk P wd K mg base (L2.CX P wd) (k + 1) cl.f_law_at_bounds cl.d_law_at_bounds P_law_at_bounds (spD K c) :=
  fnD T.F_law_at_bounds sc_law_at_bounds hlen (fun cdv A outer s H E hr => by
  have tk := takes_of (X := cxOf (L2.CX P wd) P wd K mg base N_law_at_bounds "_law_at_bounds" (defScope s_law_at_bounds) cl.f_law_at_bounds cdv A outer s H E) rfl rfl rfl rfl
  exact (pds_cons (pds_asgT (ps_asg (pd_var (pv 1)) (pgd_tup (pg_tup rfl (pgds_cons (pgs_cons (pgd_name (pg_name (i := 2) sc_law_at_bounds.nd rfl (by first | exact Or.inl rfl | exact Or.inr rfl))) (pgds_cons (pgs_cons (pgd_name (pg_name (i := 3) sc_law_at_bounds.nd rfl (by first | exact Or.inl rfl | exact Or.inr rfl))) (pgds_cons (pgs_cons (pgd_name (pg_name (i := 4) sc_law_at_bounds.nd rfl (by first | exact Or.inl rfl | exact Or.inr rfl))) pgds_nil))))))))))
  (pds_cons (pds_parT (is := [5, 6]) (by decide) (ps_asg (peN_tup (pda_cons (pd_tup (pda_cons pd_str (pda_cons (pd_un o_neg pd_int) (pda_cons (pd_un o_neg pd_int) pda_nil)))) (pda_cons (pd_tup (pda_cons pd_str (pda_cons (pd_un o_neg pd_int) (pda_cons (pd_un o_neg pd_int) (pda_cons (pd_tup (pda_cons (pd_un o_neg pd_int) (pda_cons (pd_un o_neg pd_int) (pda_cons (pd_un o_neg pd_int) (pda_cons (pd_un o_neg pd_int) pda_nil))))) pda_nil))))) pda_nil))) (pg_tup rfl (pgs_cons (pg_name (i := 5) sc_law_at_bounds.nd rfl (by first | exact Or.inl rfl | exact Or.inr rfl)) (pgs_cons (pg_name (i := 6) sc_law_at_bounds.nd rfl (by first | exact Or.inl rfl | exact Or.inr rfl)) pgs_nil)))))
  (pds_cons (pds_set (ps_set (i := 7) sc_law_at_bounds.nd rfl (by first | exact Or.inl rfl | exact Or.inr rfl) (pd_tup (pda_cons pd_int (pda_cons (pd_frz (pd_op o_mul (pd_tup (pda_cons (pd_var (pv 5)) pda_nil)) pd_int)) (pda_cons (pd_frz (pd_op o_mul (pd_tup (pda_cons (pd_var (pv 6)) pda_nil)) pd_int)) pda_nil))))))
  (pds_cons (pds_if (pdt_w (pdw_or (pdt_cmp o_isNot (pd_call (pe_callS G_is_case (hr.mono h_is_case) (by rfl) T.m_is_case T.F_is_case.kp T.b_is_case (fun σ => passAt tk σ) (pda_cons (pd_ix (o_ix hr.units) (pd_var (pv 0)) pd_int (fun _ _ => rfl)) (pda_cons (pd_var (pv 7)) pda_nil)))) pd_bl (nomark _)) (pdw_or1 (pdt_cmp o_isNot (pd_call (pe_callS G_is_statement (hr.mono h_is_statement) (by rfl) T.m_is_statement T.F_is_statement.kp T.b_is_statement (fun σ => passAt tk σ) (pda_cons (pd_tup (pda_cons (pd_ix (o_ix hr.units) (pd_var (pv 0)) pd_int (fun _ _ => rfl)) (pda_cons (pd_frz (pd_op o_mul (pd_tup (pda_cons (pd_var (pv 7)) pda_nil)) pd_int)) pda_nil))) pda_nil))) pd_bl (nomark _)))))
  (pds_one (pds_ret pd_bl))
  pds_nil)
  (pds_one (pds_ret (pd_and (pd_cmp o_is (pd_call (pe_callS G_is_statement (hr.mono h_is_statement) (by rfl) T.m_is_statement T.F_is_statement.kp T.b_is_statement (fun σ => passAt tk σ) (pda_cons (pd_tup (pda_cons (pd_ix (o_ix hr.units) (pd_var (pv 0)) pd_int (fun _ _ => rfl)) (pda_cons (pd_frz (pd_op o_mul (pd_tup (pda_cons (pd_var (pv 1)) pda_nil)) pd_int)) pda_nil))) pda_nil))) pd_bl (nomark _)) (pd_one (pd_cmp o_is (pd_call (pe_callS G_is_statement (hr.mono h_is_statement) (by rfl) T.m_is_statement T.F_is_statement.kp T.b_is_statement (fun σ => passAt tk σ) (pda_cons (pd_tup (pda_cons (pd_ix (o_ix hr.units) (pd_var (pv 0)) pd_int (fun _ _ => rfl)) (pda_cons (pd_tup pda_nil) pda_nil))) pda_nil))) pd_bl (nomark _))))))))))) hw
def w_law_refuses (K : Frag) (cl : Ad) (c_threshold c_names_used : Ct) : SW :=
  (wSeq (wParN [1, 2] (wCons (wC (.s (.str ""))) (wCons (wC (.s (.str ""))) wNil)))
  (wSeq (wTry K (wExpr (wCall c_threshold (wCons (wVar 0) wNil))) [(.ref cl.c_BadStatement, (wAsg 1 (wC (.s (.str "statement")))))])
  (wSeq (wTry K (wExpr (wCall c_names_used (wCons (wVar 0) wNil))) [(.ref cl.c_BadStatement, (wAsg 2 (wC (.s (.str "statement")))))])
  (wRet (wAndV (wOp fEq (wVar 1) (wC (.s (.str "statement")))) (wOp fEq (wVar 2) (wC (.s (.str "statement")))))))))
theorem ok_law_refuses (T : Txt K mg cl) {k : Nat} {c : Ct} {j_threshold : Nat} {c_threshold : Ct} (G_threshold : FnOk P wd K mg base (L2.CX P wd) j_threshold cl.f_threshold cl.d_threshold P_threshold (spD K c_threshold)) (h_threshold : j_threshold ≤ k) {j_names_used : Nat} {c_names_used : Ct} (G_names_used : FnOk P wd K mg base (L2.CX P wd) j_names_used cl.f_names_used cl.d_names_used P_names_used (spD K c_names_used)) (h_names_used : j_names_used ≤ k) (hlen : ∀ rs Q E, c rs Q E → rs.length = P_law_refuses.length)
    (hw : ∀ rs Q E, c rs Q E → w_law_refuses K cl c_threshold c_names_used (rho N_law_refuses.length rs) { nx := fun _ => Q (.s .none), rt := Q, er := fun cls _ => E cls }) :
    FnOk P wd K mg base (L2.CX P wd) (k + 1) cl.f_law_refuses cl.d_law_refuses P_law_refuses (spD K c) :=
  fnD T.F_law_refuses sc_law_refuses hlen (fun cdv A outer s H E hr => by
  have tk := takes_of (X := cxOf (L2.CX P wd) P wd K mg base N_law_refuses "_law_refuses" (defScope s_law_refuses) cl.f_law_refuses cdv A outer s H E) rfl rfl rfl rfl
  exact (pds_cons (pds_parT (is := [1, 2]) (by decide) (ps_asg (peN_tup (pda_cons pd_str (pda_cons pd_str pda_nil))) (pg_tup rfl (pgs_cons (pg_name (i := 1) sc_law_refuses.nd rfl (by first | exact Or.inl rfl | exact Or.inr rfl)) (pgs_cons (pg_name (i := 2) sc_law_refuses.nd rfl (by first | exact Or.inl rfl | exact Or.inr rfl)) pgs_nil)))))
  (pds_cons (pds_try (hs := [(.ref cl.c_BadStatement, (wAsg 1 (wC (.s (.str "statement")))))]) rfl rfl tk (fun W' pn xe tk' _ => (pds_one (pds_expr (ps_expr (pd_call (pe_callS G_threshold (hr.mono h_threshold) (by rfl) T.m_threshold T.F_threshold.kp T.b_threshold (fun σ => passAt tk' σ) (pda_cons (pd_var (pv 0)) pda_nil))))))) (HdsOk.cons (ts := fun _ _ _ => TDs K W0 (wAsg 1 (wC (.s (.str "statement"))))) ⟨rfl, by decide, .inl T.g_BadStatement⟩ (fun _ _ _ _ _ _ _ => (pds_one (pds_set (ps_set (i := 1) sc_law_refuses.nd rfl (by first | exact Or.inl rfl | exact Or.inr rfl) pd_str)))) HdsOk.nil))
  (pds_cons (pds_try (hs := [(.ref cl.c_BadStatement, (wAsg 2 (wC (.s (.str "statement")))))]) rfl rfl tk (fun W' pn xe tk' _ => (pds_one (pds_expr (ps_expr (pd_call (pe_callS G_names_used (hr.mono h_names_used) (by rfl) T.m_names_used T.F_names_used.kp T.b_names_used (fun σ => passAt tk' σ) (pda_cons (pd_var (pv 0)) pda_nil))))))) (HdsOk.cons (ts := fun _ _ _ => TDs K W0 (wAsg 2 (wC (.s (.str "statement"))))) ⟨rfl, by decide, .inl T.g_BadStatement⟩ (fun _ _ _ _ _ _ _ => (pds_one (pds_set (ps_set (i := 2) sc_law_refuses.nd rfl (by first | exact Or.inl rfl | exact Or.inr rfl) pd_str)))) HdsOk.nil))
  (pds_one (pds_ret (pd_and (pd_cmp (o_eq hr.units) (pd_var (pv 1)) pd_str (nomark _)) (pd_one (pd_cmp (o_eq hr.units) (pd_var (pv 2)) pd_str (nomark _)))))))))) hw
def w_law_no_many (K : Frag) (cl : Ad) (c_is_case : Ct) : SW :=
  (wSeq (wAsg 2 (wC (.s (.str ""))))
  (wSeq (wTry K (wExpr (wCall c_is_case (wCons (wVar 0) (wCons (wVar 1) wNil)))) [(.ref cl.c_BadMany, (wAsg 2 (wC (.s (.str "many")))))])
  (wRet (wOp fEq (wVar 2) (wC (.s (.str "many")))))))
theorem ok_law_no_many (T : Txt K mg cl) {k : Nat} {c : Ct} {j_is_case : Nat} {c_is_case : Ct} (G_is_case : FnOk P wd K mg base (L2.CX P wd) j_is_case cl.f_is_case cl.d_is_case P_is_case (spD K c_is_case)) (h_is_case : j_is_case ≤ k) (hlen : ∀ rs Q E, c rs Q E → rs.length = P_law_no_many.length)
    (hw : ∀ rs Q E, c rs Q E → w_law_no_many K cl c_is_case (rho N_law_no_many.length rs) { nx := fun _ => Q (.s .none), rt := Q, er := fun cls _ => E cls }) :
    FnOk P wd K mg base (L2.CX P wd) (k + 1) cl.f_law_no_many cl.d_law_no_many P_law_no_many (spD K c) :=
  fnD T.F_law_no_many sc_law_no_many hlen (fun cdv A outer s H E hr => by
  have tk := takes_of (X := cxOf (L2.CX P wd) P wd K mg base N_law_no_many "_law_no_many" (defScope s_law_no_many) cl.f_law_no_many cdv A outer s H E) rfl rfl rfl rfl
  exact (pds_cons (pds_set (ps_set (i := 2) sc_law_no_many.nd rfl (by first | exact Or.inl rfl | exact Or.inr rfl) pd_str))
  (pds_cons (pds_try (hs := [(.ref cl.c_BadMany, (wAsg 2 (wC (.s (.str "many")))))]) rfl rfl tk (fun W' pn xe tk' _ => (pds_one (pds_expr (ps_expr (pd_call (pe_callS G_is_case (hr.mono h_is_case) (by rfl) T.m_is_case T.F_is_case.kp T.b_is_case (fun σ => passAt tk' σ) (pda_cons (pd_var (pv 0)) (pda_cons (pd_var (pv 1)) pda_nil)))))))) (HdsOk.cons (ts := fun _ _ _ => TDs K W0 (wAsg 2 (wC (.s (.str "many"))))) ⟨rfl, by decide, .inl T.g_BadMany⟩ (fun _ _ _ _ _ _ _ => (pds_one (pds_set (ps_set (i := 2) sc_law_no_many.nd rfl (by first | exact Or.inl rfl | exact Or.inr rfl) pd_str)))) HdsOk.nil))
  (pds_one (pds_ret (pd_cmp (o_eq hr.units) (pd_var (pv 2)) pd_str (nomark _))))))) hw
theorem ok_law_draw (T : Txt K mg cl) : FnOk P wd K mg base (L2.CX P wd) 1 cl.f_law_draw cl.d_law_draw P_law_draw (spC K k_law_draw c_draw) := by
  have nd := sc_law_draw.nd
  refine T.F_law_draw.okX sc_law_draw (fun vs H Q E h => ?_) (fun cdv A outer s H vs Q E hr h => ?_)
  · obtain ⟨d, c, m, F', rs, Qd, Qe, _, _, h1, ⟨n, e, _⟩, _⟩ := h
    rw [h1.length, e]
    rfl
  obtain ⟨d, c, m, F', rs, Qd, Qe, sF, gok, ra, ⟨n, e, n0, n1, q⟩, ok, _⟩ := h
  rw [e] at ra
  obtain ⟨x, y, rfl, ⟨d', c', m', rfl, ed⟩, r2⟩ := ra.two
  cases r2.int
  rw [← src_at ed]
  obtain ⟨cells, i, t, sa, le⟩ := SrcAt.of gok
  have le : t + ((m + 1 : Nat) : Int) ≤ srcTop := le
  have fin : ∀ (H' : Hp) (cells' : List Int) (i' : Nat) (r : Int), SrcAt d c H' cells' i' (t + 1) → (∀ b, b ∉ [d, c] → H' b = H b) → 0 ≤ r → r < n → Q (.int r) H' := fun H' cells' i' r s' sh r0 r1 =>
    have hh : Same (hide (srcB d c) H) (hide (srcB d c) H') := by rw [hide_src sh]; exact Same.refl _
    ok (.s (.int r)) (.int r) F' H' ⟨Same.refl _, hh, fun _ _ z _ => z⟩ (sF.trans hh) (s'.ok (by omega)) (show DL.Dp K F' (.int r) (.int r) from .int r) (q r r0 r1)
  have sb := set_both (X := cxOf (L2.CX P wd) P wd K mg base N_law_draw "_law_draw" (defScope s_law_draw) cl.f_law_draw cdv A outer s H E) hr.units
  refine ⟨_, pss_cons (ps_set (i := 2) nd rfl (by first | exact Or.inl rfl | exact Or.inr rfl) (pe_ix (ix_dk hr.units) (pv 0) pe_str (fun _ _ => rfl)))
    (pss_cons (ps_set (i := 3) nd rfl (by first | exact Or.inl rfl | exact Or.inr rfl) (pe_ix (ix_dk hr.units) (pv 0) pe_str (fun _ _ => rfl)))
    (pss_cons (ps_set (i := 4) nd rfl (by first | exact Or.inl rfl | exact Or.inr rfl) (pe_ix ix_list (pv 2) (pv 3) (fun _ _ => rfl)))
    (pss_cons (ps_set (i := 5) nd rfl (by first | exact Or.inl rfl | exact Or.inr rfl) (pe_op op_add (pe_ix (ix_dk hr.units) (pv 0) pe_str (fun _ _ => rfl)) pe_int))
    (pss_cons (ps_asg (pv 5) (pg_sub (pv 0) pe_str sb))
    (pss_cons (ps_asg (pe_op op_mod (pe_callTy call_int1 (by rfl) T.n_int (by decide +kernel) (pa_cons (pe_op op_add (pv 3) pe_int) pa_nil)) (pe_callB call_len (by rfl) T.n_len (by decide +kernel) (pa_cons (pv 2) pa_nil))) (pg_sub (pv 0) pe_str sb))
    (pss_cons (ps_if (pt_cmpR op_ge (pv 4) (pe_op op_pow pe_int pe_int) (nomark _))
        (pss_cons (ps_asg (pe_op op_fdiv (pv 4) (pv 1)) (pg_sub (pv 2) (pv 3) set_list)) (pss_one (ps_ret (pe_op op_mod (pe_callTy call_int1 (by rfl) T.n_int (by decide +kernel) (pa_cons (pv 4) pa_nil)) (pv 1)))))
        pss_nil)
    (pss_cons (ps_set (i := 6) nd rfl (by first | exact Or.inl rfl | exact Or.inr rfl) (pe_op op_mod (pe_callTy call_int1 (by rfl) T.n_int (by decide +kernel) (pa_cons (pe_op op_add (pe_op op_add (pe_op op_add (pe_op op_mul (pe_op op_add (pv 4) (pe_op op_mul pe_int (pv 5))) pe_int) (pe_op op_mul (pe_op op_mulW (pv 5) (pv 5)) pe_int)) (pe_op op_mul (pv 3) pe_int)) pe_int) pa_nil)) pe_int))
    (pss_cons (ps_set (i := 6) nd rfl (by first | exact Or.inl rfl | exact Or.inr rfl) (pe_op op_mod (pe_callTy call_int1 (by rfl) T.n_int (by decide +kernel) (pa_cons (pe_op op_add (pe_op op_add (pe_op op_mul (pv 6) (pv 6)) (pe_op op_mul pe_int (pv 5))) (pv 4)) pa_nil)) pe_int))
    (pss_one (ps_ret (pe_op op_mod (pe_callTy call_int1 (by rfl) T.n_int (by decide +kernel) (pa_cons (pe_op op_fdiv (pe_op op_mul (pv 6) pe_int) pe_int) pa_nil)) (pv 1)))))))))))), ?_⟩
  obtain ⟨z, hz, hz', z0, z1⟩ := sa.cell
  have hl : (cells.map V.int).length = cells.length := List.length_map ..
  have t1 : 0 ≤ t + 1 := by have := sa.t0; omega
  have sa1 : SrcAt d c (upd H d (.dK (sKv c i (t + 1)))) cells i (t + 1) := sa.setT t1
  have jl : ((i + 1) % cells.length) < cells.length := Nat.mod_lt _ (by have := sa.hi; omega)
  have sa2 := sa1.setA jl
  rw [upd_upd] at sa2
  have sh2 : ∀ b, b ∉ [d, c] → upd H d (.dK (sKv c ((i + 1) % cells.length) (t + 1))) b = H b := fun b hb => upd_ne (fun e => hb (by rw [e]; exact List.mem_cons_self))
  have lt18 : ((10 : Int) ^ (18 : Int).toNat) = 1000000000000000000 := by decide
  -- cells, at, cell, turn
  refine ⟨_, rfl, d, _, _, _, rfl, rfl, sa.h1, sKv_cells .., ?_⟩
  refine ⟨_, rfl, d, _, _, _, rfl, rfl, sa.h1, sKv_at .., ?_⟩
  refine ⟨_, rfl, _, rfl, c, _, _, _, rfl, rfl, .inl (.inl sa.h2), atI_nat hz', ?_⟩
  refine ⟨_, rfl, d, _, _, _, rfl, rfl, sa.h1, sKv_turn .., _, _, rfl, rfl, ?_⟩
  -- turn and at are written
  refine ⟨_, rfl, _, rfl, .inr ⟨d, _, rfl, .inl ⟨_, .inr "turn", sa.h1, rfl, sKv_len .., rfl⟩, ?_⟩⟩
  rw [sKv_pt]
  refine ⟨_, rfl, _, _, rfl, rfl, .inl ⟨_, rfl, _, rfl, _, cells.length, rfl, .inl ⟨_, .inl (.inl sa1.h2), hl.symm⟩, _, _, rfl, rfl, (by have := sa.hi; omega), ?_⟩⟩
  dsimp only
  rw [show ((i : Int) + 1) % (cells.length : Int) = (((i + 1) % cells.length : Nat) : Int) by simp]
  refine ⟨_, rfl, .inr ⟨d, _, rfl, .inl ⟨_, .inr "at", sa1.h1, rfl, sKv_len .., rfl⟩, ?_⟩⟩
  rw [sKv_pa, upd_upd]
  -- a great cell
  refine ⟨_, rfl, _, _, rfl, rfl, by unfold CPow; decide, _, _, rfl, rfl, _, rfl, ?_⟩
  refine ite2 (fun _ => ?_) (fun _ => ?_)
  · refine ⟨_, rfl, _, rfl, _, _, rfl, rfl, ⟨n0, n1⟩, _, rfl, _, rfl, c, _, _, i, rfl, rfl, sa2.h2, ?_, ?_⟩
    · rw [hl]; exact ixN_at sa.hi
    · have q0 : 0 ≤ z / n := Int.ediv_nonneg z0 (Int.le_of_lt n0)
      have q1 : z / n < 10 ^ 60 := Int.lt_of_le_of_lt (Int.ediv_le_self _ z0) z1
      refine ⟨_, rfl, .inl ⟨_, rfl, _, rfl, _, _, rfl, rfl, n0, ?_⟩⟩
      exact fin _ _ _ _ (sa2.setC i q0 q1) (fun b hb => by rw [upd_ne (fun e => hb (by rw [e]; simp))]; exact sh2 b hb) (Int.emod_nonneg _ (Int.ne_of_gt n0)) (Int.emod_lt_of_pos _ n0)
  · have ht1 : CMulW (t + 1) (t + 1) := mul_turn t1 (by omega)
    refine ⟨_, rfl, _, rfl, _, _, rfl, rfl, .inl (by decide), _, _, rfl, rfl, _, _, rfl, rfl, .inr (by decide), ?_⟩
    refine ⟨_, rfl, _, rfl, _, _, rfl, rfl, ht1, _, _, rfl, rfl, .inr (by decide), _, _, rfl, rfl, ?_⟩
    refine ⟨_, rfl, _, _, rfl, rfl, .inr (by decide), _, _, rfl, rfl, _, _, rfl, rfl, .inl ⟨_, rfl, _, _, rfl, rfl, (by show (0 : Int) < _; decide), ?_⟩⟩
    generalize hm : ((z + 13 * (t + 1)) * 30011 + (t + 1) * (t + 1) * 617 + (i : Int) * 101 + 5) % 998244353 = mx
    have m0 : 0 ≤ mx := by rw [← hm]; exact Int.emod_nonneg _ (by decide)
    have m1 : mx < 998244353 := by rw [← hm]; exact Int.emod_lt_of_pos _ (by decide)
    refine ⟨_, rfl, _, rfl, _, _, rfl, rfl, .inl ⟨by omega, by omega⟩, _, rfl, _, _, rfl, rfl, .inl (by decide), _, _, rfl, rfl, _, rfl, _, _, rfl, rfl, .inl ⟨_, rfl, _, _, rfl, rfl, (by show (0 : Int) < _; decide), ?_⟩⟩
    refine ⟨_, rfl, _, _, rfl, rfl, .inr (by decide), _, _, rfl, rfl, ⟨by decide, by decide⟩, .inl ⟨_, rfl, _, rfl, _, _, rfl, rfl, n0, ?_⟩⟩
    exact fin _ _ _ _ sa2 sh2 (Int.emod_nonneg _ (Int.ne_of_gt n0)) (Int.emod_lt_of_pos _ n0)
theorem ok_law_source (T : Txt K mg cl) : FnOk P wd K mg base (L2.CX P wd) 1 cl.f_law_source cl.d_law_source P_law_source (spSrc K) := by
  refine T.F_law_source.okX sc_law_source (fun vs H Q E h => ?_) (fun cdv A outer s H vs Q E hr h => ⟨_, ?_, src_read h⟩)
  · obtain ⟨a, ns, rfl, _⟩ := h
    rfl
  · exact pss_cons (ps_setLc (i := 1) (own := [("cell", 2)]) (g := gName 2) (tt := tYes) rfl sc_law_source.nd rfl rfl (sw_true rfl rfl rfl (by decide +kernel)) (pi_list (pe_slice sl_list (pv 0) po_none (po_some pe_int))) (blkOk_by (own := [("cell", 2)]) (N := N_law_source) (sc := defScope s_law_source) (by decide +kernel))
      (fun _ _ _ _ _ => pg_name (i := 2) sc_law_source.nd rfl (by first | exact Or.inl rfl | exact Or.inr rfl)) (fun _ _ _ _ _ => pts_nil)
      (fun _ _ _ _ _ => pe_op op_mod (pe_callTy call_int1 (by rfl) T.n_int (by decide +kernel) (pa_cons (pv 2) pa_nil)) (pe_op op_pow pe_int pe_int)))
      (pss_cons (ps_if (pt_cmpR (op_eqD hr.units) (pv 1) (pe_lst pa_nil) (nomark _)) (pss_one (ps_set (i := 1) sc_law_source.nd rfl (by first | exact Or.inl rfl | exact Or.inr rfl) (pe_lst (pa_cons pe_int pa_nil)))) pss_nil)
        (pss_one (ps_ret (pe_disp (pps_cons pe_str (pv 1) (pps_cons pe_str pe_int (pps_cons pe_str pe_int pps_nil))) rfl rfl (by simp) (by decide)))))

def w_law_b1 (K : Frag) (cl : Ad) (c_is_case c_is_statement c_threshold c_names_used c_law_draw c_law_right c_law_used c_law_spoiled_case c_law_at_bounds c_law_refuses c_law_no_many : Ct) : SW :=
  (wSeq (wAsg 5 (wCall c_law_spoiled_case (wCons (wVar 1) (wCons (wVar 3) (wCons (wOp fIx (wVar 4) (wVar 7)) wNil)))))
  (wSeq (wAsg 9 (wTup (wCons (wVar 3) (wCons (wFrz (wOp fAdd (wOp fAdd (wSl (wVar 4) wONone (wOSome (wVar 7))) (wTup (wCons (wVar 5) wNil))) (wSl (wVar 4) (wOSome (wOp fAdd (wVar 7) (wC (.s (.int 1))))) wONone))) wNil))))
  (wIfS (wOrT (wTst (wOp (fIs true) (wCall c_is_case (wCons (wVar 3) (wCons (wVar 5) wNil))) (wC (.s (.bool false))))) (wOrT (wTst (wOp (fIs true) (wCall c_is_statement (wCons (wVar 9) wNil)) (wC (.s (.bool false))))) (wNotT (wTst (wCall c_law_refuses (wCons (wVar 9) wNil))))))
  (wRet (wC (.s (.bool false))))
  wNext)))
def w_law_t2 (K : Frag) (cl : Ad) (c_is_case c_is_statement c_threshold c_names_used c_law_draw c_law_right c_law_used c_law_spoiled_case c_law_at_bounds c_law_refuses c_law_no_many : Ct) : SW :=
  (wRet (wAndV (wCall c_law_no_many (wCons (wVar 11) (wCons (wOp fIx (wVar 4) (wVar 7)) wNil))) (wOp fEq (wVar 2) (wTup (wCons (wVar 3) (wCons (wVar 4) wNil))))))
def w_law_t3 (K : Frag) (cl : Ad) (c_is_case c_is_statement c_threshold c_names_used c_law_draw c_law_right c_law_used c_law_spoiled_case c_law_at_bounds c_law_refuses c_law_no_many : Ct) : SW :=
  (wSeq (wAsg 11 (wOp fIx (wLst (wCons (wC (.s (.int 4))) (wCons (wUn fNeg (wC (.s (.int 1)))) (wCons (wC (.s (.bool true))) (wCons (wC (.s .none)) (wCons (wC (.s (.int 7))) wNil)))))) (wCall c_law_draw (wCons (wVar 1) (wCons (wC (.s (.int 5))) wNil)))))
  (w_law_t2 K cl c_is_case c_is_statement c_threshold c_names_used c_law_draw c_law_right c_law_used c_law_spoiled_case c_law_at_bounds c_law_refuses c_law_no_many))
def w_law_t4 (K : Frag) (cl : Ad) (c_is_case c_is_statement c_threshold c_names_used c_law_draw c_law_right c_law_used c_law_spoiled_case c_law_at_bounds c_law_refuses c_law_no_many : Ct) : SW :=
  (wSeq (wIfS (wOrT (wTst (wOp (fIs true) (wCall c_is_statement (wCons (wVar 9) wNil)) (wC (.s (.bool false))))) (wNotT (wTst (wCall c_law_refuses (wCons (wVar 9) wNil)))))
  (wRet (wC (.s (.bool false))))
  wNext)
  (w_law_t3 K cl c_is_case c_is_statement c_threshold c_names_used c_law_draw c_law_right c_law_used c_law_spoiled_case c_law_at_bounds c_law_refuses c_law_no_many))
def w_law_t5 (K : Frag) (cl : Ad) (c_is_case c_is_statement c_threshold c_names_used c_law_draw c_law_right c_law_used c_law_spoiled_case c_law_at_bounds c_law_refuses c_law_no_many : Ct) : SW :=
  (wSeq (wAsg 9 (wOp fIx (wVar 10) (wCall c_law_draw (wCons (wVar 1) (wCons (wC (.s (.int 8))) wNil)))))
  (w_law_t4 K cl c_is_case c_is_statement c_threshold c_names_used c_law_draw c_law_right c_law_used c_law_spoiled_case c_law_at_bounds c_law_refuses c_law_no_many))
def w_law_t6 (K : Frag) (cl : Ad) (c_is_case c_is_statement c_threshold c_names_used c_law_draw c_law_right c_law_used c_law_spoiled_case c_law_at_bounds c_law_refuses c_law_no_many : Ct) : SW :=
  (wSeq (wAsg 10 (wLst (wCons (wTup (wCons (wC (.s (.int 4))) (wCons (wVar 4) wNil))) (wCons (wTup (wCons (wC (.s (.bool true))) (wCons (wTup wNil) wNil))) (wCons (wFrz (wLst (wCons (wVar 3) (wCons (wVar 4) wNil)))) (wCons (wTup (wCons (wVar 3) (wCons (wFrz (wCall1 fList (wCons (wVar 4) wNil))) wNil))) (wCons (wTup (wCons (wVar 3) wNil)) (wCons (wTup (wCons (wVar 3) (wCons (wVar 4) (wCons (wC (.s (.int 0))) wNil)))) (wCons (wC (.s .none)) (wCons (wC (.s (.str "statement"))) wNil))))))))))
  (w_law_t5 K cl c_is_case c_is_statement c_threshold c_names_used c_law_draw c_law_right c_law_used c_law_spoiled_case c_law_at_bounds c_law_refuses c_law_no_many))
def w_law_t7 (K : Frag) (cl : Ad) (c_is_case c_is_statement c_threshold c_names_used c_law_draw c_law_right c_law_used c_law_spoiled_case c_law_at_bounds c_law_refuses c_law_no_many : Ct) : SW :=
  (wSeq (wFor (wLen 1000 (wRange1 (wCons (wC (.s (.int 3))) wNil))) (gwName 8) (w_law_b1 K cl c_is_case c_is_statement c_threshold c_names_used c_law_draw c_law_right c_law_used c_law_spoiled_case c_law_at_bounds c_law_refuses c_law_no_many))
  (w_law_t6 K cl c_is_case c_is_statement c_threshold c_names_used c_law_draw c_law_right c_law_used c_law_spoiled_case c_law_at_bounds c_law_refuses c_law_no_many))
def w_law_t8 (K : Frag) (cl : Ad) (c_is_case c_is_statement c_threshold c_names_used c_law_draw c_law_right c_law_used c_law_spoiled_case c_law_at_bounds c_law_refuses c_law_no_many : Ct) : SW :=
  (wSeq (wIfS (wNotT (wTst (wCall c_law_at_bounds (wCons (wVar 2) (wCons (wOp fIx (wVar 4) (wVar 7)) wNil)))))
  (wRet (wC (.s (.bool false))))
  wNext)
  (w_law_t7 K cl c_is_case c_is_statement c_threshold c_names_used c_law_draw c_law_right c_law_used c_law_spoiled_case c_law_at_bounds c_law_refuses c_law_no_many))
def w_law_t9 (K : Frag) (cl : Ad) (c_is_case c_is_statement c_threshold c_names_used c_law_draw c_law_right c_law_used c_law_spoiled_case c_law_at_bounds c_law_refuses c_law_no_many : Ct) : SW :=
  (wSeq (wAsg 7 (wCall c_law_draw (wCons (wVar 1) (wCons (wCall1 fLen (wCons (wVar 4) wNil)) wNil))))
  (w_law_t8 K cl c_is_case c_is_statement c_threshold c_names_used c_law_draw c_law_right c_law_used c_law_spoiled_case c_law_at_bounds c_law_refuses c_law_no_many))
def w_law_t10 (K : Frag) (cl : Ad) (c_is_case c_is_statement c_threshold c_names_used c_law_draw c_law_right c_law_used c_law_spoiled_case c_law_at_bounds c_law_refuses c_law_no_many : Ct) : SW :=
  (wSeq (wIfS (wTst (wOp fNe (wCall c_names_used (wCons (wVar 2) wNil)) (wCall c_law_used (wCons (wVar 2) wNil))))
  (wRet (wC (.s (.bool false))))
  wNext)
  (w_law_t9 K cl c_is_case c_is_statement c_threshold c_names_used c_law_draw c_law_right c_law_used c_law_spoiled_case c_law_at_bounds c_law_refuses c_law_no_many))
def w_law_t11 (K : Frag) (cl : Ad) (c_is_case c_is_statement c_threshold c_names_used c_law_draw c_law_right c_law_used c_law_spoiled_case c_law_at_bounds c_law_refuses c_law_no_many : Ct) : SW :=
  (wSeq (wIfS (wOrT (wTst (wIsi isB (wVar 6))) (wOrT (wTst (wOp fNe (wVar 6) (wOp fAdd (wC (.s (.int 2))) (wCall1 fMax1 (wCons (wLc (wSeqC (wVar 4)) false [5] [5] wYes (wOp fIx (wVar 5) (wC (.s (.int 0))))) wNil))))) (wTst (wOp fNe (wCall c_threshold (wCons (wTup (wCons (wVar 3) (wCons (wTup wNil) wNil))) wNil)) (wC (.s (.int 2)))))))
  (wRet (wC (.s (.bool false))))
  wNext)
  (w_law_t10 K cl c_is_case c_is_statement c_threshold c_names_used c_law_draw c_law_right c_law_used c_law_spoiled_case c_law_at_bounds c_law_refuses c_law_no_many))
def w_law_t12 (K : Frag) (cl : Ad) (c_is_case c_is_statement c_threshold c_names_used c_law_draw c_law_right c_law_used c_law_spoiled_case c_law_at_bounds c_law_refuses c_law_no_many : Ct) : SW :=
  (wSeq (wAsg 6 (wCall c_threshold (wCons (wVar 2) wNil)))
  (w_law_t11 K cl c_is_case c_is_statement c_threshold c_names_used c_law_draw c_law_right c_law_used c_law_spoiled_case c_law_at_bounds c_law_refuses c_law_no_many))
def w_law_t13 (K : Frag) (cl : Ad) (c_is_case c_is_statement c_threshold c_names_used c_law_draw c_law_right c_law_used c_law_spoiled_case c_law_at_bounds c_law_refuses c_law_no_many : Ct) : SW :=
  (wSeq (wIfS (wOrT (wTst (wOp (fIs true) (wCall c_is_statement (wCons (wVar 2) wNil)) (wC (.s (.bool true))))) (wNotT (wTst (wCall1 fAll (wCons (wLc (wSeqC (wVar 4)) false [5] [5] wYes (wOp (fIs false) (wCall c_is_case (wCons (wVar 3) (wCons (wVar 5) wNil))) (wC (.s (.bool true))))) wNil)))))
  (wRet (wC (.s (.bool false))))
  wNext)
  (w_law_t12 K cl c_is_case c_is_statement c_threshold c_names_used c_law_draw c_law_right c_law_used c_law_spoiled_case c_law_at_bounds c_law_refuses c_law_no_many))
def w_law_t14 (K : Frag) (cl : Ad) (c_is_case c_is_statement c_threshold c_names_used c_law_draw c_law_right c_law_used c_law_spoiled_case c_law_at_bounds c_law_refuses c_law_no_many : Ct) : SW :=
  (wSeq (wAsgT (wVar 2) (gwTup 2 (gwCons (gwName 3) (gwCons (gwName 4) gwNil))))
  (w_law_t13 K cl c_is_case c_is_statement c_threshold c_names_used c_law_draw c_law_right c_law_used c_law_spoiled_case c_law_at_bounds c_law_refuses c_law_no_many))
def w_law (K : Frag) (cl : Ad) (c_is_case c_is_statement c_threshold c_names_used c_law_draw c_law_right c_law_used c_law_spoiled_case c_law_at_bounds c_law_refuses c_law_no_many : Ct) : SW :=
  (wSeq (wAsg 2 (wCall c_law_right (wCons (wVar 1) wNil)))
  (w_law_t14 K cl c_is_case c_is_statement c_threshold c_names_used c_law_draw c_law_right c_law_used c_law_spoiled_case c_law_at_bounds c_law_refuses c_law_no_many))
def k_law : Cost := .of 1007012005
theorem ok_law (T : Txt K mg cl) {k : Nat} (h1 : 1 ≤ k) {j_is_case : Nat} {c_is_case : Ct} (G_is_case : FnOk P wd K mg base (L2.CX P wd) j_is_case cl.f_is_case cl.d_is_case P_is_case (spD K c_is_case)) (h_is_case : j_is_case ≤ k) {j_is_statement : Nat} {c_is_statement : Ct} (G_is_statement : FnOk P wd K mg base (L2.CX P wd) j_is_statement cl.f_is_statement cl.d_is_statement P_is_statement (spD K c_is_statement)) (h_is_statement : j_is_statement ≤ k) {j_threshold : Nat} {c_threshold : Ct} (G_threshold : FnOk P wd K mg base (L2.CX P wd) j_threshold cl.f_threshold cl.d_threshold P_threshold (spD K c_threshold)) (h_threshold : j_threshold ≤ k) {j_names_used : Nat} {c_names_used : Ct} (G_names_used : FnOk P wd K mg base (L2.CX P wd) j_names_used cl.f_names_used cl.d_names_used P_names_used (spD K c_names_used)) (h_names_used : j_names_used ≤ k) {j_law_draw : Nat} {c_law_draw : Ct} (G_law_draw : FnOk P wd K mg base (L2.CX P wd) j_law_draw cl.f_law_draw cl.d_law_draw P_law_draw (spC K k_law_draw c_law_draw)) (h_law_draw : j_law_draw ≤ k) {j_law_right : Nat} {c_law_right : Ct} (G_law_right : FnOk P wd K mg base (L2.CX P wd) j_law_right cl.f_law_right cl.d_law_right P_law_right (spC K k_law_right c_law_right)) (h_law_right : j_law_right ≤ k) {j_law_used : Nat} {c_law_used : Ct} (G_law_used : FnOk P wd K mg base (L2.CX P wd) j_law_used cl.f_law_used cl.d_law_used P_law_used (spD K c_law_used)) (h_law_used : j_law_used ≤ k) {j_law_spoiled_case : Nat} {c_law_spoiled_case : Ct} (G_law_spoiled_case : FnOk P wd K mg base (L2.CX P wd) j_law_spoiled_case cl.f_law_spoiled_case cl.d_law_spoiled_case P_law_spoiled_case (spC K k_law_spoiled_case c_law_spoiled_case)) (h_law_spoiled_case : j_law_spoiled_case ≤ k) {j_law_at_bounds : Nat} {c_law_at_bounds : Ct} (G_law_at_bounds : FnOk P wd K mg base (L2.CX P wd) j_law_at_bounds cl.f_law_at_bounds cl.d_law_at_bounds P_law_at_bounds (spD K c_law_at_bounds)) (h_law_at_bounds : j_law_at_bounds ≤ k) {j_law_refuses : Nat} {c_law_refuses : Ct} (G_law_refuses : FnOk P wd K mg base (L2.CX P wd) j_law_refuses cl.f_law_refuses cl.d_law_refuses P_law_refuses (spD K c_law_refuses)) (h_law_refuses : j_law_refuses ≤ k) {j_law_no_many : Nat} {c_law_no_many : Ct} (G_law_no_many : FnOk P wd K mg base (L2.CX P wd) j_law_no_many cl.f_law_no_many cl.d_law_no_many P_law_no_many (spD K c_law_no_many)) (h_law_no_many : j_law_no_many ≤ k)
    (hw : ∀ ns : List Int, ns.length ≤ 63 → w_law K cl c_is_case c_is_statement c_threshold c_names_used c_law_draw c_law_right c_law_used c_law_spoiled_case c_law_at_bounds c_law_refuses c_law_no_many (some (.s (.list (ns.map PyData.int))) :: some .h :: List.replicate (N_law.length - 2) none) { nx := fun _ => False, rt := fun r => r = .s (.bool true) }) :
    FnOk P wd K mg base CX0 (k + 1) cl.f_law cl.d_law P_law (spLaw K) := by
  refine T.F_law.ok sc_law (fun vs H Q E h => ?_) (fun cdv A outer s H vs Q E hr h => ⟨_, ?_, law_readC (N := N_law) (kb := k_law) (by decide) (le_srcTop (by decide +kernel)) h hw⟩)
  · obtain ⟨a, ns, rfl, _⟩ := h
    rfl
  · have GD := ok_law_source (P := P) (wd := wd) (base := base) T
    exact pss_cons (ps_set (i := 1) sc_law.nd rfl (by first | exact Or.inl rfl | exact Or.inr rfl) (pe_callS GD (hr.mono h1) (by rfl) T.m_law_source T.F_law_source.kp T.b_law_source (fun σ => passAt takes0 σ) (pa_cons (pv 0) pa_nil)))
        (pscs_le (pscs_cons (psc_set (ps_set (i := 2) sc_law.nd rfl (by first | exact Or.inl rfl | exact Or.inr rfl) (pc_call (pe_callS G_law_right (hr.mono h_law_right) (by rfl) T.m_law_right T.F_law_right.kp T.b_law_right (fun σ => passAt takes0 σ) (pca_cons (pc_of (pd_var (pv 1))) (pca_of pda_nil))))))
          (pscs_cons (psc_of (pds_asgT (ps_asg (pd_var (pv 2)) (pgd_tup (pg_tup rfl (pgds_cons (pgs_cons (pgd_name (pg_name (i := 3) sc_law.nd rfl (by first | exact Or.inl rfl | exact Or.inr rfl))) (pgds_cons (pgs_cons (pgd_name (pg_name (i := 4) sc_law.nd rfl (by first | exact Or.inl rfl | exact Or.inr rfl))) pgds_nil)))))))))
          (pscs_cons (psc_of (pds_if (pdt_w (pdw_or (pdt_cmp o_isNot (pd_call (pe_callS G_is_statement (hr.mono h_is_statement) (by rfl) T.m_is_statement T.F_is_statement.kp T.b_is_statement (fun σ => passAt takes0 σ) (pda_cons (pd_var (pv 2)) pda_nil))) pd_bl (nomark _)) (pdw_or1 (pdt_not (pdt_val (call_core (t := fun _ _ _ => True) (pe_callB (c_all rfl) (by rfl) T.n_all (by decide +kernel) (pda_cons (pd_lc (tup := false) (is := [5]) (pe_lc (own := [("case", 5)]) (g := gC K false [5]) rfl sc_law.nd (pic_seq (pd_var (pv 4))) (blkOk_by (own := [("case", 5)]) (N := N_law) (sc := defScope s_law) (by decide +kernel)) (fun _ _ _ _ _ => (pg_name (i := 5) sc_law.nd rfl (by first | exact Or.inl rfl | exact Or.inr rfl))) (fun _ _ _ _ _ => pdts_nil) (fun _ _ _ _ _ => (pd_cmp o_is (pd_call (pe_callS G_is_case (hr.mono h_is_case) (by rfl) T.m_is_case T.F_is_case.kp T.b_is_case (fun σ => passAt takes0 σ) (pda_cons (pd_var (pv 3)) (pda_cons (pd_var (pv 5)) pda_nil)))) pd_bl (nomark _)))) (by decide) (by first | exact Or.inl rfl | exact Or.inr ⟨_, rfl⟩)) pda_nil))))))))
          (pds_one (pds_ret pd_bl))
          pds_nil))
          (pscs_cons (psc_of (pds_set (ps_set (i := 6) sc_law.nd rfl (by first | exact Or.inl rfl | exact Or.inr rfl) (pd_call (pe_callS G_threshold (hr.mono h_threshold) (by rfl) T.m_threshold T.F_threshold.kp T.b_threshold (fun σ => passAt takes0 σ) (pda_cons (pd_var (pv 2)) pda_nil))))))
          (pscs_cons (psc_of (pds_if (pdt_w (pdw_or (pdt_val (pd_isi (pe_callB call_isi (by rfl) T.n_isinstance (by decide +kernel) (pa_cons (pd_var (pv 6)) (pa_cons (pe_bltn (by rfl) T.n_bool (by decide +kernel) rfl) pa_nil))) kit_bool)) (pdw_or (pdt_cmp (o_ne hr.units) (pd_var (pv 6)) (pd_op o_add pd_int (call_core (t := fun _ _ _ => True) (pe_callB (c_max1 rfl) (by rfl) T.n_max (by decide +kernel) (pda_cons (pd_lc (tup := false) (is := [5]) (pe_lc (own := [("case", 5)]) (g := gC K false [5]) rfl sc_law.nd (pic_seq (pd_var (pv 4))) (blkOk_by (own := [("case", 5)]) (N := N_law) (sc := defScope s_law) (by decide +kernel)) (fun _ _ _ _ _ => (pg_name (i := 5) sc_law.nd rfl (by first | exact Or.inl rfl | exact Or.inr rfl))) (fun _ _ _ _ _ => pdts_nil) (fun _ _ _ _ _ => (pd_ix (o_ix hr.units) (pd_var (pv 5)) pd_int (fun _ _ => rfl)))) (by decide) (by first | exact Or.inl rfl | exact Or.inr ⟨_, rfl⟩)) pda_nil)))) (nomark _)) (pdw_or1 (pdt_cmp (o_ne hr.units) (pd_call (pe_callS G_threshold (hr.mono h_threshold) (by rfl) T.m_threshold T.F_threshold.kp T.b_threshold (fun σ => passAt takes0 σ) (pda_cons (pd_tup (pda_cons (pd_var (pv 3)) (pda_cons (pd_tup pda_nil) pda_nil))) pda_nil))) pd_int (nomark _))))))
          (pds_one (pds_ret pd_bl))
          pds_nil))
          (pscs_cons (psc_of (pds_if (pdt_cmp (o_ne hr.units) (pd_call (pe_callS G_names_used (hr.mono h_names_used) (by rfl) T.m_names_used T.F_names_used.kp T.b_names_used (fun σ => passAt takes0 σ) (pda_cons (pd_var (pv 2)) pda_nil))) (pd_call (pe_callS G_law_used (hr.mono h_law_used) (by rfl) T.m_law_used T.F_law_used.kp T.b_law_used (fun σ => passAt takes0 σ) (pda_cons (pd_var (pv 2)) pda_nil))) (nomark _))
          (pds_one (pds_ret pd_bl))
          pds_nil))
          (pscs_cons (psc_set (ps_set (i := 7) sc_law.nd rfl (by first | exact Or.inl rfl | exact Or.inr rfl) (pc_call (pe_callS G_law_draw (hr.mono h_law_draw) (by rfl) T.m_law_draw T.F_law_draw.kp T.b_law_draw (fun σ => passAt takes0 σ) (pca_cons (pc_of (pd_var (pv 1))) (pca_cons (pc_of (call_core (t := fun _ _ _ => True) (pe_callB c_len (by rfl) T.n_len (by decide +kernel) (pda_cons (pd_var (pv 4)) pda_nil)))) (pca_of pda_nil)))))))
          (pscs_cons (psc_of (pds_if (pdt_not (pdt_val (pd_call (pe_callS G_law_at_bounds (hr.mono h_law_at_bounds) (by rfl) T.m_law_at_bounds T.F_law_at_bounds.kp T.b_law_at_bounds (fun σ => passAt takes0 σ) (pda_cons (pd_var (pv 2)) (pda_cons (pd_ix (o_ix hr.units) (pd_var (pv 4)) (pd_var (pv 7)) (fun _ _ => rfl)) pda_nil))))))
          (pds_one (pds_ret pd_bl))
          pds_nil))
          (pscs_cons (psc_for (N := 1000) (ps_for PassesOwn.never rfl (pifc_range1 (pi_range1 (by rfl) T.n_range (pca_cons (pc_of pd_int) (pca_of pda_nil)))) (pgd_name (pg_name (i := 8) sc_law.nd rfl (by first | exact Or.inl rfl | exact Or.inr rfl))) (pscs_cons (psc_set (ps_set (i := 5) sc_law.nd rfl (by first | exact Or.inl rfl | exact Or.inr rfl) (pc_call (pe_callS G_law_spoiled_case (hr.mono h_law_spoiled_case) (by rfl) T.m_law_spoiled_case T.F_law_spoiled_case.kp T.b_law_spoiled_case (fun σ => passAt takes0 σ) (pca_cons (pc_of (pd_var (pv 1))) (pca_cons (pc_of (pd_var (pv 3))) (pca_cons (pc_of (pd_ix (o_ix hr.units) (pd_var (pv 4)) (pd_var (pv 7)) (fun _ _ => rfl))) (pca_of pda_nil))))))))
          (pscs_cons (psc_of (pds_set (ps_set (i := 9) sc_law.nd rfl (by first | exact Or.inl rfl | exact Or.inr rfl) (pd_tup (pda_cons (pd_var (pv 3)) (pda_cons (pd_frz (pd_op o_add (pd_op o_add (pd_sl (pe_slice o_sl (pd_var (pv 4)) pdo_none (pdo_some (pd_var (pv 7))))) (pd_tup (pda_cons (pd_var (pv 5)) pda_nil))) (pd_sl (pe_slice o_sl (pd_var (pv 4)) (pdo_some (pd_op o_add (pd_var (pv 7)) pd_int)) pdo_none)))) pda_nil))))))
          (pscs_one (psc_of (pds_if (pdt_w (pdw_or (pdt_cmp o_isNot (pd_call (pe_callS G_is_case (hr.mono h_is_case) (by rfl) T.m_is_case T.F_is_case.kp T.b_is_case (fun σ => passAt takes0 σ) (pda_cons (pd_var (pv 3)) (pda_cons (pd_var (pv 5)) pda_nil)))) pd_bl (nomark _)) (pdw_or (pdt_cmp o_isNot (pd_call (pe_callS G_is_statement (hr.mono h_is_statement) (by rfl) T.m_is_statement T.F_is_statement.kp T.b_is_statement (fun σ => passAt takes0 σ) (pda_cons (pd_var (pv 9)) pda_nil))) pd_bl (nomark _)) (pdw_or1 (pdt_not (pdt_val (pd_call (pe_callS G_law_refuses (hr.mono h_law_refuses) (by rfl) T.m_law_refuses T.F_law_refuses.kp T.b_law_refuses (fun σ => passAt takes0 σ) (pda_cons (pd_var (pv 9)) pda_nil)))))))))
          (pds_one (pds_ret pd_bl))
          pds_nil)))))))
          (pscs_cons (psc_of (pds_set (ps_set (i := 10) sc_law.nd rfl (by first | exact Or.inl rfl | exact Or.inr rfl) (pd_lst (pda_cons (pd_tup (pda_cons pd_int (pda_cons (pd_var (pv 4)) pda_nil))) (pda_cons (pd_tup (pda_cons pd_bl (pda_cons (pd_tup pda_nil) pda_nil))) (pda_cons (pd_frz (pd_lst (pda_cons (pd_var (pv 3)) (pda_cons (pd_var (pv 4)) pda_nil)))) (pda_cons (pd_tup (pda_cons (pd_var (pv 3)) (pda_cons (pd_frz (call_core (t := fun _ _ _ => True) (pe_callTy c_list (by rfl) T.n_list (by decide +kernel) (pda_cons (pd_var (pv 4)) pda_nil)))) pda_nil))) (pda_cons (pd_tup (pda_cons (pd_var (pv 3)) pda_nil)) (pda_cons (pd_tup (pda_cons (pd_var (pv 3)) (pda_cons (pd_var (pv 4)) (pda_cons pd_int pda_nil)))) (pda_cons pd_non (pda_cons pd_str pda_nil))))))))))))
          (pscs_cons (psc_set (ps_set (i := 9) sc_law.nd rfl (by first | exact Or.inl rfl | exact Or.inr rfl) (pc_ix (o_ix hr.units) (pc_of (pd_var (pv 10))) (pc_call (pe_callS G_law_draw (hr.mono h_law_draw) (by rfl) T.m_law_draw T.F_law_draw.kp T.b_law_draw (fun σ => passAt takes0 σ) (pca_cons (pc_of (pd_var (pv 1))) (pca_cons (pc_of pd_int) (pca_of pda_nil))))) (fun _ _ => rfl))))
          (pscs_cons (psc_of (pds_if (pdt_w (pdw_or (pdt_cmp o_isNot (pd_call (pe_callS G_is_statement (hr.mono h_is_statement) (by rfl) T.m_is_statement T.F_is_statement.kp T.b_is_statement (fun σ => passAt takes0 σ) (pda_cons (pd_var (pv 9)) pda_nil))) pd_bl (nomark _)) (pdw_or1 (pdt_not (pdt_val (pd_call (pe_callS G_law_refuses (hr.mono h_law_refuses) (by rfl) T.m_law_refuses T.F_law_refuses.kp T.b_law_refuses (fun σ => passAt takes0 σ) (pda_cons (pd_var (pv 9)) pda_nil))))))))
          (pds_one (pds_ret pd_bl))
          pds_nil))
          (pscs_cons (psc_set (ps_set (i := 11) sc_law.nd rfl (by first | exact Or.inl rfl | exact Or.inr rfl) (pc_ix (o_ix hr.units) (pc_of (pd_lst (pda_cons pd_int (pda_cons (pd_un o_neg pd_int) (pda_cons pd_bl (pda_cons pd_non (pda_cons pd_int pda_nil))))))) (pc_call (pe_callS G_law_draw (hr.mono h_law_draw) (by rfl) T.m_law_draw T.F_law_draw.kp T.b_law_draw (fun σ => passAt takes0 σ) (pca_cons (pc_of (pd_var (pv 1))) (pca_cons (pc_of pd_int) (pca_of pda_nil))))) (fun _ _ => rfl))))
          (pscs_one (psc_of (pds_ret (pd_and (pd_call (pe_callS G_law_no_many (hr.mono h_law_no_many) (by rfl) T.m_law_no_many T.F_law_no_many.kp T.b_law_no_many (fun σ => passAt takes0 σ) (pda_cons (pd_var (pv 11)) (pda_cons (pd_ix (o_ix hr.units) (pd_var (pv 4)) (pd_var (pv 7)) (fun _ _ => rfl)) pda_nil)))) (pd_one (pd_cmp (o_eq hr.units) (pd_var (pv 2)) (pd_tup (pda_cons (pd_var (pv 3)) (pda_cons (pd_var (pv 4)) pda_nil))) (nomark _)))))))))))))))))))) (by decide +kernel))
end
theorem txt_mk {K : PySem.W.Frag} {h : Heap} {mg : Str → Option Value} (X : K.In h) (G : h.Ns mainGlobals mg)
    {c_HeapError : Addr}
    {c_BadMany : Addr}
    {c_BadStatement : Addr}
    {f_is_int : Addr}
    {d_is_int : FuncData}
    {f_within : Addr}
    {d_within : FuncData}
    {f_is_row : Addr}
    {d_is_row : FuncData}
    {f_is_word : Addr}
    {d_is_word : FuncData}
    {f_is_name_of : Addr}
    {d_is_name_of : FuncData}
    {f_is_fact_of : Addr}
    {d_is_fact_of : FuncData}
    {f_is_item_of : Addr}
    {d_is_item_of : FuncData}
    {f_is_case_of : Addr}
    {d_is_case_of : FuncData}
    {f_is_case : Addr}
    {d_is_case : FuncData}
    {f_is_statement : Addr}
    {d_is_statement : FuncData}
    {f_need_statement : Addr}
    {d_need_statement : FuncData}
    {f_outs_in : Addr}
    {d_outs_in : FuncData}
    {f_most_hidden : Addr}
    {d_most_hidden : FuncData}
    {f_threshold_in : Addr}
    {d_threshold_in : FuncData}
    {f_threshold : Addr}
    {d_threshold : FuncData}
    {f_names_in : Addr}
    {d_names_in : FuncData}
    {f_names_used : Addr}
    {d_names_used : FuncData}
    {f_law_source : Addr}
    {d_law_source : FuncData}
    {f_law_draw : Addr}
    {d_law_draw : FuncData}
    {f_law_name : Addr}
    {d_law_name : FuncData}
    {f_law_fact : Addr}
    {d_law_fact : FuncData}
    {f_law_item : Addr}
    {d_law_item : FuncData}
    {f_law_case : Addr}
    {d_law_case : FuncData}
    {f_law_outs : Addr}
    {d_law_outs : FuncData}
    {f_law_right : Addr}
    {d_law_right : FuncData}
    {f_law_used : Addr}
    {d_law_used : FuncData}
    {f_law_spoiled_item : Addr}
    {d_law_spoiled_item : FuncData}
    {f_law_spoiled_fact : Addr}
    {d_law_spoiled_fact : FuncData}
    {f_law_spoiled_case : Addr}
    {d_law_spoiled_case : FuncData}
    {f_law_at_bounds : Addr}
    {d_law_at_bounds : FuncData}
    {f_law_refuses : Addr}
    {d_law_refuses : FuncData}
    {f_law_no_many : Addr}
    {d_law_no_many : FuncData}
    {f_law : Addr}
    {d_law : FuncData}
    {t_MOST_CASES : Tok}
    {t_MOST_FACTS : Tok}
    {t_MOST_HIDDEN : Tok}
    {t_MOST_ITEMS : Tok}
    {t_MOST_OUTS : Tok}
    {t_MOST_VARIABLES : Tok}
    (g_HeapError : PySem.W.nsIn K mainGlobals "HeapError" = some (some (.ref c_HeapError)))
    (x_HeapError : PySem.W.excIn K c_HeapError [.type "ValueError", .type "Exception", .type "BaseException", .type "object"] "ValueError.__new__" = true)
    (k_HeapError : PySem.W.keepIn K (.ref c_HeapError) = true)
    (s_HeapError : PySem.W.subIn K (.ref c_HeapError) (.type "BaseException") = some true)
    (t_HeapError : PySem.W.typeIn K (.ref c_HeapError) = some (.type "type"))
    (g_BadMany : PySem.W.nsIn K mainGlobals "BadMany" = some (some (.ref c_BadMany)))
    (x_BadMany : PySem.W.excIn K c_BadMany [.type "ValueError", .type "Exception", .type "BaseException", .type "object"] "ValueError.__new__" = true)
    (k_BadMany : PySem.W.keepIn K (.ref c_BadMany) = true)
    (s_BadMany : PySem.W.subIn K (.ref c_BadMany) (.type "BaseException") = some true)
    (t_BadMany : PySem.W.typeIn K (.ref c_BadMany) = some (.type "type"))
    (g_BadStatement : PySem.W.nsIn K mainGlobals "BadStatement" = some (some (.ref c_BadStatement)))
    (x_BadStatement : PySem.W.excIn K c_BadStatement [.type "ValueError", .type "Exception", .type "BaseException", .type "object"] "ValueError.__new__" = true)
    (k_BadStatement : PySem.W.keepIn K (.ref c_BadStatement) = true)
    (s_BadStatement : PySem.W.subIn K (.ref c_BadStatement) (.type "BaseException") = some true)
    (t_BadStatement : PySem.W.typeIn K (.ref c_BadStatement) = some (.type "type"))
    (e_HeapError_BadMany : PySem.W.exmOne K (.ref c_HeapError) (.ref c_BadMany) = some false)
    (e_HeapError_BadStatement : PySem.W.exmOne K (.ref c_HeapError) (.ref c_BadStatement) = some false)
    (e_BadMany_BadMany : PySem.W.exmOne K (.ref c_BadMany) (.ref c_BadMany) = some true)
    (e_BadMany_BadStatement : PySem.W.exmOne K (.ref c_BadMany) (.ref c_BadStatement) = some false)
    (e_BadStatement_BadMany : PySem.W.exmOne K (.ref c_BadStatement) (.ref c_BadMany) = some false)
    (e_BadStatement_BadStatement : PySem.W.exmOne K (.ref c_BadStatement) (.ref c_BadStatement) = some true)
    (m_is_int : PySem.W.nsIn K mainGlobals "is_int" = some (some (.ref f_is_int)))
    (F_is_int : Fun K "is_int" "is_int" s_is_int f_is_int d_is_int)
    (m_within : PySem.W.nsIn K mainGlobals "within" = some (some (.ref f_within)))
    (F_within : Fun K "within" "within" s_within f_within d_within)
    (m_is_row : PySem.W.nsIn K mainGlobals "is_row" = some (some (.ref f_is_row)))
    (F_is_row : Fun K "is_row" "is_row" s_is_row f_is_row d_is_row)
    (m_is_word : PySem.W.nsIn K mainGlobals "is_word" = some (some (.ref f_is_word)))
    (F_is_word : Fun K "is_word" "is_word" s_is_word f_is_word d_is_word)
    (m_is_name_of : PySem.W.nsIn K mainGlobals "is_name_of" = some (some (.ref f_is_name_of)))
    (F_is_name_of : Fun K "is_name_of" "is_name_of" s_is_name_of f_is_name_of d_is_name_of)
    (m_is_fact_of : PySem.W.nsIn K mainGlobals "is_fact_of" = some (some (.ref f_is_fact_of)))
    (F_is_fact_of : Fun K "is_fact_of" "is_fact_of" s_is_fact_of f_is_fact_of d_is_fact_of)
    (m_is_item_of : PySem.W.nsIn K mainGlobals "is_item_of" = some (some (.ref f_is_item_of)))
    (F_is_item_of : Fun K "is_item_of" "is_item_of" s_is_item_of f_is_item_of d_is_item_of)
    (m_is_case_of : PySem.W.nsIn K mainGlobals "is_case_of" = some (some (.ref f_is_case_of)))
    (F_is_case_of : Fun K "is_case_of" "is_case_of" s_is_case_of f_is_case_of d_is_case_of)
    (m_is_case : PySem.W.nsIn K mainGlobals "is_case" = some (some (.ref f_is_case)))
    (F_is_case : Fun K "is_case" "is_case" s_is_case f_is_case d_is_case)
    (m_is_statement : PySem.W.nsIn K mainGlobals "is_statement" = some (some (.ref f_is_statement)))
    (F_is_statement : Fun K "is_statement" "is_statement" s_is_statement f_is_statement d_is_statement)
    (m_need_statement : PySem.W.nsIn K mainGlobals "need_statement" = some (some (.ref f_need_statement)))
    (F_need_statement : Fun K "need_statement" "need_statement" s_need_statement f_need_statement d_need_statement)
    (m_outs_in : PySem.W.nsIn K mainGlobals "outs_in" = some (some (.ref f_outs_in)))
    (F_outs_in : Fun K "outs_in" "outs_in" s_outs_in f_outs_in d_outs_in)
    (m_most_hidden : PySem.W.nsIn K mainGlobals "most_hidden" = some (some (.ref f_most_hidden)))
    (F_most_hidden : Fun K "most_hidden" "most_hidden" s_most_hidden f_most_hidden d_most_hidden)
    (m_threshold_in : PySem.W.nsIn K mainGlobals "threshold_in" = some (some (.ref f_threshold_in)))
    (F_threshold_in : Fun K "threshold_in" "threshold_in" s_threshold_in f_threshold_in d_threshold_in)
    (m_threshold : PySem.W.nsIn K mainGlobals "threshold" = some (some (.ref f_threshold)))
    (F_threshold : Fun K "threshold" "threshold" s_threshold f_threshold d_threshold)
    (m_names_in : PySem.W.nsIn K mainGlobals "names_in" = some (some (.ref f_names_in)))
    (F_names_in : Fun K "names_in" "names_in" s_names_in f_names_in d_names_in)
    (m_names_used : PySem.W.nsIn K mainGlobals "names_used" = some (some (.ref f_names_used)))
    (F_names_used : Fun K "names_used" "names_used" s_names_used f_names_used d_names_used)
    (m_law_source : PySem.W.nsIn K mainGlobals "_law_source" = some (some (.ref f_law_source)))
    (F_law_source : Fun K "_law_source" "_law_source" s_law_source f_law_source d_law_source)
    (m_law_draw : PySem.W.nsIn K mainGlobals "_law_draw" = some (some (.ref f_law_draw)))
    (F_law_draw : Fun K "_law_draw" "_law_draw" s_law_draw f_law_draw d_law_draw)
    (m_law_name : PySem.W.nsIn K mainGlobals "_law_name" = some (some (.ref f_law_name)))
    (F_law_name : Fun K "_law_name" "_law_name" s_law_name f_law_name d_law_name)
    (m_law_fact : PySem.W.nsIn K mainGlobals "_law_fact" = some (some (.ref f_law_fact)))
    (F_law_fact : Fun K "_law_fact" "_law_fact" s_law_fact f_law_fact d_law_fact)
    (m_law_item : PySem.W.nsIn K mainGlobals "_law_item" = some (some (.ref f_law_item)))
    (F_law_item : Fun K "_law_item" "_law_item" s_law_item f_law_item d_law_item)
    (m_law_case : PySem.W.nsIn K mainGlobals "_law_case" = some (some (.ref f_law_case)))
    (F_law_case : Fun K "_law_case" "_law_case" s_law_case f_law_case d_law_case)
    (m_law_outs : PySem.W.nsIn K mainGlobals "_law_outs" = some (some (.ref f_law_outs)))
    (F_law_outs : Fun K "_law_outs" "_law_outs" s_law_outs f_law_outs d_law_outs)
    (m_law_right : PySem.W.nsIn K mainGlobals "_law_right" = some (some (.ref f_law_right)))
    (F_law_right : Fun K "_law_right" "_law_right" s_law_right f_law_right d_law_right)
    (m_law_used : PySem.W.nsIn K mainGlobals "_law_used" = some (some (.ref f_law_used)))
    (F_law_used : Fun K "_law_used" "_law_used" s_law_used f_law_used d_law_used)
    (m_law_spoiled_item : PySem.W.nsIn K mainGlobals "_law_spoiled_item" = some (some (.ref f_law_spoiled_item)))
    (F_law_spoiled_item : Fun K "_law_spoiled_item" "_law_spoiled_item" s_law_spoiled_item f_law_spoiled_item d_law_spoiled_item)
    (m_law_spoiled_fact : PySem.W.nsIn K mainGlobals "_law_spoiled_fact" = some (some (.ref f_law_spoiled_fact)))
    (F_law_spoiled_fact : Fun K "_law_spoiled_fact" "_law_spoiled_fact" s_law_spoiled_fact f_law_spoiled_fact d_law_spoiled_fact)
    (m_law_spoiled_case : PySem.W.nsIn K mainGlobals "_law_spoiled_case" = some (some (.ref f_law_spoiled_case)))
    (F_law_spoiled_case : Fun K "_law_spoiled_case" "_law_spoiled_case" s_law_spoiled_case f_law_spoiled_case d_law_spoiled_case)
    (m_law_at_bounds : PySem.W.nsIn K mainGlobals "_law_at_bounds" = some (some (.ref f_law_at_bounds)))
    (F_law_at_bounds : Fun K "_law_at_bounds" "_law_at_bounds" s_law_at_bounds f_law_at_bounds d_law_at_bounds)
    (m_law_refuses : PySem.W.nsIn K mainGlobals "_law_refuses" = some (some (.ref f_law_refuses)))
    (F_law_refuses : Fun K "_law_refuses" "_law_refuses" s_law_refuses f_law_refuses d_law_refuses)
    (m_law_no_many : PySem.W.nsIn K mainGlobals "_law_no_many" = some (some (.ref f_law_no_many)))
    (F_law_no_many : Fun K "_law_no_many" "_law_no_many" s_law_no_many f_law_no_many d_law_no_many)
    (m_law : PySem.W.nsIn K mainGlobals "law" = some (some (.ref f_law)))
    (F_law : Fun K "law" "law" s_law f_law d_law)
    (n_all : PySem.W.nsIn K mainGlobals "all" = some none)
    (n_bool : PySem.W.nsIn K mainGlobals "bool" = some none)
    (n_int : PySem.W.nsIn K mainGlobals "int" = some none)
    (n_isinstance : PySem.W.nsIn K mainGlobals "isinstance" = some none)
    (n_len : PySem.W.nsIn K mainGlobals "len" = some none)
    (n_list : PySem.W.nsIn K mainGlobals "list" = some none)
    (n_max : PySem.W.nsIn K mainGlobals "max" = some none)
    (n_range : PySem.W.nsIn K mainGlobals "range" = some none)
    (n_sorted : PySem.W.nsIn K mainGlobals "sorted" = some none)
    (n_str : PySem.W.nsIn K mainGlobals "str" = some none)
    (n_tuple : PySem.W.nsIn K mainGlobals "tuple" = some none)
    (v_MOST_CASES : PySem.W.nsIn K mainGlobals "MOST_CASES" = some (some (.int 12 t_MOST_CASES)))
    (v_MOST_FACTS : PySem.W.nsIn K mainGlobals "MOST_FACTS" = some (some (.int 15 t_MOST_FACTS)))
    (v_MOST_HIDDEN : PySem.W.nsIn K mainGlobals "MOST_HIDDEN" = some (some (.int 2 t_MOST_HIDDEN)))
    (v_MOST_ITEMS : PySem.W.nsIn K mainGlobals "MOST_ITEMS" = some (some (.int 6 t_MOST_ITEMS)))
    (v_MOST_OUTS : PySem.W.nsIn K mainGlobals "MOST_OUTS" = some (some (.int 4 t_MOST_OUTS)))
    (v_MOST_VARIABLES : PySem.W.nsIn K mainGlobals "MOST_VARIABLES" = some (some (.int 3 t_MOST_VARIABLES)))
    : Txt K mg { c_HeapError := c_HeapError, c_BadMany := c_BadMany, c_BadStatement := c_BadStatement, f_is_int := f_is_int, d_is_int := d_is_int, f_within := f_within, d_within := d_within, f_is_row := f_is_row, d_is_row := d_is_row, f_is_word := f_is_word, d_is_word := d_is_word, f_is_name_of := f_is_name_of, d_is_name_of := d_is_name_of, f_is_fact_of := f_is_fact_of, d_is_fact_of := d_is_fact_of, f_is_item_of := f_is_item_of, d_is_item_of := d_is_item_of, f_is_case_of := f_is_case_of, d_is_case_of := d_is_case_of, f_is_case := f_is_case, d_is_case := d_is_case, f_is_statement := f_is_statement, d_is_statement := d_is_statement, f_need_statement := f_need_statement, d_need_statement := d_need_statement, f_outs_in := f_outs_in, d_outs_in := d_outs_in, f_most_hidden := f_most_hidden, d_most_hidden := d_most_hidden, f_threshold_in := f_threshold_in, d_threshold_in := d_threshold_in, f_threshold := f_threshold, d_threshold := d_threshold, f_names_in := f_names_in, d_names_in := d_names_in, f_names_used := f_names_used, d_names_used := d_names_used, f_law_source := f_law_source, d_law_source := d_law_source, f_law_draw := f_law_draw, d_law_draw := d_law_draw, f_law_name := f_law_name, d_law_name := d_law_name, f_law_fact := f_law_fact, d_law_fact := d_law_fact, f_law_item := f_law_item, d_law_item := d_law_item, f_law_case := f_law_case, d_law_case := d_law_case, f_law_outs := f_law_outs, d_law_outs := d_law_outs, f_law_right := f_law_right, d_law_right := d_law_right, f_law_used := f_law_used, d_law_used := d_law_used, f_law_spoiled_item := f_law_spoiled_item, d_law_spoiled_item := d_law_spoiled_item, f_law_spoiled_fact := f_law_spoiled_fact, d_law_spoiled_fact := d_law_spoiled_fact, f_law_spoiled_case := f_law_spoiled_case, d_law_spoiled_case := d_law_spoiled_case, f_law_at_bounds := f_law_at_bounds, d_law_at_bounds := d_law_at_bounds, f_law_refuses := f_law_refuses, d_law_refuses := d_law_refuses, f_law_no_many := f_law_no_many, d_law_no_many := d_law_no_many, f_law := f_law, d_law := d_law } :=
  { g_HeapError := PySem.W.mg_of X G g_HeapError,
    x_HeapError := x_HeapError,
    k_HeapError := k_HeapError,
    s_HeapError := s_HeapError,
    t_HeapError := t_HeapError,
    g_BadMany := PySem.W.mg_of X G g_BadMany,
    x_BadMany := x_BadMany,
    k_BadMany := k_BadMany,
    s_BadMany := s_BadMany,
    t_BadMany := t_BadMany,
    g_BadStatement := PySem.W.mg_of X G g_BadStatement,
    x_BadStatement := x_BadStatement,
    k_BadStatement := k_BadStatement,
    s_BadStatement := s_BadStatement,
    t_BadStatement := t_BadStatement,
    e_HeapError_BadMany := e_HeapError_BadMany,
    e_HeapError_BadStatement := e_HeapError_BadStatement,
    e_BadMany_BadMany := e_BadMany_BadMany,
    e_BadMany_BadStatement := e_BadMany_BadStatement,
    e_BadStatement_BadMany := e_BadStatement_BadMany,
    e_BadStatement_BadStatement := e_BadStatement_BadStatement,
    F_is_int := F_is_int,
    m_is_int := PySem.W.mg_of X G m_is_int,
    b_is_int := F_is_int.binds (ps := P_is_int) fun _ _ _ _ _ _ us hl => match us, hl with | [_], _ => rfl,
    F_within := F_within,
    m_within := PySem.W.mg_of X G m_within,
    b_within := F_within.binds (ps := P_within) fun _ _ _ _ _ _ us hl => match us, hl with | [_, _, _], _ => rfl,
    F_is_row := F_is_row,
    m_is_row := PySem.W.mg_of X G m_is_row,
    b_is_row := F_is_row.binds (ps := P_is_row) fun _ _ _ _ _ _ us hl => match us, hl with | [_, _, _], _ => rfl,
    F_is_word := F_is_word,
    m_is_word := PySem.W.mg_of X G m_is_word,
    b_is_word := F_is_word.binds (ps := P_is_word) fun _ _ _ _ _ _ us hl => match us, hl with | [_, _], _ => rfl,
    F_is_name_of := F_is_name_of,
    m_is_name_of := PySem.W.mg_of X G m_is_name_of,
    b_is_name_of := F_is_name_of.binds (ps := P_is_name_of) fun _ _ _ _ _ _ us hl => match us, hl with | [_, _, _], _ => rfl,
    F_is_fact_of := F_is_fact_of,
    m_is_fact_of := PySem.W.mg_of X G m_is_fact_of,
    b_is_fact_of := F_is_fact_of.binds (ps := P_is_fact_of) fun _ _ _ _ _ _ us hl => match us, hl with | [_, _, _], _ => rfl,
    F_is_item_of := F_is_item_of,
    m_is_item_of := PySem.W.mg_of X G m_is_item_of,
    b_is_item_of := F_is_item_of.binds (ps := P_is_item_of) fun _ _ _ _ _ _ us hl => match us, hl with | [_, _, _], _ => rfl,
    F_is_case_of := F_is_case_of,
    m_is_case_of := PySem.W.mg_of X G m_is_case_of,
    b_is_case_of := F_is_case_of.binds (ps := P_is_case_of) fun _ _ _ _ _ _ us hl => match us, hl with | [_, _], _ => rfl,
    F_is_case := F_is_case,
    m_is_case := PySem.W.mg_of X G m_is_case,
    b_is_case := F_is_case.binds (ps := P_is_case) fun _ _ _ _ _ _ us hl => match us, hl with | [_, _], _ => rfl,
    F_is_statement := F_is_statement,
    m_is_statement := PySem.W.mg_of X G m_is_statement,
    b_is_statement := F_is_statement.binds (ps := P_is_statement) fun _ _ _ _ _ _ us hl => match us, hl with | [_], _ => rfl,
    F_need_statement := F_need_statement,
    m_need_statement := PySem.W.mg_of X G m_need_statement,
    b_need_statement := F_need_statement.binds (ps := P_need_statement) fun _ _ _ _ _ _ us hl => match us, hl with | [_], _ => rfl,
    F_outs_in := F_outs_in,
    m_outs_in := PySem.W.mg_of X G m_outs_in,
    b_outs_in := F_outs_in.binds (ps := P_outs_in) fun _ _ _ _ _ _ us hl => match us, hl with | [_], _ => rfl,
    F_most_hidden := F_most_hidden,
    m_most_hidden := PySem.W.mg_of X G m_most_hidden,
    b_most_hidden := F_most_hidden.binds (ps := P_most_hidden) fun _ _ _ _ _ _ us hl => match us, hl with | [_], _ => rfl,
    F_threshold_in := F_threshold_in,
    m_threshold_in := PySem.W.mg_of X G m_threshold_in,
    b_threshold_in := F_threshold_in.binds (ps := P_threshold_in) fun _ _ _ _ _ _ us hl => match us, hl with | [_], _ => rfl,
    F_threshold := F_threshold,
    m_threshold := PySem.W.mg_of X G m_threshold,
    b_threshold := F_threshold.binds (ps := P_threshold) fun _ _ _ _ _ _ us hl => match us, hl with | [_], _ => rfl,
    F_names_in := F_names_in,
    m_names_in := PySem.W.mg_of X G m_names_in,
    b_names_in := F_names_in.binds (ps := P_names_in) fun _ _ _ _ _ _ us hl => match us, hl with | [_], _ => rfl,
    F_names_used := F_names_used,
    m_names_used := PySem.W.mg_of X G m_names_used,
    b_names_used := F_names_used.binds (ps := P_names_used) fun _ _ _ _ _ _ us hl => match us, hl with | [_], _ => rfl,
    F_law_source := F_law_source,
    m_law_source := PySem.W.mg_of X G m_law_source,
    b_law_source := F_law_source.binds (ps := P_law_source) fun _ _ _ _ _ _ us hl => match us, hl with | [_], _ => rfl,
    F_law_draw := F_law_draw,
    m_law_draw := PySem.W.mg_of X G m_law_draw,
    b_law_draw := F_law_draw.binds (ps := P_law_draw) fun _ _ _ _ _ _ us hl => match us, hl with | [_, _], _ => rfl,
    F_law_name := F_law_name,
    m_law_name := PySem.W.mg_of X G m_law_name,
    b_law_name := F_law_name.binds (ps := P_law_name) fun _ _ _ _ _ _ us hl => match us, hl with | [_, _], _ => rfl,
    F_law_fact := F_law_fact,
    m_law_fact := PySem.W.mg_of X G m_law_fact,
    b_law_fact := F_law_fact.binds (ps := P_law_fact) fun _ _ _ _ _ _ us hl => match us, hl with | [_, _], _ => rfl,
    F_law_item := F_law_item,
    m_law_item := PySem.W.mg_of X G m_law_item,
    b_law_item := F_law_item.binds (ps := P_law_item) fun _ _ _ _ _ _ us hl => match us, hl with | [_, _], _ => rfl,
    F_law_case := F_law_case,
    m_law_case := PySem.W.mg_of X G m_law_case,
    b_law_case := F_law_case.binds (ps := P_law_case) fun _ _ _ _ _ _ us hl => match us, hl with | [_, _, _, _], _ => rfl,
    F_law_outs := F_law_outs,
    m_law_outs := PySem.W.mg_of X G m_law_outs,
    b_law_outs := F_law_outs.binds (ps := P_law_outs) fun _ _ _ _ _ _ us hl => match us, hl with | [_], _ => rfl,
    F_law_right := F_law_right,
    m_law_right := PySem.W.mg_of X G m_law_right,
    b_law_right := F_law_right.binds (ps := P_law_right) fun _ _ _ _ _ _ us hl => match us, hl with | [_], _ => rfl,
    F_law_used := F_law_used,
    m_law_used := PySem.W.mg_of X G m_law_used,
    b_law_used := F_law_used.binds (ps := P_law_used) fun _ _ _ _ _ _ us hl => match us, hl with | [_], _ => rfl,
    F_law_spoiled_item := F_law_spoiled_item,
    m_law_spoiled_item := PySem.W.mg_of X G m_law_spoiled_item,
    b_law_spoiled_item := F_law_spoiled_item.binds (ps := P_law_spoiled_item) fun _ _ _ _ _ _ us hl => match us, hl with | [_, _], _ => rfl,
    F_law_spoiled_fact := F_law_spoiled_fact,
    m_law_spoiled_fact := PySem.W.mg_of X G m_law_spoiled_fact,
    b_law_spoiled_fact := F_law_spoiled_fact.binds (ps := P_law_spoiled_fact) fun _ _ _ _ _ _ us hl => match us, hl with | [_, _], _ => rfl,
    F_law_spoiled_case := F_law_spoiled_case,
    m_law_spoiled_case := PySem.W.mg_of X G m_law_spoiled_case,
    b_law_spoiled_case := F_law_spoiled_case.binds (ps := P_law_spoiled_case) fun _ _ _ _ _ _ us hl => match us, hl with | [_, _, _], _ => rfl,
    F_law_at_bounds := F_law_at_bounds,
    m_law_at_bounds := PySem.W.mg_of X G m_law_at_bounds,
    b_law_at_bounds := F_law_at_bounds.binds (ps := P_law_at_bounds) fun _ _ _ _ _ _ us hl => match us, hl with | [_, _], _ => rfl,
    F_law_refuses := F_law_refuses,
    m_law_refuses := PySem.W.mg_of X G m_law_refuses,
    b_law_refuses := F_law_refuses.binds (ps := P_law_refuses) fun _ _ _ _ _ _ us hl => match us, hl with | [_], _ => rfl,
    F_law_no_many := F_law_no_many,
    m_law_no_many := PySem.W.mg_of X G m_law_no_many,
    b_law_no_many := F_law_no_many.binds (ps := P_law_no_many) fun _ _ _ _ _ _ us hl => match us, hl with | [_, _], _ => rfl,
    F_law := F_law,
    m_law := PySem.W.mg_of X G m_law,
    b_law := F_law.binds (ps := P_law) fun _ _ _ _ _ _ us hl => match us, hl with | [_], _ => rfl,
    n_all := PySem.W.mg_none_of X G n_all,
    n_bool := PySem.W.mg_none_of X G n_bool,
    n_int := PySem.W.mg_none_of X G n_int,
    n_isinstance := PySem.W.mg_none_of X G n_isinstance,
    n_len := PySem.W.mg_none_of X G n_len,
    n_list := PySem.W.mg_none_of X G n_list,
    n_max := PySem.W.mg_none_of X G n_max,
    n_range := PySem.W.mg_none_of X G n_range,
    n_sorted := PySem.W.mg_none_of X G n_sorted,
    n_str := PySem.W.mg_none_of X G n_str,
    n_tuple := PySem.W.mg_none_of X G n_tuple,
    v_MOST_CASES := ⟨_, PySem.W.mg_of X G v_MOST_CASES⟩,
    v_MOST_FACTS := ⟨_, PySem.W.mg_of X G v_MOST_FACTS⟩,
    v_MOST_HIDDEN := ⟨_, PySem.W.mg_of X G v_MOST_HIDDEN⟩,
    v_MOST_ITEMS := ⟨_, PySem.W.mg_of X G v_MOST_ITEMS⟩,
    v_MOST_OUTS := ⟨_, PySem.W.mg_of X G v_MOST_OUTS⟩,
    v_MOST_VARIABLES := ⟨_, PySem.W.mg_of X G v_MOST_VARIABLES⟩ }
end LK

set_option Elab.async false
set_option linter.all false
set_option maxRecDepth 100000
set_option maxHeartbeats 4000000
namespace LK
open PySem PySem.Spec PyProof.Rows L2 DL
local macro_rules | `(tactic| walk_at "dl") => `(tactic| simp only [wVar, wC, wNil, wCons, wFrz, wTup, wLst, wOp, wUn, wCall1, wMeth, wTst, wAndT, wOrT, wNotT, wAndV, wOrV, wNotV, wIf, wChain, wNext, wSeq, wBreak, wCont, wRet, wAsg, wAsgT, wPar, wIfS, wAug, wExpr, wRaise, wCall, wIsi, wSl, wONone, wOSome, wLc, wSeqC, wSeqF, wParF, wRange1, wRange2, wFor, wWhile, wYes, gwNames, putA, wipeR, wAppend, wExtend, wExt, extOf_l, extOf_t, wPopAll, wInsert, wDisp1, wPop, wSetIx, wFrzS, wDPop, wRetS, wParN, wDNew, wSortIt, wSortSet, wSortSc, wZip, wRev, wTry, wHand, gwName, gwNil, gwCons, gwTup,
  kv_k, kv_d, kvE_k, kvE_d, kv_t, kv_L, kv_l, kv_i, kv_s, seq_k, seq_d, seq_i, seq_s, frz_k, peek_k, keeps_k, keeps_g, keeps_h, owns_k, owns_l, putR_l, putR_k, frzR_s, frzR_l, frzR_k, putRs_nil, putRs_cons, zip_t, ofK_int, ofK_str, all_keeps, all_keeps0, fDict, fSorted, fMax1,
  rho, seq_l, seq_t, seq_L, stab_t, stab_L, look_s, look_l, dat_s, frz_s, frz_l, peek_s, peek_l, peek_g, peek_h, keeps_s, keeps_l, dats_nil, dats_cons, isS_s, fAdd, fInt, fSub, fMul, fNeg, fEq, fNe, fCmp, fLt, fIs, fIn, fIx, fLen, fAll, fAny, fSum, fList, fTuple, fIntOf, fMax2, fMin2, fSl,
  List.map_cons, List.map_nil, List.length_cons, List.length_nil, List.getElem?_cons_zero, List.getElem?_cons_succ, Option.some.injEq, exists_eq_left', exists_eq_left, exists_eq', R.s.injEq, R.l.injEq, PyData.int.injEq, PyData.bool.injEq, PyData.str.injEq, PyData.tuple.injEq, PyData.list.injEq, and_true, true_and, List.cons.injEq, reduceCtorEq,
  List.cons_append, List.nil_append, List.replicate, Nat.reduceAdd, Nat.reduceSub, Nat.reduceLT, false_and, exists_false, and_false, or_false, false_or, exists_and_left, exists_and_right, and_assoc, ite_true, ite_false, Bool.false_eq_true, if_true, if_false, List.mem_cons, List.not_mem_nil, forall_eq_or_imp, forall_eq, List.set_cons_zero, List.set_cons_succ, sh_int, sh_bool, sh_none, eqv_int, eqv_bool, eqv_str, Bool.not_true, Bool.not_false, Bool.not_not, isN_none, isN_int, isN_bool, isN_str, isN_tup, bne_ff, bne_tt, at0, at1, at2, at3, flat_none, flat_bool, flat_int, flat_str, List.all_cons, List.all_nil, Bool.and_self, Nat.reduceLeDiff])
local macro_rules | `(tactic| walk_at "dm") => `(tactic| simp only [wVar, wC, wNil, wCons, wFrz, wTup, wLst, wOp, wUn, wCall1, wMeth, wTst, wAndT, wOrT, wNotT, wAndV, wOrV, wNotV, wIf, wChain, wNext, wSeq, wBreak, wCont, wRet, wAsg, wAsgT, wPar, wIfS, wAug, wExpr, wRaise, wCall, wIsi, wSl, wONone, wOSome, wLc, wSeqC, wSeqF, wParF, wRange1, wRange2, wFor, wWhile, wYes, gwNames, putA, wipeR, wAppend, wExtend, wExt, extOf_l, extOf_t, wPopAll, wInsert, wDisp1, wPop, wSetIx, wFrzS, wDPop, wRetS, wParN, wDNew, wSortIt, wSortSet, wSortSc, wZip, wRev, wTry, wHand, gwName, gwNil, gwCons, gwTup,
  kv_k, kv_d, kvE_k, kvE_d, kv_t, kv_L, kv_l, kv_i, kv_s, seq_k, seq_d, seq_i, seq_s, frz_k, peek_k, keeps_k, keeps_g, keeps_h, owns_k, owns_l, putR_l, putR_k, frzR_s, frzR_l, frzR_k, putRs_nil, putRs_cons, zip_t, ofK_int, ofK_str, all_keeps, all_keeps0, fDict, fSorted, fMax1,
  rho, seq_l, seq_t, seq_L, stab_t, stab_L, look_s, look_l, dat_s, frz_s, frz_l, peek_s, peek_l, peek_g, peek_h, keeps_s, keeps_l, dats_nil, dats_cons, isS_s, fAdd, fInt, fSub, fMul, fNeg, fEq, fNe, fCmp, fLt, fIs, fIn, fIx, fLen, fAll, fAny, fSum, fList, fTuple, fIntOf, fMax2, fMin2, fSl,
  List.map_cons, List.map_nil, List.length_cons, List.length_nil, List.getElem?_cons_zero, List.getElem?_cons_succ, Option.some.injEq, exists_eq_left', exists_eq_left, exists_eq', R.s.injEq, R.l.injEq, PyData.int.injEq, PyData.bool.injEq, PyData.str.injEq, PyData.tuple.injEq, PyData.list.injEq, and_true, true_and, List.cons.injEq, reduceCtorEq,
  List.cons_append, List.nil_append, List.replicate, Nat.reduceAdd, Nat.reduceSub, Nat.reduceLT, false_and, exists_false, and_false, or_false, false_or, exists_and_left, exists_and_right, and_assoc, ite_true, ite_false, Bool.false_eq_true, if_true, if_false, List.mem_cons, List.not_mem_nil, forall_eq_or_imp, forall_eq, List.set_cons_zero, List.set_cons_succ, sh_int, sh_bool, sh_none, eqv_int, eqv_bool, eqv_str, Bool.not_true, Bool.not_false, Bool.not_not, beq_self_eq_true, Bool.true_beq, Bool.false_beq, beq_true, beq_false, Bool.or_false, Bool.or_true, Bool.and_true, Bool.and_false, Bool.true_and, Bool.false_and, Bool.true_or, Bool.false_or, decide_true, decide_false, isN_none, isN_int, isN_bool, isN_str, isN_tup, bne_ff, bne_tt, at0, at1, at2, at3, flat_none, flat_bool, flat_int, flat_str, List.all_cons, List.all_nil, Bool.and_self, Nat.reduceLeDiff])
local macro_rules | `(tactic| walk_at "dy") => `(tactic| (try simp only [rho, List.map_cons, List.map_nil, List.length_cons, List.length_nil, List.replicate, Nat.reduceAdd, Nat.reduceSub, List.cons_append, List.nil_append]) <;> (try simp only [↓u_var, ↓u_frz, ↓u_tup, ↓u_lst, ↓u_tst, ↓u_andV, ↓u_orV, ↓u_notV, ↓u_chain, ↓u_asg, ↓u_asgT, ↓u_par, ↓u_aug, ↓u_append, ↓u_extend, ↓u_pop, ↓u_setIx, ↓u_dpop, ↓u_frzS, ↓u_retS, ↓u_parN, ↓u_seqC, ↓u_seqF, ↓u_range1, ↓u_range2, ↓rng1_at, ↓rng2_at, ↓u_zip, ↓zip_at, ↓u_isi, ↓u_some, ↓u_for, ↓u_lc, ↓u_sc, ↓u_sortIt, ↓u_call, ↓u_rev, ↓parQ_nil, ↓parQ_cons, ↓pksQ_nil, ↓pksQ_cons, ↓gw_name, ↓gw_nil, ↓gw_cons, ↓gw_tup, ↓peekQ_s, ↓peekQ_l, ↓peekQ_z, ↓keepQ_z, ↓frzQ_z, ↓peekQ_k, ↓peekQ_g, ↓peekQ_h, ↓frzQ_s, ↓frzQ_lt, ↓frzQ_lf, ↓frzQ_kt, ↓frzQ_kf, ↓keepQ_s, ↓keepQ_l, ↓keepQ_k, ↓keepQ_g, ↓keepQ_h, ↓boolQ_b, ↓intQ_i, ↓datQ_s, ↓lookQ_s, ↓lookQ_l, ↓seqQ_t, ↓seqQ_L, ↓stabQ_t, ↓stabQ_L, ↓seqQ_l, ↓kvQ_k, ↓kvEQ_k, ↓kvEQ_d, ↓kvQ_z, ↓kvQ_d, ↓ownQ_l, ↓ownKQ_k, ↓lQ_l, ↓keyQ_i, ↓keyQ_s, ↓popQ_1, ↓popQ_s, ↓tupQ_0, ↓tupQ_1, ↓tupQ_2, ↓tupQ_3, ↓tupQ_4, ↓tupQ_5, ↓tupQ_6, ↓tupQ_7, ↓tupQ_8, ↓lstQ_0, ↓lstQ_1, ↓lstQ_2, ↓lstQ_3, ↓lstQ_4, ↓lstQ_5, ↓lstQ_6, ↓lstQ_7, ↓lstQ_8, ↓fAdd_i, ↓fAdd_t, ↓fAdd_l, ↓fAdd_s, ↓fInt_i, ↓fSub_i, ↓fMul_i, ↓fNeg_i, ↓fEq_s, ↓fEq_i, ↓fEq_b, ↓fEq_l, ↓fEq_L, ↓fNe_s, ↓fNe_i, ↓fNe_b, ↓fNe_l, ↓fNe_L, ↓fCmp_i, ↓fLt_i, ↓fIs_n, ↓fIs_b, ↓fIn_t, ↓fIx_t, ↓fIx_t0, ↓fIx_t1, ↓fIx_t2, ↓fIx_t3, ↓fIx_t4, ↓fLen_t, ↓fList_t, ↓fTuple_t, ↓fDict_t, ↓fSl_t, ↓fIn_L, ↓fIx_L, ↓fIx_L0, ↓fIx_L1, ↓fIx_L2, ↓fIx_L3, ↓fIx_L4, ↓fLen_L, ↓fList_L, ↓fTuple_L, ↓fDict_L, ↓fSl_L, ↓fIn_l, ↓fIx_l, ↓fIx_l0, ↓fIx_l1, ↓fIx_l2, ↓fIx_l3, ↓fIx_l4, ↓fLen_l, ↓fList_l, ↓fTuple_l, ↓fDict_l, ↓fSl_l, ↓fIn_k, ↓fIn_ki, ↓fIn_ks, ↓fIx_k, ↓fIx_ki, ↓fIx_ks, ↓fLen_k, ↓fLen_d, ↓fDict_k, ↓fIn_z, ↓fIn_zi, ↓fIn_zs, ↓fIx_z, ↓fIx_zi, ↓fIx_zs, ↓fLen_z, ↓fDict_z, ↓fDict_d, ↓fSorted_l, ↓fSorted_L, ↓revQ_t, ↓revQ_l, ↓revQ_L, ↓fIntOf_i, ↓fMax2_i, ↓fMin2_i, ↓pick_at, ↓putR_li, ↓putR_ki, ↓putR_ks, ↓getQ_0, ↓setQ_0, ↓getQ_1, ↓setQ_1, ↓getQ_2, ↓setQ_2, ↓getQ_3, ↓setQ_3, ↓getQ_4, ↓setQ_4, ↓getQ_5, ↓setQ_5, ↓getQ_6, ↓setQ_6, ↓getQ_7, ↓setQ_7, ↓getQ_8, ↓setQ_8, ↓getQ_9, ↓setQ_9, ↓getQ_10, ↓setQ_10, ↓getQ_11, ↓setQ_11, ↓getQ_12, ↓setQ_12, ↓getQ_13, ↓setQ_13, ↓getQ_14, ↓setQ_14, ↓getQ_15, ↓setQ_15, ↓getQ_16, ↓setQ_16, ↓getQ_17, ↓setQ_17, ↓getQ_18, ↓setQ_18, ↓getQ_19, ↓setQ_19, ↓u_ext, ↓extQ_l, ↓extQ_t, ↓u_popAll, ↓u_insert, ↓u_disp1, ↓u_ind, ↓lstQ'_l, ↓lstQ'_L, ↓fSortT_t, ↓draw_at, ↓u_len, ↓fListB_t, ↓fListB_L, ↓fListB_l, ↓fListB_k, ↓frzR_s, ↓frzR_l, ↓frzR_k, ↓frzR_z, ↓reduceIte, wC, wOp, wUn, wCall1, wMeth, wNil, wCons, wAndT, wOrT, wNotT, wIf, wNext, wSeq, wBreak, wCont, wRet, wIfS, wExpr, wRaise, wSl, wONone, wTry, wYes, wDNew, kv_k, kv_d, kv_t, kv_L, kv_l, kv_i, kv_s, kv_z, kvE_k, kvE_d, seq_z, peek_z, seq_k, seq_d, seq_i, seq_s, frz_k, peek_k, frz_s, frz_l, peek_s, peek_l, peek_g, peek_h, dat_s, look_s, look_l, isS_s, List.length_cons, List.length_nil, Option.some.injEq, exists_eq_left', exists_eq_left, exists_eq', R.s.injEq, R.l.injEq, PyData.int.injEq, PyData.bool.injEq, PyData.str.injEq, PyData.tuple.injEq, PyData.list.injEq, and_true, true_and, List.cons.injEq, reduceCtorEq, List.cons_append, List.nil_append, Nat.reduceAdd, Nat.reduceSub, Nat.reduceLT, false_and, and_false, or_false, false_or, ite_true, ite_false, Bool.false_eq_true, if_true, if_false, sh_int, sh_bool, sh_none, eqv_int, eqv_bool, eqv_str, Bool.not_true, Bool.not_false, Bool.not_not, beq_self_eq_true, Bool.true_beq, Bool.false_beq, beq_true, beq_false, Bool.or_false, Bool.or_true, Bool.and_true, Bool.and_false, Bool.true_and, Bool.false_and, Bool.true_or, Bool.false_or, decide_true, decide_false, isN_none, isN_int, isN_bool, isN_str, isN_tup, bne_ff, bne_tt, at0, at1, at2, at3, flat_none, flat_bool, flat_int, flat_str, List.all_cons, List.all_nil, Bool.and_self, Nat.reduceLeDiff, sh_nilL, sh_nilT, eqv_nilL, eqv_nilT, isE_nil, isE_cons, isE_snoc, ofK_int, ofK_str, List.map_cons, List.map_nil]))

def isInt : D → Bool
  | .int _ => true
  | _ => false
def c_is_int : Ct := fun rs Q _ => ∃ d, rs = [.s d] ∧ Q (.s (.bool (isInt d)))
theorem d_is_int {K : Frag} {cl : Ad} : ∀ rs Q E, c_is_int rs Q E → w_is_int K cl (rho N_is_int.length rs) { nx := fun _ => Q (.s .none), rt := Q, er := fun cls _ => E cls } := by
  rintro rs Q E ⟨d, rfl, q⟩
  unfold w_is_int
  try walk_at "dl"
  cases d <;> simp [isI, isB] <;> exact q
def within (d : D) (a b : Int) : Bool := match d with
  | .int i => decide (a ≤ i) && decide (i ≤ b)
  | _ => false
def c_within : Ct := fun rs Q _ => ∃ d a b, rs = [.s d, .s (.int a), .s (.int b)] ∧ Q (.s (.bool (within d a b)))
theorem d_within {K : Frag} {cl : Ad} : ∀ rs Q E, c_within rs Q E → w_within K cl c_is_int (rho N_within.length rs) { nx := fun _ => Q (.s .none), rt := Q, er := fun cls _ => E cls } := by
  rintro rs Q E ⟨d, a, b, rfl, q⟩
  unfold w_within c_is_int
  try walk_at "dl"
  cases d <;> simp only [isInt, within, Bool.false_eq_true, if_false, if_true, PyData.int.injEq, exists_eq_left', exists_eq_left] at * <;> try exact q
  refine ite_both (fun h => ?_) (fun h => ?_) <;> simpa [h] using q
def isRow (d : D) (a b : Int) : Bool := match d with
  | .tuple l => decide (a ≤ l.length) && decide ((l.length : Int) ≤ b)
  | _ => false
def c_is_row : Ct := fun rs Q _ => ∃ d a b, rs = [.s d, .s (.int a), .s (.int b)] ∧ Q (.s (.bool (isRow d a b)))
theorem d_is_row {K : Frag} {cl : Ad} : ∀ rs Q E, c_is_row rs Q E → w_is_row K cl (rho N_is_row.length rs) { nx := fun _ => Q (.s .none), rt := Q, er := fun cls _ => E cls } := by
  rintro rs Q E ⟨d, a, b, rfl, q⟩
  unfold w_is_row
  try walk_at "dl"
  cases d <;> simp only [isT, isRow, Bool.false_eq_true, if_false, if_true] at * <;> try exact q
  try walk_at "dl"
  refine ite_both (fun h => ?_) (fun h => ?_) <;> simpa [h] using q
/-- one of some flat things, as a text is -/
def isWord (d : D) (ds : List D) : Bool := match d with
  | .str x => ds.any fun z => PyData.eqv z (.str x)
  | _ => false
def c_is_word : Ct := fun rs Q _ => ∃ d ds, rs = [.s d, .s (.tuple ds)] ∧ ds.all flatD = true ∧ Q (.s (.bool (isWord d ds)))
theorem d_is_word {K : Frag} {cl : Ad} : ∀ rs Q E, c_is_word rs Q E → w_is_word K cl (rho N_is_word.length rs) { nx := fun _ => Q (.s .none), rt := Q, er := fun cls _ => E cls } := by
  rintro rs Q E ⟨d, ws, rfl, hf, q⟩
  unfold w_is_word
  try walk_at "dl"
  cases d <;> simp only [DL.isS, isWord, Bool.false_eq_true, if_false, if_true] at * <;> try exact q
  try walk_at "dl"
  first
    | exact ⟨hf, by simpa [inD] using q⟩
    | exact ⟨rfl, hf, by simpa [inD] using q⟩

/-! statements, judged: any thing -/
theorem within_yes {i a b : Int} (h1 : a ≤ i) (h2 : i ≤ b) : within (.int i) a b = true := by simp [within, h1, h2]
theorem row_yes {l : List D} {a b : Int} (h1 : a ≤ l.length) (h2 : (l.length : Int) ≤ b) : isRow (.tuple l) a b = true := by simp [isRow, h1, h2]
theorem rowI_cases {d : D} {a b : Int} (h : isRow d a b = true) : ∃ l, d = .tuple l ∧ a ≤ l.length ∧ (l.length : Int) ≤ b := by
  cases d with
  | tuple l => simp only [isRow, Bool.and_eq_true, decide_eq_true_eq] at h; exact ⟨l, rfl, h⟩
  | _ => simp [isRow] at h
theorem within_is {d : D} {a b : Int} (h : within d a b = true) : ∃ i, d = .int i ∧ a ≤ i ∧ i ≤ b := by
  cases d with
  | int i => simp [within] at h; exact ⟨i, rfl, h.1, h.2⟩
  | _ => simp [within] at h
theorem take_len_lt {α : Type} {l : List α} {k : Nat} {x : α} (h : l[k]? = some x) : (l.take k).length = k := by
  have := get_lt h
  rw [List.length_take]
  omega
def toI : D → Int
  | .int i => i
  | _ => 0
def isName (n : Int) : D → Bool
  | .int i => decide (-1 ≤ i) && decide (i < n)
  | _ => false
def c_is_name_of : Ct := fun rs Q _ => ∃ m h d, rs = [.s (.int m), .s (.int h), .s d] ∧ Q (.s (.bool (isName (m + h) d)))
theorem d_is_name_of {K : Frag} {cl : Ad} : ∀ rs Q E, c_is_name_of rs Q E → w_is_name_of K cl c_is_int (rho N_is_name_of.length rs) { nx := fun _ => Q (.s .none), rt := Q, er := fun cls _ => E cls } := by
  rintro rs Q E ⟨m, h, d, rfl, q⟩
  unfold w_is_name_of
  walk_at "dy"
  refine ⟨d, rfl, ?_⟩
  cases d with
  | int i =>
    rw [show isInt (.int i) = true from rfl]
    walk_at "dy"
    simp only [isName] at q
    refine ite_both (fun g => ?_) (fun g => ?_) <;> rw [g] at q <;> simpa using q
  | _ =>
    simp only [isInt, Bool.false_eq_true, if_false]
    walk_at "dy"
    exact q
def W2 : List D := [.str "same", .str "unlike"]
def I2 : List D := [.str "cell", .str "chain"]
def isFact (n : Int) : D → Bool
  | .tuple [w, a, b] => isWord w W2 && (isName n a && isName n b)
  | _ => false
theorem isFact_row {n : Int} {d : D} (h : isRow d 3 3 = false) : isFact n d = false := by
  unfold isFact
  split
  · simp [isRow] at h
  · rfl
def c_is_fact_of : Ct := fun rs Q _ => ∃ m h d, rs = [.s (.int m), .s (.int h), .s d] ∧ Q (.s (.bool (isFact (m + h) d)))
theorem d_is_fact_of {K : Frag} {cl : Ad} : ∀ rs Q E, c_is_fact_of rs Q E → w_is_fact_of K cl c_is_row c_is_word c_is_name_of (rho N_is_fact_of.length rs) { nx := fun _ => Q (.s .none), rt := Q, er := fun cls _ => E cls } := by
  rintro rs Q E ⟨m, h, d, rfl, q⟩
  unfold w_is_fact_of
  walk_at "dy"
  refine ⟨d, 3, 3, rfl, ?_⟩
  walk_at "dy"
  cases hr : isRow d 3 3 with
  | false => rw [isFact_row hr] at q; simpa using q
  | true =>
    obtain ⟨l, rfl, h1, h2⟩ := rowI_cases hr
    match l, h1, h2 with
    | [w, a, b], _, _ =>
      simp only [Bool.not_true, Bool.false_eq_true, if_false]
      walk_at "dy"
      refine ⟨w, W2, rfl, rfl, ?_⟩
      walk_at "dy"
      simp only [isFact] at q
      cases hw : isWord w W2 with
      | false => rw [hw] at q; simpa using q
      | true =>
        rw [hw, Bool.true_and] at q
        simp only [Bool.not_true, Bool.false_eq_true, if_false]
        walk_at "dy"
        refine ⟨m, h, a, rfl, ?_⟩
        walk_at "dy"
        cases ha : isName (m + h) a with
        | false => rw [ha] at q; simpa using q
        | true =>
          rw [ha, Bool.true_and] at q
          simp only [if_true]
          exact ⟨m, h, b, rfl, q⟩
    | [], h1, _ => simp at h1
    | [_], h1, _ => simp at h1
    | [_, _], h1, _ => simp at h1
    | _ :: _ :: _ :: _ :: _, _, h2 => simp at h2; omega
def allOf (p : D → Bool) : D → Bool
  | .tuple l => l.all p
  | _ => false
def isItem (n : Int) : D → Bool
  | .tuple [w, a, b] => isWord w I2 && (isName n a && isName n b)
  | .tuple [w, a, b, o] => isWord w I2 && (isName n a && isName n b) && (!PyData.eqv w (.str "cell") && isRow o 0 4 && allOf (isName n) o)
  | _ => false
theorem word_sh {w : D} (h : isWord w I2 = true) : w = .str "cell" ∨ w = .str "chain" := by
  cases w with
  | str x =>
    simp only [isWord, I2, List.any_cons, List.any_nil, Bool.or_false, Bool.or_eq_true, eqv_str, beq_iff_eq] at h
    rcases h with h | h
    · exact .inl (congrArg PyData.str h.symm)
    · exact .inr (congrArg PyData.str h.symm)
  | _ => simp [isWord] at h
theorem sh_cell : Sh (.str "cell") := sh_of (by decide +kernel)
theorem sh_chain : Sh (.str "chain") := sh_of (by decide +kernel)
def c_is_item_of : Ct := fun rs Q _ => ∃ m h d, rs = [.s (.int m), .s (.int h), .s d] ∧ Q (.s (.bool (isItem (m + h) d)))
theorem d_is_item_of {K : Frag} {cl : Ad} : ∀ rs Q E, c_is_item_of rs Q E → w_is_item_of K cl c_is_row c_is_word c_is_name_of (rho N_is_item_of.length rs) { nx := fun _ => Q (.s .none), rt := Q, er := fun cls _ => E cls } := by
  rintro rs Q E ⟨m, h, d, rfl, q⟩
  unfold w_is_item_of
  walk_at "dy"
  refine ⟨d, 3, 4, rfl, ?_⟩
  walk_at "dy"
  cases hr : isRow d 3 4 with
  | false =>
    have e : isItem (m + h) d = false := by
      unfold isItem
      split
      · simp [isRow] at hr
      · simp [isRow] at hr
      · rfl
    rw [e] at q
    simpa using q
  | true =>
    obtain ⟨l, rfl, h1, h2⟩ := rowI_cases hr
    match l, h1, h2 with
    | [w, a, b], _, _ =>
      simp only [Bool.not_true, Bool.false_eq_true, if_false]
      walk_at "dy"
      refine ⟨w, I2, rfl, rfl, ?_⟩
      walk_at "dy"
      simp only [isItem] at q
      cases hw : isWord w I2 with
      | false => rw [hw] at q; simpa using q
      | true =>
        rw [hw, Bool.true_and] at q
        simp only [Bool.not_true, Bool.false_eq_true, if_false]
        walk_at "dy"
        refine ⟨m, h, a, rfl, ?_⟩
        walk_at "dy"
        cases ha : isName (m + h) a with
        | false => rw [ha] at q; simpa using q
        | true =>
          rw [ha, Bool.true_and] at q
          simp only [Bool.not_true, Bool.false_eq_true, if_false]
          walk_at "dy"
          refine ⟨m, h, b, rfl, ?_⟩
          walk_at "dy"
          cases hb : isName (m + h) b <;> rw [hb] at q <;> simpa using q
    | [w, a, b, o], _, _ =>
      simp only [Bool.not_true, Bool.false_eq_true, if_false]
      walk_at "dy"
      refine ⟨w, I2, rfl, rfl, ?_⟩
      walk_at "dy"
      simp only [isItem] at q
      cases hw : isWord w I2 with
      | false => rw [hw] at q; simpa using q
      | true =>
        rw [hw, Bool.true_and] at q
        simp only [Bool.not_true, Bool.false_eq_true, if_false]
        walk_at "dy"
        refine ⟨m, h, a, rfl, ?_⟩
        walk_at "dy"
        cases ha : isName (m + h) a with
        | false => rw [ha] at q; simpa using q
        | true =>
          rw [ha, Bool.true_and] at q
          simp only [Bool.not_true, Bool.false_eq_true, if_false]
          walk_at "dy"
          refine ⟨m, h, b, rfl, ?_⟩
          walk_at "dy"
          cases hb : isName (m + h) b with
          | false => rw [hb] at q; simpa using q
          | true =>
            rw [hb, Bool.true_and] at q
            simp only [Bool.not_true, Bool.false_eq_true, if_false]
            walk_at "dy"
            rw [if_neg (by decide)]
            have shw : Sh w := by
              rcases word_sh hw with rfl | rfl
              · exact sh_cell
              · exact sh_chain
            refine ⟨shw, sh_cell, ?_⟩
            cases hc : PyData.eqv w (.str "cell") with
            | true => rw [hc] at q; simpa using q
            | false =>
              rw [hc, Bool.not_false, Bool.true_and] at q
              simp only [Bool.false_eq_true, if_false]
              refine ⟨o, 0, 4, rfl, ?_⟩
              walk_at "dy"
              cases ho : isRow o 0 4 with
              | false => rw [ho] at q; simpa using q
              | true =>
                obtain ⟨os, rfl, _, lo⟩ := rowI_cases ho
                rw [ho, Bool.true_and] at q
                simp only [Bool.not_true, Bool.false_eq_true, if_false]
                walk_at "dy"
                refine lc_go (fun k => ((os.take k).map (isName (m + h))).map PyData.bool) rfl (fun k d hd => ?_) ?_
                · rw [gwN1]
                  refine ⟨by simp, ?_⟩
                  simp only [putA, wipeR, List.set_cons_succ, List.set_cons_zero]
                  walk_at "dy"
                  refine ⟨m, h, d, rfl, ?_⟩
                  walk_at "dy"
                  refine ⟨by rw [List.length_map, List.length_map, take_len_lt hd]; have := get_lt hd; omega, ?_⟩
                  rw [take_succ_map (isName (m + h)) hd, List.map_append]
                  rfl
                · rw [List.take_length]
                  refine ⟨_, _, rfl, ?_⟩
                  have ea : (os.map (isName (m + h))).all id = os.all (isName (m + h)) := by rw [List.all_map]; rfl
                  rw [ea]
                  exact q
    | [], h1, _ => simp at h1
    | [_], h1, _ => simp at h1
    | [_, _], h1, _ => simp at h1
    | _ :: _ :: _ :: _ :: _ :: _, _, h2 => simp at h2; omega

/-! cases, statements -/
theorem row_lt {d : D} {l : List D} {a b : Int} (e : d = .tuple l) (h : isRow d a b = true) : (l.length : Int) ≤ b := by
  subst e
  simp only [isRow, Bool.and_eq_true, decide_eq_true_eq] at h
  exact h.2
def isCase (m : Int) : D → Bool
  | .tuple [h, f, i] => within h 0 2 && (isRow f 0 15 && isRow i 0 6) && (allOf (isFact (m + toI h)) f && allOf (isItem (m + toI h)) i)
  | _ => false
def c_is_case_of : Ct := fun rs Q _ => ∃ m d, rs = [.s (.int m), .s d] ∧ Q (.s (.bool (isCase m d)))
theorem d_is_case_of {K : Frag} {cl : Ad} : ∀ rs Q E, c_is_case_of rs Q E → w_is_case_of K cl c_within c_is_row c_is_fact_of c_is_item_of (rho N_is_case_of.length rs) { nx := fun _ => Q (.s .none), rt := Q, er := fun cls _ => E cls } := by
  rintro rs Q E ⟨m, d, rfl, q⟩
  unfold w_is_case_of
  walk_at "dy"
  refine ⟨d, 3, 3, rfl, ?_⟩
  walk_at "dy"
  cases hr : isRow d 3 3 with
  | false =>
    have e : isCase m d = false := by
      unfold isCase
      split
      · simp [isRow] at hr
      · rfl
    rw [e] at q
    simpa using q
  | true =>
    obtain ⟨l, rfl, h1, h2⟩ := rowI_cases hr
    match l, h1, h2 with
    | [h, f, i], _, _ =>
      simp only [Bool.not_true, Bool.false_eq_true, if_false]
      walk_at "dy"
      refine ⟨h, 0, 2, rfl, ?_⟩
      walk_at "dy"
      simp only [isCase] at q
      cases hh : within h 0 2 with
      | false => rw [hh] at q; simpa using q
      | true =>
        obtain ⟨n, rfl, _, _⟩ := within_is hh
        rw [hh, Bool.true_and, show toI (.int n) = n from rfl] at q
        simp only [Bool.not_true, Bool.false_eq_true, if_false]
        walk_at "dy"
        refine ⟨f, 0, 15, rfl, ?_⟩
        walk_at "dy"
        cases hf : isRow f 0 15 with
        | false => rw [hf] at q; simpa using q
        | true =>
          obtain ⟨fs, rfl, _, lf⟩ := rowI_cases hf
          rw [hf, Bool.true_and] at q
          simp only [Bool.not_true, Bool.false_eq_true, if_false]
          walk_at "dy"
          refine ⟨i, 0, 6, rfl, ?_⟩
          walk_at "dy"
          cases hi : isRow i 0 6 with
          | false => rw [hi] at q; simpa using q
          | true =>
            obtain ⟨is, rfl, _, li⟩ := rowI_cases hi
            rw [hi, Bool.true_and] at q
            simp only [Bool.not_true, Bool.false_eq_true, if_false]
            walk_at "dy"
            refine lc_go (fun k => ((fs.take k).map (isFact (m + n))).map PyData.bool) rfl (fun k d hd => ?_) ?_
            · rw [gwN1]
              refine ⟨by simp, ?_⟩
              simp only [putA, wipeR, List.set_cons_succ, List.set_cons_zero]
              walk_at "dy"
              refine ⟨m, n, d, rfl, ?_⟩
              walk_at "dy"
              refine ⟨by rw [List.length_map, List.length_map, take_len_lt hd]; have := get_lt hd; omega, ?_⟩
              rw [take_succ_map (isFact (m + n)) hd, List.map_append]
              rfl
            · rw [List.take_length]
              refine ⟨_, _, rfl, ?_⟩
              have ea : (fs.map (isFact (m + n))).all id = fs.all (isFact (m + n)) := by rw [List.all_map]; rfl
              rw [ea]
              walk_at "dy"
              have e1 : allOf (isFact (m + n)) (.tuple fs) = fs.all (isFact (m + n)) := rfl
              rw [e1] at q
              cases hfa : fs.all (isFact (m + n)) with
              | false => rw [hfa] at q; simpa using q
              | true =>
                rw [hfa, Bool.true_and] at q
                simp only [Bool.not_true, Bool.false_eq_true, if_false]
                walk_at "dy"
                refine lc_go (fun k => ((is.take k).map (isItem (m + n))).map PyData.bool) rfl (fun k d hd => ?_) ?_
                · rw [gwN1]
                  refine ⟨by simp, ?_⟩
                  simp only [putA, wipeR, List.set_cons_succ, List.set_cons_zero]
                  walk_at "dy"
                  refine ⟨m, n, d, rfl, ?_⟩
                  walk_at "dy"
                  refine ⟨by rw [List.length_map, List.length_map, take_len_lt hd]; have := get_lt hd; omega, ?_⟩
                  rw [take_succ_map (isItem (m + n)) hd, List.map_append]
                  rfl
                · rw [List.take_length]
                  refine ⟨_, _, rfl, ?_⟩
                  have ea : (is.map (isItem (m + n))).all id = is.all (isItem (m + n)) := by rw [List.all_map]; rfl
                  rw [ea]
                  exact q
    | [], h1, _ => simp at h1
    | [_], h1, _ => simp at h1
    | [_, _], h1, _ => simp at h1
    | _ :: _ :: _ :: _ :: _, _, h2 => simp at h2; omega
def c_is_case (cl : Ad) : Ct := fun rs Q E => ∃ a d, rs = [.s a, .s d] ∧ if within a 0 3 = true then Q (.s (.bool (isCase (toI a) d))) else E (.ref cl.c_BadMany)
theorem d_is_case {K : Frag} {cl : Ad} : ∀ rs Q E, c_is_case cl rs Q E → w_is_case K cl c_within c_is_case_of (rho N_is_case.length rs) { nx := fun _ => Q (.s .none), rt := Q, er := fun cls _ => E cls } := by
  rintro rs Q E ⟨a, d, rfl, q⟩
  unfold w_is_case
  walk_at "dy"
  refine ⟨a, 0, 3, rfl, ?_⟩
  walk_at "dy"
  cases ha : within a 0 3 with
  | false => rw [ha] at q; simpa using q
  | true =>
    obtain ⟨n, rfl, _, _⟩ := within_is ha
    rw [ha] at q
    simp only [Bool.not_true, Bool.false_eq_true, if_false, if_true] at q ⊢
    walk_at "dy"
    exact ⟨n, d, rfl, q⟩
def isStm : D → Bool
  | .tuple [m, cs] => within m 0 3 && isRow cs 0 12 && allOf (isCase (toI m)) cs
  | _ => false
def c_is_statement : Ct := fun rs Q _ => ∃ d, rs = [.s d] ∧ Q (.s (.bool (isStm d)))
theorem d_is_statement {K : Frag} {cl : Ad} : ∀ rs Q E, c_is_statement rs Q E → w_is_statement K cl c_within c_is_row c_is_case_of (rho N_is_statement.length rs) { nx := fun _ => Q (.s .none), rt := Q, er := fun cls _ => E cls } := by
  rintro rs Q E ⟨d, rfl, q⟩
  unfold w_is_statement
  walk_at "dy"
  refine ⟨d, 2, 2, rfl, ?_⟩
  walk_at "dy"
  cases hr : isRow d 2 2 with
  | false =>
    have e : isStm d = false := by
      unfold isStm
      split
      · simp [isRow] at hr
      · rfl
    rw [e] at q
    simpa using q
  | true =>
    obtain ⟨l, rfl, h1, h2⟩ := rowI_cases hr
    match l, h1, h2 with
    | [m, c], _, _ =>
      simp only [Bool.not_true, Bool.false_eq_true, if_false]
      walk_at "dy"
      refine ⟨m, 0, 3, rfl, ?_⟩
      walk_at "dy"
      simp only [isStm] at q
      cases hm : within m 0 3 with
      | false => rw [hm] at q; simpa using q
      | true =>
        obtain ⟨n, rfl, _, _⟩ := within_is hm
        rw [hm, Bool.true_and, show toI (.int n) = n from rfl] at q
        simp only [Bool.not_true, Bool.false_eq_true, if_false]
        walk_at "dy"
        refine ⟨c, 0, 12, rfl, ?_⟩
        walk_at "dy"
        cases hc : isRow c 0 12 with
        | false => rw [hc] at q; simpa using q
        | true =>
          obtain ⟨cs, rfl, _, lc⟩ := rowI_cases hc
          rw [hc, Bool.true_and] at q
          simp only [Bool.not_true, Bool.false_eq_true, if_false]
          walk_at "dy"
          refine lc_go (fun k => ((cs.take k).map (isCase n)).map PyData.bool) rfl (fun k d hd => ?_) ?_
          · rw [gwN1]
            refine ⟨by simp, ?_⟩
            simp only [putA, wipeR, List.set_cons_succ, List.set_cons_zero]
            walk_at "dy"
            refine ⟨n, d, rfl, ?_⟩
            walk_at "dy"
            refine ⟨by rw [List.length_map, List.length_map, take_len_lt hd]; have := get_lt hd; omega, ?_⟩
            rw [take_succ_map (isCase n) hd, List.map_append]
            rfl
          · rw [List.take_length]
            refine ⟨_, _, rfl, ?_⟩
            have ea : (cs.map (isCase n)).all id = cs.all (isCase n) := by rw [List.all_map]; rfl
            rw [ea]
            exact q
    | [], h1, _ => simp at h1
    | [_], h1, _ => simp at h1
    | _ :: _ :: _ :: _, _, h2 => simp at h2; omega
def c_need_statement (cl : Ad) : Ct := fun rs Q E => ∃ d, rs = [.s d] ∧ if isStm d = true then Q (.s .none) else E (.ref cl.c_BadStatement)
theorem d_need_statement {K : Frag} {cl : Ad} : ∀ rs Q E, c_need_statement cl rs Q E → w_need_statement K cl c_is_statement (rho N_need_statement.length rs) { nx := fun _ => Q (.s .none), rt := Q, er := fun cls _ => E cls } := by
  rintro rs Q E ⟨d, rfl, q⟩
  unfold w_need_statement
  walk_at "dy"
  refine ⟨d, rfl, ?_⟩
  walk_at "dy"
  cases h : isStm d <;> rw [h] at q <;> simpa using q

/-! right statements -/
structure Itm where
  ch : Bool
  a : Int
  b : Int
  outs : Option (List Int)
structure Cas where
  h : Nat
  fs : List (Bool × Int × Int)
  its : List Itm
def facD (f : Bool × Int × Int) : D := .tuple [.str (if f.1 = true then "same" else "unlike"), .int f.2.1, .int f.2.2]
def itmD : Itm → D
  | ⟨ch, a, b, none⟩ => .tuple [.str (if ch = true then "chain" else "cell"), .int a, .int b]
  | ⟨ch, a, b, some o⟩ => .tuple [.str (if ch = true then "chain" else "cell"), .int a, .int b, .tuple (o.map .int)]
def casD (c : Cas) : D := .tuple [.int c.h, .tuple (c.fs.map facD), .tuple (c.its.map itmD)]
def stmD (m : Nat) (cs : List Cas) : D := .tuple [.int m, .tuple (cs.map casD)]
def NmOk (n : Int) (i : Int) : Prop := -1 ≤ i ∧ i < n
structure ItmOk (n : Int) (t : Itm) : Prop where
  a : NmOk n t.a
  b : NmOk n t.b
  o : ∀ l, t.outs = some l → t.ch = true ∧ l.length ≤ 4 ∧ ∀ i ∈ l, NmOk n i
structure CasOk (m : Nat) (c : Cas) : Prop where
  h : c.h ≤ 2
  lf : c.fs.length ≤ 15
  li : c.its.length ≤ 6
  f : ∀ f ∈ c.fs, NmOk (m + c.h) f.2.1 ∧ NmOk (m + c.h) f.2.2
  i : ∀ t ∈ c.its, ItmOk (m + c.h) t
structure StmOk (m : Nat) (cs : List Cas) : Prop where
  lm : m ≤ 3
  lc : cs.length ≤ 12
  all : ∀ c ∈ cs, CasOk m c
theorem n_cc : ¬ (("chain" : Str) = "cell") := by decide
theorem name_yes {n i : Int} (h : NmOk n i) : isName n (.int i) = true := by simp [isName, h.1, h.2]
theorem fact_yes {n : Int} {f : Bool × Int × Int} (h1 : NmOk n f.2.1) (h2 : NmOk n f.2.2) : isFact n (facD f) = true := by
  obtain ⟨b, x, y⟩ := f
  simp only [facD, isFact, name_yes h1, name_yes h2, Bool.and_true]
  cases b <;> simp [isWord, W2, eqv_str]
theorem item_yes {n : Int} {t : Itm} (h : ItmOk n t) : isItem n (itmD t) = true := by
  obtain ⟨ch, a, b, o⟩ := t
  cases o with
  | none =>
    simp only [itmD, isItem, name_yes h.a, name_yes h.b, Bool.and_true]
    cases ch <;> simp [isWord, I2, eqv_str]
  | some l =>
    obtain ⟨rfl, h2, h3⟩ := h.o l rfl
    have e : (l.map PyData.int).all (isName n) = true := by
      rw [List.all_map, List.all_eq_true]
      exact fun i hi => name_yes (h3 i hi)
    have r : isRow (.tuple (l.map PyData.int)) 0 4 = true := row_yes (by omega) (by rw [List.length_map]; omega)
    simp only [itmD, isItem, name_yes h.a, name_yes h.b, Bool.and_true, r, allOf, e]
    simp [isWord, I2, eqv_str, n_cc]
theorem case_yes {m : Nat} {c : Cas} (h : CasOk m c) : isCase m (casD c) = true := by
  have e1 : (c.fs.map facD).all (isFact (m + c.h)) = true := by
    rw [List.all_map, List.all_eq_true]
    exact fun f hf => fact_yes (h.f f hf).1 (h.f f hf).2
  have e2 : (c.its.map itmD).all (isItem (m + c.h)) = true := by
    rw [List.all_map, List.all_eq_true]
    exact fun t ht => item_yes (h.i t ht)
  have := h.h
  have := h.lf
  have := h.li
  simp only [casD, isCase, toI, allOf, e1, e2, Bool.and_true]
  rw [within_yes (by omega) (by omega), row_yes (by omega) (by rw [List.length_map]; omega), row_yes (by omega) (by rw [List.length_map]; omega)]
  rfl
theorem stm_yes {m : Nat} {cs : List Cas} (h : StmOk m cs) : isStm (stmD m cs) = true := by
  have e1 : (cs.map casD).all (isCase m) = true := by
    rw [List.all_map, List.all_eq_true]
    exact fun c hc => case_yes (h.all c hc)
  have := h.lm
  have := h.lc
  simp only [stmD, isStm, toI, allOf, e1, Bool.and_true]
  rw [within_yes (by omega) (by omega), row_yes (by omega) (by rw [List.length_map]; omega)]
  rfl
def outsOf (t : Itm) : List Int := t.outs.getD []
def c_outs_in : Ct := fun rs Q _ => ∃ t, rs = [.s (itmD t)] ∧ Q (.s (.tuple ((outsOf t).map .int)))
theorem d_outs_in {K : Frag} {cl : Ad} : ∀ rs Q E, c_outs_in rs Q E → w_outs_in K cl (rho N_outs_in.length rs) { nx := fun _ => Q (.s .none), rt := Q, er := fun cls _ => E cls } := by
  rintro rs Q E ⟨⟨ch, a, b, o⟩, rfl, q⟩
  unfold w_outs_in
  cases o with
  | none =>
    unfold itmD
    walk_at "dy"
    exact q
  | some l =>
    unfold itmD
    walk_at "dy"
    exact q
def c_most_hidden : Ct := fun rs Q _ => ∃ m cs, rs = [.s (stmD m cs)] ∧ cs.length ≤ 1000 ∧ Q (.s (.int (topI (cs.map fun c => (c.h : Int)) 0)))
theorem d_most_hidden {K : Frag} {cl : Ad} : ∀ rs Q E, c_most_hidden rs Q E → w_most_hidden K cl (rho N_most_hidden.length rs) { nx := fun _ => Q (.s .none), rt := Q, er := fun cls _ => E cls } := by
  rintro rs Q E ⟨m, cs, rfl, hl, q⟩
  unfold w_most_hidden stmD wCallK
  walk_at "dy"
  refine lc_go (fun k => ((cs.take k).map fun c => (c.h : Int)).map PyData.int) rfl (fun k d hd => ?_) ?_
  · rw [List.getElem?_map] at hd
    obtain ⟨c, hc, rfl⟩ : ∃ c, cs[k]? = some c ∧ d = casD c := by
      cases e : cs[k]? with
      | none => rw [e] at hd; cases hd
      | some c => rw [e] at hd; exact ⟨c, rfl, (Option.some.inj hd).symm⟩
    rw [gwN1]
    refine ⟨by simp, ?_⟩
    simp only [putA, wipeR, List.set_cons_succ, List.set_cons_zero]
    unfold casD
    walk_at "dy"
    refine ⟨by rw [List.length_map, List.length_map, take_len_lt hc]; have := get_lt hc; omega, ?_⟩
    rw [take_succ_map (fun c : Cas => (c.h : Int)) hc, List.map_append]
    rfl
  · rw [List.length_map, List.take_length]
    exact ⟨_, _, 0, rfl, rfl, q⟩
def c_threshold_in : Ct := fun rs Q _ => ∃ m cs, rs = [.s (stmD m cs)] ∧ cs.length ≤ 1000 ∧ Q (.s (.int (topI (cs.map fun c => (c.h : Int)) 0 + 2)))
theorem d_threshold_in {K : Frag} {cl : Ad} : ∀ rs Q E, c_threshold_in rs Q E → w_threshold_in K cl c_most_hidden (rho N_threshold_in.length rs) { nx := fun _ => Q (.s .none), rt := Q, er := fun cls _ => E cls } := by
  rintro rs Q E ⟨m, cs, rfl, hl, q⟩
  unfold w_threshold_in
  walk_at "dy"
  refine ⟨m, cs, rfl, hl, ?_⟩
  walk_at "dy"
  exact q
def c_threshold (cl : Ad) : Ct := fun rs Q E => ∃ d, rs = [.s d] ∧ ((isStm d = false ∧ E (.ref cl.c_BadStatement)) ∨ ∃ m cs, d = stmD m cs ∧ StmOk m cs ∧ Q (.s (.int (topI (cs.map fun c => (c.h : Int)) 0 + 2))))
theorem d_threshold {K : Frag} {cl : Ad} : ∀ rs Q E, c_threshold cl rs Q E → w_threshold K cl (c_need_statement cl) c_threshold_in (rho N_threshold.length rs) { nx := fun _ => Q (.s .none), rt := Q, er := fun cls _ => E cls } := by
  rintro rs Q E ⟨d, rfl, ⟨h, q⟩ | ⟨m, cs, rfl, ok, q⟩⟩
  · unfold w_threshold
    walk_at "dy"
    refine ⟨_, rfl, ?_⟩
    rw [h]
    exact q
  · unfold w_threshold
    walk_at "dy"
    refine ⟨_, rfl, ?_⟩
    rw [if_pos (stm_yes ok)]
    walk_at "dy"
    exact ⟨m, cs, rfl, by have := ok.lc; omega, q⟩
def namesC (c : Cas) : List Int := (c.fs.flatMap fun f => [f.2.1, f.2.2]) ++ c.its.flatMap fun t => [t.a, t.b] ++ outsOf t

/-! what the law draws -/
def c_law_name : Ct := fun rs Q _ => ∃ n : Nat, rs = [.h, .s (.int n)] ∧ n ≤ 100 ∧ ∀ i : Int, NmOk n i → Q (.s (.int i))
theorem d_law_name {K : Frag} {cl : Ad} : ∀ rs Q E, c_law_name rs Q E → w_law_name K cl c_draw (rho N_law_name.length rs) { nx := fun _ => Q (.s .none), rt := Q, er := fun cls _ => E cls } := by
  rintro rs Q E ⟨n, rfl, hn, q⟩
  unfold w_law_name
  walk_at "dy"
  exact ⟨by omega, by omega, fun r r0 r1 => q (r - 1) ⟨by omega, by omega⟩⟩
def c_law_fact : Ct := fun rs Q _ => ∃ n : Nat, rs = [.h, .s (.int n)] ∧ n ≤ 100 ∧ ∀ f : Bool × Int × Int, NmOk n f.2.1 → NmOk n f.2.2 → Q (.s (facD f))
theorem d_law_fact {K : Frag} {cl : Ad} : ∀ rs Q E, c_law_fact rs Q E → w_law_fact K cl c_draw c_law_name (rho N_law_fact.length rs) { nx := fun _ => Q (.s .none), rt := Q, er := fun cls _ => E cls } := by
  rintro rs Q E ⟨n, rfl, hn, q⟩
  unfold w_law_fact
  walk_at "dy"
  refine ⟨by decide, by decide, fun r r0 r1 => ?_⟩
  obtain ⟨x, ex⟩ : ∃ x : Bool, L2.atI [PyData.str "same", PyData.str "unlike", PyData.str "unlike"] r = some (.str (if x = true then "same" else "unlike")) := by
    rcases (by omega : r = 0 ∨ r = 1 ∨ r = 2) with rfl | rfl | rfl
    · exact ⟨true, at0 ..⟩
    · exact ⟨false, at1 ..⟩
    · exact ⟨false, at2 ..⟩
  refine ⟨_, ex, n, rfl, hn, fun i hi => ?_⟩
  walk_at "dy"
  refine ⟨n, rfl, hn, fun j hj => ?_⟩
  walk_at "dy"
  exact q (x, i, j) hi hj
def c_law_item : Ct := fun rs Q _ => ∃ n : Nat, rs = [.h, .s (.int n)] ∧ n ≤ 100 ∧ ∀ t : Itm, ItmOk n t → Q (.s (itmD t))
theorem d_law_item {K : Frag} {cl : Ad} : ∀ rs Q E, c_law_item rs Q E → w_law_item K cl c_draw c_law_name (rho N_law_item.length rs) { nx := fun _ => Q (.s .none), rt := Q, er := fun cls _ => E cls } := by
  rintro rs Q E ⟨n, rfl, hn, q⟩
  unfold w_law_item
  walk_at "dy"
  refine ⟨by decide, by decide, fun r r0 r1 => ?_⟩
  refine ⟨n, rfl, hn, fun a ha => ?_⟩
  refine ⟨n, rfl, hn, fun b hb => ?_⟩
  walk_at "dy"
  refine ite_both (fun _ => q ⟨false, a, b, none⟩ ⟨ha, hb, fun l e => nomatch e⟩) (fun _ => ite_both (fun _ => q ⟨true, a, b, none⟩ ⟨ha, hb, fun l e => nomatch e⟩) (fun _ => ?_))
  refine ⟨by decide, by decide, fun k k0 k1 => ⟨by omega, by omega, by rw [range_len]; omega, ?_⟩⟩
  refine ⟨fun i acc => ∃ l : List Int, acc = l.map .int ∧ l.length = i ∧ ∀ x ∈ l, NmOk n x, ⟨[], rfl, rfl, fun x hx => nomatch hx⟩, ?_, ?_⟩
  · rintro i acc d hd ⟨l, rfl, hl, hr⟩
    obtain ⟨rfl, hi⟩ := range0_at hd
    rw [gwN1]
    refine ⟨by simp, ?_⟩
    simp only [putA, wipeR, List.set_cons_succ, List.set_cons_zero]
    walk_at "dy"
    refine ⟨n, rfl, hn, fun x hx => ?_⟩
    walk_at "dy"
    refine ⟨by rw [List.length_map]; omega, l ++ [x], by rw [List.map_append]; rfl, by rw [List.length_append, hl]; rfl, fun y hy => ?_⟩
    rcases List.mem_append.mp hy with hy | hy
    · exact hr y hy
    · rw [show y = x by simpa using hy]
      exact hx
  · rintro acc ⟨l, rfl, hl, hr⟩
    rw [range_len] at hl
    walk_at "dy"
    exact q ⟨true, a, b, some l⟩ ⟨ha, hb, fun l' e => by cases e; exact ⟨rfl, by omega, hr⟩⟩
def c_law_case : Ct := fun rs Q _ => ∃ m h : Nat, rs = [.h, .s (.int m), .s (.int h), .s (.int 6)] ∧ m ≤ 3 ∧ h ≤ 2 ∧ ∀ c, CasOk m c → Q (.s (casD c))
theorem d_law_case {K : Frag} {cl : Ad} : ∀ rs Q E, c_law_case rs Q E → w_law_case K cl c_draw c_law_fact c_law_item (rho N_law_case.length rs) { nx := fun _ => Q (.s .none), rt := Q, er := fun cls _ => E cls } := by
  rintro rs Q E ⟨m, h, rfl, hm, hh, q⟩
  unfold w_law_case
  walk_at "dy"
  have en : (m : Int) + (h : Int) = ((m + h : Nat) : Int) := by push_cast; rfl
  rw [en]
  refine ⟨by decide, by decide, fun k k0 k1 => ⟨by omega, by omega, by rw [range_len]; omega, ?_⟩⟩
  refine ⟨fun i acc => ∃ l : List (Bool × Int × Int), acc = l.map facD ∧ l.length = i ∧ ∀ f ∈ l, NmOk (m + h) f.2.1 ∧ NmOk (m + h) f.2.2, ⟨[], rfl, rfl, fun x hx => nomatch hx⟩, ?_, ?_⟩
  · rintro i acc d hd ⟨l, rfl, hl, hr⟩
    obtain ⟨rfl, hi⟩ := range0_at hd
    rw [gwN1]
    refine ⟨by simp, ?_⟩
    simp only [putA, wipeR, List.set_cons_succ, List.set_cons_zero]
    walk_at "dy"
    refine ⟨m + h, rfl, by omega, fun f h1 h2 => ?_⟩
    rw [← en] at h1 h2
    walk_at "dy"
    refine ⟨by rw [List.length_map]; omega, l ++ [f], by rw [List.map_append]; rfl, by rw [List.length_append, hl]; rfl, fun y hy => ?_⟩
    rcases List.mem_append.mp hy with hy | hy
    · exact hr y hy
    · rw [show y = f by simpa using hy]
      exact ⟨h1, h2⟩
  · rintro acc ⟨fs, rfl, hl, hf⟩
    rw [range_len] at hl
    walk_at "dy"
    refine ⟨by decide, by decide, fun j j0 j1 => ⟨by omega, by omega, by rw [range_len]; omega, ?_⟩⟩
    refine ⟨fun i acc => ∃ l : List Itm, acc = l.map itmD ∧ l.length = i ∧ ∀ t ∈ l, ItmOk (m + h) t, ⟨[], rfl, rfl, fun x hx => nomatch hx⟩, ?_, ?_⟩
    · rintro i acc d hd ⟨l, rfl, hl, hr⟩
      obtain ⟨rfl, hi⟩ := range0_at hd
      rw [gwN1]
      refine ⟨by simp, ?_⟩
      simp only [putA, wipeR, List.set_cons_succ, List.set_cons_zero]
      walk_at "dy"
      refine ⟨m + h, rfl, by omega, fun t h1 => ?_⟩
      rw [← en] at h1
      walk_at "dy"
      refine ⟨by rw [List.length_map]; omega, l ++ [t], by rw [List.map_append]; rfl, by rw [List.length_append, hl]; rfl, fun y hy => ?_⟩
      rcases List.mem_append.mp hy with hy | hy
      · exact hr y hy
      · rw [show y = t by simpa using hy]
        exact h1
    · rintro acc ⟨its, rfl, hl2, hi⟩
      rw [range_len] at hl2
      walk_at "dy"
      exact q ⟨h, fs, its⟩ ⟨hh, by dsimp only; omega, by dsimp only; omega, hf, hi⟩
def c_law_right : Ct := fun rs Q _ => rs = [.h] ∧ ∀ m cs, StmOk m cs → 1 ≤ cs.length → cs.length ≤ 4 → Q (.s (stmD m cs))
theorem d_law_right {K : Frag} {cl : Ad} : ∀ rs Q E, c_law_right rs Q E → w_law_right K cl c_draw c_law_case (rho N_law_right.length rs) { nx := fun _ => Q (.s .none), rt := Q, er := fun cls _ => E cls } := by
  rintro rs Q E ⟨rfl, q⟩
  unfold w_law_right
  walk_at "dy"
  refine ⟨by decide, by decide, fun m m0 m1 => ?_⟩
  obtain ⟨m, rfl⟩ := Int.eq_ofNat_of_zero_le m0
  refine ⟨by decide, by decide, fun k k0 k1 => ⟨by omega, by omega, by rw [range_len]; omega, ?_⟩⟩
  refine for_go (fun i (ρ : Rho) => ∃ l v3, ρ = [some .h, some (.s (.int m)), some (.l true (l.map casD)), v3] ∧ l.length = i ∧ ∀ c ∈ l, CasOk m c) ⟨[], none, rfl, rfl, fun x hx => nomatch hx⟩ ?_ ?_
  · rintro i d ρ hd ⟨l, v3, rfl, hl, hr⟩
    obtain ⟨rfl, hi⟩ := range0_at hd
    unfold w_law_right_b1
    walk_at "dy"
    refine ⟨by decide, by decide, fun h h0 h1 => ?_⟩
    obtain ⟨h, rfl⟩ := Int.eq_ofNat_of_zero_le h0
    refine ⟨m, h, rfl, by omega, by omega, fun c hc => ?_⟩
    walk_at "dy"
    refine ⟨by rw [List.length_map]; omega, l ++ [c], some (.s (.int (i : Int))), by rw [List.map_append]; exact ⟨rfl, rfl⟩, by rw [List.length_append, hl]; rfl, fun y hy => ?_⟩
    rcases List.mem_append.mp hy with hy | hy
    · exact hr y hy
    · rw [show y = c by simpa using hy]
      exact hc
  · rintro ρ ⟨l, v3, rfl, hl, hr⟩
    rw [range_len] at hl
    walk_at "dy"
    exact q m l ⟨by omega, by omega, hr⟩ (by omega) (by omega)

/-! the names that are used -/
def facN (f : Bool × Int × Int) : List Int := [f.2.1, f.2.2]
def itmN (t : Itm) : List Int := [t.a, t.b] ++ outsOf t
theorem namesC_eq (c : Cas) : namesC c = c.fs.flatMap facN ++ c.its.flatMap itmN := rfl
theorem flat_take {α : Type} {l : List α} {i : Nat} {x : α} (f : α → List Int) (h : l[i]? = some x) : (l.take (i + 1)).flatMap f = (l.take i).flatMap f ++ f x := by
  rw [take_at h]
  simp
theorem flat_len {α : Type} {l : List α} {f : α → List Int} {k : Nat} (h : ∀ x ∈ l, (f x).length ≤ k) : (l.flatMap f).length ≤ k * l.length := by
  induction l with
  | nil => simp
  | cons x r ih =>
    rw [List.flatMap_cons, List.length_append, List.length_cons, Nat.mul_succ]
    have := h x List.mem_cons_self
    have := ih fun y hy => h y (List.mem_cons_of_mem _ hy)
    omega
theorem itmN_len {n : Int} {t : Itm} (h : ItmOk n t) : (itmN t).length ≤ 6 := by
  unfold itmN outsOf
  cases e : t.outs with
  | none => simp
  | some l => have := (h.o l e).2.1; simp; omega
theorem map_at {α : Type} {l : List α} {f : α → D} {i : Nat} {d : D} (h : (l.map f)[i]? = some d) : ∃ x, l[i]? = some x ∧ d = f x := by
  rw [List.getElem?_map] at h
  cases e : l[i]? with
  | none => rw [e] at h; cases h
  | some x => rw [e] at h; exact ⟨x, rfl, (Option.some.inj h).symm⟩
theorem take_sub {α : Type} {l : List α} {i : Nat} {P : α → Prop} (h : ∀ x ∈ l, P x) : ∀ x ∈ l.take i, P x := fun x hx => h x (List.mem_of_mem_take hx)
def c_names_in : Ct := fun rs Q _ => ∃ m c, rs = [.s (casD c)] ∧ CasOk m c ∧ Q (.l true ((namesC c).map .int))
theorem d_names_in {K : Frag} {cl : Ad} : ∀ rs Q E, c_names_in rs Q E → w_names_in K cl c_outs_in (rho N_names_in.length rs) { nx := fun _ => Q (.s .none), rt := Q, er := fun cls _ => E cls } := by
  rintro rs Q E ⟨m, c, rfl, ok, q⟩
  have ec : casD c = .tuple [.int c.h, .tuple (c.fs.map facD), .tuple (c.its.map itmD)] := rfl
  have l1 := ok.lf
  have l2 := ok.li
  unfold w_names_in
  rw [ec]
  walk_at "dy"
  rw [← ec]
  refine for_go (fun i (ρ : Rho) => ∃ v2 v3 v4, ρ = [some (.s (casD c)), some (.l true (((c.fs.take i).flatMap facN).map PyData.int)), v2, v3, v4, none]) ⟨none, none, none, rfl⟩ ?_ ?_
  · rintro i d ρ hd ⟨v2, v3, v4, rfl⟩
    obtain ⟨f, hf, rfl⟩ := map_at hd
    rw [flat_take facN hf]
    have hl : ((c.fs.take i).flatMap facN).length ≤ 2 * (c.fs.take i).length := flat_len fun x _ => Nat.le_refl _
    rw [List.length_take] at hl
    unfold w_names_in_b1 facD
    walk_at "dy"
    refine ⟨by rw [List.length_map]; omega, some (.s (.str (if f.1 = true then "same" else "unlike"))), some (.s (.int f.2.1)), some (.s (.int f.2.2)), ?_⟩
    rw [List.map_append]
    exact ⟨rfl, rfl, rfl, rfl⟩
  · rintro ρ ⟨v2, v3, v4, rfl⟩
    rw [List.length_map, List.take_length, ec]
    walk_at "dy"
    rw [← ec]
    have h1 : (c.fs.flatMap facN).length ≤ 2 * c.fs.length := flat_len fun x _ => Nat.le_refl _
    refine for_go (fun i (ρ : Rho) => ∃ v5, ρ = [some (.s (casD c)), some (.l true ((c.fs.flatMap facN ++ (c.its.take i).flatMap itmN).map PyData.int)), v2, v3, v4, v5]) ⟨none, by simp⟩ ?_ ?_
    · rintro i d ρ hd ⟨v5, rfl⟩
      obtain ⟨t, ht, rfl⟩ := map_at hd
      have hl : ((c.its.take i).flatMap itmN).length ≤ 6 * (c.its.take i).length := flat_len (take_sub fun x hx => itmN_len (ok.i x hx))
      rw [List.length_take] at hl
      have ot := itmN_len (ok.i t (List.mem_of_getElem? ht))
      rw [flat_take itmN ht]
      unfold w_names_in_b2
      have ou : (outsOf t).length ≤ 4 := by
        have e : (itmN t).length = (outsOf t).length + 2 := by simp [itmN]
        omega
      obtain ⟨ch, a, b, o⟩ := t
      cases o with
      | none =>
        simp only [itmD]
        walk_at "dy"
        refine ⟨⟨ch, a, b, none⟩, rfl, ?_⟩
        walk_at "dy"
        exact ⟨by rw [List.length_map]; omega, by rw [List.length_map, List.length_map, List.length_append]; omega, _, by simp [itmN], rfl⟩
      | some l =>
        simp only [itmD]
        walk_at "dy"
        refine ⟨⟨ch, a, b, some l⟩, rfl, ?_⟩
        walk_at "dy"
        exact ⟨by rw [List.length_map]; omega, by rw [List.length_map, List.length_map, List.length_append]; omega, _, by simp [itmN], rfl⟩
    · rintro ρ ⟨v5, rfl⟩
      rw [List.length_map, List.take_length, ← namesC_eq]
      walk_at "dy"
      exact q
def inM (m : Nat) (l : List Int) : List Int := l.filter fun x => decide (0 ≤ x) && decide (x < (m : Int))
def c_names_used (cl : Ad) : Ct := fun rs Q E => ∃ d, rs = [.s d] ∧ ((isStm d = false ∧ E (.ref cl.c_BadStatement)) ∨ ∃ m cs, d = stmD m cs ∧ StmOk m cs ∧ ∀ ns', SortedOf (inM m (cs.flatMap namesC)) ns' → Q (.s (.tuple (ns'.map .int))))
theorem d_names_used {K : Frag} {cl : Ad} : ∀ rs Q E, c_names_used cl rs Q E → w_names_used K cl (c_need_statement cl) c_names_in (rho N_names_used.length rs) { nx := fun _ => Q (.s .none), rt := Q, er := fun cls _ => E cls } := by
  rintro rs Q E ⟨d, rfl, ⟨h, q⟩ | ⟨m, cs, rfl, ok, q⟩⟩
  · unfold w_names_used
    walk_at "dy"
    refine ⟨_, rfl, ?_⟩
    rw [h]
    exact q
  · have es : stmD m cs = .tuple [.int m, .tuple (cs.map casD)] := rfl
    have hl := ok.lc
    unfold w_names_used wLc2
    walk_at "dy"
    refine ⟨_, rfl, ?_⟩
    rw [if_pos (stm_yes ok), es]
    walk_at "dy"
    have lc : ∀ c ∈ cs, (namesC c).length ≤ 66 := fun c hc => by
      have o := ok.all c hc
      have h1 : (c.fs.flatMap facN).length ≤ 2 * c.fs.length := flat_len fun x _ => Nat.le_refl _
      have h2 : (c.its.flatMap itmN).length ≤ 6 * c.its.length := flat_len fun x hx => itmN_len (o.i x hx)
      have := o.lf
      have := o.li
      rw [namesC_eq, List.length_append]
      omega
    have la : ∀ k, ((cs.take k).flatMap namesC).length ≤ 792 := fun k => by
      have h1 : ((cs.take k).flatMap namesC).length ≤ 66 * (cs.take k).length := flat_len (take_sub lc)
      rw [List.length_take] at h1
      omega
    refine ⟨fun k acc => acc = ((cs.take k).flatMap namesC).map PyData.int, rfl, ?_, ?_⟩
    · rintro k acc d hd rfl
      obtain ⟨c, hc, rfl⟩ := map_at hd
      have l1 := lc c (List.mem_of_getElem? hc)
      have l2 := la k
      rw [gwN1]
      refine ⟨by simp, ?_⟩
      simp only [putA, wipeR, List.set_cons_succ, List.set_cons_zero]
      walk_at "dy"
      refine ⟨m, c, rfl, ok.all c (List.mem_of_getElem? hc), ?_⟩
      walk_at "dy"
      refine ⟨fun j acc1 => acc1 = ((cs.take k).flatMap namesC ++ (namesC c).take j).map PyData.int, by simp, ?_, ?_⟩
      · rintro j acc1 d1 hd1 rfl
        obtain ⟨x, hx, rfl⟩ := map_at hd1
        have l3 := get_lt hx
        rw [gwN1]
        refine ⟨by simp, ?_⟩
        simp only [putA, wipeR, List.set_cons_succ, List.set_cons_zero]
        walk_at "dy"
        refine ⟨by rw [List.length_map, List.length_append, List.length_take]; omega, ?_⟩
        rw [take_at hx]
        simp
      · rintro acc1 rfl
        rw [List.length_map, List.take_length, flat_take namesC hc]
    · rintro acc rfl
      rw [List.length_map, List.take_length]
      have l2 := la cs.length
      rw [List.take_length] at l2
      generalize cs.flatMap namesC = L at l2 q ⊢
      refine ⟨fun k acc => acc = inM m (L.take k), rfl, ?_, ?_⟩
      · rintro k acc d hd rfl
        obtain ⟨x, hx, rfl⟩ := map_at hd
        have l3 := get_lt hx
        have l4 : (inM m (L.take k)).length ≤ (L.take k).length := List.length_filter_le _ _
        rw [List.length_take] at l4
        have e : inM m (L.take (k + 1)) = if (decide (0 ≤ x) && decide (x < (m : Int))) = true then inM m (L.take k) ++ [x] else inM m (L.take k) := by
          rw [take_at hx]
          unfold inM
          rw [List.filter_append]
          by_cases e : (decide (0 ≤ x) && decide (x < (m : Int))) = true
          · rw [if_pos e, List.filter_cons_of_pos (by exact e), List.filter_nil]
          · rw [if_neg e, List.filter_cons_of_neg (by exact e), List.filter_nil, List.append_nil]
        rw [gwN1]
        refine ⟨by simp, ?_⟩
        dsimp only
        rw [e]
        simp only [putA, wipeR, List.set_cons_succ, List.set_cons_zero]
        walk_at "dy"
        cases decide (0 ≤ x) <;> cases decide (x < (m : Int)) <;> simp <;> omega
      · rintro acc rfl
        rw [List.length_map, List.take_length]
        refine ⟨by have : (inM m L).length ≤ L.length := List.length_filter_le _ _; omega, fun ns' hs => ?_⟩
        walk_at "dy"
        exact q ns' hs

/-! the law's own names -/
def c_law_outs : Ct := fun rs Q _ => (∃ t, rs = [.s (itmD t)] ∧ Q (.s (.tuple ((outsOf t).map .int)))) ∨ ∃ f, rs = [.s (facD f)] ∧ Q (.s (.tuple []))
theorem d_law_outs {K : Frag} {cl : Ad} : ∀ rs Q E, c_law_outs rs Q E → w_law_outs K cl (rho N_law_outs.length rs) { nx := fun _ => Q (.s .none), rt := Q, er := fun cls _ => E cls } := by
  rintro rs Q E (⟨⟨ch, a, b, o⟩, rfl, q⟩ | ⟨f, rfl, q⟩)
  · unfold w_law_outs
    cases o with
    | none =>
      unfold itmD
      walk_at "dy"
      exact q
    | some l =>
      unfold itmD
      walk_at "dy"
      exact q
  · unfold w_law_outs facD
    walk_at "dy"
    exact q
theorem asc_unique : ∀ {l l' : List Int}, l.Pairwise (· < ·) → l'.Pairwise (· < ·) → (∀ x, x ∈ l ↔ x ∈ l') → l = l'
  | [], [], _, _, _ => rfl
  | [], b :: s, _, _, h => by have := (h b).mpr List.mem_cons_self; cases this
  | a :: r, [], _, _, h => by have := (h a).mp List.mem_cons_self; cases this
  | a :: r, b :: s, h1, h2, h => by
    have e : a = b := by
      have x1 := (h a).mp List.mem_cons_self
      have x2 := (h b).mpr List.mem_cons_self
      rcases List.mem_cons.mp x1 with x1 | x1
      · exact x1
      · rcases List.mem_cons.mp x2 with x2 | x2
        · exact x2.symm
        · have y1 := (List.pairwise_cons.mp h2).1 a x1
          have y2 := (List.pairwise_cons.mp h1).1 b x2
          omega
    subst e
    refine congrArg (a :: ·) (asc_unique (List.pairwise_cons.mp h1).2 (List.pairwise_cons.mp h2).2 fun x => ?_)
    constructor
    · intro hx
      have y := (List.pairwise_cons.mp h1).1 x hx
      rcases List.mem_cons.mp ((h x).mp (List.mem_cons_of_mem _ hx)) with z | z
      · omega
      · exact z
    · intro hx
      have y := (List.pairwise_cons.mp h2).1 x hx
      rcases List.mem_cons.mp ((h x).mpr (List.mem_cons_of_mem _ hx)) with z | z
      · omega
      · exact z
def usedL (m : Nat) (L : List Int) : List Int := ((List.range m).map fun k : Nat => (k : Int)).filter fun x => decide (x ∈ L)
theorem used_eq {m : Nat} {L ns : List Int} (h : SortedOf (inM m L) ns) : ns = usedL m L := by
  obtain ⟨h1, h2, _⟩ := h
  refine asc_unique h1 ?_ fun x => ?_
  · refine List.Pairwise.filter _ ?_
    rw [List.pairwise_map]
    exact List.pairwise_lt_range.imp fun h => by omega
  · rw [h2]
    unfold inM usedL
    rw [List.mem_filter, List.mem_filter, List.mem_map]
    simp only [Bool.and_eq_true, decide_eq_true_eq, List.mem_range]
    constructor
    · rintro ⟨a, b, c⟩
      exact ⟨⟨x.toNat, by omega, by omega⟩, a⟩
    · rintro ⟨⟨k, hk, rfl⟩, b⟩
      exact ⟨b, by omega, by omega⟩
theorem inD_ints (acc : List Int) (p : Int) : inD (.int p) (acc.map PyData.int) = decide (p ∈ acc) := by
  unfold inD
  induction acc with
  | nil => rfl
  | cons a r ih =>
    rw [List.map_cons, List.any_cons, ih, eqv_int, Bool.eq_iff_iff, Bool.or_eq_true, beq_iff_eq, decide_eq_true_iff, decide_eq_true_iff, List.mem_cons]
    exact ⟨fun h => h.elim (fun e => .inl e.symm) .inr, fun h => h.elim (fun e => .inl e.symm) .inr⟩
theorem flat_ints (acc : List Int) : (acc.map PyData.int).all flatD = true := by
  rw [List.all_eq_true]
  intro d hd
  obtain ⟨n, _, rfl⟩ := List.mem_map.mp hd
  rfl
def elD : (Bool × Int × Int) ⊕ Itm → D
  | .inl f => facD f
  | .inr t => itmD t
def elN : (Bool × Int × Int) ⊕ Itm → List Int
  | .inl f => facN f
  | .inr t => itmN t
def els (c : Cas) : List ((Bool × Int × Int) ⊕ Itm) := c.fs.map Sum.inl ++ c.its.map Sum.inr
theorem els_D (c : Cas) : c.fs.map facD ++ c.its.map itmD = (els c).map elD := by
  unfold els
  rw [List.map_append, List.map_map, List.map_map]
  rfl
theorem els_N (c : Cas) : c.fs.flatMap facN ++ c.its.flatMap itmN = (els c).flatMap elN := by
  unfold els
  rw [List.flatMap_append, List.flatMap_map, List.flatMap_map]
  rfl
def c_law_used : Ct := fun rs Q _ => ∃ m cs, rs = [.s (stmD m cs)] ∧ StmOk m cs ∧ Q (.s (.tuple ((usedL m (cs.flatMap namesC)).map .int)))
theorem d_law_used {K : Frag} {cl : Ad} : ∀ rs Q E, c_law_used rs Q E → w_law_used K cl c_law_outs (rho N_law_used.length rs) { nx := fun _ => Q (.s .none), rt := Q, er := fun cls _ => E cls } := by
  rintro rs Q E ⟨m, cs, rfl, ok, q⟩
  have es : stmD m cs = .tuple [.int m, .tuple (cs.map casD)] := rfl
  have hlc := ok.lc
  have lc : ∀ c ∈ cs, (namesC c).length ≤ 66 := fun c hc => by
    have o := ok.all c hc
    have h1 : (c.fs.flatMap facN).length ≤ 2 * c.fs.length := flat_len fun x _ => Nat.le_refl _
    have h2 : (c.its.flatMap itmN).length ≤ 6 * c.its.length := flat_len fun x hx => itmN_len (o.i x hx)
    have := o.lf
    have := o.li
    rw [namesC_eq, List.length_append]
    omega
  have la : ∀ k, ((cs.take k).flatMap namesC).length ≤ 792 := fun k => by
    have h1 : ((cs.take k).flatMap namesC).length ≤ 66 * (cs.take k).length := flat_len (take_sub lc)
    rw [List.length_take] at h1
    omega
  unfold w_law_used
  rw [es]
  walk_at "dy"
  rw [← es]
  refine for_go (fun i (ρ : Rho) => ∃ v2 v3 v4 v5, ρ = [some (.s (stmD m cs)), some (.l true (((cs.take i).flatMap namesC).map PyData.int)), v2, v3, v4, v5, none]) ⟨none, none, none, none, rfl⟩ ?_ ?_
  · rintro i d ρ hd ⟨v2, v3, v4, v5, rfl⟩
    obtain ⟨c, hc, rfl⟩ := map_at hd
    have o := ok.all c (List.mem_of_getElem? hc)
    have l1 := o.lf
    have l2 := o.li
    have l3 := la i
    rw [show casD c = .tuple [.int c.h, .tuple (c.fs.map facD), .tuple (c.its.map itmD)] from rfl, flat_take namesC hc, namesC_eq]
    unfold w_law_used_b2
    walk_at "dy"
    refine ⟨by rw [List.length_map, List.length_map]; omega, ?_⟩
    rw [els_D, els_N]
    have okE : ∀ x ∈ els c, (elN x).length ≤ 6 := fun x hx => by
      rcases List.mem_append.mp hx with hx | hx
      · obtain ⟨f, _, rfl⟩ := List.mem_map.mp hx
        show (facN f).length ≤ 6
        simp [facN]
      · obtain ⟨t, ht, rfl⟩ := List.mem_map.mp hx
        exact itmN_len (o.i t ht)
    have le : (els c).length ≤ 21 := by
      unfold els
      rw [List.length_append, List.length_map, List.length_map]
      omega
    refine for_go (fun j (ρ : Rho) => ∃ v5, ρ = [some (.s (stmD m cs)), some (.l true (((cs.take i).flatMap namesC ++ ((els c).take j).flatMap elN).map PyData.int)), some (.s (.int (c.h : Int))), some (.s (.tuple (c.fs.map facD))), some (.s (.tuple (c.its.map itmD))), v5, none]) ⟨v5, by simp⟩ ?_ ?_
    · rintro j d ρ hd ⟨v5, rfl⟩
      obtain ⟨x, hx, rfl⟩ := map_at hd
      have o6 := okE x (List.mem_of_getElem? hx)
      have l6 : (((els c).take j).flatMap elN).length ≤ 6 * ((els c).take j).length := flat_len (take_sub okE)
      rw [List.length_take] at l6
      rw [flat_take elN hx]
      unfold w_law_used_b1
      cases x with
      | inl f =>
        show gwName 5 (facD f) _ _
        unfold facD
        walk_at "dy"
        refine .inr ⟨f, rfl, ?_⟩
        walk_at "dy"
        refine ⟨by rw [List.length_map, List.length_append]; omega, _, ?_, rfl⟩
        simp [elN, facN]
      | inr t =>
        have ou : (outsOf t).length ≤ 4 := by
          have e : (itmN t).length = (outsOf t).length + 2 := by simp [itmN]
          have o7 : (itmN t).length ≤ 6 := o6
          omega
        show gwName 5 (itmD t) _ _
        obtain ⟨ch, a, b, o⟩ := t
        cases o with
        | none =>
          simp only [itmD]
          walk_at "dy"
          refine .inl ⟨⟨ch, a, b, none⟩, rfl, ?_⟩
          walk_at "dy"
          exact ⟨by rw [List.length_map]; omega, by rw [List.length_map, List.length_map, List.length_append]; omega, _, by simp [elN, itmN], rfl⟩
        | some l =>
          simp only [itmD]
          walk_at "dy"
          refine .inl ⟨⟨ch, a, b, some l⟩, rfl, ?_⟩
          walk_at "dy"
          exact ⟨by rw [List.length_map]; omega, by rw [List.length_map, List.length_map, List.length_append]; omega, _, by simp [elN, itmN], rfl⟩
    · rintro ρ ⟨v5, rfl⟩
      rw [List.length_map, List.take_length]
      exact ⟨_, _, _, _, rfl⟩
  · rintro ρ ⟨v2, v3, v4, v5, rfl⟩
    rw [List.length_map, List.take_length, es]
    walk_at "dy"
    rw [← es]
    have hm := ok.lm
    refine ⟨by omega, by omega, ?_⟩
    rw [Int.toNat_natCast]
    generalize cs.flatMap namesC = L at q ⊢
    refine lc_go (fun k => ((((List.range k).map fun k : Nat => (k : Int)).filter fun x => decide (x ∈ L))).map PyData.int) rfl (fun k d hd => ?_) ?_
    · obtain ⟨rfl, hk⟩ := range0_at hd
      rw [gwN1]
      refine ⟨by simp, ?_⟩
      simp only [putA, wipeR, List.set_cons_succ, List.set_cons_zero]
      walk_at "dy"
      refine ⟨flat_ints L, ?_⟩
      rw [inD_ints, range_succ_map k fun k : Nat => (k : Int), List.filter_append]
      have hl : ((((List.range k).map fun k : Nat => (k : Int)).filter fun x => decide (x ∈ L))).length ≤ k := by
        refine Nat.le_trans (List.length_filter_le _ _) ?_
        rw [List.length_map, List.length_range]
        exact Nat.le_refl _
      by_cases e : (k : Int) ∈ L
      · simp [e]
        omega
      · simp [e]
    · rw [range_len]
      walk_at "dy"
      exact q

/-! spoiled things -/
theorem cutD_len (l : List D) (a b : Option Int) : (DL.cutD l a b).length ≤ l.length := by
  unfold DL.cutD
  rw [List.length_take, List.length_drop]
  omega
theorem fMul_t (xs : List D) (j : Int) (Q : R → Prop) : fMul (.s (.tuple xs)) (.s (.int j)) Q = (xs ≠ [] ∧ 0 ≤ j ∧ j ≤ 1000 ∧ xs.length ≤ 1000 ∧ Q (.s (.tuple (List.replicate j.toNat xs).flatten))) := propext ⟨fun ⟨_, e, h⟩ => by cases e; exact h, fun h => ⟨_, rfl, h⟩⟩
def c_law_spoiled_item : Ct := fun rs Q _ => ∃ n : Nat, rs = [.h, .s (.int n)] ∧ n ≤ 100 ∧ ∀ d, isItem n d = false → Q (.s d)
theorem d_law_spoiled_item {K : Frag} {cl : Ad} : ∀ rs Q E, c_law_spoiled_item rs Q E → w_law_spoiled_item K cl c_draw c_law_name (rho N_law_spoiled_item.length rs) { nx := fun _ => Q (.s .none), rt := Q, er := fun cls _ => E cls } := by
  rintro rs Q E ⟨n, rfl, hn, q⟩
  unfold w_law_spoiled_item
  walk_at "dy"
  refine ⟨by decide, by decide, fun p p0 p1 => ?_⟩
  refine ⟨n, rfl, hn, fun a ha => ?_⟩
  walk_at "dy"
  rw [fMul_t]
  refine ⟨by simp, by decide, by decide, by simp, ?_⟩
  rw [show (List.replicate (5 : Int).toNat [PyData.int a]).flatten = [.int a, .int a, .int a, .int a, .int a] from rfl]
  walk_at "dy"
  have i1 : ∀ w : Str, isItem n (.tuple [.str w, .int a, .int n]) = false := fun w => by
    simp only [isItem, isName, Int.lt_irrefl, decide_false, Bool.and_false]
  have i2 : isItem n (.tuple [.str "chain", .int (-2), .int a]) = false := by
    simp [isItem, isName]
  have i3 : isItem n (.tuple [.str "cell", .int a, .int a, .tuple []]) = false := by
    simp [isItem, eqv_str]
  have i4 : isItem n (.tuple [.str "chain", .int a]) = false := rfl
  have i5 : isItem n (.tuple [.str "Chain", .int a, .int (-1)]) = false := by
    have w : isWord (.str "Chain") I2 = false := by decide +kernel
    simp only [isItem, w, Bool.false_and]
  have i6 : isItem n (.tuple [.str "chain", .int a, .int (-1), .tuple [.int a, .int a, .int a, .int a, .int a]]) = false := by
    simp [isItem, isRow]
  have i7 : isItem n (.tuple [.str "chain", .int a, .int (-1), .tuple [.int (-1), .int n]]) = false := by
    simp [isItem, isRow, allOf, isName]
  have i8 : isItem n (.list [.str "cell", .int a, .int a]) = false := rfl
  have i9 : isItem n (.tuple [.str "chain", .bool true, .int (-1)]) = false := by
    simp [isItem, isName]
  rcases (by omega : p = 0 ∨ p = 1 ∨ p = 2 ∨ p = 3 ∨ p = 4 ∨ p = 5 ∨ p = 6 ∨ p = 7 ∨ p = 8) with rfl | rfl | rfl | rfl | rfl | rfl | rfl | rfl | rfl
  · exact ⟨_, rfl, q _ (i1 _)⟩
  · exact ⟨_, rfl, q _ i2⟩
  · exact ⟨_, rfl, q _ i3⟩
  · exact ⟨_, rfl, q _ i4⟩
  · exact ⟨_, rfl, q _ i5⟩
  · exact ⟨_, rfl, q _ i6⟩
  · exact ⟨_, rfl, q _ i7⟩
  · exact ⟨_, rfl, q _ i8⟩
  · exact ⟨_, rfl, q _ i9⟩
def c_law_spoiled_fact : Ct := fun rs Q _ => ∃ n : Nat, rs = [.h, .s (.int n)] ∧ n ≤ 100 ∧ ∀ d, isFact n d = false → Q (.s d)
theorem d_law_spoiled_fact {K : Frag} {cl : Ad} : ∀ rs Q E, c_law_spoiled_fact rs Q E → w_law_spoiled_fact K cl c_draw c_law_name (rho N_law_spoiled_fact.length rs) { nx := fun _ => Q (.s .none), rt := Q, er := fun cls _ => E cls } := by
  rintro rs Q E ⟨n, rfl, hn, q⟩
  unfold w_law_spoiled_fact
  walk_at "dy"
  refine ⟨by decide, by decide, fun p p0 p1 => ?_⟩
  refine ⟨n, rfl, hn, fun a ha => ?_⟩
  walk_at "dy"
  rcases (by omega : p = 0 ∨ p = 1 ∨ p = 2 ∨ p = 3 ∨ p = 4 ∨ p = 5) with rfl | rfl | rfl | rfl | rfl | rfl
  · exact ⟨_, rfl, q _ (by simp [isFact, isName])⟩
  · exact ⟨_, rfl, q _ (by simp [isFact, isName])⟩
  · exact ⟨_, rfl, q _ (by
      have w : isWord (.str "other") W2 = false := by decide +kernel
      simp only [isFact, w, Bool.false_and])⟩
  · exact ⟨_, rfl, q _ rfl⟩
  · exact ⟨_, rfl, q _ rfl⟩
  · exact ⟨_, rfl, q _ (by simp [isFact, isName])⟩
def c_law_spoiled_case : Ct := fun rs Q _ => ∃ (m : Nat) (c : Cas), rs = [.h, .s (.int m), .s (casD c)] ∧ m ≤ 3 ∧ CasOk m c ∧ ∀ d, isCase m d = false → Q (.s d)
theorem d_law_spoiled_case {K : Frag} {cl : Ad} : ∀ rs Q E, c_law_spoiled_case rs Q E → w_law_spoiled_case K cl c_draw c_law_spoiled_item c_law_spoiled_fact (rho N_law_spoiled_case.length rs) { nx := fun _ => Q (.s .none), rt := Q, er := fun cls _ => E cls } := by
  rintro rs Q E ⟨m, c, rfl, hm, ok, q⟩
  have ec : casD c = .tuple [.int c.h, .tuple (c.fs.map facD), .tuple (c.its.map itmD)] := rfl
  unfold w_law_spoiled_case
  walk_at "dy"
  refine ⟨by decide, by decide, fun p p0 p1 => ?_⟩
  rw [ec]
  walk_at "dy"
  have l1 := ok.lf
  have l2 := ok.li
  have lF : (c.fs.map facD).length = c.fs.length := List.length_map ..
  have lI : (c.its.map itmD).length = c.its.length := List.length_map ..
  generalize c.fs.map facD = F at lF ⊢
  generalize c.its.map itmD = I at lI ⊢
  have no3 : ∀ d, isItem (m + c.h) d = false → ∀ x y : List D, isCase m (.tuple [.int c.h, .tuple F, .tuple (x ++ [d] ++ y)]) = false := fun d hd x y => by
    simp [isCase, allOf, toI, hd]
  have no5 : ∀ d, isFact (m + c.h) d = false → ∀ x y : List D, isCase m (.tuple [.int c.h, .tuple (x ++ [d] ++ y), .tuple I]) = false := fun d hd x y => by
    simp [isCase, allOf, toI, hd]
  unfold w_law_spoiled_case_t12
  walk_at "dy"
  unfold w_law_spoiled_case_t11
  walk_at "dy"
  have hh := ok.h
  have en : (m : Int) + (c.h : Int) = ((m + c.h : Nat) : Int) := by push_cast; rfl
  have cut2 : ∀ (l : List D) (k : Option Int) (a b : Option Int), (DL.cutD (DL.cutD l none k) a b).length ≤ l.length := fun l k a b => Nat.le_trans (cutD_len _ _ _) (cutD_len _ _ _)
  unfold w_law_spoiled_case_t10
  walk_at "dy"
  refine ite_both (fun _ => ?_) (fun _ => ?_)
  · refine ⟨by omega, by omega, fun k k0 k1 => ?_⟩
    unfold w_law_spoiled_case_t2
    walk_at "dy"
    rw [en]
    refine ⟨m + c.h, rfl, by omega, fun d hd => ?_⟩
    rw [← en] at hd
    unfold w_law_spoiled_case_t1
    walk_at "dy"
    have b1 := cut2 I (some 5) none (some k)
    have b2 := cut2 I (some 5) (some k) none
    refine ⟨by omega, by rw [List.length_append, List.length_singleton]; omega, q _ (no3 d hd _ _)⟩
  · unfold w_law_spoiled_case_t9
    walk_at "dy"
    refine ite_both (fun _ => ?_) (fun _ => ?_)
    · refine ⟨by omega, by omega, fun k k0 k1 => ?_⟩
      unfold w_law_spoiled_case_t4
      walk_at "dy"
      rw [en]
      refine ⟨m + c.h, rfl, by omega, fun d hd => ?_⟩
      rw [← en] at hd
      unfold w_law_spoiled_case_t3
      walk_at "dy"
      have b1 := cut2 F (some 14) none (some k)
      have b2 := cut2 F (some 14) (some k) none
      refine ⟨by omega, by rw [List.length_append, List.length_singleton]; omega, q _ (no5 d hd _ _)⟩
    · unfold w_law_spoiled_case_t8
      walk_at "dy"
      refine ite_both (fun _ => ?_) (fun _ => ?_)
      · refine ⟨by decide, by decide, fun k k0 k1 => ?_⟩
        rcases (by omega : k = 0 ∨ k = 1 ∨ k = 2 ∨ k = 3) with rfl | rfl | rfl | rfl
        · exact ⟨_, rfl, q _ (by simp [isCase, within])⟩
        · exact ⟨_, rfl, q _ (by simp [isCase, within])⟩
        · exact ⟨_, rfl, q _ (by simp [isCase, within])⟩
        · exact ⟨_, rfl, q _ (by simp [isCase, within])⟩
      · unfold w_law_spoiled_case_t7
        walk_at "dy"
        refine ite_both (fun _ => ?_) (fun _ => ?_)
        · rw [fMul_t]
          refine ⟨by simp, by decide, by decide, by simp, ?_⟩
          walk_at "dy"
          exact q _ (by simp [isCase, isRow])
        · unfold w_law_spoiled_case_t6
          walk_at "dy"
          refine ite_both (fun _ => ?_) (fun _ => ?_)
          · rw [fMul_t]
            refine ⟨by simp, by decide, by decide, by simp, ?_⟩
            walk_at "dy"
            exact q _ (by simp [isCase, isRow])
          · unfold w_law_spoiled_case_t5
            walk_at "dy"
            refine ⟨by decide, by decide, fun k k0 k1 => ?_⟩
            rcases (by omega : k = 0 ∨ k = 1 ∨ k = 2) with rfl | rfl | rfl
            · exact ⟨_, rfl, q _ rfl⟩
            · exact ⟨_, rfl, q _ (by simp [isCase, isRow])⟩
            · exact ⟨_, rfl, q _ (by simp [isCase, isRow])⟩

/-! bounds, refusals -/
theorem sh_stm : Sh (.str "statement") := sh_of (by decide +kernel)
theorem sh_many : Sh (.str "many") := sh_of (by decide +kernel)
def fac0 : Bool × Int × Int := (false, -1, -1)
def itm0 : Itm := ⟨true, -1, -1, some [-1, -1, -1, -1]⟩
def cas0 : Cas := ⟨2, List.replicate 15 fac0, List.replicate 6 itm0⟩
theorem cas0_ok (m : Nat) : CasOk m cas0 where
  h := Nat.le_refl _
  lf := by simp [cas0]
  li := by simp [cas0]
  f := fun f hf => by
    rw [List.eq_of_mem_replicate hf]
    exact ⟨⟨by decide, by show (-1 : Int) < (m : Int) + ((2 : Nat) : Int); omega⟩, ⟨by decide, by show (-1 : Int) < (m : Int) + ((2 : Nat) : Int); omega⟩⟩
  i := fun t ht => by
    rw [List.eq_of_mem_replicate ht]
    have n1 : NmOk ((m : Int) + ((2 : Nat) : Int)) (-1) := ⟨by decide, by omega⟩
    exact ⟨n1, n1, fun l e => by cases e; exact ⟨rfl, by decide, fun i hi => by rw [show i = -1 by simpa using hi]; exact n1⟩⟩
def c_law_at_bounds : Ct := fun rs Q _ => ∃ (m : Nat) (cs : List Cas) (c : Cas), rs = [.s (stmD m cs), .s (casD c)] ∧ m ≤ 3 ∧ Q (.s (.bool true))
theorem d_law_at_bounds {K : Frag} {cl : Ad} : ∀ rs Q E, c_law_at_bounds rs Q E → w_law_at_bounds K cl (c_is_case cl) c_is_statement (rho N_law_at_bounds.length rs) { nx := fun _ => Q (.s .none), rt := Q, er := fun cls _ => E cls } := by
  rintro rs Q E ⟨m, cs, c, rfl, hm, q⟩
  have ec : casD c = .tuple [.int c.h, .tuple (c.fs.map facD), .tuple (c.its.map itmD)] := rfl
  have es : stmD m cs = .tuple [.int m, .tuple (cs.map casD)] := rfl
  unfold w_law_at_bounds
  rw [ec, es]
  walk_at "dy"
  have e15 : (List.replicate (15 : Int).toNat [PyData.tuple [.str "unlike", .int (-1), .int (-1)]]).flatten = (List.replicate 15 fac0).map facD := rfl
  have e6 : (List.replicate (6 : Int).toNat [PyData.tuple [.str "chain", .int (-1), .int (-1), .tuple [.int (-1), .int (-1), .int (-1), .int (-1)]]]).flatten = (List.replicate 6 itm0).map itmD := rfl
  have st12 : ∀ C, C = casD cas0 → isStm (.tuple [.int m, .tuple (List.replicate (12 : Int).toNat [C]).flatten]) = true := by
    rintro C rfl
    exact stm_yes (m := m) (cs := List.replicate 12 cas0) ⟨hm, by simp, fun c hc => by rw [List.eq_of_mem_replicate hc]; exact cas0_ok m⟩
  have st0 : isStm (.tuple [.int m, .tuple []]) = true := stm_yes (m := m) (cs := []) ⟨hm, by simp, fun c hc => nomatch hc⟩
  rw [fMul_t, e15]
  refine ⟨by simp, by decide, by decide, by simp, ?_⟩
  generalize hF : (List.replicate 15 fac0).map facD = F
  walk_at "dy"
  rw [fMul_t, e6]
  refine ⟨by simp, by decide, by decide, by simp, ?_⟩
  generalize hI : (List.replicate 6 itm0).map itmD = I
  walk_at "dy"
  obtain ⟨C, hC⟩ : ∃ C, C = PyData.tuple [.int 2, .tuple F, .tuple I] := ⟨_, rfl⟩
  have hC2 : C = casD cas0 := by rw [hC, ← hF, ← hI]; rfl
  rw [← hC]
  refine ⟨_, _, rfl, ?_⟩
  rw [if_pos (within_yes (by omega) (by omega)), show toI (.int (m : Int)) = (m : Int) from rfl, show isCase m C = true by rw [hC2]; exact case_yes (cas0_ok m)]
  walk_at "dy"
  rw [fMul_t]
  refine ⟨by simp, by decide, by decide, by simp, ?_⟩
  have s12 := st12 C hC2
  generalize (List.replicate (12 : Int).toNat [C]).flatten = T at s12 ⊢
  walk_at "dy"
  refine ⟨_, rfl, ?_⟩
  rw [s12]
  walk_at "dy"
  rw [fMul_t]
  refine ⟨by simp, by decide, by decide, by simp, ?_⟩
  have st13 : ∀ x : D, isStm (.tuple [.int m, .tuple (List.replicate (13 : Int).toNat [x]).flatten]) = false := fun x => by simp [isStm, isRow]
  have s13 := st13 (.tuple [.int c.h, .tuple (c.fs.map facD), .tuple (c.its.map itmD)])
  generalize (List.replicate (13 : Int).toNat [PyData.tuple [.int c.h, .tuple (c.fs.map facD), .tuple (c.its.map itmD)]]).flatten = T13 at s13 ⊢
  walk_at "dy"
  refine ⟨_, rfl, ?_⟩
  rw [s13]
  walk_at "dy"
  refine ⟨_, rfl, ?_⟩
  rw [st0]
  walk_at "dy"
  exact q
def c_law_refuses : Ct := fun rs Q _ => ∃ d, rs = [.s d] ∧ isStm d = false ∧ Q (.s (.bool true))
theorem d_law_refuses {K : Frag} {mg : Str → Option Value} {cl : Ad} (T : Txt K mg cl) : ∀ rs Q E, c_law_refuses rs Q E → w_law_refuses K cl (c_threshold cl) (c_names_used cl) (rho N_law_refuses.length rs) { nx := fun _ => Q (.s .none), rt := Q, er := fun cls _ => E cls } := by
  rintro rs Q E ⟨d, rfl, h, q⟩
  unfold w_law_refuses
  walk_at "dy"
  refine ⟨d, rfl, .inl ⟨h, ?_⟩⟩
  simp only [wHand, T.e_BadStatement_BadStatement, Option.some.injEq, exists_eq_left', true_implies, Bool.true_eq_false, false_implies, and_true, Bool.false_eq_true, true_and]
  walk_at "dy"
  refine ⟨d, rfl, .inl ⟨h, ?_⟩⟩
  simp only [wHand, T.e_BadStatement_BadStatement, Option.some.injEq, exists_eq_left', true_implies, Bool.true_eq_false, false_implies, and_true, Bool.false_eq_true, true_and]
  walk_at "dy"
  exact ⟨sh_stm, sh_stm, sh_stm, sh_stm, q⟩
def c_law_no_many : Ct := fun rs Q _ => ∃ a d, rs = [.s a, .s d] ∧ within a 0 3 = false ∧ Q (.s (.bool true))
theorem d_law_no_many {K : Frag} {mg : Str → Option Value} {cl : Ad} (T : Txt K mg cl) : ∀ rs Q E, c_law_no_many rs Q E → w_law_no_many K cl (c_is_case cl) (rho N_law_no_many.length rs) { nx := fun _ => Q (.s .none), rt := Q, er := fun cls _ => E cls } := by
  rintro rs Q E ⟨a, d, rfl, h, q⟩
  unfold w_law_no_many
  walk_at "dy"
  refine ⟨a, d, rfl, ?_⟩
  rw [if_neg (by rw [h]; decide)]
  simp only [wHand, T.e_BadMany_BadMany, Option.some.injEq, exists_eq_left', true_implies, Bool.true_eq_false, false_implies, and_true, Bool.false_eq_true, true_and]
  walk_at "dy"
  exact ⟨sh_many, sh_many, q⟩

/-! the law -/
theorem fold_max : ∀ (ns : List Int) (n : Int), (∀ y ∈ n :: ns, y ≤ ns.foldl max n) ∧ ns.foldl max n ∈ n :: ns
  | [], n => ⟨fun y hy => by rw [show y = n by simpa using hy]; exact Int.le_refl _, by simp⟩
  | a :: r, n => by
    obtain ⟨h1, h2⟩ := fold_max r (max n a)
    rw [List.foldl_cons]
    have h0 := h1 (max n a) List.mem_cons_self
    refine ⟨fun y hy => ?_, ?_⟩
    · rcases List.mem_cons.mp hy with rfl | hy
      · omega
      · rcases List.mem_cons.mp hy with rfl | hy
        · omega
        · exact h1 y (List.mem_cons_of_mem _ hy)
    · rcases List.mem_cons.mp h2 with h2 | h2
      · rw [h2]
        by_cases e : n ≤ a
        · rw [Int.max_eq_right e]; simp
        · rw [Int.max_eq_left (by omega)]; simp
      · exact List.mem_cons_of_mem _ (List.mem_cons_of_mem _ h2)
theorem shn_ints (ns : List Int) : Shn 1 (.tuple (ns.map .int)) := shn_tup (n := 0) fun d hd => by
  obtain ⟨i, _, rfl⟩ := List.mem_map.mp hd
  exact shn_int 0 i
theorem eqvAll_refl_ints : ∀ vs : List Int, PyData.eqvAll (vs.map .int) (vs.map .int) = true
  | [] => by simp [PyData.eqvAll]
  | a :: r => by rw [List.map_cons, PyData.eqvAll, eqv_int, eqvAll_refl_ints r]; simp
theorem eqv_ints (vs : List Int) : PyData.eqv (.tuple (vs.map .int)) (.tuple (vs.map .int)) = true := by
  rw [PyData.eqv]
  exact eqvAll_refl_ints vs
mutual
theorem eqv_self : ∀ d : D, PyData.canLay0 d = true → PyData.eqv d d = true
  | .none, _ => by simp [PyData.eqv]
  | .bool _, _ => by simp [PyData.eqv]
  | .int _, _ => by simp [PyData.eqv]
  | .str _, _ => by simp [PyData.eqv]
  | .list xs, h => by
    rw [PyData.eqv]
    exact eqvAll_self xs (by simpa only [PyData.canLay0] using h)
  | .tuple xs, h => by
    rw [PyData.eqv]
    exact eqvAll_self xs (by simpa only [PyData.canLay0] using h)
  | .dict _, h => by simp [PyData.canLay0] at h
theorem eqvAll_self : ∀ xs : List D, PyData.canLayAll0 xs = true → PyData.eqvAll xs xs = true
  | [], _ => by simp [PyData.eqvAll]
  | x :: xs, h => by
    have h' := Bool.and_eq_true_iff.mp (by simpa only [PyData.canLayAll0] using h)
    rw [PyData.eqvAll, eqv_self x h'.1, eqvAll_self xs h'.2]
    rfl
end
theorem sh_same : Sh (.str "same") := sh_of (by decide +kernel)
theorem sh_unlike : Sh (.str "unlike") := sh_of (by decide +kernel)
theorem shn_fac (f : Bool × Int × Int) : Shn 1 (facD f) := shn_tup (n := 0) fun d hd => by
  simp only [List.mem_cons, List.not_mem_nil, or_false] at hd
  rcases hd with rfl | rfl | rfl
  · cases f.1
    · exact shn_str 0 sh_unlike
    · exact shn_str 0 sh_same
  · exact shn_int 0 _
  · exact shn_int 0 _
theorem shn_itm (t : Itm) : Shn 2 (itmD t) := by
  obtain ⟨ch, a, b, o⟩ := t
  have hw : Shn 1 (.str (if ch = true then "chain" else "cell")) := by
    cases ch
    · exact shn_str 1 sh_cell
    · exact shn_str 1 sh_chain
  cases o with
  | none =>
    refine shn_tup (n := 1) fun d hd => ?_
    simp only [List.mem_cons, List.not_mem_nil, or_false] at hd
    rcases hd with rfl | rfl | rfl
    · exact hw
    · exact shn_int 1 _
    · exact shn_int 1 _
  | some l =>
    refine shn_tup (n := 1) fun d hd => ?_
    simp only [List.mem_cons, List.not_mem_nil, or_false] at hd
    rcases hd with rfl | rfl | rfl | rfl
    · exact hw
    · exact shn_int 1 _
    · exact shn_int 1 _
    · exact shn_ints l
theorem shn_cas (c : Cas) : Shn 4 (casD c) := shn_tup (n := 3) fun d hd => by
  simp only [List.mem_cons, List.not_mem_nil, or_false] at hd
  rcases hd with rfl | rfl | rfl
  · exact shn_int 3 _
  · exact (shn_tup (n := 1) fun d hd => by
      obtain ⟨f, _, rfl⟩ := List.mem_map.mp hd
      exact shn_fac f).mono (by decide)
  · exact shn_tup (n := 2) fun d hd => by
      obtain ⟨t, _, rfl⟩ := List.mem_map.mp hd
      exact shn_itm t
theorem shn_stm (m : Nat) (cs : List Cas) : Shn 6 (stmD m cs) := shn_tup (n := 5) fun d hd => by
  simp only [List.mem_cons, List.not_mem_nil, or_false] at hd
  rcases hd with rfl | rfl
  · exact shn_int 5 _
  · exact shn_tup (n := 4) fun d hd => by
      obtain ⟨c, _, rfl⟩ := List.mem_map.mp hd
      exact shn_cas c
theorem top_max {ns : List Int} {m d : Int} (h0 : ns ≠ []) (h1 : m ∈ ns) (h2 : ∀ y ∈ ns, y ≤ m) : topI ns d = m := by
  cases ns with
  | nil => exact (h0 rfl).elim
  | cons n r =>
    obtain ⟨a, b⟩ := fold_max r n
    show r.foldl max n = m
    have x := a m h1
    have y := h2 _ b
    omega
theorem d_law {K : Frag} {cl : Ad} {ks : List Int} : w_law K cl (c_is_case cl) c_is_statement (c_threshold cl) (c_names_used cl) c_draw c_law_right c_law_used c_law_spoiled_case c_law_at_bounds c_law_refuses c_law_no_many
    (some (.s (.list (ks.map PyData.int))) :: some .h :: List.replicate (N_law.length - 2) none) { nx := fun _ => False, rt := fun r => r = .s (.bool true) } := by
  unfold w_law
  walk_at "dy"
  refine ⟨rfl, fun m cs ok c1 c4 => ?_⟩
  have es : stmD m cs = .tuple [.int m, .tuple (cs.map casD)] := rfl
  have hm := ok.lm
  have lc : (cs.map casD).length = cs.length := List.length_map ..
  unfold w_law_t14
  rw [es]
  walk_at "dy"
  unfold w_law_t13
  walk_at "dy"
  refine ⟨_, rfl, ?_⟩
  rw [← es, stm_yes ok, es]
  walk_at "dy"
  refine lc_go (fun k => ((cs.take k).map fun _ => true).map PyData.bool) rfl (fun k d hd => ?_) ?_
  · obtain ⟨c, hc, rfl⟩ := map_at hd
    rw [gwN1]
    refine ⟨by simp, ?_⟩
    simp only [putA, wipeR, List.set_cons_succ, List.set_cons_zero]
    walk_at "dy"
    refine ⟨_, _, rfl, ?_⟩
    rw [if_pos (within_yes (by omega) (by omega)), show toI (.int (m : Int)) = (m : Int) from rfl, case_yes (ok.all c (List.mem_of_getElem? hc))]
    walk_at "dy"
    refine ⟨by rw [List.length_map, List.length_map, take_len_lt hc]; have := get_lt hc; omega, ?_⟩
    rw [take_succ_map (fun _ : Cas => true) hc, List.map_append]
    rfl
  · rw [lc, List.take_length]
    refine ⟨_, _, rfl, ?_⟩
    have ea : (cs.map fun _ => true).all id = true := by simp
    rw [ea]
    walk_at "dy"
    unfold w_law_t12
    walk_at "dy"
    refine ⟨_, rfl, .inr ⟨m, cs, rfl, ok, ?_⟩⟩
    walk_at "dy"
    unfold w_law_t11
    walk_at "dy"
    rw [if_neg (by simp [isB])]
    refine lc_go (fun k => ((cs.take k).map fun c => (c.h : Int)).map PyData.int) rfl (fun k d hd => ?_) ?_
    · obtain ⟨c, hc, rfl⟩ := map_at hd
      rw [gwN1]
      refine ⟨by simp, ?_⟩
      simp only [putA, wipeR, List.set_cons_succ, List.set_cons_zero]
      unfold casD
      walk_at "dy"
      refine ⟨by rw [List.length_map, List.length_map, take_len_lt hc]; have := get_lt hc; omega, ?_⟩
      rw [take_succ_map (fun c : Cas => (c.h : Int)) hc, List.map_append]
      rfl
    · rw [lc, List.take_length]
      have hne : (cs.map fun c => (c.h : Int)) ≠ [] := fun e => by
        have := congrArg List.length e
        rw [List.length_map] at this
        simp at this
        rw [this] at c1
        simp at c1
      refine ⟨_, _, rfl, hne, fun t h1 h2 => ?_⟩
      rw [top_max hne h1 h2]
      walk_at "dy"
      rw [show (2 : Int) + t = t + 2 by omega]
      rw [if_neg (by simp)]
      refine ⟨_, rfl, .inr ⟨m, [], rfl, ⟨hm, by simp, fun c hc => nomatch hc⟩, ?_⟩⟩
      rw [show topI (([] : List Cas).map fun c => (c.h : Int)) 0 + 2 = 2 from rfl]
      walk_at "dy"
      unfold w_law_t10
      walk_at "dy"
      refine ⟨_, rfl, .inr ⟨m, cs, rfl, ok, fun ns' hs => ?_⟩⟩
      rw [used_eq hs]
      refine ⟨m, cs, rfl, ok, ?_⟩
      walk_at "dy"
      refine ⟨(shn_ints _).sh (by decide), (shn_ints _).sh (by decide), ?_⟩
      rw [eqv_ints]
      walk_at "dy"
      unfold w_law_t9
      walk_at "dy"
      refine ⟨by omega, by omega, fun k k0 k1 => ?_⟩
      obtain ⟨k, rfl⟩ := Int.eq_ofNat_of_zero_le k0
      obtain ⟨c, ec⟩ : ∃ c, cs[k]? = some c := ⟨_, List.getElem?_eq_getElem (by omega)⟩
      have ecD : (cs.map casD)[k]? = some (casD c) := by rw [List.getElem?_map, ec]; rfl
      have okc := ok.all c (List.mem_of_getElem? ec)
      unfold w_law_t8
      walk_at "dy"
      refine ⟨_, atI_of rfl ecD, m, cs, c, rfl, hm, ?_⟩
      walk_at "dy"
      unfold w_law_t7
      walk_at "dy"
      refine ⟨by decide, by decide, by decide, ?_⟩
      refine for_go (fun i (ρ : Rho) => ∃ v5 v8 v9, ρ = [some (R.s (PyData.list (List.map PyData.int ks))), some R.h, some (R.s (PyData.tuple [PyData.int ↑m, PyData.tuple (List.map casD cs)])), some (R.s (PyData.int ↑m)),
        some (R.s (PyData.tuple (List.map casD cs))), v5, some (R.s (PyData.int (t + 2))), some (R.s (PyData.int ↑k)), v8, v9, none, none]) ⟨none, none, none, rfl⟩ ?_ ?_
      · rintro i d ρ hd ⟨v5, v8, v9, rfl⟩
        obtain ⟨rfl, hi⟩ := range0_at hd
        unfold w_law_b1
        walk_at "dy"
        refine ⟨_, atI_of rfl ecD, m, c, rfl, hm, okc, fun d hd => ?_⟩
        walk_at "dy"
        have b1 := cutD_len (cs.map casD) none (some (k : Int))
        have b2 := cutD_len (cs.map casD) (some ((k : Int) + 1)) none
        have no : ∀ x y : List D, isStm (.tuple [.int m, .tuple (x ++ [d] ++ y)]) = false := fun x y => by
          simp [isStm, allOf, toI, hd]
        refine ⟨by omega, by rw [List.length_append, List.length_singleton]; omega, ?_⟩
        refine ⟨_, d, rfl, ?_⟩
        rw [if_pos (within_yes (by omega) (by omega)), show toI (.int (m : Int)) = (m : Int) from rfl, hd]
        walk_at "dy"
        refine ⟨_, rfl, ?_⟩
        rw [no]
        walk_at "dy"
        refine ⟨_, rfl, no _ _, ?_⟩
        walk_at "dy"
        exact ⟨_, _, _, rfl, rfl, rfl⟩
      · rintro ρ ⟨v5, v8, v9, rfl⟩
        unfold w_law_t6
        walk_at "dy"
        unfold w_law_t5
        walk_at "dy"
        refine ⟨by decide, by decide, fun r r0 r1 => ?_⟩
        have odd : ∀ r : Int, 0 ≤ r → r < 8 → ∃ d, L2.atI [PyData.tuple [PyData.int 4, PyData.tuple (List.map casD cs)], PyData.tuple [PyData.bool true, PyData.tuple []], PyData.list [PyData.int ↑m, PyData.tuple (List.map casD cs)],
            PyData.tuple [PyData.int ↑m, PyData.list (List.map casD cs)], PyData.tuple [PyData.int ↑m], PyData.tuple [PyData.int ↑m, PyData.tuple (List.map casD cs), PyData.int 0], PyData.none, PyData.str "statement"] r = some d ∧ isStm d = false := fun r r0 r1 => by
          rcases (by omega : r = 0 ∨ r = 1 ∨ r = 2 ∨ r = 3 ∨ r = 4 ∨ r = 5 ∨ r = 6 ∨ r = 7) with rfl | rfl | rfl | rfl | rfl | rfl | rfl | rfl
          · exact ⟨_, rfl, by simp [isStm, within]⟩
          · exact ⟨_, rfl, by simp [isStm, within]⟩
          · exact ⟨_, rfl, rfl⟩
          · exact ⟨_, rfl, by simp [isStm, isRow]⟩
          · exact ⟨_, rfl, rfl⟩
          · exact ⟨_, rfl, rfl⟩
          · exact ⟨_, rfl, rfl⟩
          · exact ⟨_, rfl, rfl⟩
        obtain ⟨d, ed, hd⟩ := odd r r0 r1
        refine ⟨d, ed, ?_⟩
        unfold w_law_t4
        walk_at "dy"
        refine ⟨d, rfl, ?_⟩
        rw [hd]
        walk_at "dy"
        refine ⟨d, rfl, hd, ?_⟩
        walk_at "dy"
        unfold w_law_t3
        walk_at "dy"
        refine ⟨by decide, by decide, fun s s0 s1 => ?_⟩
        obtain ⟨a, ea, ha⟩ : ∃ a, L2.atI [PyData.int 4, PyData.int (-1), PyData.bool true, PyData.none, PyData.int 7] s = some a ∧ within a 0 3 = false := by
          rcases (by omega : s = 0 ∨ s = 1 ∨ s = 2 ∨ s = 3 ∨ s = 4) with rfl | rfl | rfl | rfl | rfl
          · exact ⟨_, rfl, rfl⟩
          · exact ⟨_, rfl, rfl⟩
          · exact ⟨_, rfl, rfl⟩
          · exact ⟨_, rfl, rfl⟩
          · exact ⟨_, rfl, rfl⟩
        refine ⟨a, ea, ?_⟩
        unfold w_law_t2
        walk_at "dy"
        refine ⟨_, atI_of rfl ecD, a, _, rfl, ha, ?_⟩
        walk_at "dy"
        rw [← es]
        trace_state
        exact ⟨(shn_stm m cs).sh (by decide), (shn_stm m cs).sh (by decide), eqv_self _ (shn_stm m cs).1⟩

local macro_rules | `(tactic| walk_at "hx") => `(tactic| (intro h; first | (obtain ⟨e, _⟩ := h; cases e; rfl) | (refine Or.elim h ?_ ?_ <;> walk_at "hx") | (obtain ⟨_, h1⟩ := h; revert h1; walk_at "hx")))
local macro_rules | `(tactic| walk_at "hl") => `(tactic| (intro rs Q E; walk_at "hx"))
theorem all_ok {P : Program} {wd : World} {K : Frag} {mg : Str → Option Value} {base : Heap} {cl : Ad} (T : Txt K mg cl) : FnOk P wd K mg base CX0 9 cl.f_law cl.d_law P_law (spLaw K) := by
  have G_law_draw := ok_law_draw (P := P) (wd := wd) (base := base) T
  have G_is_int := ok_is_int (P := P) (wd := wd) (base := base) T (k := 0) (by walk_at "hl") (d_is_int)
  have G_within := ok_within (P := P) (wd := wd) (base := base) T (k := 1) G_is_int (by decide) (by walk_at "hl") (d_within)
  have G_is_row := ok_is_row (P := P) (wd := wd) (base := base) T (k := 0) (by walk_at "hl") (d_is_row)
  have G_is_word := ok_is_word (P := P) (wd := wd) (base := base) T (k := 0) (by walk_at "hl") (d_is_word)
  have G_is_name_of := ok_is_name_of (P := P) (wd := wd) (base := base) T (k := 1) G_is_int (by decide) (by walk_at "hl") (d_is_name_of)
  have G_is_fact_of := ok_is_fact_of (P := P) (wd := wd) (base := base) T (k := 2) G_is_row (by decide) G_is_word (by decide) G_is_name_of (by decide) (by walk_at "hl") (d_is_fact_of)
  have G_is_item_of := ok_is_item_of (P := P) (wd := wd) (base := base) T (k := 2) G_is_row (by decide) G_is_word (by decide) G_is_name_of (by decide) (by walk_at "hl") (d_is_item_of)
  have G_is_case_of := ok_is_case_of (P := P) (wd := wd) (base := base) T (k := 3) G_within (by decide) G_is_row (by decide) G_is_fact_of (by decide) G_is_item_of (by decide) (by walk_at "hl") (d_is_case_of)
  have G_is_case := ok_is_case (P := P) (wd := wd) (base := base) T (k := 4) G_within (by decide) G_is_case_of (by decide) (by walk_at "hl") (d_is_case)
  have G_is_statement := ok_is_statement (P := P) (wd := wd) (base := base) T (k := 4) G_within (by decide) G_is_row (by decide) G_is_case_of (by decide) (by walk_at "hl") (d_is_statement)
  have G_need_statement := ok_need_statement (P := P) (wd := wd) (base := base) T (k := 5) G_is_statement (by decide) (by walk_at "hl") (d_need_statement)
  have G_outs_in := ok_outs_in (P := P) (wd := wd) (base := base) T (k := 0) (by walk_at "hl") (d_outs_in)
  have G_most_hidden := ok_most_hidden (P := P) (wd := wd) (base := base) T (k := 0) (by walk_at "hl") (d_most_hidden)
  have G_threshold_in := ok_threshold_in (P := P) (wd := wd) (base := base) T (k := 1) G_most_hidden (by decide) (by walk_at "hl") (d_threshold_in)
  have G_threshold := ok_threshold (P := P) (wd := wd) (base := base) T (k := 6) G_need_statement (by decide) G_threshold_in (by decide) (by walk_at "hl") (d_threshold)
  have G_names_in := ok_names_in (P := P) (wd := wd) (base := base) T (k := 1) G_outs_in (by decide) (by walk_at "hl") (d_names_in)
  have G_names_used := ok_names_used (P := P) (wd := wd) (base := base) T (k := 6) G_need_statement (by decide) G_names_in (by decide) (by walk_at "hl") (d_names_used)
  have G_law_name := ok_law_name (P := P) (wd := wd) (base := base) T (k := 1) G_law_draw (by decide) (by walk_at "hl") (d_law_name)
  have G_law_fact := ok_law_fact (P := P) (wd := wd) (base := base) T (k := 2) G_law_draw (by decide) G_law_name (by decide) (by walk_at "hl") (d_law_fact)
  have G_law_item := ok_law_item (P := P) (wd := wd) (base := base) T (k := 2) G_law_draw (by decide) G_law_name (by decide) (by walk_at "hl") (d_law_item)
  have G_law_case := ok_law_case (P := P) (wd := wd) (base := base) T (k := 3) G_law_draw (by decide) G_law_fact (by decide) G_law_item (by decide) (by walk_at "hl") (d_law_case)
  have G_law_outs := ok_law_outs (P := P) (wd := wd) (base := base) T (k := 0) (by walk_at "hl") (d_law_outs)
  have G_law_right := ok_law_right (P := P) (wd := wd) (base := base) T (k := 4) G_law_draw (by decide) G_law_case (by decide) (by walk_at "hl") (d_law_right)
  have G_law_used := ok_law_used (P := P) (wd := wd) (base := base) T (k := 1) G_law_outs (by decide) (by walk_at "hl") (d_law_used)
  have G_law_spoiled_item := ok_law_spoiled_item (P := P) (wd := wd) (base := base) T (k := 2) G_law_draw (by decide) G_law_name (by decide) (by walk_at "hl") (d_law_spoiled_item)
  have G_law_spoiled_fact := ok_law_spoiled_fact (P := P) (wd := wd) (base := base) T (k := 2) G_law_draw (by decide) G_law_name (by decide) (by walk_at "hl") (d_law_spoiled_fact)
  have G_law_spoiled_case := ok_law_spoiled_case (P := P) (wd := wd) (base := base) T (k := 3) G_law_draw (by decide) G_law_spoiled_item (by decide) G_law_spoiled_fact (by decide) (by walk_at "hl") (d_law_spoiled_case)
  have G_law_at_bounds := ok_law_at_bounds (P := P) (wd := wd) (base := base) T (k := 5) G_is_case (by decide) G_is_statement (by decide) (by walk_at "hl") (d_law_at_bounds)
  have G_law_refuses := ok_law_refuses (P := P) (wd := wd) (base := base) T (k := 7) G_threshold (by decide) G_names_used (by decide) (by walk_at "hl") (d_law_refuses T)
  have G_law_no_many := ok_law_no_many (P := P) (wd := wd) (base := base) T (k := 5) G_is_case (by decide) (by walk_at "hl") (d_law_no_many T)
  exact ok_law (P := P) (wd := wd) (base := base) T (k := 8) (by decide) G_is_case (by decide) G_is_statement (by decide) G_threshold (by decide) G_names_used (by decide) G_law_draw (by decide) G_law_right (by decide) G_law_used (by decide) G_law_spoiled_case (by decide) G_law_at_bounds (by decide) G_law_refuses (by decide) G_law_no_many (by decide) (fun _ _ => d_law)
theorem all_mk {P : Program} {wd : World} {K : Frag} {mg : Str → Option Value} {cl : Ad} (e : cl.f_law = cl.f_law) (T : Txt K mg cl) {fa : Addr} (hfa : mg "law" = some (.ref fa)) :
    ∃ fd : FuncData, (∀ (s : Shared) (v : Value), BindsTo s fd ⟨[v], []⟩ [("script", v)]) ∧ ∀ base : Heap, K.In base → base.Ns mainGlobals mg → FnOk P wd K mg base CX0 9 fa fd ["script"] (spLaw K) := by
  have z := hfa.symm.trans T.m_law
  cases z
  refine ⟨cl.d_law, ?_, fun base _ _ => all_ok T⟩
  obtain ⟨⟨_, _, _, _, _, _, _, _, _, e, _⟩, _⟩ := T.F_law
  rw [e]
  exact fun s v => .of_eq rfl
theorem walk {l : PySem.W.OpenLaw} {q : Program} {loose : List Str} {XP : (Str → Option Value) → Heap → Prop} {YP : World → Heap → Prop} {d : DefRec} {K : Params → PySem.W.Frag} (hn : l.most = some 63) (hdf : d.params.defaults = [])
    (hY : ∀ (w : World) (h : Heap), YP w h → (K w.params).In h)
    (F : ∀ (w : World) (mg : Str → Option Value) (fa : Addr) (h : Heap), (K w.params).In h → h.Ns mainGlobals mg → mg d.name = some (.ref fa) →
      ∃ fd : FuncData, (∀ (s : Shared) (u : Value), BindsTo s fd ⟨[u], []⟩ [("script", u)]) ∧ ∀ base : Heap, (K w.params).In base → base.Ns mainGlobals mg → FnOk l.prog w (K w.params) mg base CX0 9 fa fd ["script"] (spLaw (K w.params))) :
    PySem.W.WalkO q loose XP YP l.row.toRowW d [] (fun f vs => PySem.call f vs) :=
  L2.walk_of (n := 63) (k := 9) (x := "script") (CX := fun _ => CX0) (sp := fun w => spLaw (K w.params)) hn (by decide) hdf ⟨rfl, by decide, by decide⟩ hY F (fun _ _ a ns hl _ hS => ⟨a, ns, rfl, hS, hl, fun _ => rfl⟩) fun _ _ _ _ _ z => z

end LK
open PySem PySem.W PyProof.Rows in
set_option maxRecDepth 100000 in
set_option maxHeartbeats 0 in
theorem PySem.Challenge.cw_heapsworn_k12_statements_judged_holds : PySem.Challenge.rw_heapsworn_k12_statements_judged.Holds := by
  w_on; o_law; k_head; (case hw => w_witness2)
  k_fill
  refine LK.walk (l := PySem.Challenge.rw_heapsworn_k12_statements_judged) rfl rfl (fun w h Y => PySem.W.kIn_of Y) ?F
  case F =>
    intro w mg fa h KX G hmg
    refine' LK.all_mk rfl (LK.txt_mk KX G ?g_HeapError ?x_HeapError ?k_HeapError ?s_HeapError ?t_HeapError ?g_BadMany ?x_BadMany ?k_BadMany ?s_BadMany ?t_BadMany ?g_BadStatement ?x_BadStatement ?k_BadStatement ?s_BadStatement ?t_BadStatement ?e_HeapError_BadMany ?e_HeapError_BadStatement ?e_BadMany_BadMany ?e_BadMany_BadStatement ?e_BadStatement_BadMany ?e_BadStatement_BadStatement ?m_is_int ?F_is_int ?m_within ?F_within ?m_is_row ?F_is_row ?m_is_word ?F_is_word ?m_is_name_of ?F_is_name_of ?m_is_fact_of ?F_is_fact_of ?m_is_item_of ?F_is_item_of ?m_is_case_of ?F_is_case_of ?m_is_case ?F_is_case ?m_is_statement ?F_is_statement ?m_need_statement ?F_need_statement ?m_outs_in ?F_outs_in ?m_most_hidden ?F_most_hidden ?m_threshold_in ?F_threshold_in ?m_threshold ?F_threshold ?m_names_in ?F_names_in ?m_names_used ?F_names_used ?m_law_source ?F_law_source ?m_law_draw ?F_law_draw ?m_law_name ?F_law_name ?m_law_fact ?F_law_fact ?m_law_item ?F_law_item ?m_law_case ?F_law_case ?m_law_outs ?F_law_outs ?m_law_right ?F_law_right ?m_law_used ?F_law_used ?m_law_spoiled_item ?F_law_spoiled_item ?m_law_spoiled_fact ?F_law_spoiled_fact ?m_law_spoiled_case ?F_law_spoiled_case ?m_law_at_bounds ?F_law_at_bounds ?m_law_refuses ?F_law_refuses ?m_law_no_many ?F_law_no_many ?m_law ?F_law ?n_all ?n_bool ?n_int ?n_isinstance ?n_len ?n_list ?n_max ?n_range ?n_sorted ?n_str ?n_tuple ?v_MOST_CASES ?v_MOST_FACTS ?v_MOST_HIDDEN ?v_MOST_ITEMS ?v_MOST_OUTS ?v_MOST_VARIABLES) hmg
    (case g_HeapError => k_is)
    (case x_HeapError => k_exc)
    (case k_HeapError => k_is)
    (case s_HeapError => k_is)
    (case t_HeapError => k_is)
    (case g_BadMany => k_is)
    (case x_BadMany => k_exc)
    (case k_BadMany => k_is)
    (case s_BadMany => k_is)
    (case t_BadMany => k_is)
    (case g_BadStatement => k_is)
    (case x_BadStatement => k_exc)
    (case k_BadStatement => k_is)
    (case s_BadStatement => k_is)
    (case t_BadStatement => k_is)
    (case e_HeapError_BadMany => first | rfl | k_is)
    (case e_HeapError_BadStatement => first | rfl | k_is)
    (case e_BadMany_BadMany => first | rfl | k_is)
    (case e_BadMany_BadStatement => first | rfl | k_is)
    (case e_BadStatement_BadMany => first | rfl | k_is)
    (case e_BadStatement_BadStatement => first | rfl | k_is)
    (case m_is_int => k_is)
    (case F_is_int => (refine' L2.fun_mk ?l ?c ?k; (case l => k_is); (case c => k_is); (case k => k_is)))
    (case m_within => k_is)
    (case F_within => (refine' L2.fun_mk ?l ?c ?k; (case l => k_is); (case c => k_is); (case k => k_is)))
    (case m_is_row => k_is)
    (case F_is_row => (refine' L2.fun_mk ?l ?c ?k; (case l => k_is); (case c => k_is); (case k => k_is)))
    (case m_is_word => k_is)
    (case F_is_word => (refine' L2.fun_mk ?l ?c ?k; (case l => k_is); (case c => k_is); (case k => k_is)))
    (case m_is_name_of => k_is)
    (case F_is_name_of => (refine' L2.fun_mk ?l ?c ?k; (case l => k_is); (case c => k_is); (case k => k_is)))
    (case m_is_fact_of => k_is)
    (case F_is_fact_of => (refine' L2.fun_mk ?l ?c ?k; (case l => k_is); (case c => k_is); (case k => k_is)))
    (case m_is_item_of => k_is)
    (case F_is_item_of => (refine' L2.fun_mk ?l ?c ?k; (case l => k_is); (case c => k_is); (case k => k_is)))
    (case m_is_case_of => k_is)
    (case F_is_case_of => (refine' L2.fun_mk ?l ?c ?k; (case l => k_is); (case c => k_is); (case k => k_is)))
    (case m_is_case => k_is)
    (case F_is_case => (refine' L2.fun_mk ?l ?c ?k; (case l => k_is); (case c => k_is); (case k => k_is)))
    (case m_is_statement => k_is)
    (case F_is_statement => (refine' L2.fun_mk ?l ?c ?k; (case l => k_is); (case c => k_is); (case k => k_is)))
    (case m_need_statement => k_is)
    (case F_need_statement => (refine' L2.fun_mk ?l ?c ?k; (case l => k_is); (case c => k_is); (case k => k_is)))
    (case m_outs_in => k_is)
    (case F_outs_in => (refine' L2.fun_mk ?l ?c ?k; (case l => k_is); (case c => k_is); (case k => k_is)))
    (case m_most_hidden => k_is)
    (case F_most_hidden => (refine' L2.fun_mk ?l ?c ?k; (case l => k_is); (case c => k_is); (case k => k_is)))
    (case m_threshold_in => k_is)
    (case F_threshold_in => (refine' L2.fun_mk ?l ?c ?k; (case l => k_is); (case c => k_is); (case k => k_is)))
    (case m_threshold => k_is)
    (case F_threshold => (refine' L2.fun_mk ?l ?c ?k; (case l => k_is); (case c => k_is); (case k => k_is)))
    (case m_names_in => k_is)
    (case F_names_in => (refine' L2.fun_mk ?l ?c ?k; (case l => k_is); (case c => k_is); (case k => k_is)))
    (case m_names_used => k_is)
    (case F_names_used => (refine' L2.fun_mk ?l ?c ?k; (case l => k_is); (case c => k_is); (case k => k_is)))
    (case m_law_source => k_is)
    (case F_law_source => (refine' L2.fun_mk ?l ?c ?k; (case l => k_is); (case c => k_is); (case k => k_is)))
    (case m_law_draw => k_is)
    (case F_law_draw => (refine' L2.fun_mk ?l ?c ?k; (case l => k_is); (case c => k_is); (case k => k_is)))
    (case m_law_name => k_is)
    (case F_law_name => (refine' L2.fun_mk ?l ?c ?k; (case l => k_is); (case c => k_is); (case k => k_is)))
    (case m_law_fact => k_is)
    (case F_law_fact => (refine' L2.fun_mk ?l ?c ?k; (case l => k_is); (case c => k_is); (case k => k_is)))
    (case m_law_item => k_is)
    (case F_law_item => (refine' L2.fun_mk ?l ?c ?k; (case l => k_is); (case c => k_is); (case k => k_is)))
    (case m_law_case => k_is)
    (case F_law_case => (refine' L2.fun_mk ?l ?c ?k; (case l => k_is); (case c => k_is); (case k => k_is)))
    (case m_law_outs => k_is)
    (case F_law_outs => (refine' L2.fun_mk ?l ?c ?k; (case l => k_is); (case c => k_is); (case k => k_is)))
    (case m_law_right => k_is)
    (case F_law_right => (refine' L2.fun_mk ?l ?c ?k; (case l => k_is); (case c => k_is); (case k => k_is)))
    (case m_law_used => k_is)
    (case F_law_used => (refine' L2.fun_mk ?l ?c ?k; (case l => k_is); (case c => k_is); (case k => k_is)))
    (case m_law_spoiled_item => k_is)
    (case F_law_spoiled_item => (refine' L2.fun_mk ?l ?c ?k; (case l => k_is); (case c => k_is); (case k => k_is)))
    (case m_law_spoiled_fact => k_is)
    (case F_law_spoiled_fact => (refine' L2.fun_mk ?l ?c ?k; (case l => k_is); (case c => k_is); (case k => k_is)))
    (case m_law_spoiled_case => k_is)
    (case F_law_spoiled_case => (refine' L2.fun_mk ?l ?c ?k; (case l => k_is); (case c => k_is); (case k => k_is)))
    (case m_law_at_bounds => k_is)
    (case F_law_at_bounds => (refine' L2.fun_mk ?l ?c ?k; (case l => k_is); (case c => k_is); (case k => k_is)))
    (case m_law_refuses => k_is)
    (case F_law_refuses => (refine' L2.fun_mk ?l ?c ?k; (case l => k_is); (case c => k_is); (case k => k_is)))
    (case m_law_no_many => k_is)
    (case F_law_no_many => (refine' L2.fun_mk ?l ?c ?k; (case l => k_is); (case c => k_is); (case k => k_is)))
    (case m_law => k_is)
    (case F_law => (refine' L2.fun_mk ?l ?c ?k; (case l => k_is); (case c => k_is); (case k => k_is)))
    (case n_all => k_is)
    (case n_bool => k_is)
    (case n_int => k_is)
    (case n_isinstance => k_is)
    (case n_len => k_is)
    (case n_list => k_is)
    (case n_max => k_is)
    (case n_range => k_is)
    (case n_sorted => k_is)
    (case n_str => k_is)
    (case n_tuple => k_is)
    (case v_MOST_CASES => k_is)
    (case v_MOST_FACTS => k_is)
    (case v_MOST_HIDDEN => k_is)
    (case v_MOST_ITEMS => k_is)
    (case v_MOST_OUTS => k_is)
    (case v_MOST_VARIABLES => k_is)
