import PyProof.Rows.All
import Wide.All
import OpenK.AllK
import Wide.FinOn
import PySem.Challenge.RW_temperworks_k70_whole_scales
import HandS.ForMost
import HandS.Wide
import HandS.Zip
import HandS.IsInst
import HandS.Deep
import HandS.TupMul
import HandS.Walk
import HandS.Codes
set_option Elab.async false
set_option linter.all false
set_option maxRecDepth 100000
set_option maxHeartbeats 4000000
/-! Rules that the layer lacks: bool less bool, a tuple times one, slices of tuples backward, a star in a display. -/
namespace Tw8
open PySem PySem.Spec PyProof.Rows L2
section
variable {X : Cx}
theorem op_sub_bb : OpR X (binaryOp .Sub) (fun x y H Q => ∃ a b, x = .bl a ∧ y = .bl b ∧ Q (.int (b2i a - b2i b)) H) := by
  intro pins s σ H x y v u Q I rx ry h
  obtain ⟨a, b, rfl, rfl, q⟩ := h
  cases rx
  cases ry
  exact PyProof.Rows.sub_bool ⟨.int _, H, I.tok _, ⟨_, rfl⟩, q⟩
end
/-! ### a tuple times one is itself -/
theorem tuple_mul1 (l : Addr) (items : Array Value) (n : Nat) (dd : Option Addr) (sl : Array (Option Value)) (u : Tok) :
    Meets (Builtin.«tuple.__mul__» ⟨[.ref l, .int 1 u], []⟩) (fun _ R s => s.heap.get? l = some { cls := .type "tuple", dict := dd, data := .seq items n, slots := sl } ∧ R (.ok (.ret (Value.ref l))) s) :=
  .of_wp fun prog w A R s h => by
    obtain ⟨hp, g, d, tk, os⟩ := s
    obtain ⟨hl, h⟩ := h
    have f1 := AutoSeq1.idx_int
    have c1 : (items.isEmpty || (1 : Int) == 1) = true := by simp
    wp_walk using wpAny_loadPart' hl
    exact ⟨_, rfl, h⟩
/-- t * k, t not empty, k from 1: k = 1 gives t itself -/
def rRepA (K : PySem.W.Frag) : R2 := fun x y H Q => ∃ l k xs, x = .ref l ∧ y = .int k ∧ SqT K H l xs ∧ xs ≠ [] ∧ 1 ≤ k ∧ k ≤ 1000 ∧ xs.length ≤ 1000 ∧ (k = 1 → Q (.ref l) H) ∧
  (k ≠ 1 → ∀ p, H p = none → Q (.ref p) (upd H p (.tup (List.replicate k.toNat xs).flatten)))
section
variable {X : Cx}
theorem op_repA (K : PySem.W.Frag) (hK : X.K = K) : OpR X (binaryOp .Mult) (rRepA K) := by
  subst hK
  intro pins s σ H x y v u Q I rx ry h
  obtain ⟨l, k, xs, rfl, rfl, hT, hne, h1, h2, hz, q1, q2⟩ := h
  by_cases hk : k = 1
  · subst hk
    cases rx
    obtain ⟨t, rfl⟩ := ry
    obtain ⟨its, _, ⟨⟨cl, dd, dat, sl⟩, ho, hc, n, hd⟩, _⟩ := I.tuple hT
    simp only at hc hd
    subst hc hd
    exact wpAny_binaryOp_repeat_ref (T := "tuple") (U := "int") (by decide) ⟨_, ho, rfl⟩ (fun s' => typeIs_int s' 1 t) noFill_tuple_mul F.fills_int_mul F.slot_int_rmul repeat_tuple F.slot_int_index.lookup
      (call_meets F.slot_int_rmul (typeIs_int s 1 t) F.entry_int_rmul (F.args_int_rmul_2 _ _) (int_rmul_tuple 1 t l its.toArray n dd sl)
        ⟨ho, rfl, ⟨_, ho, rfl⟩, call_meets F.slot_tuple_mul ⟨_, ho, rfl⟩ F.entry_tuple_mul (F.args_tuple_mul_2 _ _) (tuple_mul1 l its.toArray n dd sl t) ⟨ho, ⟨.ref l, H, I, rfl, q1 rfl⟩⟩⟩)
  · exact op_repT pins s σ H _ _ v u Q I rx ry ⟨l, k, xs, rfl, rfl, hT, hne, by omega, h2, hz, q2 hk⟩
end
/-! ### slices backward -/
theorem pick_back (xs : List Value) (m : Nat) (hm : m ≤ xs.length) : ((List.range m).filterMap fun (k : Nat) => xs.toArray[(((xs.length : Int) - 1) + (k : Int) * (-1)).toNat]?) = xs.reverse.take m := by
  induction m with
  | zero => rfl
  | succ m ih =>
    rw [List.range_succ, List.filterMap_append, ih (by omega), List.take_add_one]
    congr 1
    have e : (((xs.length : Int) - 1) + (m : Int) * (-1)).toNat = xs.length - 1 - m := by omega
    rw [List.filterMap_cons, List.filterMap_nil, e]
    have h1 : m < xs.length := by omega
    rw [List.getElem?_reverse h1]
    simp only [List.getElem?_toArray]
    cases xs[xs.length - 1 - m]? <;> rfl
section
variable {prog : Program} {w : World} {A : Around} {E : Value → Shared → Prop} {s : Shared}
theorem places_back (n m : Nat) : Builtin.Slice.slicePlaces ((n : Int) - 1) ((n : Int) - 1 - m) (-1) = m := by
  have up : ¬ ((-1 : Int) > 0) := by omega
  simp only [Builtin.Slice.slicePlaces, up, if_false, show (-(-1) : Int) = 1 by omega, Int.ediv_one]
  split <;> omega
/-- the places that a slice object -1 by -1 tells, m of n, from the last one on -/
theorem applied_back {c : Addr} {vu : Value} {k : Tok} {hi : Option Int} {n m : Nat} {Q : Int × Int × Nat → Shared → Prop} (hc : s.heap.IsSliceOf c .none vu (.int (-1) k)) (pu : PySem.IsPart vu hi)
    (e : Builtin.Slice.sliceAdjust none hi (-1) (n : Int) = ((n : Int) - 1, (n : Int) - 1 - m)) (h : Q ((n : Int) - 1, -1, m) s) :
    wpAny (model prog w) A (Builtin.Slice.sliceApplied (.ref c) (pure (n : Int))) Q E s := by
  obtain ⟨o, at_c, _, fs⟩ := hc
  have last : wpAny (model prog w) A (pure (((n : Int) - 1), (-1 : Int), Builtin.Slice.slicePlaces ((n : Int) - 1) ((n : Int) - 1 - m) (-1))) Q E s := by
    rw [places_back]
    exact wpAny_pure h
  have rest : wpAny (model prog w) A (match Builtin.Slice.sliceAdjust none hi (-1) (n : Int) with | (lo, hi) => pure (lo, (-1 : Int), Builtin.Slice.slicePlaces lo hi (-1))) Q E s := by
    rw [e]
    exact last
  unfold Builtin.Slice.sliceApplied
  unfold Builtin.Slice.sliceFields
  refine wpAny_bind (wpAny_bind (wpAny_field at_c fs (x := .none) rfl (wpAny_bind (wpAny_field at_c fs (x := vu) rfl (wpAny_bind (wpAny_field at_c fs (x := .int (-1) k) rfl (wpAny_pure (wpAny_bind (slicePart_int ?_)))))))))
  exact wpAny_ite_false (by decide) (wpAny_bind (slicePart_none (wpAny_bind (HT.slicePart_ pu (wpAny_bind (wpAny_pure rest))))))
/-- the last m items of a tuple, from behind -/
theorem item_back {t c : Addr} {us : List Value} {vu : Value} {k : Tok} {hi : Option Int} {m : Nat} {Q : Value → Shared → Prop} (ht : IsTup s.heap t us.toArray) (hc : s.heap.IsSliceOf c .none vu (.int (-1) k)) (pu : PySem.IsPart vu hi)
    (hm : m ≤ us.length) (e : Builtin.Slice.sliceAdjust none hi (-1) (us.length : Int) = ((us.length : Int) - 1, (us.length : Int) - 1 - m))
    (h : Q (.ref s.heap.objs.size) { s with heap := s.heap.push { cls := .type "tuple", data := .seq (us.reverse.take m).toArray } })
    (fit : us.length ≤ sizeLine) : wpAny (model prog w) A (getItem (.ref t) (.ref c)) Q E s := by
  have fits : sizeOk (.seq (us.reverse.take m).toArray) := by
    have z : (us.reverse.take m).length ≤ sizeLine := by
      rw [List.length_take, List.length_reverse]
      omega
    simpa [sizeOk] using z
  have isSlice : s.TypeIs (.ref c) "slice" := by
    obtain ⟨o, x1, x2, _⟩ := hc
    exact ⟨o, x1, x2⟩
  have whole : ¬ ((((us.length : Int) - 1) == 0 && (-1 : Int) == 1 && m == us.toArray.size) = true) := by simp
  unfold getItem
  refine wpAny_holding (wpAny_bind (wpAny_sequenceKey ht.typeIs (by decide) (wpAny_bind (wpAny_callSpecial?_slot (name := Str.ofString "__getitem__") ht.typeIs PyProof.Rows.slot_tuple_getitem
    (wpAny_call_entry PyProof.Rows.slot_tuple_getitem ht.typeIs entry_tuple_getitem (wpAny_bind (m := Builtin.Tuple.tupleItemsOf (.ref t)) (tupleItemsOf_ ht ?body)) (args_tuple_getitem _ _))))))
  case body =>
    refine wpAny_bind (wpAny_typeOf isSlice (wpAny_ite_true (by decide) (wpAny_bind (applied_back (n := us.length) (m := m) hc pu e (wpAny_ite_false (decide_eq_false whole) ?_)))))
    rw [pick_back us m hm]
    exact wpAny_bind (m := Builtin.Tuple.tupleExact _) (wpAny_newObj_type (wpAny_pure ⟨_, rfl, wpAny_pure h⟩) fits)
end
theorem adj_all (n : Nat) : Builtin.Slice.sliceAdjust none none (-1) (n : Int) = ((n : Int) - 1, (n : Int) - 1 - n) := by
  unfold Builtin.Slice.sliceAdjust
  simp
  omega
theorem adj_zero (n : Nat) (h : 1 ≤ n) : Builtin.Slice.sliceAdjust none (some 0) (-1) (n : Int) = ((n : Int) - 1, (n : Int) - 1 - (n - 1 : Nat)) := by
  unfold Builtin.Slice.sliceAdjust
  simp
  omega
section
variable {X : Cx}
/-- t[:hi:-1] of a tuple of the kind C, hi a part that gives o: what g says -/
def tBack (K : PySem.W.Frag) (o : Option Int) (C : List V → Prop) (g : List V → List V) (te : TE) (th : TO) : TE := fun σ H Q => te σ H fun x H1 => th σ H1 fun u H2 => u = o ∧ ∃ a xs, x = .ref a ∧ SqT K H2 a xs ∧ C xs ∧ ∀ p, H2 p = none → Q (.ref p) (upd H2 p (.tup (g xs)))
theorem pe_back {e : Expr} {hi : Option Expr} {te : TE} {th : TO} {k : Nat} {p1 p2 p3 pos : Pos} (K : PySem.W.Frag) (hK : X.K = K) {o : Option Int} {C : List V → Prop} {g : List V → List V} (he : PE X e te) (hh : PO X hi th)
    (hg : ∀ xs, C xs → ∃ m, m ≤ xs.length ∧ g xs = xs.reverse.take m ∧ Builtin.Slice.sliceAdjust none o (-1) (xs.length : Int) = ((xs.length : Int) - 1, (xs.length : Int) - 1 - m)) :
    PE X (.Subscript e (.Slice none hi (some (.UnaryOp .USub (.Constant (.int 1) k p1) p2)) p3) pos) (tBack K o C g te th) := by
  subst hK
  have minus1 : PO X (some (.UnaryOp .USub (.Constant (.int 1) k p1) p2)) _ := po_some (pe_un un_neg pe_int)
  refine ⟨fun pins s σ H Q I h => Subscript_ (thn (he.run pins s σ H _ I h) fun v sA ⟨x, HA, IA, rA, qA⟩ => wpAny_Slice (thn (po_none.run pins sA σ HA (fun u HB => u = none ∧ HB = HA) IA ⟨rfl, rfl⟩) fun v1 sB ⟨_, _, IB, k1, eB1, eB2⟩ => ?_))⟩
  subst eB1 eB2
  refine thn (hh.run pins sB σ _ _ IB qA) fun v2 sC ⟨u, HC, IC, k2, eu, a, xs, ex, hx, hC, q⟩ => ?_
  subst eu ex
  refine thn (minus1.run pins sC σ HC (fun u HD => u = some (-1) ∧ HD = HC) IC ⟨1, rfl, -1, rfl, rfl, rfl⟩) fun v3 sD ⟨_, _, ID, k3, eD1, eD2⟩ => ?_
  subst eD1 eD2
  cases rA
  cases k1
  obtain ⟨tk, rfl⟩ : ∃ tk, v3 = .int (-1) tk := by
    cases k3 with
    | int _ t => exact ⟨t, rfl⟩
  obtain ⟨m, hm, eg, ea⟩ := hg xs hC
  generalize hobj : ({ cls := .type "slice", data := .fields #[.none, v2, .int (-1) tk] } : Obj) = ob
  have IE : Inv X pins σ _ { sD with heap := sD.heap.push ob } := ID.kept (t' := sD.toks) fun b w q => Heap.get?_push_of_some _ q
  obtain ⟨us, r, ht, hz⟩ := IE.tuple hx
  have hlen : xs.length = us.length := r.length
  rw [hlen] at hm ea
  refine tail_any (ops := [.ref a, .ref sD.heap.objs.size]) ht.typeIs PyProof.Rows.slot_tuple_getitem.lookup (item_back (m := m) (k := tk) ht ?_ k2 hm ea ?_ (by omega)) (by with_unfolding_all rfl)
  · subst hobj
    exact Heap.IsSliceOf.new ..
  · refine ⟨.ref _, _, IE.laid (t' := sD.toks) (o := .tup (g xs)) (fun b w q => Heap.get?_push_of_some _ q) (Nat.le_refl _) ?_, rfl, q _ (IE.hok.fresh (Nat.le_refl _))⟩
    rw [eg]
    exact ⟨by rw [List.length_take, List.length_reverse]; omega, _, r.reverse.take m, IsTup.new _ _⟩
theorem pe_revT {e : Expr} {te : TE} {k : Nat} {p1 p2 p3 pos : Pos} (K : PySem.W.Frag) (hK : X.K = K) (he : PE X e te) : PE X (.Subscript e (.Slice none none (some (.UnaryOp .USub (.Constant (.int 1) k p1) p2)) p3) pos) (tBack K none (fun _ => True) List.reverse te tNoPart) :=
  pe_back K hK he po_none fun xs _ => ⟨xs.length, Nat.le_refl _, (List.take_of_length_le (by rw [List.length_reverse]; omega)).symm, adj_all _⟩
theorem pe_revT0 {e : Expr} {te : TE} {k k0 : Nat} {p0 p1 p2 p3 pos : Pos} (K : PySem.W.Frag) (hK : X.K = K) (he : PE X e te) : PE X (.Subscript e (.Slice none (some (.Constant (.int 0) k0 p0)) (some (.UnaryOp .USub (.Constant (.int 1) k p1) p2)) p3) pos) (tBack K (some 0) (fun xs => xs ≠ []) (fun xs => (xs.drop 1).reverse) te (tPart (tC (.int 0)))) :=
  pe_back K hK he (po_some pe_int) fun xs hx => ⟨xs.length - 1, Nat.sub_le _ _, List.reverse_drop .., adj_zero _ (List.length_pos_iff.mpr hx)⟩
/-! ### a star in a display -/
def tStar (K : PySem.W.Frag) (te : TE) (tr : TA) : TA := fun σ H Q => te σ H fun x H1 => ∃ a xs, x = .ref a ∧ SqL K H1 a xs ∧ tr σ H1 fun ys H2 => Q (xs ++ ys) H2
theorem pa_star {e : Expr} {es : List Expr} {te : TE} {t : TA} {p : Pos} (K : PySem.W.Frag) (hK : X.K = K) (ha : PE X e te) (hr : PA X es t) : PA X (.Starred e p :: es) (tStar K te t) := by
  subst hK
  refine ⟨fun pos pins s σ H Q I h => ?_⟩
  refine PySem.W.items_star (thn (ha.run pins s σ H _ I h) fun u s1 ⟨x, H1, I1, r1, a, xs, ex, hx, q⟩ => ?_)
  subst ex
  cases r1
  obtain ⟨its, r, pl, hz⟩ := I1.list hx
  have hT : s1.TypeIs (.ref a) "list" := pl.isList.typeIs
  unfold PySem.W.StarOf PySem.notIterableAtAll
  refine wpAny_bind (wpAny_specialOf hT PySem.F.slot_list_iter.lookup (wpAny_pure ⟨rfl, ?_⟩))
  obtain ⟨o, n, ho, hc, hdd, hd⟩ := pl
  refine wpAny_collect_seq a (.inl rfl) ho hc hd (fun h' hk => ?_) (by rw [List.size_toArray, ← r.length]; exact hz)
  exact thn (hr.run pos pins { s1 with heap := h' } σ H1 _ (I1.kept (t' := s1.toks) hk) q) fun us s2 ⟨ys, H2, I3, r2, q2⟩ => ⟨xs ++ ys, H2, I3, r.append r2, q2⟩
end
end Tw8
set_option linter.all false
/-! Intervals by exponents: their size as a natural number, order, uniqueness. -/
namespace Tw
def up : List Nat → List Int → Nat
  | p :: ps, e :: es => p ^ e.toNat * up ps es
  | _, _ => 1
def dn : List Nat → List Int → Nat
  | p :: ps, e :: es => p ^ (-e).toNat * dn ps es
  | _, _ => 1
/-- the size, every exponent a thousand more -/
def sz : List Nat → List Int → Nat
  | p :: ps, e :: es => p ^ (e + 1000).toNat * sz ps es
  | _, _ => 1
def sub (e f : List Int) : List Int := List.zipWith (fun a b => a - b) e f
def add (e f : List Int) : List Int := List.zipWith (fun a b => a + b) e f
def neg (e : List Int) : List Int := e.map fun a => 0 - a
def zer (n : Nat) : List Int := List.replicate n 0
def oct (n : Nat) : List Int := 1 :: List.replicate (n - 1) 0
def Bd (B : Int) (e : List Int) : Prop := ∀ x ∈ e, -B ≤ x ∧ x ≤ B
def Pr (p : Nat) : Prop := p = 2 ∨ p = 3 ∨ p = 5 ∨ p = 7 ∨ p = 11 ∨ p = 13
structure Lim (ps : List Nat) : Prop where
  l2 : 2 ≤ ps.length
  l5 : ps.length ≤ 5
  mem : ∀ p ∈ ps, Pr p
  asc : ps.Pairwise (· < ·)

theorem Pr.two {p : Nat} (h : Pr p) : 2 ≤ p := by unfold Pr at h; omega
theorem Pr.le {p : Nat} (h : Pr p) : p ≤ 13 := by unfold Pr at h; omega
theorem Pr.pos {p : Nat} (h : Pr p) : 0 < p := by unfold Pr at h; omega
theorem Bd.mono {B C : Int} {e : List Int} (h : Bd B e) (hc : B ≤ C) : Bd C e := fun x hx => by
  have := h x hx
  omega
theorem Bd.tail {B a : Int} {e : List Int} (h : Bd B (a :: e)) : Bd B e := fun x hx => h x (List.mem_cons_of_mem _ hx)
theorem Bd.head {B a : Int} {e : List Int} (h : Bd B (a :: e)) : -B ≤ a ∧ a ≤ B := h a List.mem_cons_self
theorem Bd.cons {B a : Int} {e : List Int} (h : -B ≤ a ∧ a ≤ B) (t : Bd B e) : Bd B (a :: e) := fun x hx => by
  rcases List.mem_cons.mp hx with rfl | hx
  · exact h
  · exact t x hx
theorem Bd.nil {B : Int} : Bd B [] := fun x hx => by cases hx

theorem up_pos : ∀ {ps : List Nat} {e : List Int}, (∀ p ∈ ps, Pr p) → 0 < up ps e
  | [], _, _ => by simp [up]
  | p :: ps, [], _ => by simp [up]
  | p :: ps, a :: e, h => Nat.mul_pos (Nat.pow_pos (h p List.mem_cons_self).pos) (up_pos fun q hq => h q (List.mem_cons_of_mem _ hq))
theorem dn_pos : ∀ {ps : List Nat} {e : List Int}, (∀ p ∈ ps, Pr p) → 0 < dn ps e
  | [], _, _ => by simp [dn]
  | p :: ps, [], _ => by simp [dn]
  | p :: ps, a :: e, h => Nat.mul_pos (Nat.pow_pos (h p List.mem_cons_self).pos) (dn_pos fun q hq => h q (List.mem_cons_of_mem _ hq))
theorem sz_pos : ∀ {ps : List Nat} {e : List Int}, (∀ p ∈ ps, Pr p) → 0 < sz ps e
  | [], _, _ => by simp [sz]
  | p :: ps, [], _ => by simp [sz]
  | p :: ps, a :: e, h => Nat.mul_pos (Nat.pow_pos (h p List.mem_cons_self).pos) (sz_pos fun q hq => h q (List.mem_cons_of_mem _ hq))

/-- sizes and quotients -/
theorem key : ∀ (ps : List Nat) (e f : List Int), Bd 1000 e → Bd 1000 f → e.length = ps.length → f.length = ps.length → sz ps f * up ps (sub e f) = sz ps e * dn ps (sub e f)
  | [], e, f, _, _, h1, h2 => by
    have e1 : e = [] := List.eq_nil_of_length_eq_zero h1
    have e2 : f = [] := List.eq_nil_of_length_eq_zero h2
    subst e1 e2
    rfl
  | p :: ps, [], f, _, _, h1, _ => by simp at h1
  | p :: ps, a :: e, [], _, _, _, h2 => by simp at h2
  | p :: ps, a :: e, b :: f, b1, b2, h1, h2 => by
    have ih := key ps e f b1.tail b2.tail (Nat.succ.inj h1) (Nat.succ.inj h2)
    have ha := b1.head
    have hb := b2.head
    show p ^ (b + 1000).toNat * sz ps f * (p ^ (a - b).toNat * up ps (sub e f)) = p ^ (a + 1000).toNat * sz ps e * (p ^ (-(a - b)).toNat * dn ps (sub e f))
    rw [Nat.mul_mul_mul_comm, Nat.mul_mul_mul_comm (p ^ (a + 1000).toNat), ih, ← Nat.pow_add, ← Nat.pow_add]
    have e3 : (b + 1000).toNat + (a - b).toNat = (a + 1000).toNat + (-(a - b)).toNat := by omega
    rw [e3]
def sgn (ps : List Nat) (d : List Int) : Int := if dn ps d < up ps d then 1 else if up ps d < dn ps d then -1 else 0
section
variable {ps : List Nat} {e f : List Int}
theorem lt_iff (hp : ∀ p ∈ ps, Pr p) (b1 : Bd 1000 e) (b2 : Bd 1000 f) (h1 : e.length = ps.length) (h2 : f.length = ps.length) : dn ps (sub e f) < up ps (sub e f) ↔ sz ps f < sz ps e := by
  have k := key ps e f b1 b2 h1 h2
  have hD : 0 < dn ps (sub e f) := dn_pos hp
  have hF : 0 < sz ps f := sz_pos hp
  constructor
  · intro h
    have z := Nat.mul_lt_mul_of_pos_left h hF
    rw [k] at z
    exact Nat.lt_of_mul_lt_mul_right z
  · intro h
    have z := Nat.mul_lt_mul_of_pos_right h hD
    rw [← k] at z
    exact Nat.lt_of_mul_lt_mul_left z
theorem gt_iff (hp : ∀ p ∈ ps, Pr p) (b1 : Bd 1000 e) (b2 : Bd 1000 f) (h1 : e.length = ps.length) (h2 : f.length = ps.length) : up ps (sub e f) < dn ps (sub e f) ↔ sz ps e < sz ps f := by
  have k := key ps e f b1 b2 h1 h2
  have hU : 0 < up ps (sub e f) := up_pos hp
  have hE : 0 < sz ps e := sz_pos hp
  constructor
  · intro h
    have z := Nat.mul_lt_mul_of_pos_left h hE
    rw [← k] at z
    exact Nat.lt_of_mul_lt_mul_right z
  · intro h
    have z := Nat.mul_lt_mul_of_pos_right h hU
    rw [k] at z
    exact Nat.lt_of_mul_lt_mul_left z
theorem sgn_pos (hp : ∀ p ∈ ps, Pr p) (b1 : Bd 1000 e) (b2 : Bd 1000 f) (h1 : e.length = ps.length) (h2 : f.length = ps.length) : 0 < sgn ps (sub e f) ↔ sz ps f < sz ps e := by
  rw [← lt_iff hp b1 b2 h1 h2]
  unfold sgn
  split
  · simp [*]
  · split <;> simp [*]
theorem sgn_neg (hp : ∀ p ∈ ps, Pr p) (b1 : Bd 1000 e) (b2 : Bd 1000 f) (h1 : e.length = ps.length) (h2 : f.length = ps.length) : sgn ps (sub e f) < 0 ↔ sz ps e < sz ps f := by
  rw [← gt_iff hp b1 b2 h1 h2]
  unfold sgn
  split
  · rename_i h
    simp
    omega
  · split <;> simp [*]
end

/-! ### different exponents, different sizes -/
theorem cop {p q : Nat} (hp : Pr p) (hq : Pr q) (h : p < q) : Nat.Coprime p q := by
  unfold Pr at hp hq
  rcases hp with rfl | rfl | rfl | rfl | rfl | rfl <;> rcases hq with rfl | rfl | rfl | rfl | rfl | rfl <;> first | omega | decide
theorem cop_sz {p : Nat} : ∀ {ps : List Nat} {e : List Int}, (∀ q ∈ ps, Nat.Coprime p q) → Nat.Coprime p (sz ps e)
  | [], _, _ => by unfold sz; exact Nat.coprime_one_right p
  | q :: ps, [], _ => by unfold sz; exact Nat.coprime_one_right p
  | q :: ps, a :: e, h => Nat.Coprime.mul_right (Nat.Coprime.pow_right _ (h q List.mem_cons_self)) (cop_sz fun r hr => h r (List.mem_cons_of_mem _ hr))
theorem pw_lt {p R S m n : Nat} (hp : 2 ≤ p) (hR : Nat.Coprime p R) (h : p ^ m * R = p ^ n * S) (hmn : m < n) : False := by
  obtain ⟨k, rfl⟩ : ∃ k, n = m + (k + 1) := ⟨n - m - 1, by omega⟩
  rw [Nat.pow_add, Nat.mul_assoc] at h
  have e : R = p ^ (k + 1) * S := Nat.eq_of_mul_eq_mul_left (Nat.pow_pos (by omega)) h
  have d : p ∣ R := ⟨p ^ k * S, by rw [e, Nat.pow_succ, Nat.mul_comm (p ^ k) p, Nat.mul_assoc]⟩
  have := Nat.Coprime.eq_one_of_dvd hR d
  omega
theorem pw_inj {p R S m n : Nat} (hp : 2 ≤ p) (hR : Nat.Coprime p R) (hS : Nat.Coprime p S) (h : p ^ m * R = p ^ n * S) : m = n ∧ R = S := by
  rcases Nat.lt_trichotomy m n with z | z | z
  · exact (pw_lt hp hR h z).elim
  · subst z
    exact ⟨rfl, Nat.eq_of_mul_eq_mul_left (Nat.pow_pos (by omega)) h⟩
  · exact (pw_lt hp hS h.symm z).elim
theorem inj : ∀ {ps : List Nat} {e f : List Int}, (∀ p ∈ ps, Pr p) → ps.Pairwise (· < ·) → Bd 1000 e → Bd 1000 f → e.length = ps.length → f.length = ps.length → sz ps e = sz ps f → e = f
  | [], e, f, _, _, _, _, h1, h2, _ => by
    rw [List.eq_nil_of_length_eq_zero h1, List.eq_nil_of_length_eq_zero h2]
  | p :: ps, [], f, _, _, _, _, h1, _, _ => by simp at h1
  | p :: ps, a :: e, [], _, _, _, _, _, h2, _ => by simp at h2
  | p :: ps, a :: e, b :: f, hp, asc, b1, b2, h1, h2, h => by
    have hc : ∀ q ∈ ps, Nat.Coprime p q := fun q hq => cop (hp p List.mem_cons_self) (hp q (List.mem_cons_of_mem _ hq)) ((List.pairwise_cons.mp asc).1 q hq)
    obtain ⟨x, y⟩ := pw_inj (hp p List.mem_cons_self).two (cop_sz hc) (cop_sz hc) (show p ^ (a + 1000).toNat * sz ps e = p ^ (b + 1000).toNat * sz ps f from h)
    have ih := inj (fun q hq => hp q (List.mem_cons_of_mem _ hq)) (List.pairwise_cons.mp asc).2 b1.tail b2.tail (Nat.succ.inj h1) (Nat.succ.inj h2) y
    have ha := b1.head
    have hb := b2.head
    rw [ih, show a = b by omega]

/-! ### within the first prime -/
theorem sz_zer {p : Nat} {ps : List Nat} : sz (p :: ps) (zer (p :: ps).length) = p ^ 1000 * sz ps (zer ps.length) := rfl
theorem sz_oct {p : Nat} {ps : List Nat} : sz (p :: ps) (oct (p :: ps).length) = p ^ 1001 * sz ps (zer ps.length) := rfl
theorem oct_zer {p : Nat} {ps : List Nat} : sz (p :: ps) (oct (p :: ps).length) = p * sz (p :: ps) (zer (p :: ps).length) := by
  rw [sz_zer, sz_oct, show (1001 : Nat) = 1000 + 1 from rfl, Nat.pow_succ, Nat.mul_comm (p ^ 1000) p, Nat.mul_assoc]
/-- an interval within the first prime -/
def In1 (ps : List Nat) (e : List Int) : Prop := sz ps (zer ps.length) ≤ sz ps e ∧ sz ps e < sz ps (oct ps.length)
theorem uniq_lt {p : Nat} {ps : List Nat} {a b : Int} {t : List Int} (hp : Pr p) (ha : -1000 ≤ a) (h1 : In1 (p :: ps) (a :: t)) (h2 : In1 (p :: ps) (b :: t)) (hab : a < b) : False := by
  have e1 : p ^ ((a + 1000).toNat + 1) ≤ p ^ (b + 1000).toNat := Nat.pow_le_pow_right hp.pos (by omega)
  have e2 : p ^ ((a + 1000).toNat + 1) * sz ps t ≤ p ^ (b + 1000).toNat * sz ps t := Nat.mul_le_mul_right _ e1
  rw [Nat.pow_succ, Nat.mul_comm (p ^ (a + 1000).toNat) p, Nat.mul_assoc] at e2
  have e3 : p * sz (p :: ps) (zer (p :: ps).length) ≤ p * (p ^ (a + 1000).toNat * sz ps t) := Nat.mul_le_mul_left _ h1.1
  rw [← oct_zer] at e3
  have e4 : p ^ (b + 1000).toNat * sz ps t < sz (p :: ps) (oct (p :: ps).length) := h2.2
  omega
theorem uniq {p : Nat} {ps : List Nat} {a b : Int} {t : List Int} (hp : Pr p) (ha : -1000 ≤ a) (hb : -1000 ≤ b) (h1 : In1 (p :: ps) (a :: t)) (h2 : In1 (p :: ps) (b :: t)) : a = b := by
  rcases Int.lt_trichotomy a b with z | z | z
  · exact (uniq_lt hp ha h1 h2 z).elim
  · exact z
  · exact (uniq_lt hp hb h2 h1 z).elim
theorem pw_bd {p : Nat} (hp : Pr p) {x : Int} (hx : -2 ≤ x ∧ x ≤ 2) : p ^ (x + 1000).toNat ≤ p ^ 1000 * 2 ^ 8 ∧ p ^ 1000 ≤ p ^ (x + 1000).toNat * 2 ^ 8 := by
  have h2 : p ^ 2 ≤ 2 ^ 8 := by
    unfold Pr at hp
    rcases hp with rfl | rfl | rfl | rfl | rfl | rfl <;> decide
  constructor
  · calc p ^ (x + 1000).toNat ≤ p ^ (1000 + 2) := Nat.pow_le_pow_right hp.pos (by omega)
      _ = p ^ 1000 * p ^ 2 := Nat.pow_add ..
      _ ≤ p ^ 1000 * 2 ^ 8 := Nat.mul_le_mul_left _ h2
  · calc p ^ 1000 ≤ p ^ ((x + 1000).toNat + 2) := Nat.pow_le_pow_right hp.pos (by omega)
      _ = p ^ (x + 1000).toNat * p ^ 2 := Nat.pow_add ..
      _ ≤ p ^ (x + 1000).toNat * 2 ^ 8 := Nat.mul_le_mul_left _ h2
theorem tail_bd : ∀ {ps : List Nat} {t : List Int}, (∀ p ∈ ps, Pr p) → Bd 2 t → t.length = ps.length → sz ps t ≤ sz ps (zer ps.length) * 2 ^ (8 * ps.length) ∧ sz ps (zer ps.length) ≤ sz ps t * 2 ^ (8 * ps.length)
  | [], t, _, _, h => by
    rw [List.eq_nil_of_length_eq_zero h]
    exact ⟨Nat.le_refl _, Nat.le_refl _⟩
  | p :: ps, [], _, _, h => by simp at h
  | p :: ps, x :: t, hp, hb, h => by
    obtain ⟨a1, a2⟩ := tail_bd (fun q hq => hp q (List.mem_cons_of_mem _ hq)) hb.tail (Nat.succ.inj h)
    obtain ⟨c1, c2⟩ := pw_bd (hp p List.mem_cons_self) hb.head
    have e : (2 : Nat) ^ (8 * (p :: ps).length) = 2 ^ 8 * 2 ^ (8 * ps.length) := by
      rw [List.length_cons, Nat.mul_add, Nat.pow_add, Nat.mul_comm]
    have f1 := Nat.mul_le_mul c1 a1
    have f2 := Nat.mul_le_mul c2 a2
    rw [Nat.mul_mul_mul_comm] at f1 f2
    rw [e, sz_zer]
    exact ⟨f1, f2⟩
/-- the first exponent is small -/
theorem head_bd {p : Nat} {ps : List Nat} {a : Int} {t : List Int} (L : Lim (p :: ps)) (ht : Bd 2 t) (hl : t.length = ps.length) (ha : -1000 ≤ a) (h : In1 (p :: ps) (a :: t)) : -40 ≤ a ∧ a ≤ 40 := by
  have hp := L.mem p List.mem_cons_self
  have hps : ∀ q ∈ ps, Pr q := fun q hq => L.mem q (List.mem_cons_of_mem _ hq)
  obtain ⟨t1, t2⟩ := tail_bd hps ht hl
  have l5 : ps.length ≤ 5 := by
    have := L.l5
    rw [List.length_cons] at this
    omega
  have w : (2 : Nat) ^ (8 * ps.length) ≤ p ^ 40 := Nat.le_trans (Nat.pow_le_pow_right (by decide) (by omega)) (Nat.pow_le_pow_left hp.two 40)
  have u1 : sz ps t ≤ sz ps (zer ps.length) * p ^ 40 := Nat.le_trans t1 (Nat.mul_le_mul_left _ w)
  have u2 : sz ps (zer ps.length) ≤ sz ps t * p ^ 40 := Nat.le_trans t2 (Nat.mul_le_mul_left _ w)
  have g1 : p ^ 1000 * sz ps (zer ps.length) ≤ p ^ (a + 1000).toNat * sz ps t := h.1
  have g2 : p ^ (a + 1000).toNat * sz ps t < p ^ 1001 * sz ps (zer ps.length) := h.2
  have hT : 0 < sz ps t := sz_pos hps
  have hZ : 0 < sz ps (zer ps.length) := sz_pos hps
  constructor
  · refine Int.not_lt.mp fun z => ?_
    have c1 : p ^ (a + 1000).toNat * sz ps t ≤ p ^ 959 * (sz ps (zer ps.length) * p ^ 40) := Nat.mul_le_mul (Nat.pow_le_pow_right hp.pos (by omega)) u1
    have c2 : p ^ 959 * (sz ps (zer ps.length) * p ^ 40) = p ^ 999 * sz ps (zer ps.length) := by
      rw [Nat.mul_comm (sz ps (zer ps.length)), ← Nat.mul_assoc, ← Nat.pow_add]
    have c3 : p ^ 999 * sz ps (zer ps.length) < p ^ 1000 * sz ps (zer ps.length) := Nat.mul_lt_mul_of_pos_right (Nat.pow_lt_pow_right hp.two (by decide)) hZ
    omega
  · refine Int.not_lt.mp fun z => ?_
    have c1 : p ^ 1001 * sz ps (zer ps.length) ≤ p ^ 1001 * (sz ps t * p ^ 40) := Nat.mul_le_mul_left _ u2
    have c2 : p ^ 1001 * (sz ps t * p ^ 40) = p ^ 1041 * sz ps t := by
      rw [Nat.mul_comm (sz ps t), ← Nat.mul_assoc, ← Nat.pow_add]
    have c3 : p ^ 1041 * sz ps t ≤ p ^ (a + 1000).toNat * sz ps t := Nat.mul_le_mul_right _ (Nat.pow_le_pow_right hp.pos (by omega))
    omega
theorem sub_zer : ∀ (e : List Int), sub e (zer e.length) = e
  | [] => rfl
  | a :: e => by
    show (a - 0) :: sub e (zer e.length) = a :: e
    rw [sub_zer e, Int.sub_zero]
theorem zer_bd {n : Nat} {B : Int} (h : 0 ≤ B) : Bd B (zer n) := fun x hx => by
  have := List.eq_of_mem_replicate hx
  omega
theorem up_le : ∀ {ps : List Nat} {e : List Int} {B : Nat}, (∀ p ∈ ps, Pr p) → Bd B e → up ps e ≤ 2 ^ (4 * B * ps.length) ∧ dn ps e ≤ 2 ^ (4 * B * ps.length)
  | [], _, _, _, _ => by simp [up, dn]
  | p :: ps, [], B, _, _ => by
    have : 0 < 2 ^ (4 * B * (p :: ps).length) := Nat.pow_pos (by decide)
    simp only [up, dn]
    omega
  | p :: ps, a :: e, B, hp, hb => by
    obtain ⟨a1, a2⟩ := up_le (fun q hq => hp q (List.mem_cons_of_mem _ hq)) hb.tail
    have pp := hp p List.mem_cons_self
    have ha := hb.head
    have w : ∀ m : Nat, m ≤ B → p ^ m ≤ 2 ^ (4 * B) := fun m hm => by
      calc p ^ m ≤ p ^ B := Nat.pow_le_pow_right pp.pos hm
        _ ≤ (2 ^ 4) ^ B := Nat.pow_le_pow_left (by have := pp.le; omega) B
        _ = 2 ^ (4 * B) := (Nat.pow_mul ..).symm
    have e : (2 : Nat) ^ (4 * B * (p :: ps).length) = 2 ^ (4 * B) * 2 ^ (4 * B * ps.length) := by
      rw [List.length_cons, Nat.mul_add, Nat.pow_add, Nat.mul_comm, Nat.mul_one]
    rw [e]
    exact ⟨Nat.mul_le_mul (w _ (by omega)) a1, Nat.mul_le_mul (w _ (by omega)) a2⟩
/-- what the two loops of within leave -/
theorem within_ok {p : Nat} {ps : List Nat} {a : Int} {t : List Int} {m k : Nat} (L : Lim (p :: ps)) (ha : -50 ≤ a ∧ a ≤ 50) (ht : Bd 2 t) (hl : t.length = ps.length)
    (h1 : dn (p :: ps) (a :: t) * p ^ k ≤ up (p :: ps) (a :: t) * p ^ m) (h2 : up (p :: ps) (a :: t) * p ^ m < dn (p :: ps) (a :: t) * p ^ k * p)
    (hm : m = 0 ∨ up (p :: ps) (a :: t) * p ^ m < dn (p :: ps) (a :: t) * p) : -1000 ≤ a + m - k ∧ -1000 ≤ a + m ∧ In1 (p :: ps) ((a + m - k) :: t) := by
  have hp := L.mem p List.mem_cons_self
  have hU : 0 < up (p :: ps) (a :: t) := up_pos L.mem
  have hD : 0 < dn (p :: ps) (a :: t) := dn_pos L.mem
  have hk : k ≤ 900 := by
    rcases hm with z | z
    · subst z
      rw [Nat.pow_zero, Nat.mul_one] at h1
      have w : up (p :: ps) (a :: t) ≤ 2 ^ 800 := by
        have u1 := (up_le (B := 2) (e := t) (fun q hq => L.mem q (List.mem_cons_of_mem _ hq)) ht).1
        have u2 : p ^ a.toNat ≤ 2 ^ 200 := by
          calc p ^ a.toNat ≤ p ^ 50 := Nat.pow_le_pow_right hp.pos (by omega)
            _ ≤ (2 ^ 4) ^ 50 := Nat.pow_le_pow_left (by have := hp.le; omega) 50
            _ = 2 ^ 200 := (Nat.pow_mul ..).symm
        have u3 : (2 : Nat) ^ (4 * 2 * ps.length) ≤ 2 ^ 600 := Nat.pow_le_pow_right (by decide) (by have := L.l5; rw [List.length_cons] at this; omega)
        calc up (p :: ps) (a :: t) ≤ 2 ^ 200 * 2 ^ 600 := Nat.mul_le_mul u2 (Nat.le_trans u1 u3)
          _ = 2 ^ 800 := (Nat.pow_add ..).symm
      refine Nat.not_lt.mp fun q => ?_
      have q1 : 2 ^ 801 ≤ p ^ k := Nat.le_trans (Nat.pow_le_pow_right (by decide) (by omega)) (Nat.pow_le_pow_left hp.two k)
      have q2 : 1 * p ^ k ≤ dn (p :: ps) (a :: t) * p ^ k := Nat.mul_le_mul_right _ hD
      have q3 : (2 : Nat) ^ 800 < 2 ^ 801 := Nat.pow_lt_pow_right (by decide) (by decide)
      rw [Nat.one_mul] at q2
      exact Nat.lt_irrefl _ (Nat.lt_of_lt_of_le q3 (Nat.le_trans q1 (Nat.le_trans q2 (Nat.le_trans h1 w))))
    · refine Nat.not_lt.mp fun q => ?_
      have q1 : dn (p :: ps) (a :: t) * p ^ 1 ≤ dn (p :: ps) (a :: t) * p ^ k := Nat.mul_le_mul_left _ (Nat.pow_le_pow_right hp.pos (by omega))
      rw [Nat.pow_one] at q1
      omega
  have hb : Bd 1000 (a :: t) := Bd.cons (by omega) (ht.mono (by decide))
  refine ⟨by omega, by omega, ?_⟩
  have kk := key (p :: ps) (a :: t) (zer (p :: ps).length) hb (zer_bd (by decide)) (by rw [List.length_cons, List.length_cons, hl]) (by unfold zer; rw [List.length_replicate])
  have es : sub (a :: t) (zer (p :: ps).length) = a :: t := by
    have := sub_zer (a :: t)
    rw [List.length_cons, hl] at this
    exact this
  rw [es] at kk
  generalize hUe : up (p :: ps) (a :: t) = U at *
  generalize hDe : dn (p :: ps) (a :: t) = D at *
  have ex : sz (p :: ps) ((a + m - k) :: t) * p ^ k = sz (p :: ps) (a :: t) * p ^ m := by
    show p ^ (a + m - k + 1000).toNat * sz ps t * p ^ k = p ^ (a + 1000).toNat * sz ps t * p ^ m
    rw [Nat.mul_right_comm, Nat.mul_right_comm (p ^ (a + 1000).toNat), ← Nat.pow_add, ← Nat.pow_add]
    rw [show (a + m - k + 1000).toNat + k = (a + 1000).toNat + m by omega]
  have ey : sz (p :: ps) ((a + m - k) :: t) * (D * p ^ k) = sz (p :: ps) (zer (p :: ps).length) * (U * p ^ m) := by
    rw [Nat.mul_comm D, ← Nat.mul_assoc, ex, ← Nat.mul_assoc, kk, Nat.mul_right_comm]
  have hDk : 0 < D * p ^ k := Nat.mul_pos hD (Nat.pow_pos hp.pos)
  constructor
  · have z := Nat.mul_le_mul_left (sz (p :: ps) (zer (p :: ps).length)) h1
    rw [← ey] at z
    exact Nat.le_of_mul_le_mul_right z hDk
  · have z := Nat.mul_lt_mul_of_pos_left h2 (sz_pos (ps := p :: ps) (e := zer (p :: ps).length) L.mem)
    rw [← ey, Nat.mul_comm (D * p ^ k) p, ← Nat.mul_assoc (sz (p :: ps) (zer (p :: ps).length)), Nat.mul_comm (sz (p :: ps) (zer (p :: ps).length)) p, ← oct_zer] at z
    exact Nat.lt_of_mul_lt_mul_right z
end Tw
set_option Elab.async false
set_option linter.all false
set_option maxRecDepth 100000
set_option maxHeartbeats 4000000
/-! The text by its defs; the layer's rules with the written part named; what a heap holds of intervals. -/
namespace Tw8
open PySem PySem.Spec PyProof.Rows L2
/-! ### the text -/
def topS (i : Nat) : Stmt := PySem.Challenge.pw_temperworks_k70_whole_scales.main.body.getD i (.Pass ⟨0, 0, 0, 0⟩)
abbrev s_is_int : Stmt := topS 10
abbrev N_is_int : List Str := ["value"]
theorem sc_is_int : FnScope N_is_int ["value"] (defScope s_is_int) := ⟨rfl, rfl, rfl, by decide +kernel, rfl, by decide +kernel, by decide +kernel⟩
abbrev s_is_in : Stmt := topS 11
abbrev N_is_in : List Str := ["value", "least", "most"]
theorem sc_is_in : FnScope N_is_in ["value", "least", "most"] (defScope s_is_in) := ⟨rfl, rfl, rfl, by decide +kernel, rfl, by decide +kernel, by decide +kernel⟩
abbrev s_power : Stmt := topS 12
abbrev N_power : List Str := ["base", "exponent", "found"]
theorem sc_power : FnScope N_power ["base", "exponent"] (defScope s_power) := ⟨rfl, rfl, rfl, by decide +kernel, rfl, by decide +kernel, by decide +kernel⟩
abbrev s_is_prime : Stmt := topS 13
abbrev N_is_prime : List Str := ["number", "part"]
theorem sc_is_prime : FnScope N_is_prime ["number"] (defScope s_is_prime) := ⟨rfl, rfl, rfl, by decide +kernel, rfl, by decide +kernel, by decide +kernel⟩
abbrev s_need_limit : Stmt := topS 14
abbrev N_need_limit : List Str := ["value", "prime", "at"]
theorem sc_need_limit : FnScope N_need_limit ["value"] (defScope s_need_limit) := ⟨rfl, rfl, rfl, by decide +kernel, rfl, by decide +kernel, by decide +kernel⟩
abbrev s_is_interval : Stmt := topS 15
abbrev N_is_interval : List Str := ["limit", "value", "entry"]
theorem sc_is_interval : FnScope N_is_interval ["limit", "value"] (defScope s_is_interval) := ⟨rfl, rfl, rfl, by decide +kernel, rfl, by decide +kernel, by decide +kernel⟩
abbrev s_need_interval : Stmt := topS 16
abbrev N_need_interval : List Str := ["limit", "value"]
theorem sc_need_interval : FnScope N_need_interval ["limit", "value"] (defScope s_need_interval) := ⟨rfl, rfl, rfl, by decide +kernel, rfl, by decide +kernel, by decide +kernel⟩
abbrev s_ratio_of : Stmt := topS 17
abbrev N_ratio_of : List Str := ["limit", "interval", "above", "low", "prime", "entry"]
theorem sc_ratio_of : FnScope N_ratio_of ["limit", "interval"] (defScope s_ratio_of) := ⟨rfl, rfl, rfl, by decide +kernel, rfl, by decide +kernel, by decide +kernel⟩
abbrev s_sign_of : Stmt := topS 18
abbrev N_sign_of : List Str := ["limit", "interval", "above", "low"]
theorem sc_sign_of : FnScope N_sign_of ["limit", "interval"] (defScope s_sign_of) := ⟨rfl, rfl, rfl, by decide +kernel, rfl, by decide +kernel, by decide +kernel⟩
abbrev s_minus : Stmt := topS 19
abbrev N_minus : List Str := ["one", "other", "left", "right"]
theorem sc_minus : FnScope N_minus ["one", "other"] (defScope s_minus) := ⟨rfl, rfl, rfl, by decide +kernel, rfl, by decide +kernel, by decide +kernel⟩
abbrev s_plus : Stmt := topS 20
abbrev N_plus : List Str := ["one", "other", "left", "right"]
theorem sc_plus : FnScope N_plus ["one", "other"] (defScope s_plus) := ⟨rfl, rfl, rfl, by decide +kernel, rfl, by decide +kernel, by decide +kernel⟩
abbrev s_need_scale : Stmt := topS 23
abbrev N_need_scale : List Str := ["limit", "value", "told", "note", "at"]
theorem sc_need_scale : FnScope N_need_scale ["limit", "value"] (defScope s_need_scale) := ⟨rfl, rfl, rfl, by decide +kernel, rfl, by decide +kernel, by decide +kernel⟩
abbrev s_first_of : Stmt := topS 24
abbrev N_first_of : List Str := ["limit"]
theorem sc_first_of : FnScope N_first_of ["limit"] (defScope s_first_of) := ⟨rfl, rfl, rfl, by decide +kernel, rfl, by decide +kernel, by decide +kernel⟩
abbrev s_note_at : Stmt := topS 25
abbrev N_note_at : List Str := ["limit", "scale", "at", "rounds", "place"]
theorem sc_note_at : FnScope N_note_at ["limit", "scale", "at"] (defScope s_note_at) := ⟨rfl, rfl, rfl, by decide +kernel, rfl, by decide +kernel, by decide +kernel⟩
abbrev s_spans_of : Stmt := topS 26
abbrev N_spans_of : List Str := ["limit", "scale", "size", "at"]
theorem sc_spans_of : FnScope N_spans_of ["limit", "scale", "size"] (defScope s_spans_of) := ⟨rfl, rfl, rfl, by decide +kernel, rfl, by decide +kernel, by decide +kernel⟩
abbrev s_spans : Stmt := topS 27
abbrev N_spans : List Str := ["limit", "scale", "size"]
theorem sc_spans : FnScope N_spans ["limit", "scale", "size"] (defScope s_spans) := ⟨rfl, rfl, rfl, by decide +kernel, rfl, by decide +kernel, by decide +kernel⟩
abbrev s_mode : Stmt := topS 28
abbrev N_mode : List Str := ["limit", "scale", "at", "more"]
theorem sc_mode : FnScope N_mode ["limit", "scale", "at"] (defScope s_mode) := ⟨rfl, rfl, rfl, by decide +kernel, rfl, by decide +kernel, by decide +kernel⟩
abbrev s_upside_down : Stmt := topS 29
abbrev N_upside_down : List Str := ["limit", "scale", "note"]
theorem sc_upside_down : FnScope N_upside_down ["limit", "scale"] (defScope s_upside_down) := ⟨rfl, rfl, rfl, by decide +kernel, rfl, by decide +kernel, by decide +kernel⟩
abbrev s_from_steps : Stmt := topS 30
abbrev N_from_steps : List Str := ["limit", "steps", "step", "told"]
theorem sc_from_steps : FnScope N_from_steps ["limit", "steps"] (defScope s_from_steps) := ⟨rfl, rfl, rfl, by decide +kernel, rfl, by decide +kernel, by decide +kernel⟩
abbrev s_steps_of_scale : Stmt := topS 31
abbrev N_steps_of_scale : List Str := ["limit", "scale"]
theorem sc_steps_of_scale : FnScope N_steps_of_scale ["limit", "scale"] (defScope s_steps_of_scale) := ⟨rfl, rfl, rfl, by decide +kernel, rfl, by decide +kernel, by decide +kernel⟩
abbrev s_law_taken : Stmt := topS 33
abbrev N_law_taken : List Str := ["_law_row", "_law_many", "_law_found", "_law_cell"]
theorem sc_law_taken : FnScope N_law_taken ["_law_row", "_law_many"] (defScope s_law_taken) := ⟨rfl, rfl, rfl, by decide +kernel, rfl, by decide +kernel, by decide +kernel⟩
abbrev s_law_pick : Stmt := topS 34
abbrev N_law_pick : List Str := ["_law_row", "_law_things"]
theorem sc_law_pick : FnScope N_law_pick ["_law_row", "_law_things"] (defScope s_law_pick) := ⟨rfl, rfl, rfl, by decide +kernel, rfl, by decide +kernel, by decide +kernel⟩
abbrev s_law_alike : Stmt := topS 35
abbrev N_law_alike : List Str := ["_law_found", "_law_due", "_law_k"]
theorem sc_law_alike : FnScope N_law_alike ["_law_found", "_law_due"] (defScope s_law_alike) := ⟨rfl, rfl, rfl, by decide +kernel, rfl, by decide +kernel, by decide +kernel⟩
abbrev s_law_limit : Stmt := topS 36
abbrev N_law_limit : List Str := ["_law_row"]
theorem sc_law_limit : FnScope N_law_limit ["_law_row"] (defScope s_law_limit) := ⟨rfl, rfl, rfl, by decide +kernel, rfl, by decide +kernel, by decide +kernel⟩
abbrev s_law_interval : Stmt := topS 37
abbrev N_law_interval : List Str := ["_law_row", "_law_limit_here", "_law_most", "_law_prime"]
theorem sc_law_interval : FnScope N_law_interval ["_law_row", "_law_limit_here", "_law_most"] (defScope s_law_interval) := ⟨rfl, rfl, rfl, by decide +kernel, rfl, by decide +kernel, by decide +kernel⟩
abbrev s_law_power : Stmt := topS 38
abbrev N_law_power : List Str := ["_law_base", "_law_exponent", "_law_found", "_law_turn"]
theorem sc_law_power : FnScope N_law_power ["_law_base", "_law_exponent"] (defScope s_law_power) := ⟨rfl, rfl, rfl, by decide +kernel, rfl, by decide +kernel, by decide +kernel⟩
abbrev s_law_quotient : Stmt := topS 39
abbrev N_law_quotient : List Str := ["_law_limit_here", "_law_interval_here", "_law_above", "_law_low", "_law_at"]
theorem sc_law_quotient : FnScope N_law_quotient ["_law_limit_here", "_law_interval_here"] (defScope s_law_quotient) := ⟨rfl, rfl, rfl, by decide +kernel, rfl, by decide +kernel, by decide +kernel⟩
abbrev s_law_minus : Stmt := topS 40
abbrev N_law_minus : List Str := ["_law_one", "_law_other", "_law_at"]
theorem sc_law_minus : FnScope N_law_minus ["_law_one", "_law_other"] (defScope s_law_minus) := ⟨rfl, rfl, rfl, by decide +kernel, rfl, by decide +kernel, by decide +kernel⟩
abbrev s_law_plus : Stmt := topS 41
abbrev N_law_plus : List Str := ["_law_one", "_law_other", "_law_at"]
theorem sc_law_plus : FnScope N_law_plus ["_law_one", "_law_other"] (defScope s_law_plus) := ⟨rfl, rfl, rfl, by decide +kernel, rfl, by decide +kernel, by decide +kernel⟩
abbrev s_law_sign : Stmt := topS 42
abbrev N_law_sign : List Str := ["_law_limit_here", "_law_interval_here", "_law_above", "_law_low"]
theorem sc_law_sign : FnScope N_law_sign ["_law_limit_here", "_law_interval_here"] (defScope s_law_sign) := ⟨rfl, rfl, rfl, by decide +kernel, rfl, by decide +kernel, by decide +kernel⟩
abbrev s_law_within : Stmt := topS 43
abbrev N_law_within : List Str := ["_law_limit_here", "_law_interval_here", "_law_above", "_law_low", "_law_moves"]
theorem sc_law_within : FnScope N_law_within ["_law_limit_here", "_law_interval_here"] (defScope s_law_within) := ⟨rfl, rfl, rfl, by decide +kernel, rfl, by decide +kernel, by decide +kernel⟩
abbrev s_law_by_size : Stmt := topS 44
abbrev N_law_by_size : List Str := ["_law_limit_here", "_law_intervals", "_law_found", "_law_interval_here", "_law_at"]
theorem sc_law_by_size : FnScope N_law_by_size ["_law_limit_here", "_law_intervals"] (defScope s_law_by_size) := ⟨rfl, rfl, rfl, by decide +kernel, rfl, by decide +kernel, by decide +kernel⟩
abbrev s_law_scale : Stmt := topS 45
abbrev N_law_scale : List Str := ["_law_row", "_law_limit_here", "_law_found", "_law_turn", "_law_interval_here"]
theorem sc_law_scale : FnScope N_law_scale ["_law_row", "_law_limit_here"] (defScope s_law_scale) := ⟨rfl, rfl, rfl, by decide +kernel, rfl, by decide +kernel, by decide +kernel⟩
abbrev s_law : Stmt := topS 46
abbrev N_law : List Str := ["_law_script", "_law_row", "_law_limit_here", "_law_scale_here", "_law_size", "_law_octave", "_law_many", "_law_due", "_law_at", "_law_told", "_law_turn", "_law_steps", "_law_back", "_law_note", "_law_entry"]
theorem sc_law : FnScope N_law ["_law_script"] (defScope s_law) := ⟨rfl, rfl, rfl, by decide +kernel, rfl, by decide +kernel, by decide +kernel⟩
/-! ### the layer's rules, the written part K named -/
section
variable {X : Cx} (K : PySem.W.Frag) (hK : X.K = K)
include hK
theorem ixT : IxR X (rIxT K) := by subst hK; exact ix_tup
theorem ixL : IxR X (rIxL K) := by subst hK; exact ix_list
theorem ixS : IxR X (rIx K) := by subst hK; exact ix_seq
theorem slT : SlR X (rSlT K) := by subst hK; exact sl_tup
theorem slL : SlR X (rSlL K) := by subst hK; exact sl_list
theorem catT : OpR X (binaryOp .Add) (rCatT K) := by subst hK; exact op_catT
theorem eqD (hu : X.A.units + 64 < cLine) : OpR X (compareOp .Eq) (rEqD K) := by subst hK; exact op_eqD hu
theorem neD (hu : X.A.units + 64 < cLine) : OpR X (compareOp .NotEq) (rNeD K) := by subst hK; exact op_neD hu
theorem notInD (hu : X.A.units + 65 < cLine) : OpR X (compareOp .NotIn) (rNotInD K) := by subst hK; exact op_notInD hu
theorem isi : CallR X (.builtin "isinstance") (rIsi K) := by subst hK; exact call_isi
theorem isiT : CallR X (.builtin "isinstance") (rIsiT K) := by subst hK; exact call_isiT
theorem lenS : CallR X (.builtin "len") (fun xs H Q => ∃ p ys, xs = [.ref p] ∧ (SqL K H p ys ∨ SqT K H p ys) ∧ Q (.int ys.length) H) := by subst hK; exact call_len_seq
theorem tupOf : CallR X (.type "tuple") (fun xs H Q => ∃ p ys, xs = [.ref p] ∧ ((SqL K H p ys ∧ ∀ l, H l = none → Q (.ref l) (upd H l (.tup ys))) ∨ (SqT K H p ys ∧ Q (.ref p) H))) := by subst hK; exact call_tuple_of
theorem lstOf : CallR X (.type "list") (fun xs H Q => ∃ p ys, xs = [.ref p] ∧ (SqL K H p ys ∨ SqT K H p ys) ∧ ∀ l, H l = none → Q (.ref l) (upd H l (.lst ys))) := by subst hK; exact call_list_of
theorem crAny (hc : X.calm = true) : CallR X (.builtin "any") (rAny K) := by subst hK; exact cr_any hc
theorem crAll (hc : X.calm = true) : CallR X (.builtin "all") (rAll K) := by subst hK; exact cr_all hc
theorem piL {tg l : Expr} {tl : TE} (hl : PE X l tl) : PI X tg l (iList K tl) := by subst hK; exact pi_list hl
theorem piT {tg l : Expr} {tl : TE} (hl : PE X l tl) : PI X tg l (iTup K tl) := by subst hK; exact pi_tup hl
theorem tupG {es : List Expr} {k : Nat} {pos : Pos} {t : TGs} {n : Nat} (hc : X.calm = true) (h : PGs X es t) (hn : (assignEach es X.env).length = n := by rfl) (hst : (assignEach es X.env).findIdx? (·.1) = none := by rfl) : PG X (.Tuple es k pos) (gTup K n t) := by
  subst hK; exact pg_tup hc h hn hst
end
theorem hu64 {k : Nat} {A : Around} (h : Room k A) : A.units + 64 < cLine := by have := h.un; omega
theorem hu65 {k : Nat} {A : Around} (h : Room k A) : A.units + 65 < cLine := by have := h.un; omega
/-! ### a def that may be called by its name -/
abbrev Cal (P : Program) (w : World) (K : PySem.W.Frag) (mg : Str → Option Value) (base : Heap) (k : Nat) (x : Str) (sp : Sp) : Prop := C8.Cal P w K mg base k x sp []
/-- a def of the text, where it stands and how it is called -/
structure At (K : PySem.W.Frag) (mg : Str → Option Value) (x : Str) (st : Stmt) (ps : List Str) (f : Addr) (fd : FuncData) : Prop where
  F : Fun K x x st f fd
  g : mg x = some (.ref f)
  b : Binds K fd ps []
theorem At.cal {P : Program} {w : World} {K : PySem.W.Frag} {mg : Str → Option Value} {base : Heap} {x : Str} {st : Stmt} {ps N : List Str} {f : Addr} {fd : FuncData} {k : Nat} {sp : Sp} (D : At K mg x st ps f fd) (S : FnScope N ps (defScope st)) (len : ∀ vs H Q E, sp vs H Q E → vs.length = ps.length)
    (hbody : ∀ (cdv : Value) (A : Around) (outer : List Env) (s : Shared) (H : Hp) (vs : List V) (Q : VK) (E : XK), Room k (A.deeper (envOfC x (defScope st) s.heap.objs.size f cdv)) → sp vs H Q E →
      ∃ t, PSs (cxOf CX0 P w K mg base N x (defScope st) f cdv A outer s H E).nox (defBody st) t ∧ t { nx := fun _ H' => Q .non H', rt := Q } (start N vs) H) : Cal P w K mg base (k + 1) x sp :=
  ⟨f, fd, ps, [], D.F.ok S len hbody, D.g, D.F.kp, D.b, .nil⟩
/-- the names of the top that the defs use -/
structure Bi (mg : Str → Option Value) : Prop where
  b_isinstance : mg "isinstance" = none
  b_len : mg "len" = none
  b_any : mg "any" = none
  b_all : mg "all" = none
  b_tuple : mg "tuple" = none
  b_list : mg "list" = none
  b_int : mg "int" = none
  b_bool : mg "bool" = none
  b_str : mg "str" = none
  b_range : mg "range" = none
  b_zip : mg "zip" = none
  k_MOST_PRIME : ∃ t, mg "MOST_PRIME" = some (.int 43 t)
  k_MOST_PRIMES : ∃ t, mg "MOST_PRIMES" = some (.int 6 t)
  k_MOST_ENTRY : ∃ t, mg "MOST_ENTRY" = some (.int 99 t)
  k_MOST_NOTES : ∃ t, mg "MOST_NOTES" = some (.int 24 t)
theorem pe_gi {X : Cx} {x : Str} {pos : Pos} {i : Int} (hg : Gl X x) (h : ∃ t, X.mg x = some (.int i t)) (hd : (x == ("__debug__" : Str)) = false := by decide) : PE X (.Name x pos) (tC (.int i)) := by
  obtain ⟨t, e⟩ := h
  exact pe_glob hg e ⟨t, rfl⟩ hd
/-! ### intervals in the heap -/
abbrev iv (e : List Int) : List V := e.map V.int
abbrev lv (ps : List Nat) : List V := ps.map fun (p : Nat) => V.int (p : Int)
def IsT (H : Hp) (v : V) (e : List Int) : Prop := ∃ a, v = .ref a ∧ H a = some (.tup (iv e))
/-- the tuples stay -/
def TS (H H' : Hp) : Prop := ∀ b xs, H b = some (.tup xs) → H' b = some (.tup xs)
theorem TS.of {H H' : Hp} (h : Same H H') : TS H H' := fun b xs e => h b _ e
theorem TS.trans {H H1 H2 : Hp} (h : TS H H1) (g : TS H1 H2) : TS H H2 := fun b xs e => g b xs (h b xs e)
theorem TS.lst {H : Hp} {D : Addr} {ys : List V} {o : HO} (h : H D = some (.lst ys)) : TS H (upd H D o) := fun b xs e => by
  rw [upd_ne (ne_of e h fun z => by cases z)]
  exact e
theorem same_upd {H : Hp} {p : Addr} {o : HO} (h : H p = none) : Same H (upd H p o) := fun b x e => by
  rw [upd_ne (ne_of_none e h)]
  exact e
/-- .. also where a new list is written once more -/
theorem Same.upd2 {H0 H : Hp} {D : Addr} {o : HO} (h : Same H0 H) (hD : H0 D = none) : Same H0 (upd H D o) := fun b x e => by
  rw [upd_ne (ne_of_none e hD)]
  exact h b x e
theorem IsT.mono {H H' : Hp} {v : V} {e : List Int} (h : IsT H v e) (t : TS H H') : IsT H' v e := let ⟨a, x, y⟩ := h; ⟨a, x, t a _ y⟩
/-- values that are intervals -/
structure Ivs (H : Hp) (xs : List V) (es : List (List Int)) : Prop where
  len : xs.length = es.length
  at' : ∀ (i : Nat) (e : List Int), es[i]? = some e → ∃ v, xs[i]? = some v ∧ IsT H v e
section
variable {H H' : Hp} {xs ys : List V} {es fs : List (List Int)}
theorem Ivs.mono (h : Ivs H xs es) (t : TS H H') : Ivs H' xs es := ⟨h.len, fun i e q => let ⟨v, a, b⟩ := h.at' i e q; ⟨v, a, b.mono t⟩⟩
theorem Ivs.nil : Ivs H [] [] := ⟨rfl, fun i e q => by simp at q⟩
theorem Ivs.append (h : Ivs H xs es) (g : Ivs H ys fs) : Ivs H (xs ++ ys) (es ++ fs) := by
  refine ⟨by rw [List.length_append, List.length_append, h.len, g.len], fun i e q => ?_⟩
  by_cases hi : i < es.length
  · rw [List.getElem?_append_left hi] at q
    rw [List.getElem?_append_left (by rw [h.len]; exact hi)]
    exact h.at' i e q
  · rw [List.getElem?_append_right (by omega)] at q
    rw [List.getElem?_append_right (by rw [h.len]; omega), h.len]
    exact g.at' _ e q
theorem Ivs.one {v : V} {e : List Int} (h : IsT H v e) : Ivs H [v] [e] := ⟨rfl, fun i f q => by
  cases i with
  | zero => exact ⟨v, rfl, by have : e = f := Option.some.inj q; rw [← this]; exact h⟩
  | succ i => simp at q⟩
theorem Ivs.snoc {v : V} {e : List Int} (h : Ivs H xs es) (g : IsT H v e) : Ivs H (xs ++ [v]) (es ++ [e]) := h.append (Ivs.one g)
theorem Ivs.take (h : Ivs H xs es) (n : Nat) : Ivs H (xs.take n) (es.take n) := by
  refine ⟨by rw [List.length_take, List.length_take, h.len], fun i e q => ?_⟩
  rw [List.getElem?_take] at q ⊢
  split at q
  · rename_i z
    rw [if_pos z]
    exact h.at' i e q
  · cases q
theorem Ivs.drop (h : Ivs H xs es) (n : Nat) : Ivs H (xs.drop n) (es.drop n) := by
  refine ⟨by rw [List.length_drop, List.length_drop, h.len], fun i e q => ?_⟩
  rw [List.getElem?_drop] at q ⊢
  exact h.at' _ e q
theorem Ivs.reverse (h : Ivs H xs es) : Ivs H xs.reverse es.reverse := by
  refine ⟨by rw [List.length_reverse, List.length_reverse, h.len], fun i e q => ?_⟩
  have hi : i < es.length := by
    have := (List.getElem?_eq_some_iff.mp q).1
    rwa [List.length_reverse] at this
  rw [List.getElem?_reverse hi] at q
  rw [List.getElem?_reverse (by rw [h.len]; exact hi), h.len]
  exact h.at' _ e q
theorem Ivs.get (h : Ivs H xs es) {i : Nat} {e : List Int} (q : es[i]? = some e) : ∃ a, xs[i]? = some (.ref a) ∧ H a = some (.tup (iv e)) := by
  obtain ⟨v, a, p, rfl, b⟩ := h.at' i e q
  exact ⟨p, a, b⟩
theorem Ivs.of_get (h : Ivs H xs es) {i : Nat} {v : V} (q : xs[i]? = some v) : ∃ e, es[i]? = some e ∧ IsT H v e := by
  have hi : i < es.length := by
    rw [← h.len]
    exact (List.getElem?_eq_some_iff.mp q).1
  obtain ⟨v', a, b⟩ := h.at' i _ (List.getElem?_eq_getElem hi)
  rw [q] at a
  cases a
  exact ⟨_, List.getElem?_eq_getElem hi, b⟩
end
theorem dp_ints {K : PySem.W.Frag} {H : Hp} : ∀ e : List Int, DpAll K H (iv e) (e.map .int)
  | [] => .nil
  | i :: e => .cons (.int i) (dp_ints e)
theorem dp_iv {K : PySem.W.Frag} {H : Hp} {a : Addr} {e : List Int} (h : H a = some (.tup (iv e))) : Dp K H (.ref a) (.tuple (e.map .int)) := .tup (SqT.of h) (dp_ints e)
abbrev dI (e : List Int) : PyData := .tuple (e.map .int)
/-- as data -/
theorem Ivs.dp {K : PySem.W.Frag} {H : Hp} : ∀ {xs : List V} {es : List (List Int)}, Ivs H xs es → DpAll K H xs (es.map dI)
  | [], [], _ => .nil
  | [], e :: es, h => by have := h.len; simp at this
  | x :: xs, [], h => by have := h.len; simp at this
  | x :: xs, e :: es, h => by
    obtain ⟨v, a, p, rfl, b⟩ := h.at' 0 e rfl
    cases a
    exact .cons (dp_iv b) (Ivs.dp ⟨Nat.succ.inj h.len, fun i f q => h.at' (i + 1) f q⟩)
theorem lay_ints : ∀ e : List Int, PyData.canLayAll0 (e.map .int) = true ∧ PyData.depthAll (e.map .int) = 0
  | [] => ⟨by rfl, by rfl⟩
  | i :: e => by
    obtain ⟨a, b⟩ := lay_ints e
    refine ⟨?_, ?_⟩
    · show (PyData.canLay0 (.int i) && PyData.canLayAll0 (e.map .int)) = true
      rw [a]; rfl
    · show max (PyData.depth (.int i)) (PyData.depthAll (e.map .int)) = 0
      rw [b]; rfl
theorem lay_ivs : ∀ es : List (List Int), PyData.canLayAll0 (es.map dI) = true ∧ PyData.depthAll (es.map dI) ≤ 1
  | [] => ⟨by rfl, by show (0 : Nat) ≤ 1; omega⟩
  | e :: es => by
    obtain ⟨a, b⟩ := lay_ivs es
    obtain ⟨c, d⟩ := lay_ints e
    refine ⟨?_, ?_⟩
    · show (PyData.canLayAll0 (e.map .int) && PyData.canLayAll0 (es.map dI)) = true
      rw [a, c]; rfl
    · show max (PyData.depthAll (e.map .int) + 1) (PyData.depthAll (es.map dI)) ≤ 1
      omega
theorem shaped_ints (e : List Int) : SeqAt.shaped (dI e) = true := by
  obtain ⟨a, b⟩ := lay_ints e
  show (PyData.canLayAll0 (e.map .int) && decide (PyData.depthAll (e.map .int) + 1 ≤ 64)) = true
  rw [a, b]; rfl
theorem shaped_tup (es : List (List Int)) : SeqAt.shaped (.tuple (es.map dI)) = true := by
  obtain ⟨a, b⟩ := lay_ivs es
  show (PyData.canLayAll0 (es.map dI) && decide (PyData.depthAll (es.map dI) + 1 ≤ 64)) = true
  rw [a, decide_eq_true (by omega)]; rfl
theorem shaped_lst (es : List (List Int)) : SeqAt.shaped (.list (es.map dI)) = true := by
  obtain ⟨a, b⟩ := lay_ivs es
  show (PyData.canLayAll0 (es.map dI) && decide (PyData.depthAll (es.map dI) + 1 ≤ 64)) = true
  rw [a, decide_eq_true (by omega)]; rfl
theorem eqv_ints : ∀ e f : List Int, PyData.eqvAll (e.map .int) (f.map .int) = decide (e = f)
  | [], [] => by rfl
  | [], _ :: _ => by rw [decide_eq_false (by simp)]; rfl
  | _ :: _, [] => by rw [decide_eq_false (by simp)]; rfl
  | i :: e, j :: f => by
    show (PyData.eqv (.int i) (.int j) && PyData.eqvAll (e.map .int) (f.map .int)) = _
    rw [eqv_ints e f]
    show ((i == j) && decide (e = f)) = _
    rw [Bool.eq_iff_iff]
    simp
theorem eqv_iv (e f : List Int) : PyData.eqv (dI e) (dI f) = decide (e = f) := eqv_ints e f
theorem eqv_self {d : PyData} (h : SeqAt.shaped d = true) : PyData.eqv d d = true := by
  refine SeqAt.eqv_refl d ?_
  unfold SeqAt.shaped at h
  rw [Bool.and_eq_true] at h
  exact h.1
/-! ### a comprehension without tests -/
/-- item by item, each told by R (which new tuples and lists do not change) -/
theorem lc_R {J : It} {n : Nat} {G : Hp → Prop} {Y : Nat → Hp → V → Hp → Prop} (w : Walk J n G Y) {g : TG} {te : TE} {vs : List Nat} {σ : L2.St} {H1 : Hp} {D : Addr} {Qd : Hp → Prop} (R : Nat → V → Hp → Prop)
    (nD : H1 D = none) (hn : n ≤ 1000) (hR : ∀ i v H H', TS H H' → R i v H → R i v H') (hG : ∀ H, Same H1 H → G H)
    (hs : ∀ i x H H' (Q : V → Hp → Prop), i < n → Same H1 H → Y i H x H' → (∀ y H3, Same H H3 → R i y H3 → Q y H3) → g x (wipe σ vs) H' fun σ2 H2 => wipe σ2 vs = wipe σ vs ∧ te σ2 H2 Q)
    (hd : ∀ H acc, Same H1 H → H D = some (.lst acc) → acc.length = n → (∀ j y, acc[j]? = some y → R j y H) → Qd H) :
    ∃ Inv : Nat → Nat → Hp → Prop, (∃ left, Inv 0 left (upd H1 D (.lst []))) ∧ ∀ at_ left H, Inv at_ left H → (J.stop at_ H ∧ Qd H) ∨ (J.go at_ H ∧
      ∃ After : Hp → Prop, (∀ H', After H' → ∃ less, less < left ∧ Inv (at_ + 1) less H') ∧ ∀ x H', J.yld at_ H x H' → g x (wipe σ vs) H' fun σ2 H2 => wipe σ2 vs = wipe σ vs ∧
        tYes σ2 H2 fun yes H3 => if yes = true then te σ2 H3 (fun y H4 => ∃ ys, H4 D = some (.lst ys) ∧ ys.length < sizeLine ∧ After (upd H4 D (.lst (ys ++ [y])))) else After H3) := by
  refine lc_it w (fun i H => Same H1 H ∧ ∃ acc, H D = some (.lst acc) ∧ acc.length = i ∧ ∀ j y, acc[j]? = some y → R j y H) ⟨same_upd nD, [], upd_same, rfl, fun j y e => by simp at e⟩ (fun i H _ h => hG H h.1) (fun i x H H' hi h y => ?_) (fun H h => ?_)
  · obtain ⟨sm, acc, hD, hl, hr⟩ := h
    have key := hs i x H H' (fun y H4 => ∃ acc, H4 D = some (.lst acc) ∧ acc.length < sizeLine ∧ (Same H1 (upd H4 D (.lst (acc ++ [y]))) ∧ ∃ acc', (upd H4 D (.lst (acc ++ [y]))) D = some (.lst acc') ∧ acc'.length = i + 1 ∧ ∀ j z, acc'[j]? = some z → R j z (upd H4 D (.lst (acc ++ [y]))))) hi sm y (fun z H3 s3 r3 => ?_)
    · exact key
    · have hD3 : H3 D = some (.lst acc) := s3 D _ hD
      refine ⟨acc, hD3, by rw [hl]; exact small1000 (by omega), Same.upd2 (sm.trans s3) nD, acc ++ [z], upd_same, by rw [List.length_append, hl]; rfl, fun j u e => ?_⟩
      have t3 : TS H3 (upd H3 D (.lst (acc ++ [z]))) := TS.lst hD3
      by_cases hj : j < acc.length
      · rw [List.getElem?_append_left hj] at e
        exact hR j u _ _ t3 (hR j u _ _ (TS.of s3) (hr j u e))
      · rw [List.getElem?_append_right (by omega)] at e
        have hj0 : j - acc.length = 0 := by
          have := (List.getElem?_eq_some_iff.mp e).1
          simp at this
          omega
        rw [hj0] at e
        have eu : z = u := Option.some.inj e
        have ej : j = i := by omega
        subst eu ej
        exact hR j z _ _ t3 r3
  · obtain ⟨sm, acc, hD, hl, hr⟩ := h
    exact hd H acc sm hD hl hr
/-- .. the items are ints -/
def RInt (f : Nat → Int) : Nat → V → Hp → Prop := fun i v _ => v = .int (f i)
theorem RInt.all {f : Nat → Int} {n : Nat} {acc : List V} {H : Hp} (hl : acc.length = n) (h : ∀ j y, acc[j]? = some y → RInt f j y H) : acc = iv ((List.range n).map f) := by
  refine List.ext_getElem? fun j => ?_
  rw [List.getElem?_map, List.getElem?_map]
  by_cases hj : j < n
  · rw [List.getElem?_range hj]
    have := h j _ (List.getElem?_eq_getElem (by omega))
    rw [List.getElem?_eq_getElem (by omega), this]
    rfl
  · rw [List.getElem?_eq_none (by omega), List.getElem?_eq_none (by rw [List.length_range]; omega)]
    rfl
/-- .. the items are intervals -/
def RIv (f : Nat → List Int) : Nat → V → Hp → Prop := fun i v H => IsT H v (f i)
theorem RIv.mono {f : Nat → List Int} : ∀ i v H H', TS H H' → RIv f i v H → RIv f i v H' := fun i v H H2 t h => IsT.mono (v := v) (e := f i) h t
theorem RIv.all {f : Nat → List Int} {n : Nat} {acc : List V} {H : Hp} (hl : acc.length = n) (h : ∀ j y, acc[j]? = some y → RIv f j y H) : Ivs H acc ((List.range n).map f) := by
  refine ⟨by rw [List.length_map, List.length_range, hl], fun i e q => ?_⟩
  have hi : i < n := by
    have := (List.getElem?_eq_some_iff.mp q).1
    rwa [List.length_map, List.length_range] at this
  rw [List.getElem?_map, List.getElem?_range hi] at q
  have e1 : f i = e := Option.some.inj q
  refine ⟨_, List.getElem?_eq_getElem (by omega), ?_⟩
  have := h i _ (List.getElem?_eq_getElem (by omega))
  rw [← e1]
  exact this
theorem walk_zipT {K : PySem.W.Frag} {a b : Addr} {xs ys : List V} {n : Nat} (hn : n = min xs.length ys.length) : Walk (RZ.ItzT K a b) n (fun H => SqT K H a xs ∧ SqT K H b ys) (YPair (fun i => xs[i]?) (fun i => ys[i]?)) where
  goes := fun i H hi h => by
    have lx : i < xs.length := by rw [hn] at hi; exact Nat.lt_of_lt_of_le hi (Nat.min_le_left ..)
    have ly : i < ys.length := by rw [hn] at hi; exact Nat.lt_of_lt_of_le hi (Nat.min_le_right ..)
    exact ⟨xs, ys, _, _, h.1, h.2, List.getElem?_eq_getElem lx, List.getElem?_eq_getElem ly⟩
  stops := fun H h => ⟨xs, ys, h.1, h.2, by omega⟩
  yields := fun i H v H' _ h y => let ⟨T, x, z, e1, e2, e3, ex, ey⟩ := y; ⟨T, x, z, e1, e2, e3, ex xs h.1, ey ys h.2⟩
end Tw8
set_option Elab.async false
set_option linter.all false
set_option maxRecDepth 100000
set_option maxHeartbeats 4000000
namespace Tw8
open PySem PySem.Spec PyProof.Rows L2 Tw
section
variable {P : Program} {w : World} {K : PySem.W.Frag} {mg : Str → Option Value} {base : Heap}
/-! ### is_int, is_in -/
def spIsInt : Sp := fun vs H Q _ => ∃ i, vs = [.int i] ∧ Q (.bl true) H
theorem ok_is_int {f : Addr} {fd : FuncData} (D : At K mg "is_int" s_is_int ["value"] f fd) (T : Bi mg) : Cal P w K mg base 1 "is_int" spIsInt := by
  refine D.cal sc_is_int (fun vs H Q E h => ?_) (fun cdv A outer s H vs Q E hr h => ?_)
  · obtain ⟨i, rfl, _⟩ := h
    rfl
  · obtain ⟨i, rfl, q⟩ := h
    refine ⟨_, (pss_one (ps_ret (pe_and (pe_callB (isi K rfl) (by rfl) T.b_isinstance (by decide +kernel) (pa_cons (pv 0) (pa_cons (pe_bltn (v := .ty "int") (by rfl) T.b_int (by decide +kernel) rfl) pa_nil))) (pe_one (pe_not (pe_callB (isi K rfl) (by rfl) T.b_isinstance (by decide +kernel) (pa_cons (pv 0) (pa_cons (pe_bltn (v := .ty "bool") (by rfl) T.b_bool (by decide +kernel) rfl) pa_nil)))))))), ?_⟩
    refine ⟨.int i, rfl, .int i, .ty "int", _, _, true, rfl, .ty _, .base (.int i), kit_ty (by decide +kernel), ?_⟩
    refine ⟨true, rfl, iteT ?_⟩
    refine ⟨.int i, rfl, .int i, .ty "bool", _, _, false, rfl, .ty _, .base (.int i), kit_ty (by decide +kernel), ?_⟩
    exact ⟨false, rfl, q⟩
def spIsIn : Sp := fun vs H Q _ => ∃ i a b, vs = [.int i, .int a, .int b] ∧ a ≤ i ∧ i ≤ b ∧ Q (.bl true) H
theorem ok_is_in {f : Addr} {fd : FuncData} (D : At K mg "is_in" s_is_in ["value", "least", "most"] f fd) (T : Bi mg) (c_is_int : Cal P w K mg base 1 "is_int" spIsInt) : Cal P w K mg base 2 "is_in" spIsIn := by
  refine D.cal sc_is_in (fun vs H Q E h => ?_) (fun cdv A outer s H vs Q E hr h => ?_)
  · obtain ⟨i, a, b, rfl, _⟩ := h
    rfl
  · obtain ⟨i, a, b, rfl, h1, h2, q⟩ := h
    refine ⟨_, (pss_one (ps_ret (pe_and (C8.pe_c c_is_int hr (by decide) (by rfl) (pa_cons (pv 0) pa_nil)) (pe_one (pe_chain op_le op_le (pv 1) (pv 0) (pv 2)))))), ?_⟩
    refine ⟨.int i, rfl, i, rfl, ?_⟩
    refine ⟨true, rfl, iteT ?_⟩
    refine ⟨.int a, rfl, .int i, rfl, a, i, rfl, rfl, ?_⟩
    refine ⟨_, rfl, ?_⟩
    rw [decide_eq_true h1]
    refine iteT ⟨.int b, rfl, i, b, rfl, rfl, ?_⟩
    show Q (.bl (decide (i ≤ b))) H
    rw [decide_eq_true h2]
    exact q
/-! ### power -/
def spPower : Sp := fun vs H Q _ => ∃ (p : Nat) (e : Int), vs = [.int (p : Int), .int e] ∧ p ≤ 13 ∧ 0 ≤ e ∧ e ≤ 2000 ∧ Q (.int ((p ^ e.toNat : Nat) : Int)) H
theorem small_pow {p e : Nat} (hp : p ≤ 13) : p ^ e < 2 ^ (4 * e + 1) := by
  calc p ^ e ≤ (2 ^ 4) ^ e := Nat.pow_le_pow_left (by omega) e
    _ = 2 ^ (4 * e) := (Nat.pow_mul ..).symm
    _ < 2 ^ (4 * e + 1) := Nat.pow_lt_pow_right (by decide) (by omega)
/-- found * base ^ exponent stays -/
structure PowIn (p : Nat) (e n : Nat) (b f : Nat) (m : Nat) : Prop where
  base : b = p ^ n
  found : ∃ k, f = p ^ k ∧ k + n * m = e
  small : n ≤ 2 * e + 2 ∧ (m ≠ 0 → n ≤ e)
theorem ok_power {f : Addr} {fd : FuncData} (D : At K mg "power" s_power ["base", "exponent"] f fd) (T : Bi mg) : Cal P w K mg base 1 "power" spPower := by
  refine D.cal sc_power (fun vs H Q E h => ?_) (fun cdv A outer s H vs Q E hr h => ?_)
  · obtain ⟨p, e, rfl, _⟩ := h
    rfl
  · obtain ⟨p, e, rfl, hp, h0, h1, q⟩ := h
    refine ⟨_, (pss_cons (ps_set (i := 2) sc_power.nd rfl (by first | exact Or.inl rfl | exact Or.inr rfl) pe_int)
    (pss_cons (ps_while PassesOwn.never (pt_cmpR op_gt (pv 1) pe_int (nomark _))
      (pss_cons (ps_if (pt_cmpR op_eq (pe_op op_mod (pv 1) pe_int) pe_int (nomark _))
        (pss_one (ps_set (i := 2) sc_power.nd rfl (by first | exact Or.inl rfl | exact Or.inr rfl) (pe_op op_mulW (pv 2) (pv 0)))) pss_nil)
      (pss_one (ps_par (i := 0) (j := 1) (by rfl) sc_power.nd rfl rfl (by decide) rfl rfl (pa_cons (pe_op op_mulW (pv 0) (pv 0)) (pa_cons (pe_op op_fdiv (pv 1) pe_int) pa_nil)) (by rfl)))))
    (pss_one (ps_ret (pv 2))))), ?_⟩
    obtain ⟨e, rfl⟩ : ∃ n : Nat, e = (n : Int) := ⟨e.toNat, by omega⟩
    rw [Int.toNat_natCast] at q
    refine while_by (fun σ H' => H' = H ∧ ∃ b m f' n : Nat, σ = [some (.int (b : Int)), some (.int (m : Int)), some (.int (f' : Int))] ∧ PowIn p e n b f' m) (fun σ _ => match σ with
      | [_, some (.int m), _] => m.toNat
      | _ => 0) ⟨rfl, p, e, 1, 1, rfl, ⟨by rw [Nat.pow_one], ⟨0, rfl, by omega⟩, by omega⟩⟩ (fun σ H' h => ?_) (fun σ H' Q Q' hm h => ?_)
    · obtain ⟨rfl, b, m, f', n, rfl, hI⟩ := h
      obtain ⟨k, hk, hkn⟩ := hI.found
      refine ⟨.int (m : Int), rfl, _, _, rfl, rfl, _, rfl, ?_⟩
      by_cases hm : m = 0
      · subst hm
        rw [decide_eq_false (by omega)]
        refine iteF ⟨_, rfl, ?_⟩
        have : k = e := by omega
        rw [hk, this]
        exact q
      · rw [decide_eq_true (by omega)]
        refine iteT ?_
        have hn : n ≤ e := hI.small.2 hm
        have hkk : k ≤ e := by omega
        have hb : ((b : Int)).natAbs < 2 ^ (4 * n + 1) := by
          rw [Int.natAbs_natCast, hI.base]
          exact small_pow hp
        have hf : ((f' : Int)).natAbs < 2 ^ (4 * k + 1) := by
          rw [Int.natAbs_natCast, hk]
          exact small_pow hp
        have hbb : ∀ f'' : Nat, ∀ k' : Nat, f'' = p ^ k' → k' + (2 * n) * (m / 2) = e → (∃ v, ([some (V.int (b : Int)), some (.int (m : Int)), some (.int (f'' : Int))] : L2.St)[0]? = some (some v) ∧ ∃ v2, ([some (V.int (b : Int)), some (.int (m : Int)), some (.int (f'' : Int))] : L2.St)[0]? = some (some v2) ∧ v = v2) := fun f'' k' _ _ => ⟨_, rfl, _, rfl, rfl⟩
        have fin : ∀ (f'' k' : Nat), f'' = p ^ k' → k' + (2 * n) * (m / 2) = e → PowIn p e (2 * n) (b * b) f'' (m / 2) := fun f'' k' e1 e2 => by
          refine ⟨?_, ⟨k', e1, e2⟩, by omega, fun hm2 => ?_⟩
          · rw [hI.base, ← Nat.pow_add]
            congr 1
            omega
          · have : 2 * n * 1 ≤ 2 * n * (m / 2) := Nat.mul_le_mul_left _ (by omega)
            omega
        refine ⟨.int (m : Int), rfl, _, _, rfl, rfl, (by show (0 : Int) < 2; decide), rfl, _, rfl, ite2 (fun hodd => ?_) (fun heven => ?_)⟩
        · have ho : (m : Int) % 2 = 1 := V.int.inj (of_decide_eq_true hodd)
          refine ⟨.int (f' : Int), rfl, .int (b : Int), rfl, _, _, rfl, rfl, wide_mul hf hb (by omega) (by omega) (by omega), ?_⟩
          refine ⟨.int (b : Int), rfl, .int (b : Int), rfl, _, _, rfl, rfl, wide_mul hb hb (by omega) (by omega) (by omega), ?_⟩
          refine ⟨.int (m : Int), rfl, _, _, rfl, rfl, ⟨by decide, by decide⟩, ?_⟩
          refine ⟨_, _, rfl, ⟨rfl, b * b, m / 2, f' * b, 2 * n, rfl, fin _ (k + n) ?_ ?_⟩, ?_⟩
          · rw [hk, hI.base, Nat.pow_add]
          · have e1 : m = 2 * (m / 2) + 1 := by omega
            have e2 : n * m = 2 * n * (m / 2) + n := by
              calc n * m = n * (2 * (m / 2) + 1) := by rw [← e1]
                _ = 2 * n * (m / 2) + n := by rw [Nat.mul_add, Nat.mul_one, ← Nat.mul_assoc, Nat.mul_comm n 2]
            omega
          · show ((m : Int) / 2).toNat < (m : Int).toNat
            omega
        · have ho : ¬ (m : Int) % 2 = 1 := fun z => heven (decide_eq_true (congrArg V.int z))
          refine ⟨.int (b : Int), rfl, .int (b : Int), rfl, _, _, rfl, rfl, wide_mul hb hb (by omega) (by omega) (by omega), ?_⟩
          refine ⟨.int (m : Int), rfl, _, _, rfl, rfl, ⟨by decide, by decide⟩, ?_⟩
          refine ⟨_, _, rfl, ⟨rfl, b * b, m / 2, f', 2 * n, rfl, fin _ k hk ?_⟩, ?_⟩
          · have e1 : m = 2 * (m / 2) := by omega
            have e2 : n * m = 2 * n * (m / 2) := by
              calc n * m = n * (2 * (m / 2)) := by rw [← e1]
                _ = 2 * n * (m / 2) := by rw [← Nat.mul_assoc, Nat.mul_comm n 2]
            omega
          · show ((m : Int) / 2).toNat < (m : Int).toNat
            omega
    · obtain ⟨v, e1, i, j, e2, e3, k, e4, h⟩ := h
      exact ⟨v, e1, i, j, e2, e3, k, e4, hm _ _ h⟩
end
end Tw8
set_option Elab.async false
set_option linter.all false
set_option maxRecDepth 100000
set_option maxHeartbeats 4000000
namespace Tw8
open PySem PySem.Spec PyProof.Rows L2 Tw
/-! ### is_prime, need_limit -/
theorem pr_mod {p : Nat} (hp : Pr p) {d : Int} (h2 : 2 ≤ d) (hd : d < (p : Int)) : (p : Int) % d ≠ 0 := by
  obtain ⟨d, rfl⟩ : ∃ n : Nat, d = (n : Int) := ⟨d.toNat, by omega⟩
  have hd1 : d < p := by omega
  have h21 : 2 ≤ d := by omega
  have hp13 := hp.le
  unfold Pr at hp
  rcases (show d = 2 ∨ d = 3 ∨ d = 4 ∨ d = 5 ∨ d = 6 ∨ d = 7 ∨ d = 8 ∨ d = 9 ∨ d = 10 ∨ d = 11 ∨ d = 12 by omega) with rfl | rfl | rfl | rfl | rfl | rfl | rfl | rfl | rfl | rfl | rfl <;> omega
theorem RTrue.all {n : Nat} {acc : List V} (hl : acc.length = n) (h : ∀ (j : Nat) (y : V), acc[j]? = some y → y = V.bl true) : acc = (List.replicate n true).map V.bl := by
  refine List.ext_getElem? fun j => ?_
  by_cases hj : j < n
  · rw [List.getElem?_map, List.getElem?_replicate, if_pos hj, List.getElem?_eq_getElem (by omega), h j _ (List.getElem?_eq_getElem (by omega))]
    rfl
  · rw [List.getElem?_eq_none (by omega), List.getElem?_eq_none (by rw [List.length_map, List.length_replicate]; omega)]
theorem all_rep : ∀ n : Nat, (List.replicate n true).all id = true
  | 0 => rfl
  | n + 1 => by rw [List.replicate_succ, List.all_cons, all_rep n]; rfl
section
variable {P : Program} {w : World} {K : PySem.W.Frag} {mg : Str → Option Value} {base : Heap}
def spIsPrime : Sp := fun vs H Q _ => ∃ p : Nat, vs = [.int (p : Int)] ∧ Pr p ∧ ∀ H', Same H H' → Q (.bl true) H'
theorem ok_is_prime {f : Addr} {fd : FuncData} (D : At K mg "is_prime" s_is_prime ["number"] f fd) (T : Bi mg) : Cal P w K mg base 1 "is_prime" spIsPrime := by
  refine D.cal sc_is_prime (fun vs H Q E h => ?_) (fun cdv A outer s H vs Q E hr h => ?_)
  · obtain ⟨i, rfl, _⟩ := h
    rfl
  · obtain ⟨p, rfl, hp, q⟩ := h
    refine ⟨_, (pss_one (ps_ret (pe_and (pe_cmpR op_gt (pv 0) pe_int (nomark _)) (pe_one (pe_not (pe_callB (crAny K rfl rfl) (by rfl) T.b_any (by decide +kernel) (pa_cons (pe_lc (own := [("part", 1)]) rfl sc_is_prime.nd (pi_range2 (by rfl) T.b_range (pa_cons pe_int (pa_cons (pv 0) pa_nil))) (blkOk_by (own := [("part", 1)]) (N := N_is_prime) (sc := defScope s_is_prime) (by decide +kernel)) (fun _ _ _ _ _ => (pg_name (i := 1) sc_is_prime.nd rfl (by first | exact Or.inl rfl | exact Or.inr rfl))) (fun _ _ _ _ _ => (pts_one (pt_cmpR op_le (pe_op op_mulW (pv 1) (pv 1)) (pv 0) (nomark _)))) (fun _ _ _ _ _ => (pe_cmpR op_eq (pe_op op_mod (pv 0) (pv 1)) pe_int (nomark _)))) pa_nil))))))), ?_⟩
    have l13 := hp.le
    have l2 := hp.two
    refine ⟨.int p, rfl, _, _, rfl, rfl, _, rfl, ?_⟩
    rw [decide_eq_true (by omega)]
    refine iteT ?_
    refine ⟨.int p, rfl, 2, p, rfl, ⟨by decide, by decide, by omega, by omega⟩, fun D nD => ?_⟩
    refine lc_range (fun i H' => Same H H' ∧ ∃ bs : List Bool, H' D = some (.lst (bs.map V.bl)) ∧ bs.length ≤ i ∧ bs.any id = false) ⟨same_upd nD, [], upd_same, Nat.le_refl _, rfl⟩ (fun i H' hi hP => ?_) (fun H' hP => ?_)
    · obtain ⟨sm, bs, hD, hl, hb⟩ := hP
      have hi2 : (2 : Int) + i < p := by omega
      have hsq : ((2 : Int) + i).natAbs < 2 ^ 10 := by
        have : (2 : Nat) ^ 10 = 1024 := rfl
        omega
      refine ⟨rfl, .int (2 + i), rfl, .int (2 + i), rfl, _, _, rfl, rfl, wide_mul hsq hsq (by omega) (by omega) (by omega), .int p, rfl, _, _, rfl, rfl, _, rfl, ite2 (fun _ => ?_) (fun _ => ⟨sm, bs, hD, by omega, hb⟩)⟩
      refine ⟨.int p, rfl, .int (2 + i), rfl, _, _, rfl, rfl, (by show (0 : Int) < 2 + i; omega), rfl, bs.map V.bl, hD, small1000 (by rw [List.length_map]; omega), Same.upd2 sm nD, bs ++ [false], ?_, ?_, ?_⟩
      · have e : decide (V.int ((p : Int) % (2 + i)) = V.int 0) = false := decide_eq_false fun z => pr_mod hp (by omega) hi2 (V.int.inj z)
        rw [upd_same, e, List.map_append]
        rfl
      · rw [List.length_append]
        show bs.length + 1 ≤ i + 1
        omega
      · rw [List.any_append, hb]
        rfl
    · obtain ⟨sm, bs, hD, hl, hb⟩ := hP
      refine ⟨D, bs, rfl, SqL.of hD, ?_⟩
      rw [hb]
      exact ⟨false, rfl, q H' sm⟩
def spNeedLimit : Sp := fun vs H Q _ => ∃ (a : Addr) (ps : List Nat), vs = [.ref a] ∧ H a = some (.tup (lv ps)) ∧ Lim ps ∧ ∀ H', Same H H' → Q .non H'
theorem ok_need_limit {f : Addr} {fd : FuncData} (D : At K mg "need_limit" s_need_limit ["value"] f fd) (T : Bi mg) (c_is_in : Cal P w K mg base 2 "is_in" spIsIn) (c_is_prime : Cal P w K mg base 1 "is_prime" spIsPrime) : Cal P w K mg base 3 "need_limit" spNeedLimit := by
  refine D.cal sc_need_limit (fun vs H Q E h => ?_) (fun cdv A outer s H vs Q E hr h => ?_)
  · obtain ⟨i, _, rfl, _⟩ := h
    rfl
  · obtain ⟨a, ps, rfl, ha, L, q⟩ := h
    have l2 := L.l2
    have l5 := L.l5
    refine ⟨_, (pss_cons (ps_if (PW.pt (pw_or (pt_not (pt_val (pe_callB (isi K rfl) (by rfl) T.b_isinstance (by decide +kernel) (pa_cons (pv 0) (pa_cons (pe_bltn (v := .ty "tuple") (by rfl) T.b_tuple (by decide +kernel) rfl) pa_nil))))) (pw_or1 (pt_not (pt_chain op_le op_le pe_int (pe_callB (lenS K rfl) (by rfl) T.b_len PySem.boot_len (pa_cons (pv 0) pa_nil)) (pe_gi (by rfl) T.k_MOST_PRIMES))))))
      (pss_one ps_never) pss_nil)
    (pss_cons (ps_if (pt_not (pt_val (pe_callB (crAll K rfl rfl) (by rfl) T.b_all (by decide +kernel) (pa_cons (pe_lc (own := [("prime", 1)]) rfl sc_need_limit.nd (piT K rfl (pv 0)) (blkOk_by (own := [("prime", 1)]) (N := N_need_limit) (sc := defScope s_need_limit) (by decide +kernel)) (fun _ _ _ _ _ => (pg_name (i := 1) sc_need_limit.nd rfl (by first | exact Or.inl rfl | exact Or.inr rfl))) (fun _ _ _ _ _ => pts_nil) (fun _ _ _ _ _ => (pe_and (C8.pe_c c_is_in hr (by decide) (by rfl) (pa_cons (pv 1) (pa_cons pe_int (pa_cons (pe_gi (by rfl) T.k_MOST_PRIME) pa_nil)))) (pe_one (C8.pe_c c_is_prime hr (by decide) (by rfl) (pa_cons (pv 1) pa_nil)))))) pa_nil))))
      (pss_one ps_never) pss_nil)
    (pss_one (ps_if (pt_not (pt_val (pe_callB (crAll K rfl rfl) (by rfl) T.b_all (by decide +kernel) (pa_cons (pe_lc (own := [("at", 2)]) rfl sc_need_limit.nd (pi_range2 (by rfl) T.b_range (pa_cons pe_int (pa_cons (pe_callB (lenS K rfl) (by rfl) T.b_len PySem.boot_len (pa_cons (pv 0) pa_nil)) pa_nil))) (blkOk_by (own := [("at", 2)]) (N := N_need_limit) (sc := defScope s_need_limit) (by decide +kernel)) (fun _ _ _ _ _ => (pg_name (i := 2) sc_need_limit.nd rfl (by first | exact Or.inl rfl | exact Or.inr rfl))) (fun _ _ _ _ _ => pts_nil) (fun _ _ _ _ _ => (pe_cmpR op_lt (pe_ix (ixT K rfl) (pv 0) (pe_op op_sub (pv 2) pe_int) (fun _ _ => rfl)) (pe_ix (ixT K rfl) (pv 0) (pv 2) (fun _ _ => rfl)) (nomark _)))) pa_nil))))
      (pss_one ps_never) pss_nil)))), ?_⟩
    have hT : ∀ H', Same H H' → SqT K H' a (lv ps) := fun H' sm => SqT.of (sm _ _ ha)
    -- the first test
    refine ⟨.ref a, rfl, .ref a, .ty "tuple", _, _, true, rfl, .ty _, .base (.tup ha), kit_ty (by decide +kernel), true, rfl, iteF ?_⟩
    refine ⟨.ref a, rfl, a, lv ps, rfl, .inr (SqT.of ha), _, _, rfl, rfl, _, rfl, ?_⟩
    rw [decide_eq_true (by rw [List.length_map]; omega)]
    refine iteT ⟨_, _, rfl, rfl, _, rfl, ?_⟩
    rw [decide_eq_true (by rw [List.length_map]; omega)]
    refine iteF ?_
    -- all primes
    refine ⟨.ref a, rfl, a, rfl, ⟨_, hT H (Same.refl _)⟩, fun D nD => ?_⟩
    refine lc_R (walk_tup (xs := lv ps)) (fun _ v _ => v = .bl true) nD (by rw [List.length_map]; omega) (fun _ _ _ _ _ h => h) (fun H' sm => hT H' sm) (fun i x H1 H2 Q' hi sm hy hq => ?_) (fun H1 acc sm1 hD hl hR => ?_)
    · obtain ⟨rfl, hx⟩ := hy
      rw [List.getElem?_map] at hx
      cases hpx : ps[i]? with
      | none => rw [hpx] at hx; cases hx
      | some p =>
        rw [hpx] at hx
        have ex : V.int (p : Int) = x := Option.some.inj hx
        subst ex
        have hp := L.mem p (List.mem_of_getElem? hpx)
        have l13 := hp.le
        have l22 := hp.two
        refine ⟨rfl, .int p, rfl, p, 2, 43, rfl, by omega, by omega, true, rfl, iteT ?_⟩
        exact ⟨.int p, rfl, p, rfl, hp, fun H3 s3 => hq _ _ s3 rfl⟩
    have eacc := RTrue.all hl hR
    refine ⟨D, _, rfl, SqL.of (by rw [hD, eacc]), ?_⟩
    rw [all_rep]
    refine ⟨true, rfl, iteF ?_⟩
    -- ascending
    refine ⟨.ref a, rfl, a, lv ps, rfl, .inr (hT H1 sm1), 1, _, rfl, ⟨by decide, by decide, by rw [List.length_map]; omega, by rw [List.length_map]; omega⟩, fun D2 nD2 => ?_⟩
    refine lc_R walk_range (fun _ v _ => v = .bl true) nD2 (by rw [List.length_map]; omega) (fun _ _ _ _ _ h => h) (fun _ _ => True.intro) (fun i x H2 H3 Q' hi sm hy hq => ?_) (fun H2 acc2 sm2 hD2 hl2 hR2 => ?_)
    · obtain ⟨rfl, rfl⟩ := hy
      have hT2 : SqT K H3 a (lv ps) := hT H3 (sm1.trans sm)
      have hi1 : i + 1 < ps.length := by
        rw [List.length_map] at hi
        omega
      have g0 : (lv ps)[i]? = some (.int ((ps[i]'(by omega) : Nat) : Int)) := by
        rw [List.getElem?_map, List.getElem?_eq_getElem (by omega)]
        rfl
      have g1 : (lv ps)[i + 1]? = some (.int ((ps[i + 1]'hi1 : Nat) : Int)) := by
        rw [List.getElem?_map, List.getElem?_eq_getElem hi1]
        rfl
      refine ⟨rfl, .ref a, rfl, .int (1 + i), rfl, _, _, rfl, rfl, a, lv ps, _, _, rfl, rfl, hT2, at_of (by omega) g0, .ref a, rfl, .int (1 + i), rfl, a, lv ps, _, _, rfl, rfl, hT2, at_of (by omega) g1, _, _, rfl, rfl, ?_⟩
      have hlt : ps[i]'(by omega) < ps[i + 1]'hi1 := List.pairwise_iff_getElem.mp L.asc i (i + 1) (by omega) hi1 (by omega)
      refine hq _ _ (Same.refl _) ?_
      show V.bl (decide _) = V.bl true
      rw [decide_eq_true (by omega)]
    have eacc2 := RTrue.all hl2 hR2
    refine ⟨D2, _, rfl, SqL.of (by rw [hD2, eacc2]), ?_⟩
    rw [all_rep]
    refine ⟨true, rfl, iteF ?_⟩
    exact q H2 (sm1.trans sm2)
end
end Tw8
set_option Elab.async false
set_option linter.all false
set_option maxRecDepth 100000
set_option maxHeartbeats 4000000
namespace Tw8
open PySem PySem.Spec PyProof.Rows L2 Tw
theorem zip_range (g : Int → Int → Int) {e f : List Int} (h : e.length = f.length) : (List.range e.length).map (fun i => g (e.getD i 0) (f.getD i 0)) = List.zipWith g e f := by
  refine List.ext_getElem? fun j => ?_
  by_cases hj : j < e.length
  · rw [List.getElem?_map, List.getElem?_range hj, List.getElem?_zipWith, List.getElem?_eq_getElem hj, List.getElem?_eq_getElem (by omega : j < f.length)]
    simp [List.getD_eq_getElem?_getD, List.getElem?_eq_getElem hj, List.getElem?_eq_getElem (show j < f.length by omega)]
  · rw [List.getElem?_eq_none (by rw [List.length_map, List.length_range]; omega), List.getElem?_eq_none (by rw [List.length_zipWith]; omega)]
theorem map_get {α : Type} {xs : List α} {g : α → V} {i : Nat} {x : V} (h : (xs.map g)[i]? = some x) : ∃ (hi : i < xs.length), x = g (xs[i]'hi) := by
  rw [List.getElem?_map] at h
  by_cases hi : i < xs.length
  · rw [List.getElem?_eq_getElem hi] at h
    exact ⟨hi, (Option.some.inj h).symm⟩
  · rw [List.getElem?_eq_none (by omega)] at h
    cases h
theorem getD_at {e : List Int} {i : Nat} (hi : i < e.length) : e.getD i 0 = e[i]'hi := by
  rw [List.getD_eq_getElem?_getD, List.getElem?_eq_getElem hi]
  rfl
theorem small6 {n : Nat} (h : n ≤ 100) : n ≤ sizeLine := Nat.le_of_lt (small1000 (by omega))
section
variable {P : Program} {w : World} {K : PySem.W.Frag} {mg : Str → Option Value} {base : Heap}
/-! ### minus, plus -/
def spMinus : Sp := fun vs H Q _ => ∃ (a b : Addr) (e f : List Int), vs = [.ref a, .ref b] ∧ H a = some (.tup (iv e)) ∧ H b = some (.tup (iv f)) ∧ e.length = f.length ∧ e.length ≤ 100 ∧ ∀ H' p, Same H H' → H' p = some (.tup (iv (sub e f))) → Q (.ref p) H'
theorem ok_minus {f : Addr} {fd : FuncData} (D : At K mg "minus" s_minus ["one", "other"] f fd) (T : Bi mg) : Cal P w K mg base 1 "minus" spMinus := by
  refine D.cal sc_minus (fun vs H Q E h => ?_) (fun cdv A outer s H vs Q E hr h => ?_)
  · obtain ⟨a, b, _, _, rfl, _⟩ := h
    rfl
  · obtain ⟨a, b, e, f, rfl, ha, hb, hl, hn, q⟩ := h
    refine ⟨_, (pss_one (ps_ret (pe_callTy (tupOf K rfl) (by rfl) T.b_tuple (by decide +kernel) (pa_cons (pe_lc (own := [("left", 2), ("right", 3)]) rfl sc_minus.nd (RZ.pi_zipA (by rfl) T.b_zip (pa_cons (pv 0) (pa_cons (pv 1) pa_nil))) (blkOk_by (own := [("left", 2), ("right", 3)]) (N := N_minus) (sc := defScope s_minus) (by decide +kernel)) (fun _ _ _ _ _ => (tupG (n := 2) K rfl rfl (pgs_cons (pg_name (i := 2) sc_minus.nd rfl (by first | exact Or.inl rfl | exact Or.inr rfl)) (pgs_cons (pg_name (i := 3) sc_minus.nd rfl (by first | exact Or.inl rfl | exact Or.inr rfl)) pgs_nil)))) (fun _ _ _ _ _ => pts_nil) (fun _ _ _ _ _ => (pe_op op_sub (pv 2) (pv 3)))) pa_nil)))), ?_⟩
    refine ⟨.ref a, rfl, .ref b, rfl, a, b, iv e, iv f, rfl, .inr ⟨SqT.of ha, SqT.of hb, fun D nD => ?_⟩⟩
    refine lc_R (walk_zipT (n := e.length) (by rw [List.length_map, List.length_map]; omega)) (RInt fun i => e.getD i 0 - f.getD i 0) nD (by omega) (fun _ _ _ _ _ h => h) (fun H' sm => ⟨SqT.of (sm _ _ ha), SqT.of (sm _ _ hb)⟩) (fun i x H1 H2 Q' hi sm hy hq => ?_) (fun H1 acc sm1 hD hl1 hR => ?_)
    · obtain ⟨p, x, y, rfl, np, rfl, hx, hy⟩ := hy
      obtain ⟨i1, rfl⟩ := map_get hx
      obtain ⟨i2, rfl⟩ := map_get hy
      refine ⟨p, _, rfl, SqT.of upd_same, rfl, _, _, rfl, _, _, rfl, rfl, rfl, _, rfl, _, rfl, _, _, rfl, rfl, hq _ _ (same_upd np) ?_⟩
      show V.int _ = V.int (e.getD i 0 - f.getD i 0)
      rw [getD_at i1, getD_at i2]
    · have ea := RInt.all hl1 hR
      refine ⟨D, acc, rfl, .inl ⟨SqL.of hD, fun l nl => q _ l (sm1.trans (same_upd nl)) ?_⟩⟩
      rw [upd_same, ea, zip_range (fun x y => x - y) hl]
      rfl
def spPlus : Sp := fun vs H Q _ => ∃ (a b : Addr) (e f : List Int), vs = [.ref a, .ref b] ∧ H a = some (.tup (iv e)) ∧ H b = some (.tup (iv f)) ∧ e.length = f.length ∧ e.length ≤ 100 ∧ ∀ H' p, Same H H' → H' p = some (.tup (iv (add e f))) → Q (.ref p) H'
theorem ok_plus {f : Addr} {fd : FuncData} (D : At K mg "plus" s_plus ["one", "other"] f fd) (T : Bi mg) : Cal P w K mg base 1 "plus" spPlus := by
  refine D.cal sc_plus (fun vs H Q E h => ?_) (fun cdv A outer s H vs Q E hr h => ?_)
  · obtain ⟨a, b, _, _, rfl, _⟩ := h
    rfl
  · obtain ⟨a, b, e, f, rfl, ha, hb, hl, hn, q⟩ := h
    refine ⟨_, (pss_one (ps_ret (pe_callTy (tupOf K rfl) (by rfl) T.b_tuple (by decide +kernel) (pa_cons (pe_lc (own := [("left", 2), ("right", 3)]) rfl sc_plus.nd (RZ.pi_zipA (by rfl) T.b_zip (pa_cons (pv 0) (pa_cons (pv 1) pa_nil))) (blkOk_by (own := [("left", 2), ("right", 3)]) (N := N_plus) (sc := defScope s_plus) (by decide +kernel)) (fun _ _ _ _ _ => (tupG (n := 2) K rfl rfl (pgs_cons (pg_name (i := 2) sc_plus.nd rfl (by first | exact Or.inl rfl | exact Or.inr rfl)) (pgs_cons (pg_name (i := 3) sc_plus.nd rfl (by first | exact Or.inl rfl | exact Or.inr rfl)) pgs_nil)))) (fun _ _ _ _ _ => pts_nil) (fun _ _ _ _ _ => (pe_op op_add (pv 2) (pv 3)))) pa_nil)))), ?_⟩
    refine ⟨.ref a, rfl, .ref b, rfl, a, b, iv e, iv f, rfl, .inr ⟨SqT.of ha, SqT.of hb, fun D nD => ?_⟩⟩
    refine lc_R (walk_zipT (n := e.length) (by rw [List.length_map, List.length_map]; omega)) (RInt fun i => e.getD i 0 + f.getD i 0) nD (by omega) (fun _ _ _ _ _ h => h) (fun H' sm => ⟨SqT.of (sm _ _ ha), SqT.of (sm _ _ hb)⟩) (fun i x H1 H2 Q' hi sm hy hq => ?_) (fun H1 acc sm1 hD hl1 hR => ?_)
    · obtain ⟨p, x, y, rfl, np, rfl, hx, hy⟩ := hy
      obtain ⟨i1, rfl⟩ := map_get hx
      obtain ⟨i2, rfl⟩ := map_get hy
      refine ⟨p, _, rfl, SqT.of upd_same, rfl, _, _, rfl, _, _, rfl, rfl, rfl, _, rfl, _, rfl, _, _, rfl, rfl, hq _ _ (same_upd np) ?_⟩
      show V.int _ = V.int (e.getD i 0 + f.getD i 0)
      rw [getD_at i1, getD_at i2]
    · have ea := RInt.all hl1 hR
      refine ⟨D, acc, rfl, .inl ⟨SqL.of hD, fun l nl => q _ l (sm1.trans (same_upd nl)) ?_⟩⟩
      rw [upd_same, ea, zip_range (fun x y => x + y) hl]
      rfl
/-! ### is_interval, need_interval -/
def spIsInterval : Sp := fun vs H Q _ => ∃ (a b : Addr) (ps : List Nat) (e : List Int), vs = [.ref a, .ref b] ∧ H a = some (.tup (lv ps)) ∧ H b = some (.tup (iv e)) ∧ e.length = ps.length ∧ e.length ≤ 100 ∧ Bd 99 e ∧ ∀ H', Same H H' → Q (.bl true) H'
theorem ok_is_interval {f : Addr} {fd : FuncData} (D : At K mg "is_interval" s_is_interval ["limit", "value"] f fd) (T : Bi mg) (c_is_in : Cal P w K mg base 2 "is_in" spIsIn) : Cal P w K mg base 3 "is_interval" spIsInterval := by
  refine D.cal sc_is_interval (fun vs H Q E h => ?_) (fun cdv A outer s H vs Q E hr h => ?_)
  · obtain ⟨a, b, _, _, rfl, _⟩ := h
    rfl
  · obtain ⟨a, b, ps, e, rfl, ha, hb, hl, hn, hB, q⟩ := h
    refine ⟨_, (pss_cons (ps_if (PW.pt (pw_or (pt_not (pt_val (pe_callB (isi K rfl) (by rfl) T.b_isinstance (by decide +kernel) (pa_cons (pv 1) (pa_cons (pe_bltn (v := .ty "tuple") (by rfl) T.b_tuple (by decide +kernel) rfl) pa_nil))))) (pw_or1 (pt_cmpR op_ne (pe_callB (lenS K rfl) (by rfl) T.b_len PySem.boot_len (pa_cons (pv 1) pa_nil)) (pe_callB (lenS K rfl) (by rfl) T.b_len PySem.boot_len (pa_cons (pv 0) pa_nil)) (nomark _)))))
      (pss_one (ps_ret pe_bl)) pss_nil)
    (pss_one (ps_ret (pe_callB (crAll K rfl rfl) (by rfl) T.b_all (by decide +kernel) (pa_cons (pe_lc (own := [("entry", 2)]) rfl sc_is_interval.nd (piT K rfl (pv 1)) (blkOk_by (own := [("entry", 2)]) (N := N_is_interval) (sc := defScope s_is_interval) (by decide +kernel)) (fun _ _ _ _ _ => (pg_name (i := 2) sc_is_interval.nd rfl (by first | exact Or.inl rfl | exact Or.inr rfl))) (fun _ _ _ _ _ => pts_nil) (fun _ _ _ _ _ => (C8.pe_c c_is_in hr (by decide) (by rfl) (pa_cons (pv 2) (pa_cons (pe_un un_neg (pe_gi (by rfl) T.k_MOST_ENTRY)) (pa_cons (pe_gi (by rfl) T.k_MOST_ENTRY) pa_nil)))))) pa_nil))))), ?_⟩
    refine ⟨.ref b, rfl, .ref b, .ty "tuple", _, _, true, rfl, .ty _, .base (.tup hb), kit_ty (by decide +kernel), true, rfl, iteF ?_⟩
    refine ⟨.ref b, rfl, b, iv e, rfl, .inr (SqT.of hb), .ref a, rfl, a, lv ps, rfl, .inr (SqT.of ha), rfl, _, rfl, ?_⟩
    rw [List.length_map, List.length_map, hl, decide_eq_true rfl]
    refine iteF ?_
    refine ⟨.ref b, rfl, b, rfl, ⟨_, SqT.of hb⟩, fun D nD => ?_⟩
    refine lc_R (walk_tup (xs := iv e)) (fun _ v _ => v = .bl true) nD (by rw [List.length_map]; omega) (fun _ _ _ _ _ h => h) (fun H' sm => SqT.of (sm _ _ hb)) (fun i x H1 H2 Q' hi sm hy hq => ?_) (fun H1 acc sm1 hD hl hR => ?_)
    · obtain ⟨rfl, hx⟩ := hy
      obtain ⟨hi2, rfl⟩ := map_get hx
      have := hB _ (List.getElem_mem hi2)
      exact ⟨rfl, _, rfl, 99, rfl, _, -99, 99, rfl, this.1, this.2, hq _ _ (Same.refl _) rfl⟩
    · have eacc := RTrue.all hl hR
      refine ⟨D, _, rfl, SqL.of (by rw [hD, eacc]), ?_⟩
      rw [all_rep]
      exact q H1 sm1
def spNeedInterval : Sp := fun vs H Q _ => ∃ (a b : Addr) (ps : List Nat) (e : List Int), vs = [.ref a, .ref b] ∧ H a = some (.tup (lv ps)) ∧ H b = some (.tup (iv e)) ∧ e.length = ps.length ∧ e.length ≤ 100 ∧ Bd 99 e ∧ ∀ H', Same H H' → Q .non H'
theorem ok_need_interval {f : Addr} {fd : FuncData} (D : At K mg "need_interval" s_need_interval ["limit", "value"] f fd) (T : Bi mg) (c_is_interval : Cal P w K mg base 3 "is_interval" spIsInterval) : Cal P w K mg base 4 "need_interval" spNeedInterval := by
  refine D.cal sc_need_interval (fun vs H Q E h => ?_) (fun cdv A outer s H vs Q E hr h => ?_)
  · obtain ⟨a, b, _, _, rfl, _⟩ := h
    rfl
  · obtain ⟨a, b, ps, e, rfl, ha, hb, hl, hn, hB, q⟩ := h
    refine ⟨_, (pss_one (ps_if (pt_not (pt_val (C8.pe_c c_is_interval hr (by decide) (by rfl) (pa_cons (pv 0) (pa_cons (pv 1) pa_nil)))))
      (pss_one ps_never) pss_nil)), ?_⟩
    refine ⟨.ref a, rfl, .ref b, rfl, a, b, ps, e, rfl, ha, hb, hl, hn, hB, fun H' sm => ⟨true, rfl, iteF ?_⟩⟩
    exact q H' sm
/-! ### first_of -/
theorem rep_flat (k : Nat) : (List.replicate k [V.int 0]).flatten = iv (List.replicate k 0) := by
  induction k with
  | zero => rfl
  | succ k ih => rw [List.replicate_succ, List.flatten_cons, ih, List.replicate_succ]; rfl
def spFirstOf : Sp := fun vs H Q _ => ∃ (a : Addr) (ps : List Nat), vs = [.ref a] ∧ H a = some (.tup (lv ps)) ∧ 2 ≤ ps.length ∧ ps.length ≤ 100 ∧ ∀ H' p, Same H H' → H' p = some (.tup (iv (oct ps.length))) → Q (.ref p) H'
theorem ok_first_of {f : Addr} {fd : FuncData} (D : At K mg "first_of" s_first_of ["limit"] f fd) (T : Bi mg) : Cal P w K mg base 1 "first_of" spFirstOf := by
  refine D.cal sc_first_of (fun vs H Q E h => ?_) (fun cdv A outer s H vs Q E hr h => ?_)
  · obtain ⟨a, _, rfl, _⟩ := h
    rfl
  · obtain ⟨a, ps, rfl, ha, h2, h6, q⟩ := h
    refine ⟨_, (pss_one (ps_ret (pe_op (catT K rfl) (pe_tup (pa_cons pe_int pa_nil)) (pe_op (op_repA K rfl) (pe_tup (pa_cons pe_int pa_nil)) (pe_op op_sub (pe_callB (lenS K rfl) (by rfl) T.b_len PySem.boot_len (pa_cons (pv 0) pa_nil)) pe_int))))), ?_⟩
    refine ⟨small6 (by decide), fun p1 n1 => ⟨small6 (by decide), fun p2 n2 => ?_⟩⟩
    have s1 : Same H (upd H p1 (.tup [.int 1])) := same_upd n1
    have s2 : Same (upd H p1 (.tup [.int 1])) (upd (upd H p1 (.tup [.int 1])) p2 (.tup [.int 0])) := same_upd n2
    have h1 : (upd (upd H p1 (.tup [.int 1])) p2 (.tup [.int 0])) p1 = some (.tup [.int 1]) := s2 _ _ upd_same
    have fin : ∀ (H3 : Hp) (l : Addr), Same (upd (upd H p1 (.tup [.int 1])) p2 (.tup [.int 0])) H3 → H3 l = some (.tup (iv (List.replicate (ps.length - 1) 0))) →
        rCatT K (.ref p1) (.ref l) H3 Q := fun H3 l s3 hl => by
      refine ⟨p1, l, [.int 1], _, rfl, rfl, SqT.of (s3 _ _ h1), SqT.of hl, by simp, small6 (by rw [List.length_map, List.length_replicate]; show 1 + (ps.length - 1) ≤ 100; omega), fun z => ?_, fun _ p np => ?_⟩
      · exfalso
        have := congrArg List.length z
        rw [List.length_map, List.length_replicate] at this
        simp at this
        omega
      · refine q _ p (((s1.trans s2).trans s3).trans (same_upd np)) ?_
        rw [upd_same]
        rfl
    refine ⟨.ref a, rfl, a, lv ps, rfl, .inr (SqT.of (s2 _ _ (s1 _ _ ha))), _, _, rfl, rfl, p2, _, [.int 0], rfl, rfl, SqT.of upd_same, by simp, by rw [List.length_map]; omega, by rw [List.length_map]; omega, by decide, fun hk => ?_, fun hk p np => ?_⟩
    · refine fin _ p2 (Same.refl _) ?_
      rw [List.length_map] at hk
      rw [upd_same, show ps.length - 1 = 1 by omega]
      rfl
    · refine fin _ p (same_upd np) ?_
      rw [upd_same, rep_flat]
      rw [List.length_map, show (((ps.length : Nat) : Int) - 1).toNat = ps.length - 1 by omega]
end
end Tw8
set_option Elab.async false
set_option linter.all false
set_option maxRecDepth 100000
set_option maxHeartbeats 4000000
namespace Tw8
open PySem PySem.Spec PyProof.Rows L2 Tw
theorem up_step {ps : List Nat} {e : List Int} {i A U : Nat} (h1 : i < ps.length) (h2 : i < e.length) (h : A * up (ps.drop i) (e.drop i) = U) : A * (ps[i] ^ (e[i]).toNat) * up (ps.drop (i + 1)) (e.drop (i + 1)) = U := by
  rw [List.drop_eq_getElem_cons h1, List.drop_eq_getElem_cons h2] at h
  rw [Nat.mul_assoc]
  exact h
theorem dn_step {ps : List Nat} {e : List Int} {i A U : Nat} (h1 : i < ps.length) (h2 : i < e.length) (h : A * dn (ps.drop i) (e.drop i) = U) : A * (ps[i] ^ (-e[i]).toNat) * dn (ps.drop (i + 1)) (e.drop (i + 1)) = U := by
  rw [List.drop_eq_getElem_cons h1, List.drop_eq_getElem_cons h2] at h
  rw [Nat.mul_assoc]
  exact h
theorem up_end {ps : List Nat} {e : List Int} {A U : Nat} (h : A * up (ps.drop ps.length) (e.drop ps.length) = U) : A = U := by
  rw [List.drop_length] at h
  have : up [] (e.drop ps.length) = 1 := by unfold up; rfl
  rw [this, Nat.mul_one] at h
  exact h
theorem dn_end {ps : List Nat} {e : List Int} {A U : Nat} (h : A * dn (ps.drop ps.length) (e.drop ps.length) = U) : A = U := by
  rw [List.drop_length] at h
  have : dn [] (e.drop ps.length) = 1 := by unfold dn; rfl
  rw [this, Nat.mul_one] at h
  exact h
theorem part_le {A B U : Nat} (h : A * B = U) (hB : 0 < B) : A ≤ U := by
  rw [← h]
  exact Nat.le_mul_of_pos_right A hB
/-- the numbers' sizes -/
theorem up_bits {ps : List Nat} {e : List Int} (L : Lim ps) (hb : Bd 2000 e) : up ps e < 2 ^ 50001 ∧ dn ps e < 2 ^ 50001 := by
  obtain ⟨a, b⟩ := up_le (B := 2000) L.mem hb
  have l5 := L.l5
  have c : (2 : Nat) ^ (4 * 2000 * ps.length) < 2 ^ 50001 := Nat.pow_lt_pow_right (by decide) (by omega)
  exact ⟨Nat.lt_of_le_of_lt a c, Nat.lt_of_le_of_lt b c⟩
theorem pow_bits {p e : Nat} (hp : p ≤ 13) (he : e ≤ 2000) : p ^ e < 2 ^ 8001 := Nat.lt_of_lt_of_le (small_pow hp) (Nat.pow_le_pow_right (by decide) (by omega))
theorem mul_ok {A p e : Nat} (hA : A < 2 ^ 50001) (hp : p ≤ 13) (he : e ≤ 2000) : CMulW (A : Int) ((p ^ e : Nat) : Int) :=
  wide_mul (a := 50001) (b := 8001) (by rw [Int.natAbs_natCast]; exact hA) (by rw [Int.natAbs_natCast]; exact pow_bits hp he) (by omega) (by omega) (by omega)
theorem pr_drop {ps : List Nat} {i : Nat} (h : ∀ p ∈ ps, Pr p) : ∀ p ∈ ps.drop i, Pr p := fun p hp => h p (List.mem_of_mem_drop hp)
section
variable {P : Program} {w : World} {K : PySem.W.Frag} {mg : Str → Option Value} {base : Heap}
/-! ### ratio_of, sign_of -/
def spRatioOf : Sp := fun vs H Q _ => ∃ (a b : Addr) (ps : List Nat) (e : List Int), vs = [.ref a, .ref b] ∧ H a = some (.tup (lv ps)) ∧ H b = some (.tup (iv e)) ∧ Lim ps ∧ e.length = ps.length ∧ Bd 2000 e ∧
  ∀ H' p, Same H H' → H' p = some (.tup [.int (up ps e : Nat), .int (dn ps e : Nat)]) → Q (.ref p) H'
/-- the two products so far -/
structure Prods (ps : List Nat) (e : List Int) (i A B : Nat) : Prop where
  u : A * up (ps.drop i) (e.drop i) = up ps e
  d : B * dn (ps.drop i) (e.drop i) = dn ps e
theorem Prods.start {ps : List Nat} {e : List Int} : Prods ps e 0 1 1 := ⟨Nat.one_mul _, Nat.one_mul _⟩
section
variable {ps : List Nat} {e : List Int} {i A B : Nat}
theorem Prods.bits (h : Prods ps e i A B) (L : Lim ps) (hb : Bd 2000 e) : A < 2 ^ 50001 ∧ B < 2 ^ 50001 := by
  obtain ⟨a, b⟩ := up_bits L hb
  exact ⟨Nat.lt_of_le_of_lt (part_le h.u (up_pos (pr_drop L.mem))) a, Nat.lt_of_le_of_lt (part_le h.d (dn_pos (pr_drop L.mem))) b⟩
theorem Prods.pos (h : Prods ps e i A B) (h1 : i < ps.length) (h2 : i < e.length) (hp : 0 < e[i]) : Prods ps e (i + 1) (A * ps[i] ^ (e[i]).toNat) B := by
  refine ⟨up_step h1 h2 h.u, ?_⟩
  have := dn_step h1 h2 h.d
  rw [show (-e[i]).toNat = 0 by omega, Nat.pow_zero, Nat.mul_one] at this
  exact this
theorem Prods.neg (h : Prods ps e i A B) (h1 : i < ps.length) (h2 : i < e.length) (hp : ¬ 0 < e[i]) : Prods ps e (i + 1) A (B * ps[i] ^ (-e[i]).toNat) := by
  refine ⟨?_, dn_step h1 h2 h.d⟩
  have := up_step h1 h2 h.u
  rw [show (e[i]).toNat = 0 by omega, Nat.pow_zero, Nat.mul_one] at this
  exact this
theorem Prods.fin (h : Prods ps e ps.length A B) : A = up ps e ∧ B = dn ps e := ⟨up_end h.u, dn_end h.d⟩
end
theorem ok_ratio_of {f : Addr} {fd : FuncData} (D : At K mg "ratio_of" s_ratio_of ["limit", "interval"] f fd) (T : Bi mg) (c_power : Cal P w K mg base 1 "power" spPower) : Cal P w K mg base 2 "ratio_of" spRatioOf := by
  refine D.cal sc_ratio_of (fun vs H Q E h => ?_) (fun cdv A outer s H vs Q E hr h => ?_)
  · obtain ⟨a, b, _, _, rfl, _⟩ := h
    rfl
  · obtain ⟨a, b, ps, e, rfl, ha, hb, L, hl, hB, q⟩ := h
    refine ⟨_, (pss_cons (ps_asg (pe_tup (pa_cons pe_int (pa_cons pe_int pa_nil))) (tupG (n := 2) K rfl rfl (pgs_cons (pg_name (i := 2) sc_ratio_of.nd rfl (by first | exact Or.inl rfl | exact Or.inr rfl)) (pgs_cons (pg_name (i := 3) sc_ratio_of.nd rfl (by first | exact Or.inl rfl | exact Or.inr rfl)) pgs_nil))))
    (pss_cons (ps_for PassesOwn.never rfl (RZ.pi_zipA (by rfl) T.b_zip (pa_cons (pv 0) (pa_cons (pv 1) pa_nil))) (tupG (n := 2) K rfl rfl (pgs_cons (pg_name (i := 4) sc_ratio_of.nd rfl (by first | exact Or.inl rfl | exact Or.inr rfl)) (pgs_cons (pg_name (i := 5) sc_ratio_of.nd rfl (by first | exact Or.inl rfl | exact Or.inr rfl)) pgs_nil)))
      (pss_one (ps_if (pt_cmpR op_gt (pv 5) pe_int (nomark _))
        (pss_one (ps_set (i := 2) sc_ratio_of.nd rfl (by first | exact Or.inl rfl | exact Or.inr rfl) (pe_op op_mulW (pv 2) (C8.pe_c c_power hr (by decide) (by rfl) (pa_cons (pv 4) (pa_cons (pv 5) pa_nil))))))
        (pss_one (ps_set (i := 3) sc_ratio_of.nd rfl (by first | exact Or.inl rfl | exact Or.inr rfl) (pe_op op_mulW (pv 3) (C8.pe_c c_power hr (by decide) (by rfl) (pa_cons (pv 4) (pa_cons (pe_un un_neg (pv 5)) pa_nil)))))))))
    (pss_one (ps_ret (pe_tup (pa_cons (pv 2) (pa_cons (pv 3) pa_nil))))))), ?_⟩
    refine ⟨small6 (by decide), fun p1 n1 => ⟨p1, _, rfl, SqT.of upd_same, rfl, _, _, rfl, _, _, rfl, rfl, ?_⟩⟩
    have s1 : Same H (upd H p1 (.tup [.int 1, .int 1])) := same_upd n1
    refine ⟨.ref a, rfl, .ref b, rfl, a, b, lv ps, iv e, rfl, .inr ⟨SqT.of (s1 _ _ ha), SqT.of (s1 _ _ hb), ?_⟩⟩
    refine for_it (walk_zipT (xs := lv ps) (ys := iv e) (n := ps.length) (by rw [List.length_map, List.length_map]; omega)) (fun i σ H' => Same H H' ∧ ∃ (A B : Nat) (y4 y5 : Option V), σ = [some (.ref a), some (.ref b), some (.int (A : Int)), some (.int (B : Int)), y4, y5] ∧ Prods ps e i A B)
      ⟨s1, 1, 1, none, none, rfl, Prods.start⟩ (fun i σ H' _ h => ⟨SqT.of (h.1 _ _ ha), SqT.of (h.1 _ _ hb)⟩) (fun i x σ H1 H2 hi h hy => ?_) (fun σ H' h => ?_)
    · obtain ⟨sm, A, B, y4, y5, rfl, hP⟩ := h
      obtain ⟨p, x, y, rfl, np, rfl, hx, hy⟩ := hy
      obtain ⟨i1, rfl⟩ := map_get hx
      obtain ⟨i2, rfl⟩ := map_get hy
      have pr := L.mem _ (List.getElem_mem i1)
      have bd := hB _ (List.getElem_mem i2)
      obtain ⟨bA, bB⟩ := hP.bits L hB
      have sm2 : Same H (upd H1 p (.tup [.int ((ps[i] : Nat) : Int), .int e[i]])) := sm.trans (same_upd np)
      refine ⟨p, _, rfl, SqT.of upd_same, rfl, _, _, rfl, _, _, rfl, rfl, ?_⟩
      refine ⟨_, rfl, _, _, rfl, rfl, _, rfl, ite2 (fun hc => ?_) (fun hc => ?_)⟩
      · have hpos : 0 < e[i] := of_decide_eq_true hc
        refine ⟨_, rfl, _, rfl, _, rfl, ps[i], e[i], rfl, pr.le, by omega, by omega, _, _, rfl, rfl, mul_ok bA pr.le (by omega), sm2, _, B, _, _, rfl, hP.pos i1 i2 hpos⟩
      · have hpos : ¬ 0 < e[i] := fun z => hc (decide_eq_true z)
        refine ⟨_, rfl, _, rfl, _, rfl, _, rfl, ps[i], -e[i], rfl, pr.le, by omega, by omega, _, _, rfl, rfl, mul_ok bB pr.le (by omega), sm2, A, _, _, _, rfl, hP.neg i1 i2 hpos⟩
    · obtain ⟨sm, A, B, y4, y5, rfl, hP⟩ := h
      obtain ⟨rfl, rfl⟩ := hP.fin
      exact ⟨_, rfl, _, rfl, small6 (by show 2 ≤ 100; decide), fun p np => q _ p (sm.trans (same_upd np)) upd_same⟩
def spSignOf : Sp := fun vs H Q _ => ∃ (a b : Addr) (ps : List Nat) (e : List Int), vs = [.ref a, .ref b] ∧ H a = some (.tup (lv ps)) ∧ H b = some (.tup (iv e)) ∧ Lim ps ∧ e.length = ps.length ∧ Bd 2000 e ∧
  ∀ H', Same H H' → Q (.int (sgn ps e)) H'
theorem sgn_bools (ps : List Nat) (e : List Int) : b2i (decide ((dn ps e : Int) < (up ps e : Int))) - b2i (decide ((up ps e : Int) < (dn ps e : Int))) = sgn ps e := by
  unfold sgn
  by_cases h1 : dn ps e < up ps e
  · rw [if_pos h1, decide_eq_true (by omega), decide_eq_false (by omega)]
    rfl
  · rw [if_neg h1, decide_eq_false (by omega)]
    by_cases h2 : up ps e < dn ps e
    · rw [if_pos h2, decide_eq_true (by omega)]
      rfl
    · rw [if_neg h2, decide_eq_false (by omega)]
      rfl
theorem ok_sign_of {f : Addr} {fd : FuncData} (D : At K mg "sign_of" s_sign_of ["limit", "interval"] f fd) (T : Bi mg) (c_ratio_of : Cal P w K mg base 2 "ratio_of" spRatioOf) : Cal P w K mg base 3 "sign_of" spSignOf := by
  refine D.cal sc_sign_of (fun vs H Q E h => ?_) (fun cdv A outer s H vs Q E hr h => ?_)
  · obtain ⟨a, b, _, _, rfl, _⟩ := h
    rfl
  · obtain ⟨a, b, ps, e, rfl, ha, hb, L, hl, hB, q⟩ := h
    refine ⟨_, (pss_cons (ps_asg (C8.pe_c c_ratio_of hr (by decide) (by rfl) (pa_cons (pv 0) (pa_cons (pv 1) pa_nil))) (tupG (n := 2) K rfl rfl (pgs_cons (pg_name (i := 2) sc_sign_of.nd rfl (by first | exact Or.inl rfl | exact Or.inr rfl)) (pgs_cons (pg_name (i := 3) sc_sign_of.nd rfl (by first | exact Or.inl rfl | exact Or.inr rfl)) pgs_nil))))
    (pss_one (ps_ret (pe_op op_sub_bb (pe_cmpR op_gt (pv 2) (pv 3) (nomark _)) (pe_cmpR op_lt (pv 2) (pv 3) (nomark _)))))), ?_⟩
    refine ⟨.ref a, rfl, .ref b, rfl, a, b, ps, e, rfl, ha, hb, L, hl, hB, fun H1 p sm hp => ?_⟩
    refine ⟨p, _, rfl, SqT.of hp, rfl, _, _, rfl, _, _, rfl, rfl, ?_⟩
    refine ⟨_, rfl, _, rfl, _, _, rfl, rfl, _, rfl, _, rfl, _, _, rfl, rfl, _, _, rfl, rfl, ?_⟩
    rw [sgn_bools]
    exact q H1 sm
/-! ### the law's own: power, quotient, minus, plus, sign -/
theorem ok_law_power {f : Addr} {fd : FuncData} (D : At K mg "_law_power" s_law_power ["_law_base", "_law_exponent"] f fd) (T : Bi mg) : Cal P w K mg base 1 "_law_power" spPower := by
  refine D.cal sc_law_power (fun vs H Q E h => ?_) (fun cdv A outer s H vs Q E hr h => ?_)
  · obtain ⟨p, e, rfl, _⟩ := h
    rfl
  · obtain ⟨p, e, rfl, hp, h0, h1, q⟩ := h
    refine ⟨_, (pss_cons (ps_set (i := 2) sc_law_power.nd rfl (by first | exact Or.inl rfl | exact Or.inr rfl) pe_int)
    (pss_cons (ps_for PassesOwn.never rfl (pi_range1 (by rfl) T.b_range (pa_cons (pv 1) pa_nil)) (pg_name (i := 3) sc_law_power.nd rfl (by first | exact Or.inl rfl | exact Or.inr rfl))
      (pss_one (ps_set (i := 2) sc_law_power.nd rfl (by first | exact Or.inl rfl | exact Or.inr rfl) (pe_op op_mulW (pv 2) (pv 0)))))
    (pss_one (ps_ret (pv 2))))), ?_⟩
    obtain ⟨e, rfl⟩ : ∃ n : Nat, e = (n : Int) := ⟨e.toNat, by omega⟩
    rw [Int.toNat_natCast] at q
    refine ⟨_, rfl, (e : Int), rfl, by omega, by omega, ?_⟩
    refine for_range (n := ((e : Int)).toNat) (fun i σ H' => H' = H ∧ ∃ y, σ = [some (.int (p : Int)), some (.int (e : Int)), some (.int ((p ^ i : Nat) : Int)), y]) ⟨rfl, none, rfl⟩ (fun i σ H' hi h => ?_) (fun σ H' h => ?_)
    · obtain ⟨rfl, y, rfl⟩ := h
      refine ⟨_, rfl, _, rfl, _, _, rfl, rfl, ?_, rfl, some (.int (0 + (i : Int))), ?_⟩
      · refine wide_mul (a := 8001) (b := 10) ?_ ?_ (by omega) (by omega) (by omega)
        · rw [Int.natAbs_natCast]
          exact pow_bits hp (by omega)
        · have : (2 : Nat) ^ 10 = 1024 := rfl
          omega
      · rw [Nat.pow_succ]
        rfl
    · obtain ⟨rfl, y, rfl⟩ := h
      rw [Int.toNat_natCast]
      exact ⟨_, rfl, q⟩
theorem ok_law_quotient {f : Addr} {fd : FuncData} (D : At K mg "_law_quotient" s_law_quotient ["_law_limit_here", "_law_interval_here"] f fd) (T : Bi mg) (c_law_power : Cal P w K mg base 1 "_law_power" spPower) : Cal P w K mg base 2 "_law_quotient" spRatioOf := by
  refine D.cal sc_law_quotient (fun vs H Q E h => ?_) (fun cdv A outer s H vs Q E hr h => ?_)
  · obtain ⟨a, b, _, _, rfl, _⟩ := h
    rfl
  · obtain ⟨a, b, ps, e, rfl, ha, hb, L, hl, hB, q⟩ := h
    have l5 := L.l5
    refine ⟨_, (pss_cons (ps_asg (pe_tup (pa_cons pe_int (pa_cons pe_int pa_nil))) (tupG (n := 2) K rfl rfl (pgs_cons (pg_name (i := 2) sc_law_quotient.nd rfl (by first | exact Or.inl rfl | exact Or.inr rfl)) (pgs_cons (pg_name (i := 3) sc_law_quotient.nd rfl (by first | exact Or.inl rfl | exact Or.inr rfl)) pgs_nil))))
    (pss_cons (ps_for PassesOwn.never rfl (pi_range1 (by rfl) T.b_range (pa_cons (pe_callB (lenS K rfl) (by rfl) T.b_len PySem.boot_len (pa_cons (pv 0) pa_nil)) pa_nil)) (pg_name (i := 4) sc_law_quotient.nd rfl (by first | exact Or.inl rfl | exact Or.inr rfl))
      (pss_one (ps_if (pt_cmpR op_gt (pe_ix (ixT K rfl) (pv 1) (pv 4) (fun _ _ => rfl)) pe_int (nomark _))
        (pss_one (ps_set (i := 2) sc_law_quotient.nd rfl (by first | exact Or.inl rfl | exact Or.inr rfl) (pe_op op_mulW (pv 2) (C8.pe_c c_law_power hr (by decide) (by rfl) (pa_cons (pe_ix (ixT K rfl) (pv 0) (pv 4) (fun _ _ => rfl)) (pa_cons (pe_ix (ixT K rfl) (pv 1) (pv 4) (fun _ _ => rfl)) pa_nil))))))
        (pss_one (ps_set (i := 3) sc_law_quotient.nd rfl (by first | exact Or.inl rfl | exact Or.inr rfl) (pe_op op_mulW (pv 3) (C8.pe_c c_law_power hr (by decide) (by rfl) (pa_cons (pe_ix (ixT K rfl) (pv 0) (pv 4) (fun _ _ => rfl)) (pa_cons (pe_op op_sub pe_int (pe_ix (ixT K rfl) (pv 1) (pv 4) (fun _ _ => rfl))) pa_nil)))))))))
    (pss_one (ps_ret (pe_tup (pa_cons (pv 2) (pa_cons (pv 3) pa_nil))))))), ?_⟩
    refine ⟨small6 (by decide), fun p1 n1 => ⟨p1, _, rfl, SqT.of upd_same, rfl, _, _, rfl, _, _, rfl, rfl, ?_⟩⟩
    have s1 : Same H (upd H p1 (.tup [.int 1, .int 1])) := same_upd n1
    refine ⟨.ref a, rfl, a, lv ps, rfl, .inr (SqT.of (s1 _ _ ha)), ps.length, by rw [List.length_map], by omega, by omega, ?_⟩
    refine for_range (n := ((ps.length : Int)).toNat) (fun i σ H' => Same H H' ∧ ∃ (A B : Nat) (y4 : Option V), σ = [some (.ref a), some (.ref b), some (.int (A : Int)), some (.int (B : Int)), y4] ∧ Prods ps e i A B)
      ⟨s1, 1, 1, none, rfl, Prods.start⟩ (fun i σ H1 hi h => ?_) (fun σ H' h => ?_)
    · obtain ⟨sm, A, B, y4, rfl, hP⟩ := h
      have i1 : i < ps.length := by omega
      have i2 : i < e.length := by omega
      have g1 : (lv ps)[i]? = some (.int ((ps[i] : Nat) : Int)) := by
        rw [List.getElem?_map, List.getElem?_eq_getElem i1]
        rfl
      have g2 : (iv e)[i]? = some (.int e[i]) := by
        rw [List.getElem?_map, List.getElem?_eq_getElem i2]
        rfl
      have pr := L.mem _ (List.getElem_mem i1)
      have bd := hB _ (List.getElem_mem i2)
      obtain ⟨bA, bB⟩ := hP.bits L hB
      have ta : SqT K H1 a (lv ps) := SqT.of (sm _ _ ha)
      have tb : SqT K H1 b (iv e) := SqT.of (sm _ _ hb)
      have at1 : atI (lv ps) (0 + (i : Int)) = some (.int ((ps[i] : Nat) : Int)) := at_of (by omega) g1
      have at2 : atI (iv e) (0 + (i : Int)) = some (.int e[i]) := at_of (by omega) g2
      refine ⟨_, rfl, _, rfl, b, _, _, _, rfl, rfl, tb, at2, _, _, rfl, rfl, _, rfl, ite2 (fun hc => ?_) (fun hc => ?_)⟩
      · have hpos : 0 < e[i] := of_decide_eq_true hc
        refine ⟨_, rfl, _, rfl, _, rfl, a, _, _, _, rfl, rfl, ta, at1, _, rfl, _, rfl, b, _, _, _, rfl, rfl, tb, at2, ps[i], e[i], rfl, pr.le, by omega, by omega, _, _, rfl, rfl, mul_ok bA pr.le (by omega), sm, _, B, _, rfl, hP.pos i1 i2 hpos⟩
      · have hpos : ¬ 0 < e[i] := fun z => hc (decide_eq_true z)
        refine ⟨_, rfl, _, rfl, _, rfl, a, _, _, _, rfl, rfl, ta, at1, _, rfl, _, rfl, b, _, _, _, rfl, rfl, tb, at2, _, _, rfl, rfl, ps[i], -e[i], by show [V.int ((ps[i] : Nat) : Int), V.int (0 - e[i])] = _; rw [Int.zero_sub], pr.le, by omega, by omega, _, _, rfl, rfl, mul_ok bB pr.le (by omega), sm, A, _, _, rfl, hP.neg i1 i2 hpos⟩
    · obtain ⟨sm, A, B, y4, rfl, hP⟩ := h
      rw [Int.toNat_natCast] at hP
      obtain ⟨rfl, rfl⟩ := hP.fin
      exact ⟨_, rfl, _, rfl, small6 (by show 2 ≤ 100; decide), fun p np => q _ p (sm.trans (same_upd np)) upd_same⟩
theorem sgn_ints (ps : List Nat) (e : List Int) : (if decide ((dn ps e : Int) < (up ps e : Int)) = true then (1 : Int) else 0) - (if decide ((up ps e : Int) < (dn ps e : Int)) = true then (1 : Int) else 0) = sgn ps e := by
  unfold sgn
  by_cases h1 : dn ps e < up ps e
  · rw [if_pos h1, decide_eq_true (by omega), decide_eq_false (by omega)]
    rfl
  · rw [if_neg h1, decide_eq_false (by omega)]
    by_cases h2 : up ps e < dn ps e
    · rw [if_pos h2, decide_eq_true (by omega)]
      rfl
    · rw [if_neg h2, decide_eq_false (by omega)]
      rfl
theorem ok_law_sign {f : Addr} {fd : FuncData} (D : At K mg "_law_sign" s_law_sign ["_law_limit_here", "_law_interval_here"] f fd) (T : Bi mg) (c_law_quotient : Cal P w K mg base 2 "_law_quotient" spRatioOf) : Cal P w K mg base 3 "_law_sign" spSignOf := by
  refine D.cal sc_law_sign (fun vs H Q E h => ?_) (fun cdv A outer s H vs Q E hr h => ?_)
  · obtain ⟨a, b, _, _, rfl, _⟩ := h
    rfl
  · obtain ⟨a, b, ps, e, rfl, ha, hb, L, hl, hB, q⟩ := h
    refine ⟨_, (pss_cons (ps_asg (C8.pe_c c_law_quotient hr (by decide) (by rfl) (pa_cons (pv 0) (pa_cons (pv 1) pa_nil))) (tupG (n := 2) K rfl rfl (pgs_cons (pg_name (i := 2) sc_law_sign.nd rfl (by first | exact Or.inl rfl | exact Or.inr rfl)) (pgs_cons (pg_name (i := 3) sc_law_sign.nd rfl (by first | exact Or.inl rfl | exact Or.inr rfl)) pgs_nil))))
    (pss_one (ps_ret (pe_op op_sub (pe_callTy call_int1 (by rfl) T.b_int (by decide +kernel) (pa_cons (pe_cmpR op_gt (pv 2) (pv 3) (nomark _)) pa_nil)) (pe_callTy call_int1 (by rfl) T.b_int (by decide +kernel) (pa_cons (pe_cmpR op_lt (pv 2) (pv 3) (nomark _)) pa_nil)))))), ?_⟩
    refine ⟨.ref a, rfl, .ref b, rfl, a, b, ps, e, rfl, ha, hb, L, hl, hB, fun H1 p sm hp => ?_⟩
    refine ⟨p, _, rfl, SqT.of hp, rfl, _, _, rfl, _, _, rfl, rfl, ?_⟩
    refine ⟨_, rfl, _, rfl, _, _, rfl, rfl, .inr ⟨_, rfl, _, rfl, _, rfl, _, _, rfl, rfl, .inr ⟨_, rfl, _, _, rfl, rfl, ?_⟩⟩⟩
    show Q (.int ((if decide ((dn ps e : Int) < (up ps e : Int)) = true then (1 : Int) else 0) - (if decide ((up ps e : Int) < (dn ps e : Int)) = true then (1 : Int) else 0))) H1
    rw [sgn_ints]
    exact q H1 sm
theorem ok_law_minus {f : Addr} {fd : FuncData} (D : At K mg "_law_minus" s_law_minus ["_law_one", "_law_other"] f fd) (T : Bi mg) : Cal P w K mg base 1 "_law_minus" spMinus := by
  refine D.cal sc_law_minus (fun vs H Q E h => ?_) (fun cdv A outer s H vs Q E hr h => ?_)
  · obtain ⟨a, b, _, _, rfl, _⟩ := h
    rfl
  · obtain ⟨a, b, e, f, rfl, ha, hb, hl, hn, q⟩ := h
    refine ⟨_, (pss_one (ps_ret (pe_callTy (tupOf K rfl) (by rfl) T.b_tuple (by decide +kernel) (pa_cons (pe_lc (own := [("_law_at", 2)]) rfl sc_law_minus.nd (pi_range1 (by rfl) T.b_range (pa_cons (pe_callB (lenS K rfl) (by rfl) T.b_len PySem.boot_len (pa_cons (pv 0) pa_nil)) pa_nil)) (blkOk_by (own := [("_law_at", 2)]) (N := N_law_minus) (sc := defScope s_law_minus) (by decide +kernel)) (fun _ _ _ _ _ => (pg_name (i := 2) sc_law_minus.nd rfl (by first | exact Or.inl rfl | exact Or.inr rfl))) (fun _ _ _ _ _ => pts_nil) (fun _ _ _ _ _ => (pe_op op_sub (pe_ix (ixT K rfl) (pv 0) (pv 2) (fun _ _ => rfl)) (pe_ix (ixT K rfl) (pv 1) (pv 2) (fun _ _ => rfl))))) pa_nil)))), ?_⟩
    refine ⟨.ref a, rfl, a, iv e, rfl, .inr (SqT.of ha), e.length, by rw [List.length_map], by omega, by omega, fun D nD => ?_⟩
    refine lc_R walk_range (RInt fun i => e.getD i 0 - f.getD i 0) nD (by omega) (fun _ _ _ _ _ h => h) (fun H' sm => True.intro) (fun i x H1 H2 Q' hi sm hy hq => ?_) (fun H1 acc sm1 hD hl1 hR => ?_)
    · obtain ⟨rfl, rfl⟩ := hy
      have i1 : i < e.length := by omega
      have i2 : i < f.length := by omega
      have g1 : (iv e)[i]? = some (.int e[i]) := by
        rw [List.getElem?_map, List.getElem?_eq_getElem i1]
        rfl
      have g2 : (iv f)[i]? = some (.int f[i]) := by
        rw [List.getElem?_map, List.getElem?_eq_getElem i2]
        rfl
      refine ⟨rfl, _, rfl, _, rfl, a, _, _, _, rfl, rfl, SqT.of (sm _ _ ha), at_of (by omega) g1, _, rfl, _, rfl, b, _, _, _, rfl, rfl, SqT.of (sm _ _ hb), at_of (by omega) g2, _, _, rfl, rfl, hq _ _ (Same.refl _) ?_⟩
      show V.int _ = V.int (e.getD i 0 - f.getD i 0)
      rw [getD_at i1, getD_at i2]
    · rw [Int.toNat_natCast] at hl1
      have ea := RInt.all hl1 hR
      refine ⟨D, acc, rfl, .inl ⟨SqL.of hD, fun l nl => q _ l (sm1.trans (same_upd nl)) ?_⟩⟩
      rw [upd_same, ea, zip_range (fun x y => x - y) hl]
      rfl
theorem ok_law_plus {f : Addr} {fd : FuncData} (D : At K mg "_law_plus" s_law_plus ["_law_one", "_law_other"] f fd) (T : Bi mg) : Cal P w K mg base 1 "_law_plus" spPlus := by
  refine D.cal sc_law_plus (fun vs H Q E h => ?_) (fun cdv A outer s H vs Q E hr h => ?_)
  · obtain ⟨a, b, _, _, rfl, _⟩ := h
    rfl
  · obtain ⟨a, b, e, f, rfl, ha, hb, hl, hn, q⟩ := h
    refine ⟨_, (pss_one (ps_ret (pe_callTy (tupOf K rfl) (by rfl) T.b_tuple (by decide +kernel) (pa_cons (pe_lc (own := [("_law_at", 2)]) rfl sc_law_plus.nd (pi_range1 (by rfl) T.b_range (pa_cons (pe_callB (lenS K rfl) (by rfl) T.b_len PySem.boot_len (pa_cons (pv 0) pa_nil)) pa_nil)) (blkOk_by (own := [("_law_at", 2)]) (N := N_law_plus) (sc := defScope s_law_plus) (by decide +kernel)) (fun _ _ _ _ _ => (pg_name (i := 2) sc_law_plus.nd rfl (by first | exact Or.inl rfl | exact Or.inr rfl))) (fun _ _ _ _ _ => pts_nil) (fun _ _ _ _ _ => (pe_op op_add (pe_ix (ixT K rfl) (pv 0) (pv 2) (fun _ _ => rfl)) (pe_ix (ixT K rfl) (pv 1) (pv 2) (fun _ _ => rfl))))) pa_nil)))), ?_⟩
    refine ⟨.ref a, rfl, a, iv e, rfl, .inr (SqT.of ha), e.length, by rw [List.length_map], by omega, by omega, fun D nD => ?_⟩
    refine lc_R walk_range (RInt fun i => e.getD i 0 + f.getD i 0) nD (by omega) (fun _ _ _ _ _ h => h) (fun H' sm => True.intro) (fun i x H1 H2 Q' hi sm hy hq => ?_) (fun H1 acc sm1 hD hl1 hR => ?_)
    · obtain ⟨rfl, rfl⟩ := hy
      have i1 : i < e.length := by omega
      have i2 : i < f.length := by omega
      have g1 : (iv e)[i]? = some (.int e[i]) := by
        rw [List.getElem?_map, List.getElem?_eq_getElem i1]
        rfl
      have g2 : (iv f)[i]? = some (.int f[i]) := by
        rw [List.getElem?_map, List.getElem?_eq_getElem i2]
        rfl
      refine ⟨rfl, _, rfl, _, rfl, a, _, _, _, rfl, rfl, SqT.of (sm _ _ ha), at_of (by omega) g1, _, rfl, _, rfl, b, _, _, _, rfl, rfl, SqT.of (sm _ _ hb), at_of (by omega) g2, _, _, rfl, rfl, hq _ _ (Same.refl _) ?_⟩
      show V.int _ = V.int (e.getD i 0 + f.getD i 0)
      rw [getD_at i1, getD_at i2]
    · rw [Int.toNat_natCast] at hl1
      have ea := RInt.all hl1 hR
      refine ⟨D, acc, rfl, .inl ⟨SqL.of hD, fun l nl => q _ l (sm1.trans (same_upd nl)) ?_⟩⟩
      rw [upd_same, ea, zip_range (fun x y => x + y) hl]
      rfl
end
end Tw8
set_option linter.all false
/-! Scales. -/
namespace Tw
structure Sc (B : Int) (ps : List Nat) (sc : List (List Int)) : Prop where
  ne : 0 < sc.length
  le : sc.length ≤ 24
  ok : ∀ e ∈ sc, e.length = ps.length ∧ Bd B e
  zero : sc[0]? = some (zer ps.length)
  inc : sc.Pairwise (fun e f => sz ps e < sz ps f)
  top : ∀ e ∈ sc, sz ps e < sz ps (oct ps.length)
def addO (r : Int) : List Int → List Int
  | a :: t => (a + r) :: t
  | [] => []
def noteAt (sc : List (List Int)) (k : Nat) : List Int := addO ((k / sc.length : Nat) : Int) (sc.getD (k % sc.length) [])
def spansL (sc : List (List Int)) (k : Nat) : List (List Int) := (List.range sc.length).map fun i => sub (noteAt sc (i + k)) (sc.getD i [])
def modeL (sc : List (List Int)) (a : Nat) : List (List Int) := (List.range sc.length).map fun i => sub (noteAt sc (a + i)) (sc.getD a [])
def updn (n : Nat) (sc : List (List Int)) : List (List Int) := sc.getD 0 [] :: (sc.drop 1).reverse.map fun e => sub (oct n) e
theorem getD_eq {sc : List (List Int)} {i : Nat} (h : i < sc.length) : sc.getD i [] = sc[i] := by
  rw [List.getD_eq_getElem?_getD, List.getElem?_eq_getElem h]
  rfl
theorem get_some {sc : List (List Int)} {i : Nat} (h : i < sc.length) : sc[i]? = some (sc.getD i []) := by
  rw [getD_eq h, List.getElem?_eq_getElem h]
theorem getD_mem {sc : List (List Int)} {i : Nat} (h : i < sc.length) : sc.getD i [] ∈ sc := by
  rw [getD_eq h]
  exact List.getElem_mem h
theorem sub_len {e f : List Int} (h : e.length = f.length) : (sub e f).length = e.length := by
  unfold sub
  rw [List.length_zipWith]
  omega
theorem add_len {e f : List Int} (h : e.length = f.length) : (add e f).length = e.length := by
  unfold add
  rw [List.length_zipWith]
  omega
theorem addO_len (r : Int) (e : List Int) : (addO r e).length = e.length := by
  cases e <;> rfl
theorem addO_zero (e : List Int) : addO 0 e = e := by
  cases e with
  | nil => rfl
  | cons a t =>
    show (a + 0) :: t = a :: t
    rw [Int.add_zero]
theorem sub_bd : ∀ {e f : List Int} {B C : Int}, Bd B e → Bd C f → Bd (B + C) (sub e f)
  | [], _, _, _, _, _ => fun x hx => by simp [sub] at hx
  | a :: e, [], _, _, _, _ => fun x hx => by simp [sub] at hx
  | a :: e, b :: f, B, C, h1, h2 => by
    have ha := h1.head
    have hb := h2.head
    exact Bd.cons (show -(B + C) ≤ a - b ∧ a - b ≤ B + C by omega) (sub_bd h1.tail h2.tail)
theorem oct_bd {n : Nat} {B : Int} (h : 1 ≤ B) : Bd B (oct n) := Bd.cons (by omega) fun x hx => by
  have := List.eq_of_mem_replicate hx
  omega
theorem oct_len {n : Nat} (h : 1 ≤ n) : (oct n).length = n := by
  unfold oct
  rw [List.length_cons, List.length_replicate]
  omega
theorem addO_bd {e : List Int} {B r : Int} (h : Bd B e) (h0 : 0 ≤ r) : Bd (B + r) (addO r e) := by
  cases e with
  | nil => exact Bd.nil
  | cons a t =>
    have := h.head
    exact Bd.cons (by omega) (h.tail.mono (by omega))
theorem addO_add (r q : Int) (e : List Int) : addO q (addO r e) = addO (r + q) e := by
  cases e with
  | nil => rfl
  | cons a t =>
    show (a + r + q) :: t = (a + (r + q)) :: t
    rw [Int.add_assoc]
theorem add_rep : ∀ (t : List Int), List.zipWith (fun a b => a + b) t (List.replicate t.length (0 : Int)) = t
  | [] => rfl
  | a :: t => by
    show (a + 0) :: List.zipWith (fun a b => a + b) t (List.replicate t.length (0 : Int)) = a :: t
    rw [add_rep t, Int.add_zero]
/-- plus the first prime -/
theorem add_oct {e : List Int} {n : Nat} (h : e.length = n) (hn : 1 ≤ n) : add e (oct n) = addO 1 e := by
  cases e with
  | nil => simp at h; omega
  | cons a t =>
    show (a + 1) :: List.zipWith (fun a b => a + b) t (List.replicate (n - 1) (0 : Int)) = (a + 1) :: t
    rw [← h, List.length_cons, Nat.add_sub_cancel, add_rep]
theorem addO_zer {n : Nat} (h : 1 ≤ n) : addO 1 (zer n) = oct n := by
  unfold zer oct
  cases n with
  | zero => omega
  | succ n => rfl
theorem add_sub : ∀ {x e : List Int}, x.length = e.length → add e (sub x e) = x
  | [], [], _ => rfl
  | a :: x, [], h => by simp at h
  | [], b :: e, h => by simp at h
  | a :: x, b :: e, h => by
    show (b + (a - b)) :: add e (sub x e) = a :: x
    rw [add_sub (Nat.succ.inj h), show b + (a - b) = a by omega]
theorem noteAt_lt {sc : List (List Int)} {i : Nat} (h : i < sc.length) : noteAt sc i = sc.getD i [] := by
  unfold noteAt
  rw [Nat.div_eq_of_lt h, Nat.mod_eq_of_lt h]
  exact addO_zero _
section
variable {B : Int} {ps : List Nat} {sc : List (List Int)}
theorem Sc.len (S : Sc B ps sc) {i : Nat} (h : i < sc.length) : (sc.getD i []).length = ps.length := (S.ok _ (getD_mem h)).1
theorem Sc.bd (S : Sc B ps sc) {i : Nat} (h : i < sc.length) : Bd B (sc.getD i []) := (S.ok _ (getD_mem h)).2
theorem Sc.at0 (S : Sc B ps sc) : sc.getD 0 [] = zer ps.length := by
  have := S.zero
  rw [get_some S.ne] at this
  exact Option.some.inj this
theorem Sc.noteAt_n (S : Sc B ps sc) (L : Lim ps) : noteAt sc sc.length = oct ps.length := by
  unfold noteAt
  rw [Nat.mod_self, Nat.div_self S.ne, S.at0]
  exact addO_zer (by have := L.l2; omega)
theorem Sc.noteAt_len (S : Sc B ps sc) (k : Nat) : (noteAt sc k).length = ps.length := by
  unfold noteAt
  rw [addO_len]
  exact S.len (Nat.mod_lt _ S.ne)
theorem Sc.noteAt_bd (S : Sc B ps sc) {k : Nat} {r : Int} (h : ((k / sc.length : Nat) : Int) ≤ r) : Bd (B + r) (noteAt sc k) :=
  (addO_bd (S.bd (Nat.mod_lt _ S.ne)) (Int.natCast_nonneg _)).mono (by omega)
/-- the scale and the first prime rise -/
theorem Sc.rise (S : Sc B ps sc) {i : Nat} (h : i < sc.length) : sz ps ((sc ++ [oct ps.length]).getD i []) < sz ps ((sc ++ [oct ps.length]).getD (i + 1) []) := by
  have pw : (sc ++ [oct ps.length]).Pairwise (fun e f => sz ps e < sz ps f) := by
    rw [List.pairwise_append]
    refine ⟨S.inc, List.pairwise_singleton _ _, fun e he f hf => ?_⟩
    rw [List.mem_singleton.mp hf]
    exact S.top e he
  have h1 : i < (sc ++ [oct ps.length]).length := by rw [List.length_append]; omega
  have h2 : i + 1 < (sc ++ [oct ps.length]).length := by
    rw [List.length_append]
    show i + 1 < sc.length + 1
    omega
  rw [getD_eq h1, getD_eq h2]
  exact List.pairwise_iff_getElem.mp pw i (i + 1) h1 h2 (by omega)
theorem Sc.ext_len (S : Sc B ps sc) (L : Lim ps) {i : Nat} (h : i ≤ sc.length) : ((sc ++ [oct ps.length]).getD i []).length = ps.length := by
  by_cases hi : i < sc.length
  · rw [List.getD_eq_getElem?_getD, List.getElem?_append_left hi, ← List.getD_eq_getElem?_getD]
    exact S.len hi
  · rw [List.getD_eq_getElem?_getD, List.getElem?_append_right (by omega), show i - sc.length = 0 by omega]
    exact oct_len (by have := L.l2; omega)
theorem Sc.ext_bd (S : Sc B ps sc) (hB : 1 ≤ B) {i : Nat} (h : i ≤ sc.length) : Bd B ((sc ++ [oct ps.length]).getD i []) := by
  by_cases hi : i < sc.length
  · rw [List.getD_eq_getElem?_getD, List.getElem?_append_left hi, ← List.getD_eq_getElem?_getD]
    exact S.bd hi
  · rw [List.getD_eq_getElem?_getD, List.getElem?_append_right (by omega), show i - sc.length = 0 by omega]
    exact oct_bd hB
theorem Sc.step_bd (S : Sc B ps sc) (hB : 0 ≤ B) {i : Nat} (h : i < sc.length) : Bd (2 * B + 1) (sub (noteAt sc (i + 1)) (sc.getD i [])) := by
  have h1 : (((i + 1) / sc.length : Nat) : Int) ≤ 1 := by
    have : (i + 1) / sc.length ≤ 1 := by
      rw [Nat.div_le_iff_le_mul_add_pred S.ne]
      omega
    omega
  exact (sub_bd (S.noteAt_bd h1) (S.bd h)).mono (by omega)
theorem spans_len (sc : List (List Int)) (k : Nat) : (spansL sc k).length = sc.length := by
  unfold spansL
  rw [List.length_map, List.length_range]
theorem spans_get {sc : List (List Int)} {k i : Nat} (h : i < sc.length) : (spansL sc k)[i]? = some (sub (noteAt sc (i + k)) (sc.getD i [])) := by
  unfold spansL
  rw [List.getElem?_map, List.getElem?_range h]
  rfl
/-- from the note i on by its step -/
theorem Sc.step (S : Sc B ps sc) {i : Nat} (h : i < sc.length) : add (noteAt sc i) (sub (noteAt sc (i + 1)) (sc.getD i [])) = noteAt sc (i + 1) := by
  rw [noteAt_lt h]
  exact add_sub (by rw [S.noteAt_len, S.len h])
end
end Tw
set_option Elab.async false
set_option linter.all false
set_option maxRecDepth 100000
set_option maxHeartbeats 4000000
namespace Tw8
open PySem PySem.Spec PyProof.Rows L2 Tw
/-- a limit at a, a scale at b -/
structure ScAt (H : Hp) (a b : Addr) (ps : List Nat) (xs : List V) (sc : List (List Int)) (B : Int) : Prop where
  ha : H a = some (.tup (lv ps))
  hb : H b = some (.tup xs)
  L : Lim ps
  iv : Ivs H xs sc
  S : Sc B ps sc
  b1 : 1 ≤ B
  b2 : B ≤ 49
theorem ScAt.mono {H H' : Hp} {a b : Addr} {ps : List Nat} {xs : List V} {sc : List (List Int)} {B : Int} (h : ScAt H a b ps xs sc B) (t : TS H H') : ScAt H' a b ps xs sc B :=
  ⟨t _ _ h.ha, t _ _ h.hb, h.L, h.iv.mono t, h.S, h.b1, h.b2⟩
theorem iv_len (e : List Int) : (iv e).length = e.length := List.length_map ..
theorem lv_len (e : List Nat) : (lv e).length = e.length := List.length_map ..
theorem cut1 (xs : List V) : cutV xs (some 1) none = xs.drop 1 := by
  unfold cutV
  rw [show HT.sIx xs.length 0 (some 1) = min 1 xs.length from HT.sIx_nat xs.length 0 1, HT.sIx_none]
  cases xs with
  | nil => rfl
  | cons x r =>
    rw [show min 1 (x :: r).length = 1 by
      rw [List.length_cons]
      omega]
    show (List.take ((x :: r).length - 1) r) = r
    rw [List.length_cons, Nat.add_sub_cancel]
    exact List.take_length
section
variable {P : Program} {w : World} {K : PySem.W.Frag} {mg : Str → Option Value} {base : Heap}
/-! ### need_scale -/
def spNeedScale : Sp := fun vs H Q _ => ∃ a b ps xs sc B, vs = [.ref a, .ref b] ∧ ScAt H a b ps xs sc B ∧ ∀ H', Same H H' → Q .non H'
theorem ok_need_scale {f : Addr} {fd : FuncData} (D : At K mg "need_scale" s_need_scale ["limit", "value"] f fd) (T : Bi mg) (c_need_limit : Cal P w K mg base 3 "need_limit" spNeedLimit) (c_is_interval : Cal P w K mg base 3 "is_interval" spIsInterval)
    (c_first_of : Cal P w K mg base 1 "first_of" spFirstOf) (c_minus : Cal P w K mg base 1 "minus" spMinus) (c_sign_of : Cal P w K mg base 3 "sign_of" spSignOf) : Cal P w K mg base 4 "need_scale" spNeedScale := by
  refine D.cal sc_need_scale (fun vs H Q E h => ?_) (fun cdv A outer s H vs Q E hr h => ?_)
  · obtain ⟨a, b, _, _, _, _, rfl, _⟩ := h
    rfl
  · obtain ⟨a, b, ps, xs, sc, B, rfl, C, q⟩ := h
    have L := C.L
    have l2 := L.l2
    have l5 := L.l5
    have hne := C.S.ne
    have hle := C.S.le
    have b1 := C.b1
    have b2 := C.b2
    have hx : xs.length = sc.length := C.iv.len
    refine ⟨_, (pss_cons (ps_expr (C8.pe_c c_need_limit hr (by decide) (by rfl) (pa_cons (pv 0) pa_nil)))
    (pss_cons (ps_if (PW.pt (pw_or (pt_not (pt_val (pe_callB (isi K rfl) (by rfl) T.b_isinstance (by decide +kernel) (pa_cons (pv 1) (pa_cons (pe_bltn (v := .ty "tuple") (by rfl) T.b_tuple (by decide +kernel) rfl) pa_nil))))) (pw_or1 (pt_not (pt_chain op_le op_le pe_int (pe_callB (lenS K rfl) (by rfl) T.b_len PySem.boot_len (pa_cons (pv 1) pa_nil)) (pe_gi (by rfl) T.k_MOST_NOTES))))))
      (pss_one ps_never) pss_nil)
    (pss_cons (ps_if (PW.pt (pw_or (pt_not (pt_val (pe_callB (crAll K rfl rfl) (by rfl) T.b_all (by decide +kernel) (pa_cons (pe_lc (own := [("note", 3)]) rfl sc_need_scale.nd (piT K rfl (pv 1)) (blkOk_by (own := [("note", 3)]) (N := N_need_scale) (sc := defScope s_need_scale) (by decide +kernel)) (fun _ _ _ _ _ => (pg_name (i := 3) sc_need_scale.nd rfl (by first | exact Or.inl rfl | exact Or.inr rfl))) (fun _ _ _ _ _ => pts_nil) (fun _ _ _ _ _ => (C8.pe_c c_is_interval hr (by decide) (by rfl) (pa_cons (pv 0) (pa_cons (pv 3) pa_nil))))) pa_nil)))) (pw_or1 (pt_cmpR (neD K rfl (hu64 hr)) (pe_ix (ixT K rfl) (pv 1) pe_int (fun _ _ => rfl)) (pe_op (op_repA K rfl) (pe_tup (pa_cons pe_int pa_nil)) (pe_callB (lenS K rfl) (by rfl) T.b_len PySem.boot_len (pa_cons (pv 0) pa_nil))) (nomark _)))))
      (pss_one ps_never) pss_nil)
    (pss_cons (ps_set (i := 2) sc_need_scale.nd rfl (by first | exact Or.inl rfl | exact Or.inr rfl) (pe_op op_cat (pe_callTy (lstOf K rfl) (by rfl) T.b_list (by decide +kernel) (pa_cons (pv 1) pa_nil)) (pe_lst (pa_cons (C8.pe_c c_first_of hr (by decide) (by rfl) (pa_cons (pv 0) pa_nil)) pa_nil))))
    (pss_one (ps_if (pt_not (pt_val (pe_callB (crAll K rfl rfl) (by rfl) T.b_all (by decide +kernel) (pa_cons (pe_lc (own := [("at", 4)]) rfl sc_need_scale.nd (pi_range2 (by rfl) T.b_range (pa_cons pe_int (pa_cons (pe_callB (lenS K rfl) (by rfl) T.b_len PySem.boot_len (pa_cons (pv 2) pa_nil)) pa_nil))) (blkOk_by (own := [("at", 4)]) (N := N_need_scale) (sc := defScope s_need_scale) (by decide +kernel)) (fun _ _ _ _ _ => (pg_name (i := 4) sc_need_scale.nd rfl (by first | exact Or.inl rfl | exact Or.inr rfl))) (fun _ _ _ _ _ => pts_nil) (fun _ _ _ _ _ => (pe_cmpR op_gt (C8.pe_c c_sign_of hr (by decide) (by rfl) (pa_cons (pv 0) (pa_cons (C8.pe_c c_minus hr (by decide) (by rfl) (pa_cons (pe_ix (ixL K rfl) (pv 2) (pv 4) (fun _ _ => rfl)) (pa_cons (pe_ix (ixL K rfl) (pv 2) (pe_op op_sub (pv 4) pe_int) (fun _ _ => rfl)) pa_nil))) pa_nil))) pe_int (nomark _)))) pa_nil))))
      (pss_one ps_never) pss_nil)))))), ?_⟩
    refine ⟨.ref a, rfl, a, ps, rfl, C.ha, L, fun H1 s1 => ?_⟩
    have C1 := C.mono (TS.of s1)
    refine ⟨.ref b, rfl, .ref b, .ty "tuple", _, _, true, rfl, .ty _, .base (.tup C1.hb), kit_ty (by decide +kernel), true, rfl, iteF ?_⟩
    refine ⟨.ref b, rfl, b, xs, rfl, .inr (SqT.of C1.hb), _, _, rfl, rfl, _, rfl, ?_⟩
    rw [decide_eq_true (by omega)]
    refine iteT ⟨_, _, rfl, rfl, _, rfl, ?_⟩
    rw [decide_eq_true (by omega)]
    refine iteF ?_
    -- all intervals
    refine ⟨.ref b, rfl, b, rfl, ⟨_, SqT.of C1.hb⟩, fun D nD => ?_⟩
    refine lc_R (walk_tup (xs := xs)) (fun _ v _ => v = .bl true) nD (by omega) (fun _ _ _ _ _ h => h) (fun H' sm => SqT.of (sm _ _ C1.hb)) (fun i x H2 H3 Q' hi sm hy hq => ?_) (fun H2 acc s2 hD hl hR => ?_)
    · obtain ⟨rfl, hx1⟩ := hy
      have C2 := C1.mono (TS.of sm)
      obtain ⟨e, he, p, rfl, hp⟩ := C2.iv.of_get hx1
      obtain ⟨o1, o2⟩ := C.S.ok e (List.mem_of_getElem? he)
      exact ⟨rfl, _, rfl, _, rfl, a, p, ps, e, rfl, C2.ha, hp, o1, by omega, o2.mono (by omega), fun H4 s4 => hq _ _ s4 rfl⟩
    have C2 := C1.mono (TS.of s2)
    have eacc := RTrue.all hl hR
    refine ⟨D, _, rfl, SqL.of (by rw [hD, eacc]), ?_⟩
    rw [all_rep]
    refine ⟨true, rfl, iteF ?_⟩
    -- the first one
    obtain ⟨p0, g0, h0⟩ := C2.iv.get C.S.zero
    refine ⟨.ref b, rfl, b, xs, 0, .ref p0, rfl, rfl, SqT.of C2.hb, atI_nat (j := 0) g0, small6 (by decide), fun p1 n1 => ?_⟩
    have s3 : Same H2 (upd H2 p1 (.tup [.int 0])) := same_upd n1
    refine ⟨.ref a, rfl, a, lv ps, rfl, .inr (SqT.of (s3 _ _ C2.ha)), p1, _, [.int 0], rfl, rfl, SqT.of upd_same, by simp, by rw [lv_len]; omega, by rw [lv_len]; omega, by decide, fun hk => ?_, fun hk p2 n2 => ?_⟩
    · exfalso
      rw [lv_len] at hk
      omega
    have s4 := s3.trans (same_upd (o := .tup (List.replicate (((lv ps).length : Int)).toNat [V.int 0]).flatten) n2)
    have hz : (upd (upd H2 p1 (.tup [.int 0])) p2 (.tup (List.replicate (((lv ps).length : Int)).toNat [V.int 0]).flatten)) p2 = some (.tup (iv (zer ps.length))) := by
      rw [upd_same, rep_flat, Int.toNat_natCast, lv_len]
      rfl
    refine ⟨_, _, dp_iv (s4 _ _ h0), dp_iv hz, shaped_ints _, shaped_ints _, _, rfl, ?_⟩
    rw [eqv_self (shaped_ints _)]
    refine iteF ?_
    have s5 := s2.trans s4
    have C3 := C2.mono (TS.of s4)
    generalize upd (upd H2 p1 (.tup [.int 0])) p2 (.tup (List.replicate (((lv ps).length : Int)).toNat [V.int 0]).flatten) = H5 at C3 s5 s4
    -- told
    refine ⟨.ref b, rfl, b, xs, rfl, .inr (SqT.of C3.hb), fun l nl => ?_⟩
    have s6 : Same H5 (upd H5 l (.lst xs)) := same_upd nl
    refine ⟨.ref a, rfl, a, ps, rfl, s6 _ _ C3.ha, l2, by omega, fun H6 po s7 ho => ⟨small6 (by show 1 ≤ 100; decide), fun l2 nl2 => ?_⟩⟩
    have s8 : Same H6 (upd H6 l2 (.lst [.ref po])) := same_upd nl2
    have s9 := (s6.trans s7).trans s8
    refine ⟨l, l2, xs, [.ref po], rfl, rfl, s8 _ _ (s7 _ _ upd_same), upd_same, small6 (by show xs.length + 1 ≤ 100; omega), fun t nt => ?_⟩
    have s10 := s9.trans (same_upd (o := .lst (xs ++ [.ref po])) nt)
    have hE : Ivs (upd (upd H6 l2 (.lst [.ref po])) t (.lst (xs ++ [.ref po]))) (xs ++ [.ref po]) (sc ++ [oct ps.length]) :=
      (C3.mono (TS.of s10)).iv.snoc ⟨po, rfl, (s8.trans (same_upd nt)) _ _ ho⟩
    have hL : (upd (upd H6 l2 (.lst [.ref po])) t (.lst (xs ++ [.ref po]))) t = some (.lst (xs ++ [.ref po])) := upd_same
    have C4 := C3.mono (TS.of s10)
    have s11 := (s1.trans s5).trans s10
    generalize upd (upd H6 l2 (.lst [.ref po])) t (.lst (xs ++ [.ref po])) = H7 at hE hL C4 s11
    have hxl : (xs ++ [V.ref po]).length = sc.length + 1 := by
      rw [List.length_append, hx]
      rfl
    -- rising
    refine ⟨.ref t, rfl, t, _, rfl, .inl (SqL.of hL), 1, _, rfl, ⟨by decide, by decide, by omega, by omega⟩, fun D2 nD2 => ?_⟩
    refine lc_R walk_range (fun _ v _ => v = .bl true) nD2 (by omega) (fun _ _ _ _ _ h => h) (fun _ _ => True.intro) (fun i x H8 H9 Q' hi sm hy hq => ?_) (fun H8 acc2 sm2 hD2 hl2 hR2 => ?_)
    · obtain ⟨rfl, rfl⟩ := hy
      have hi1 : i < sc.length := by omega
      have he1 : i < (sc ++ [oct ps.length]).length := by rw [List.length_append]; show i < sc.length + 1; omega
      have he2 : i + 1 < (sc ++ [oct ps.length]).length := by rw [List.length_append]; show i + 1 < sc.length + 1; omega
      have hE9 := hE.mono (TS.of sm)
      obtain ⟨q0, g0, k0⟩ := hE9.get (get_some he1)
      obtain ⟨q1, g1, k1⟩ := hE9.get (get_some he2)
      have hL9 : SqL K H9 t (xs ++ [.ref po]) := SqL.of (sm _ _ hL)
      have len0 := C.S.ext_len L (i := i) (by omega)
      have len1 := C.S.ext_len L (i := i + 1) (by omega)
      have bd0 := C.S.ext_bd b1 (i := i) (by omega)
      have bd1 := C.S.ext_bd b1 (i := i + 1) (by omega)
      refine ⟨rfl, _, rfl, _, rfl, _, rfl, t, _, _, _, rfl, rfl, hL9, at_of (by omega) g1, _, rfl, _, rfl, _, _, rfl, rfl, t, _, _, _, rfl, rfl, hL9, at_of (by omega) g0, ?_⟩
      refine ⟨q1, q0, _, _, rfl, k1, k0, by rw [len0, len1], by omega, fun H10 m sm10 hm => ?_⟩
      refine ⟨a, m, ps, _, rfl, sm10 _ _ ((C4.mono (TS.of sm)).ha), hm, L, by rw [sub_len (by rw [len0, len1]), len1], (sub_bd bd1 bd0).mono (by omega), fun H11 sm11 => ?_⟩
      refine ⟨_, _, rfl, rfl, hq _ _ (sm10.trans sm11) ?_⟩
      show V.bl (decide _) = V.bl true
      rw [decide_eq_true ((sgn_pos L.mem (bd1.mono (by omega)) (bd0.mono (by omega)) len1 len0).mpr (C.S.rise hi1))]
    have eacc2 := RTrue.all hl2 hR2
    refine ⟨D2, _, rfl, SqL.of (by rw [hD2, eacc2]), ?_⟩
    rw [all_rep]
    refine ⟨true, rfl, iteF ?_⟩
    exact q H8 (s11.trans sm2)
/-! ### note_at, spans_of -/
/-- intervals of n primes at b -/
structure NtAt (H : Hp) (b : Addr) (xs : List V) (sc : List (List Int)) (n : Nat) : Prop where
  hb : H b = some (.tup xs)
  iv : Ivs H xs sc
  ne : 0 < sc.length
  le : sc.length ≤ 100
  n2 : 2 ≤ n
  n6 : n ≤ 100
  len : ∀ e ∈ sc, e.length = n
theorem NtAt.mono {H H' : Hp} {b : Addr} {xs : List V} {sc : List (List Int)} {n : Nat} (h : NtAt H b xs sc n) (t : TS H H') : NtAt H' b xs sc n := ⟨t _ _ h.hb, h.iv.mono t, h.ne, h.le, h.n2, h.n6, h.len⟩
theorem ScAt.nt {H : Hp} {a b : Addr} {ps : List Nat} {xs : List V} {sc : List (List Int)} {B : Int} (h : ScAt H a b ps xs sc B) : NtAt H b xs sc ps.length :=
  ⟨h.hb, h.iv, h.S.ne, by have := h.S.le; omega, h.L.l2, by have := h.L.l5; omega, fun e he => (h.S.ok e he).1⟩
theorem NtAt.note_len {H : Hp} {b : Addr} {xs : List V} {sc : List (List Int)} {n : Nat} (h : NtAt H b xs sc n) (k : Nat) : (noteAt sc k).length = n := by
  unfold noteAt
  rw [addO_len]
  exact h.len _ (getD_mem (Nat.mod_lt _ h.ne))
def spNoteAt : Sp := fun vs H Q _ => ∃ a b xs sc n, ∃ k : Nat, vs = [.ref a, .ref b, .int (k : Int)] ∧ NtAt H b xs sc n ∧ ∀ H' p, Same H H' → H' p = some (.tup (iv (noteAt sc k))) → Q (.ref p) H'
theorem ok_note_at {f : Addr} {fd : FuncData} (D : At K mg "note_at" s_note_at ["limit", "scale", "at"] f fd) (T : Bi mg) : Cal P w K mg base 1 "note_at" spNoteAt := by
  refine D.cal sc_note_at (fun vs H Q E h => ?_) (fun cdv A outer s H vs Q E hr h => ?_)
  · obtain ⟨a, b, _, _, _, _, rfl, _⟩ := h
    rfl
  · obtain ⟨a, b, xs, sc, n, k, rfl, C, q⟩ := h
    have hx : xs.length = sc.length := C.iv.len
    have hne := C.ne
    have hle := C.le
    refine ⟨_, (pss_cons (ps_par (i := 3) (j := 4) (by rfl) sc_note_at.nd rfl rfl (by decide) rfl rfl (pa_cons (pe_op op_fdiv (pv 2) (pe_callB (lenS K rfl) (by rfl) T.b_len PySem.boot_len (pa_cons (pv 1) pa_nil))) (pa_cons (pe_op op_mod (pv 2) (pe_callB (lenS K rfl) (by rfl) T.b_len PySem.boot_len (pa_cons (pv 1) pa_nil))) pa_nil)) (by rfl))
    (pss_one (ps_ret (pe_op (catT K rfl) (pe_tup (pa_cons (pe_op op_add (pe_ix (ixT K rfl) (pe_ix (ixT K rfl) (pv 1) (pv 4) (fun _ _ => rfl)) pe_int (fun _ _ => rfl)) (pv 3)) pa_nil)) (pe_slice (slT K rfl) (pe_ix (ixT K rfl) (pv 1) (pv 4) (fun _ _ => rfl)) (po_some pe_int) po_none))))), ?_⟩
    have hm : k % sc.length < sc.length := Nat.mod_lt _ hne
    obtain ⟨p, g, hp⟩ := C.iv.get (get_some hm)
    have hlen := C.len _ (getD_mem hm)
    have e1 : ((k : Nat) : Int) / ((xs.length : Nat) : Int) = ((k / sc.length : Nat) : Int) := by rw [hx]; exact (Int.natCast_ediv k sc.length).symm
    have e2 : ((k : Nat) : Int) % ((xs.length : Nat) : Int) = ((k % sc.length : Nat) : Int) := by rw [hx]; exact (Int.natCast_emod k sc.length).symm
    refine ⟨_, rfl, _, rfl, b, xs, rfl, .inr (SqT.of C.hb), _, _, rfl, rfl, ⟨by omega, by omega⟩, _, rfl, _, rfl, b, xs, rfl, .inr (SqT.of C.hb), _, _, rfl, rfl, (by show (0 : Int) < _; omega), _, _, rfl, ?_⟩
    obtain ⟨c, t, et⟩ : ∃ c t, sc.getD (k % sc.length) [] = c :: t := by
      cases hc : sc.getD (k % sc.length) [] with
      | nil => rw [hc] at hlen; have := C.n2; simp at hlen; omega
      | cons c t => exact ⟨c, t, rfl⟩
    have hnote : noteAt sc k = (c + ((k / sc.length : Nat) : Int)) :: t := by
      unfold noteAt
      rw [et]
      rfl
    rw [et] at hp hlen
    have ht : t ≠ [] := fun z => by
      rw [z] at hlen
      have := C.n2
      simp at hlen
      omega
    refine ⟨_, rfl, _, rfl, b, xs, _, _, rfl, rfl, SqT.of C.hb, at_of e2 g, p, _, 0, _, rfl, rfl, SqT.of hp, atI_nat (j := 0) rfl, _, rfl, _, _, rfl, rfl, small6 (by show 1 ≤ 100; decide), fun p1 n1 => ?_⟩
    have s1 : Same H (upd H p1 (.tup [.int (c + (k : Int) / (xs.length : Int))])) := same_upd n1
    refine ⟨_, rfl, _, rfl, b, xs, _, _, rfl, rfl, SqT.of (s1 _ _ C.hb), at_of e2 g, 1, rfl, p, _, rfl, SqT.of (s1 _ _ hp), fun z => ?_, fun p2 n2 => ?_⟩
    · have z1 : HT.sIx (iv (c :: t)).length 0 (some ((1 : Nat) : Int)) = 0 := z.1
      rw [HT.sIx_nat] at z1
      rw [iv_len, List.length_cons] at z1
      omega
    rw [cut1] at *
    have s2 : Same H _ := s1.trans (same_upd (o := .tup ((iv (c :: t)).drop 1)) n2)
    refine ⟨p1, p2, _, _, rfl, rfl, SqT.of (same_upd n2 _ _ upd_same), SqT.of upd_same, by simp, small6 (by have := C.n6; show 1 + (iv t).length ≤ 100; rw [iv_len]; rw [List.length_cons] at hlen; omega), fun z => ?_, fun _ p3 n3 => ?_⟩
    · exfalso
      exact ht (List.map_eq_nil_iff.mp z)
    · refine q _ p3 (s2.trans (same_upd n3)) ?_
      rw [upd_same, hnote, ← e1]
      rfl
def spSpansOf : Sp := fun vs H Q _ => ∃ a b xs sc n, ∃ k : Nat, vs = [.ref a, .ref b, .int (k : Int)] ∧ NtAt H b xs sc n ∧ ∀ H' p ys, Same H H' → H' p = some (.lst ys) → Ivs H' ys (spansL sc k) → Q (.ref p) H'
theorem ok_spans_of {f : Addr} {fd : FuncData} (D : At K mg "spans_of" s_spans_of ["limit", "scale", "size"] f fd) (T : Bi mg) (c_minus : Cal P w K mg base 1 "minus" spMinus) (c_note_at : Cal P w K mg base 1 "note_at" spNoteAt) : Cal P w K mg base 2 "spans_of" spSpansOf := by
  refine D.cal sc_spans_of (fun vs H Q E h => ?_) (fun cdv A outer s H vs Q E hr h => ?_)
  · obtain ⟨a, b, _, _, _, _, rfl, _⟩ := h
    rfl
  · obtain ⟨a, b, xs, sc, n, k, rfl, C, q⟩ := h
    have hx : xs.length = sc.length := C.iv.len
    have hne := C.ne
    have hle := C.le
    refine ⟨_, (pss_one (ps_ret (pe_lc (own := [("at", 3)]) rfl sc_spans_of.nd (pi_range1 (by rfl) T.b_range (pa_cons (pe_callB (lenS K rfl) (by rfl) T.b_len PySem.boot_len (pa_cons (pv 1) pa_nil)) pa_nil)) (blkOk_by (own := [("at", 3)]) (N := N_spans_of) (sc := defScope s_spans_of) (by decide +kernel)) (fun _ _ _ _ _ => (pg_name (i := 3) sc_spans_of.nd rfl (by first | exact Or.inl rfl | exact Or.inr rfl))) (fun _ _ _ _ _ => pts_nil) (fun _ _ _ _ _ => (C8.pe_c c_minus hr (by decide) (by rfl) (pa_cons (C8.pe_c c_note_at hr (by decide) (by rfl) (pa_cons (pv 0) (pa_cons (pv 1) (pa_cons (pe_op op_add (pv 3) (pv 2)) pa_nil)))) (pa_cons (pe_ix (ixT K rfl) (pv 1) (pv 3) (fun _ _ => rfl)) pa_nil))))))), ?_⟩
    refine ⟨_, rfl, b, xs, rfl, .inr (SqT.of C.hb), xs.length, rfl, by omega, by omega, fun D nD => ?_⟩
    refine lc_R walk_range (RIv fun i => sub (noteAt sc (i + k)) (sc.getD i [])) nD (by omega) RIv.mono (fun _ _ => True.intro) (fun i x H1 H2 Q' hi sm hy hq => ?_) (fun H1 acc sm1 hD hl1 hR => ?_)
    · obtain ⟨rfl, rfl⟩ := hy
      have hi1 : i < sc.length := by omega
      have C2 := C.mono (TS.of sm)
      refine ⟨rfl, _, rfl, _, rfl, _, rfl, _, rfl, _, _, rfl, rfl, a, b, xs, sc, n, i + k, by show [V.ref a, V.ref b, V.int (0 + (i : Int) + k)] = _; rw [Int.zero_add, Int.natCast_add], C2, fun H3 p s3 hp => ?_⟩
      have C3 := C2.mono (TS.of s3)
      obtain ⟨q1, g1, h1⟩ := C3.iv.get (get_some hi1)
      have l1 := C.note_len (i + k)
      have l2 := C.len _ (getD_mem hi1)
      refine ⟨_, rfl, _, rfl, b, xs, _, _, rfl, rfl, SqT.of C3.hb, at_of (by omega) g1, p, q1, _, _, rfl, hp, h1, by rw [l1, l2], by have := C.n6; omega, fun H4 p4 s4 hp4 => ?_⟩
      exact hq _ _ (s3.trans s4) ⟨p4, rfl, hp4⟩
    · rw [Int.toNat_natCast] at hl1
      refine q _ D acc sm1 hD ?_
      have := RIv.all hl1 hR
      rw [hx] at this
      exact this
end
end Tw8
set_option Elab.async false
set_option linter.all false
set_option maxRecDepth 100000
set_option maxHeartbeats 4000000
namespace Tw8
open PySem PySem.Spec PyProof.Rows L2 Tw
theorem range_getD {α : Type} (g : List Int → α) (r : List (List Int)) : (List.range r.length).map (fun i => g (r.getD i [])) = r.map g := by
  refine List.ext_getElem? fun j => ?_
  by_cases hj : j < r.length
  · rw [List.getElem?_map, List.getElem?_range hj, List.getElem?_map, get_some hj]
    rfl
  · rw [List.getElem?_eq_none (by rw [List.length_map, List.length_range]; omega), List.getElem?_eq_none (by rw [List.length_map]; omega)]
theorem cutLast (xs : List V) : cutV xs none (some (-1)) = xs.take (xs.length - 1) := by
  unfold cutV
  rw [HT.sIx_none, List.drop_zero]
  have e : HT.sIx xs.length xs.length (some (-1)) = xs.length - 1 := by
    show (if (-1 : Int) < 0 then ((-1 : Int) + (xs.length : Int)).toNat else min (-1 : Int).toNat xs.length) = xs.length - 1
    rw [if_pos (by decide)]
    omega
  rw [e, Nat.sub_zero]
theorem notes_all (sc : List (List Int)) : (List.range sc.length).map (noteAt sc) = sc := by
  refine List.ext_getElem? fun j => ?_
  by_cases hj : j < sc.length
  · rw [List.getElem?_map, List.getElem?_range hj, get_some hj, ← noteAt_lt hj]
    rfl
  · rw [List.getElem?_eq_none (by rw [List.length_map, List.length_range]; omega), List.getElem?_eq_none (by omega)]
theorem Ivs.last {H : Hp} {xs : List V} {f : Nat → List Int} {n : Nat} (h : Ivs H xs ((List.range (n + 1)).map f)) : ∃ a, atI xs (-1) = some (.ref a) ∧ H a = some (.tup (iv (f n))) := by
  obtain ⟨a, g, k⟩ := h.get (i := n) (e := f n) (by rw [List.getElem?_map, List.getElem?_range (Nat.lt_succ_self n)]; rfl)
  have hl : xs.length = n + 1 := by rw [h.len, List.length_map, List.length_range]
  refine ⟨a, ?_, k⟩
  have e : xs = xs.take n ++ [.ref a] := by
    have h1 : xs.take (n + 1) = xs := List.take_of_length_le (by omega)
    rw [List.take_add_one, g] at h1
    exact h1.symm
  rw [e]
  exact atI_last _ _
section
variable {P : Program} {w : World} {K : PySem.W.Frag} {mg : Str → Option Value} {base : Heap}
def spSpans : Sp := fun vs H Q _ => ∃ a b ps xs sc B, ∃ k : Nat, vs = [.ref a, .ref b, .int (k : Int)] ∧ ScAt H a b ps xs sc B ∧ k ≤ 48 ∧ ∀ H' p ys, Same H H' → H' p = some (.lst ys) → Ivs H' ys (spansL sc k) → Q (.ref p) H'
theorem ok_spans {f : Addr} {fd : FuncData} (D : At K mg "spans" s_spans ["limit", "scale", "size"] f fd) (T : Bi mg) (c_need_scale : Cal P w K mg base 4 "need_scale" spNeedScale) (c_is_in : Cal P w K mg base 2 "is_in" spIsIn) (c_spans_of : Cal P w K mg base 2 "spans_of" spSpansOf) : Cal P w K mg base 5 "spans" spSpans := by
  refine D.cal sc_spans (fun vs H Q E h => ?_) (fun cdv A outer s H vs Q E hr h => ?_)
  · obtain ⟨a, b, _, _, _, _, _, rfl, _⟩ := h
    rfl
  · obtain ⟨a, b, ps, xs, sc, B, k, rfl, C, hk, q⟩ := h
    refine ⟨_, (pss_cons (ps_expr (C8.pe_c c_need_scale hr (by decide) (by rfl) (pa_cons (pv 0) (pa_cons (pv 1) pa_nil))))
    (pss_cons (ps_if (pt_not (pt_val (C8.pe_c c_is_in hr (by decide) (by rfl) (pa_cons (pv 2) (pa_cons pe_int (pa_cons (pe_op op_mulW pe_int (pe_gi (by rfl) T.k_MOST_NOTES)) pa_nil))))))
      (pss_one ps_never) pss_nil)
    (pss_one (ps_ret (C8.pe_c c_spans_of hr (by decide) (by rfl) (pa_cons (pv 0) (pa_cons (pv 1) (pa_cons (pv 2) pa_nil)))))))), ?_⟩
    refine ⟨_, rfl, _, rfl, a, b, ps, xs, sc, B, rfl, C, fun H1 s1 => ?_⟩
    have C1 := C.mono (TS.of s1)
    refine ⟨_, rfl, _, _, rfl, rfl, wide_mul (a := 10) (b := 10) (by decide) (by decide) (by decide) (by decide) (by decide), k, 0, 48, rfl, by omega, by omega, true, rfl, iteF ?_⟩
    refine ⟨_, rfl, _, rfl, _, rfl, a, b, xs, sc, ps.length, k, rfl, C1.nt, fun H2 p ys s2 hp hy => ?_⟩
    exact q H2 p ys (s1.trans s2) hp hy
def spSteps : Sp := fun vs H Q _ => ∃ a b ps xs sc B, vs = [.ref a, .ref b] ∧ ScAt H a b ps xs sc B ∧ ∀ H' p ys, Same H H' → H' p = some (.tup ys) → Ivs H' ys (spansL sc 1) → Q (.ref p) H'
theorem ok_steps_of_scale {f : Addr} {fd : FuncData} (D : At K mg "steps_of_scale" s_steps_of_scale ["limit", "scale"] f fd) (T : Bi mg) (c_need_scale : Cal P w K mg base 4 "need_scale" spNeedScale) (c_spans_of : Cal P w K mg base 2 "spans_of" spSpansOf) : Cal P w K mg base 5 "steps_of_scale" spSteps := by
  refine D.cal sc_steps_of_scale (fun vs H Q E h => ?_) (fun cdv A outer s H vs Q E hr h => ?_)
  · obtain ⟨a, b, _, _, _, _, rfl, _⟩ := h
    rfl
  · obtain ⟨a, b, ps, xs, sc, B, rfl, C, q⟩ := h
    refine ⟨_, (pss_cons (ps_expr (C8.pe_c c_need_scale hr (by decide) (by rfl) (pa_cons (pv 0) (pa_cons (pv 1) pa_nil))))
    (pss_one (ps_ret (pe_callTy (tupOf K rfl) (by rfl) T.b_tuple (by decide +kernel) (pa_cons (C8.pe_c c_spans_of hr (by decide) (by rfl) (pa_cons (pv 0) (pa_cons (pv 1) (pa_cons pe_int pa_nil)))) pa_nil))))), ?_⟩
    refine ⟨_, rfl, _, rfl, a, b, ps, xs, sc, B, rfl, C, fun H1 s1 => ?_⟩
    have C1 := C.mono (TS.of s1)
    refine ⟨_, rfl, _, rfl, a, b, xs, sc, ps.length, 1, rfl, C1.nt, fun H2 p ys s2 hp hy => ?_⟩
    exact ⟨p, ys, rfl, .inl ⟨SqL.of hp, fun l nl => q _ l ys ((s1.trans s2).trans (same_upd nl)) upd_same (hy.mono (TS.of (same_upd nl)))⟩⟩
def spMode : Sp := fun vs H Q _ => ∃ a b ps xs sc B, ∃ k : Nat, vs = [.ref a, .ref b, .int (k : Int)] ∧ ScAt H a b ps xs sc B ∧ k < sc.length ∧ ∀ H' p ys, Same H H' → H' p = some (.tup ys) → Ivs H' ys (modeL sc k) → Q (.ref p) H'
theorem ok_mode {f : Addr} {fd : FuncData} (D : At K mg "mode" s_mode ["limit", "scale", "at"] f fd) (T : Bi mg) (c_need_scale : Cal P w K mg base 4 "need_scale" spNeedScale) (c_is_in : Cal P w K mg base 2 "is_in" spIsIn) (c_minus : Cal P w K mg base 1 "minus" spMinus) (c_note_at : Cal P w K mg base 1 "note_at" spNoteAt) : Cal P w K mg base 5 "mode" spMode := by
  refine D.cal sc_mode (fun vs H Q E h => ?_) (fun cdv A outer s H vs Q E hr h => ?_)
  · obtain ⟨a, b, _, _, _, _, _, rfl, _⟩ := h
    rfl
  · obtain ⟨a, b, ps, xs, sc, B, k, rfl, C, hk, q⟩ := h
    have hx : xs.length = sc.length := C.iv.len
    have hle := C.S.le
    refine ⟨_, (pss_cons (ps_expr (C8.pe_c c_need_scale hr (by decide) (by rfl) (pa_cons (pv 0) (pa_cons (pv 1) pa_nil))))
    (pss_cons (ps_if (pt_not (pt_val (C8.pe_c c_is_in hr (by decide) (by rfl) (pa_cons (pv 2) (pa_cons pe_int (pa_cons (pe_op op_sub (pe_callB (lenS K rfl) (by rfl) T.b_len PySem.boot_len (pa_cons (pv 1) pa_nil)) pe_int) pa_nil))))))
      (pss_one ps_never) pss_nil)
    (pss_one (ps_ret (pe_callTy (tupOf K rfl) (by rfl) T.b_tuple (by decide +kernel) (pa_cons (pe_lc (own := [("more", 3)]) rfl sc_mode.nd (pi_range1 (by rfl) T.b_range (pa_cons (pe_callB (lenS K rfl) (by rfl) T.b_len PySem.boot_len (pa_cons (pv 1) pa_nil)) pa_nil)) (blkOk_by (own := [("more", 3)]) (N := N_mode) (sc := defScope s_mode) (by decide +kernel)) (fun _ _ _ _ _ => (pg_name (i := 3) sc_mode.nd rfl (by first | exact Or.inl rfl | exact Or.inr rfl))) (fun _ _ _ _ _ => pts_nil) (fun _ _ _ _ _ => (C8.pe_c c_minus hr (by decide) (by rfl) (pa_cons (C8.pe_c c_note_at hr (by decide) (by rfl) (pa_cons (pv 0) (pa_cons (pv 1) (pa_cons (pe_op op_add (pv 2) (pv 3)) pa_nil)))) (pa_cons (pe_ix (ixT K rfl) (pv 1) (pv 2) (fun _ _ => rfl)) pa_nil))))) pa_nil)))))), ?_⟩
    refine ⟨_, rfl, _, rfl, a, b, ps, xs, sc, B, rfl, C, fun H1 s1 => ?_⟩
    have C1 := C.mono (TS.of s1)
    refine ⟨_, rfl, _, rfl, b, xs, rfl, .inr (SqT.of C1.hb), _, _, rfl, rfl, k, 0, _, rfl, by omega, by omega, true, rfl, iteF ?_⟩
    refine ⟨_, rfl, b, xs, rfl, .inr (SqT.of C1.hb), xs.length, rfl, by omega, by omega, fun D nD => ?_⟩
    refine lc_R walk_range (RIv fun i => sub (noteAt sc (k + i)) (sc.getD k [])) nD (by omega) RIv.mono (fun _ _ => True.intro) (fun i x H2 H3 Q' hi sm hy hq => ?_) (fun H2 acc s2 hD hl1 hR => ?_)
    · obtain ⟨rfl, rfl⟩ := hy
      have C2 := C1.mono (TS.of sm)
      refine ⟨rfl, _, rfl, _, rfl, _, rfl, _, rfl, _, _, rfl, rfl, a, b, xs, sc, ps.length, k + i, by show [V.ref a, V.ref b, V.int ((k : Int) + (0 + (i : Int)))] = _; rw [Int.zero_add, Int.natCast_add], C2.nt, fun H4 p s3 hp => ?_⟩
      have C3 := C2.mono (TS.of s3)
      obtain ⟨q1, g1, h1⟩ := C3.iv.get (get_some hk)
      have l1 := C.S.noteAt_len (k + i)
      have l2 := C.S.len hk
      have l5 := C.L.l5
      refine ⟨_, rfl, _, rfl, b, xs, _, _, rfl, rfl, SqT.of C3.hb, at_of rfl g1, p, q1, _, _, rfl, hp, h1, by rw [l1, l2], by omega, fun H4 p4 s4 hp4 => ?_⟩
      exact hq _ _ (s3.trans s4) ⟨p4, rfl, hp4⟩
    · rw [Int.toNat_natCast] at hl1
      have := RIv.all hl1 hR
      rw [hx] at this
      exact ⟨D, acc, rfl, .inl ⟨SqL.of hD, fun l nl => q _ l acc ((s1.trans s2).trans (same_upd nl)) upd_same (this.mono (TS.of (same_upd nl)))⟩⟩
def spUpside : Sp := fun vs H Q _ => ∃ a b ps xs sc B, vs = [.ref a, .ref b] ∧ ScAt H a b ps xs sc B ∧ ∀ H' p ys, Same H H' → H' p = some (.tup ys) → Ivs H' ys (updn ps.length sc) → Q (.ref p) H'
theorem ok_upside_down {f : Addr} {fd : FuncData} (D : At K mg "upside_down" s_upside_down ["limit", "scale"] f fd) (T : Bi mg) (c_need_scale : Cal P w K mg base 4 "need_scale" spNeedScale) (c_minus : Cal P w K mg base 1 "minus" spMinus) (c_first_of : Cal P w K mg base 1 "first_of" spFirstOf) : Cal P w K mg base 5 "upside_down" spUpside := by
  refine D.cal sc_upside_down (fun vs H Q E h => ?_) (fun cdv A outer s H vs Q E hr h => ?_)
  · obtain ⟨a, b, _, _, _, _, rfl, _⟩ := h
    rfl
  · obtain ⟨a, b, ps, xs, sc, B, rfl, C, q⟩ := h
    have hx : xs.length = sc.length := C.iv.len
    have hle := C.S.le
    have hne := C.S.ne
    have l2 := C.L.l2
    have l5 := C.L.l5
    refine ⟨_, (pss_cons (ps_expr (C8.pe_c c_need_scale hr (by decide) (by rfl) (pa_cons (pv 0) (pa_cons (pv 1) pa_nil))))
    (pss_one (ps_ret (pe_tup (pa_cons (pe_ix (ixT K rfl) (pv 1) pe_int (fun _ _ => rfl)) (pa_star K rfl (pe_lc (own := [("note", 2)]) rfl sc_upside_down.nd (piT K rfl (pe_revT0 K rfl (pv 1))) (blkOk_by (own := [("note", 2)]) (N := N_upside_down) (sc := defScope s_upside_down) (by decide +kernel)) (fun _ _ _ _ _ => (pg_name (i := 2) sc_upside_down.nd rfl (by first | exact Or.inl rfl | exact Or.inr rfl))) (fun _ _ _ _ _ => pts_nil) (fun _ _ _ _ _ => (C8.pe_c c_minus hr (by decide) (by rfl) (pa_cons (C8.pe_c c_first_of hr (by decide) (by rfl) (pa_cons (pv 0) pa_nil)) (pa_cons (pv 2) pa_nil))))) pa_nil)))))), ?_⟩
    refine ⟨_, rfl, _, rfl, a, b, ps, xs, sc, B, rfl, C, fun H1 s1 => ?_⟩
    have C1 := C.mono (TS.of s1)
    obtain ⟨q0, g0, h0⟩ := C1.iv.get (get_some hne)
    refine ⟨_, rfl, b, xs, _, _, rfl, rfl, SqT.of C1.hb, atI_nat (j := 0) g0, _, rfl, 0, rfl, rfl, b, xs, rfl, SqT.of C1.hb, fun z => ?_, fun p np => ?_⟩
    · rw [z] at hx
      simp at hx
      omega
    have s2 : Same H1 (upd H1 p (.tup (xs.drop 1).reverse)) := same_upd np
    have hr2 : Ivs (upd H1 p (.tup (xs.drop 1).reverse)) (xs.drop 1).reverse (sc.drop 1).reverse := ((C1.mono (TS.of s2)).iv.drop 1).reverse
    have hlen : (xs.drop 1).reverse.length = (sc.drop 1).reverse.length := hr2.len
    have hl3 : (sc.drop 1).reverse.length ≤ 24 := by rw [List.length_reverse, List.length_drop]; omega
    refine ⟨p, rfl, ⟨_, SqT.of upd_same⟩, fun D nD => ?_⟩
    refine lc_R (walk_tup (xs := (xs.drop 1).reverse)) (RIv fun i => sub (oct ps.length) ((sc.drop 1).reverse.getD i [])) nD (by omega) RIv.mono (fun H' sm => SqT.of (sm _ _ upd_same)) (fun i x H2 H3 Q' hi sm hy hq => ?_) (fun H2 acc s3 hD hl1 hR => ?_)
    · obtain ⟨rfl, hx1⟩ := hy
      have C2 := C1.mono (TS.of (s2.trans sm))
      obtain ⟨e, he, q1, rfl, h1⟩ := (hr2.mono (TS.of sm)).of_get hx1
      have hmem : e ∈ sc := List.mem_of_mem_drop (List.mem_reverse.mp (List.mem_of_getElem? he))
      have ed : (sc.drop 1).reverse.getD i [] = e := by rw [List.getD_eq_getElem?_getD, he]; rfl
      refine ⟨rfl, _, rfl, a, ps, rfl, C2.ha, l2, by omega, fun H4 p4 s4 h4 => ?_⟩
      refine ⟨_, rfl, p4, q1, _, _, rfl, h4, s4 _ _ h1, by rw [oct_len (by omega), (C.S.ok e hmem).1], by rw [oct_len (by omega)]; omega, fun H5 p5 s5 h5 => hq _ _ (s4.trans s5) ⟨p5, rfl, ?_⟩⟩
      show H5 p5 = some (.tup (iv (sub (oct ps.length) ((sc.drop 1).reverse.getD i []))))
      rw [ed]
      exact h5
    · have hm := RIv.all hl1 hR
      rw [hlen, range_getD] at hm
      have s4 := (s1.trans s2).trans s3
      have hfin : Ivs H2 (V.ref q0 :: (acc ++ [])) (updn ps.length sc) := by
        rw [List.append_nil]
        exact (Ivs.one (v := .ref q0) (e := sc.getD 0 []) ⟨q0, rfl, (s2.trans s3) _ _ h0⟩).append hm
      refine ⟨D, acc, rfl, SqL.of hD, small6 ?_, fun p9 np9 => q _ p9 _ (s4.trans (same_upd np9)) upd_same (hfin.mono (TS.of (same_upd np9)))⟩
      show (acc ++ []).length + 1 ≤ 100
      rw [List.append_nil]
      omega
def spFromSteps : Sp := fun vs H Q _ => ∃ a b ps xs sc B, vs = [.ref a, .ref b] ∧ H a = some (.tup (lv ps)) ∧ H b = some (.tup xs) ∧ Ivs H xs (spansL sc 1) ∧ Lim ps ∧ Sc B ps sc ∧ 1 ≤ B ∧ B ≤ 49 ∧ ∀ H' p ys, Same H H' → H' p = some (.tup ys) → Ivs H' ys sc → Q (.ref p) H'
theorem ok_from_steps {f : Addr} {fd : FuncData} (D : At K mg "from_steps" s_from_steps ["limit", "steps"] f fd) (T : Bi mg) (c_need_limit : Cal P w K mg base 3 "need_limit" spNeedLimit) (c_need_interval : Cal P w K mg base 4 "need_interval" spNeedInterval) (c_need_scale : Cal P w K mg base 4 "need_scale" spNeedScale)
    (c_plus : Cal P w K mg base 1 "plus" spPlus) (c_first_of : Cal P w K mg base 1 "first_of" spFirstOf) : Cal P w K mg base 5 "from_steps" spFromSteps := by
  refine D.cal sc_from_steps (fun vs H Q E h => ?_) (fun cdv A outer s H vs Q E hr h => ?_)
  · obtain ⟨a, b, _, _, _, _, rfl, _⟩ := h
    rfl
  · obtain ⟨a, b, ps, xs, sc, B, rfl, ha, hb, hI, L, S, b1, b2, q⟩ := h
    have hx : xs.length = sc.length := by rw [hI.len, spans_len]
    have hle := S.le
    have hne := S.ne
    have l2 := L.l2
    have l5 := L.l5
    refine ⟨_, (pss_cons (ps_expr (C8.pe_c c_need_limit hr (by decide) (by rfl) (pa_cons (pv 0) pa_nil)))
    (pss_cons (ps_if (PW.pt (pw_or (pt_not (pt_val (pe_callB (isi K rfl) (by rfl) T.b_isinstance (by decide +kernel) (pa_cons (pv 1) (pa_cons (pe_bltn (v := .ty "tuple") (by rfl) T.b_tuple (by decide +kernel) rfl) pa_nil))))) (pw_or1 (pt_not (pt_chain op_le op_le pe_int (pe_callB (lenS K rfl) (by rfl) T.b_len PySem.boot_len (pa_cons (pv 1) pa_nil)) (pe_gi (by rfl) T.k_MOST_NOTES))))))
      (pss_one ps_never) pss_nil)
    (pss_cons (ps_for PassesOwn.never rfl (piT K rfl (pv 1)) (pg_name (i := 2) sc_from_steps.nd rfl (by first | exact Or.inl rfl | exact Or.inr rfl))
      (pss_one (ps_expr (C8.pe_c c_need_interval hr (by decide) (by rfl) (pa_cons (pv 0) (pa_cons (pv 2) pa_nil))))))
    (pss_cons (ps_set (i := 3) sc_from_steps.nd rfl (by first | exact Or.inl rfl | exact Or.inr rfl) (pe_lst (pa_cons (pe_op (op_repA K rfl) (pe_tup (pa_cons pe_int pa_nil)) (pe_callB (lenS K rfl) (by rfl) T.b_len PySem.boot_len (pa_cons (pv 0) pa_nil))) pa_nil)))
    (pss_cons (ps_for PassesOwn.never rfl (piT K rfl (pv 1)) (pg_name (i := 2) sc_from_steps.nd rfl (by first | exact Or.inl rfl | exact Or.inr rfl))
      (pss_one (ps_expr (pe_bm PySem.F.plainAttrs_list PySem.F.slot_list_append PySem.F.type_list_append mt_append (pv 3) (pa_cons (C8.pe_c c_plus hr (by decide) (by rfl) (pa_cons (pe_ix (ixL K rfl) (pv 3) (pe_un un_neg pe_int) (fun _ _ => rfl)) (pa_cons (pv 2) pa_nil))) pa_nil)))))
    (pss_cons (ps_if (pt_cmpR (neD K rfl (hu64 hr)) (pe_ix (ixL K rfl) (pv 3) (pe_un un_neg pe_int) (fun _ _ => rfl)) (C8.pe_c c_first_of hr (by decide) (by rfl) (pa_cons (pv 0) pa_nil)) (nomark _))
      (pss_one ps_never) pss_nil)
    (pss_cons (ps_expr (C8.pe_c c_need_scale hr (by decide) (by rfl) (pa_cons (pv 0) (pa_cons (pe_callTy (tupOf K rfl) (by rfl) T.b_tuple (by decide +kernel) (pa_cons (pe_slice (slL K rfl) (pv 3) po_none (po_some (pe_un un_neg pe_int))) pa_nil)) pa_nil))))
    (pss_one (ps_ret (pe_callTy (tupOf K rfl) (by rfl) T.b_tuple (by decide +kernel) (pa_cons (pe_slice (slL K rfl) (pv 3) po_none (po_some (pe_un un_neg pe_int))) pa_nil))))))))))), ?_⟩
    refine ⟨_, rfl, a, ps, rfl, ha, L, fun H1 s1 => ?_⟩
    have hb1 := s1 _ _ hb
    refine ⟨.ref b, rfl, .ref b, .ty "tuple", _, _, true, rfl, .ty _, .base (.tup hb1), kit_ty (by decide +kernel), true, rfl, iteF ?_⟩
    refine ⟨.ref b, rfl, b, xs, rfl, .inr (SqT.of hb1), _, _, rfl, rfl, _, rfl, ?_⟩
    rw [decide_eq_true (by omega)]
    refine iteT ⟨_, _, rfl, rfl, _, rfl, ?_⟩
    rw [decide_eq_true (by omega)]
    refine iteF ?_
    -- each step is an interval
    refine ⟨_, rfl, b, rfl, ⟨_, SqT.of hb1⟩, ?_⟩
    refine for_tup (xs := xs) (fun i σ H' => Same H H' ∧ ∃ y, σ = [some (.ref a), some (.ref b), y, none]) ⟨s1, none, rfl⟩ (fun i σ H' _ h => SqT.of (h.1 _ _ hb)) (fun i x σ H2 hx1 h => ?_) (fun σ H2 h => ?_)
    · obtain ⟨sm, y, rfl⟩ := h
      obtain ⟨e, he, q1, rfl, h1⟩ := (hI.mono (TS.of sm)).of_get hx1
      have hi : i < sc.length := by
        have := (List.getElem?_eq_some_iff.mp he).1
        rwa [spans_len] at this
      have ee : sub (noteAt sc (i + 1)) (sc.getD i []) = e := by
        rw [spans_get hi] at he
        exact Option.some.inj he
      have hl1 : e.length = ps.length := by
        rw [← ee, sub_len (by rw [S.noteAt_len, S.len hi]), S.noteAt_len]
      refine ⟨_, rfl, _, rfl, a, q1, ps, e, rfl, sm _ _ ha, h1, hl1, by omega, ?_, fun H3 s3 => ⟨sm.trans s3, some (.ref q1), rfl⟩⟩
      rw [← ee]
      exact (S.step_bd (by omega) hi).mono (by omega)
    obtain ⟨sm, y, rfl⟩ := h
    have ha2 := sm _ _ ha
    -- the unison alone
    refine ⟨small6 (by decide), fun p1 n1 => ?_⟩
    have s3 : Same H2 (upd H2 p1 (.tup [.int 0])) := same_upd n1
    refine ⟨.ref a, rfl, a, lv ps, rfl, .inr (SqT.of (s3 _ _ ha2)), p1, _, [.int 0], rfl, rfl, SqT.of upd_same, by simp, by rw [lv_len]; omega, by rw [lv_len]; omega, by decide, fun hk => ?_, fun hk p2 n2 => ?_⟩
    · exfalso
      rw [lv_len] at hk
      omega
    have s4 := sm.trans (s3.trans (same_upd (o := .tup (List.replicate (((lv ps).length : Int)).toNat [V.int 0]).flatten) n2))
    have hz : (upd (upd H2 p1 (.tup [.int 0])) p2 (.tup (List.replicate (((lv ps).length : Int)).toNat [V.int 0]).flatten)) p2 = some (.tup (iv (zer ps.length))) := by
      rw [upd_same, rep_flat, Int.toNat_natCast, lv_len]
      rfl
    generalize upd (upd H2 p1 (.tup [.int 0])) p2 (.tup (List.replicate (((lv ps).length : Int)).toNat [V.int 0]).flatten) = H3 at hz s4
    refine ⟨small6 (by show 1 ≤ 100; decide), fun t nt => ?_⟩
    have s5 : Same H3 (upd H3 t (.lst [.ref p2])) := same_upd nt
    have hb5 := s5 _ _ (s4 _ _ hb)
    -- the notes one after another
    refine ⟨_, rfl, b, rfl, ⟨_, SqT.of hb5⟩, ?_⟩
    refine for_tup (xs := xs) (fun i σ H' => Same H3 H' ∧ ∃ y ys, σ = [some (.ref a), some (.ref b), y, some (.ref t)] ∧ H' t = some (.lst ys) ∧ Ivs H' ys ((List.range (i + 1)).map (noteAt sc))) ⟨s5, y, [.ref p2], rfl, upd_same, ?_⟩ (fun i σ H' _ h => SqT.of (h.1 _ _ (s4 _ _ hb))) (fun i x σ H4 hx1 h => ?_) (fun σ H4 h => ?_)
    · have e0 : noteAt sc 0 = zer ps.length := by rw [noteAt_lt hne, S.at0]
      show Ivs _ [V.ref p2] [noteAt sc 0]
      rw [e0]
      exact Ivs.one ⟨p2, rfl, s5 _ _ hz⟩
    · obtain ⟨sm4, y4, ys, rfl, ht, hys⟩ := h
      obtain ⟨e, he, q1, rfl, h1⟩ := (hI.mono (TS.of (s4.trans sm4))).of_get hx1
      have hi : i < sc.length := by
        have := (List.getElem?_eq_some_iff.mp he).1
        rwa [spans_len] at this
      have ee : sub (noteAt sc (i + 1)) (sc.getD i []) = e := by
        rw [spans_get hi] at he
        exact Option.some.inj he
      have hl1 : e.length = ps.length := by
        rw [← ee, sub_len (by rw [S.noteAt_len, S.len hi]), S.noteAt_len]
      obtain ⟨z, gz, hzz⟩ := hys.last
      have hyl : ys.length = i + 1 := by rw [hys.len, List.length_map, List.length_range]
      refine ⟨_, rfl, .inl ⟨rfl, _, SqL.of ht⟩, ?_⟩
      refine ⟨_, rfl, 1, rfl, t, ys, _, _, rfl, rfl, SqL.of ht, gz, _, rfl, z, q1, _, _, rfl, hzz, h1, by rw [S.noteAt_len, hl1], by rw [S.noteAt_len]; omega, fun H5 p5 s5' h5 => ?_⟩
      have ht5 := s5' _ _ ht
      refine ⟨t, ys, _, rfl, rfl, ht5, small1000 (by omega), ?_⟩
      refine ⟨Same.upd2 (sm4.trans s5') nt, some (.ref q1), ys ++ [.ref p5], rfl, upd_same, ?_⟩
      have tsl : TS H5 (upd H5 t (.lst (ys ++ [.ref p5]))) := TS.lst ht5
      rw [List.range_succ, List.map_append]
      refine (hys.mono ((TS.of s5').trans tsl)).snoc ⟨p5, rfl, tsl _ _ ?_⟩
      rw [h5, ← ee, S.step hi]
    obtain ⟨sm4, y4, ys, rfl, ht, hys⟩ := h
    rw [hx] at hys
    have hyl : ys.length = sc.length + 1 := by rw [hys.len, List.length_map, List.length_range]
    obtain ⟨z, gz, hzz⟩ := hys.last
    rw [S.noteAt_n L] at hzz
    have s6 := s4.trans sm4
    refine ⟨_, rfl, 1, rfl, t, ys, _, _, rfl, rfl, SqL.of ht, gz, _, rfl, a, ps, rfl, s6 _ _ ha, l2, by omega, fun H5 p5 s7 h5 => ?_⟩
    refine ⟨_, _, dp_iv (s7 _ _ hzz), dp_iv h5, shaped_ints _, shaped_ints _, _, rfl, ?_⟩
    rw [eqv_self (shaped_ints _)]
    refine iteF ?_
    have ht5 := s7 _ _ ht
    have cut : ∀ H6, Ivs H6 ys ((List.range (sc.length + 1)).map (noteAt sc)) → Ivs H6 (cutV ys none (some (-1))) sc := fun H6 h => by
      rw [cutLast, hyl, Nat.add_sub_cancel]
      have := h.take sc.length
      rw [← List.map_take, List.take_range, Nat.min_eq_left (Nat.le_succ _), notes_all] at this
      exact this
    have hys5 := hys.mono (TS.of s7)
    refine ⟨_, rfl, _, rfl, 1, rfl, -1, rfl, t, ys, rfl, SqL.of ht5, fun l1 nl1 => ?_⟩
    have s8 : Same H5 (upd H5 l1 (.lst (cutV ys none (some (-1))))) := same_upd nl1
    refine ⟨l1, _, rfl, .inl ⟨SqL.of upd_same, fun u nu => ?_⟩⟩
    have s9 := (s6.trans s7).trans (s8.trans (same_upd (o := .tup (cutV ys none (some (-1)))) nu))
    refine ⟨a, u, ps, _, sc, B, rfl, ⟨s9 _ _ ha, upd_same, L, cut _ (hys5.mono (TS.of (s8.trans (same_upd nu)))), S, b1, b2⟩, fun H6 s10 => ?_⟩
    have s11 := s9.trans s10
    have st : Same H5 H6 := (s8.trans (same_upd nu)).trans s10
    refine ⟨_, rfl, 1, rfl, -1, rfl, t, ys, rfl, SqL.of (st _ _ ht5), fun l2 nl2 => ?_⟩
    have s12 : Same H6 (upd H6 l2 (.lst (cutV ys none (some (-1))))) := same_upd nl2
    refine ⟨l2, _, rfl, .inl ⟨SqL.of upd_same, fun u2 nu2 => q _ u2 _ (s11.trans (s12.trans (same_upd nu2))) upd_same (cut _ (hys5.mono (TS.of (st.trans (s12.trans (same_upd nu2))))))⟩⟩
end
end Tw8
set_option Elab.async false
set_option linter.all false
set_option maxRecDepth 100000
set_option maxHeartbeats 4000000
namespace Tw8
open PySem PySem.Spec PyProof.Rows L2 Tw
/-! ### the law's row of draws -/
abbrev rowL (S : Addr) (i r c : Int) : List V := [.ref S, .int i, .int r, .int c]
/-- the row at R: the script at S, which is not at R, and three numbers -/
structure RowAt (K : PySem.W.Frag) (H : Hp) (R S : Addr) (ns : List Int) (i r c : Int) : Prop where
  hR : H R = some (.lst (rowL S i r c))
  hS : (S ≠ R ∧ Rd H S (.lst (ns.map V.int))) ∨ ∃ (o : Obj) (its : Array Value) (n : Nat), K.lookup S = some o ∧ o.cls = .type "list" ∧ o.dict = none ∧ o.data = .seq its n ∧ its.size ≤ sizeLine ∧ Vals (ns.map V.int) its.toList
  n63 : ns.length ≤ 63
  i0 : 0 ≤ i
  r0 : 0 ≤ r
  r1 : r < 2147483647
/-- all but R is as it was -/
def But (R : Addr) (H H' : Hp) : Prop := ∀ b o, b ≠ R → H b = some o → H' b = some o
theorem But.refl (R : Addr) (H : Hp) : But R H H := fun _ _ _ h => h
theorem But.trans {R : Addr} {H H1 H2 : Hp} (a : But R H H1) (b : But R H1 H2) : But R H H2 := fun c o n h => b c o n (a c o n h)
theorem But.of {R : Addr} {H H' : Hp} (h : Same H H') : But R H H' := fun b o _ e => h b o e
theorem But.upd {R : Addr} {H : Hp} {o : HO} : But R H (upd H R o) := fun b x n e => by
  rw [upd_ne n]
  exact e
section
variable {K : PySem.W.Frag} {H H' : Hp} {R S : Addr} {ns : List Int} {i r c : Int}
theorem RowAt.sq (h : RowAt K H R S ns i r c) : SqL K H S (ns.map V.int) := h.hS.elim (fun x => .inl x.2) .inr
theorem RowAt.but (h : RowAt K H R S ns i r c) (b : But R H H') {i' r' c' : Int} (hR : H' R = some (.lst (rowL S i' r' c'))) (i0 : 0 ≤ i') (r0 : 0 ≤ r') (r1 : r' < 2147483647) : RowAt K H' R S ns i' r' c' := by
  refine ⟨hR, h.hS.elim (fun x => .inl ⟨x.1, ?_⟩) .inr, h.n63, i0, r0, r1⟩
  rcases x.2 with y | ⟨o, y⟩
  · exact .inl (b _ _ x.1 y)
  · exact .inr ⟨o, b _ _ x.1 y⟩
theorem RowAt.same (h : RowAt K H R S ns i r c) (b : Same H H') : RowAt K H' R S ns i r c := h.but (But.of b) (b _ _ h.hR) h.i0 h.r0 h.r1
end
def Row (K : PySem.W.Frag) (H : Hp) (R S : Addr) : Prop := ∃ ns i r c, RowAt K H R S ns i r c
theorem Row.same {K : PySem.W.Frag} {H H' : Hp} {R S : Addr} (h : Row K H R S) (b : Same H H') : Row K H' R S := let ⟨ns, i, r, c, x⟩ := h; ⟨ns, i, r, c, x.same b⟩
theorem Row.ne_tup {K : PySem.W.Frag} {H : Hp} {R S a : Addr} {xs : List V} (h : Row K H R S) (ha : H a = some (.tup xs)) : a ≠ R := by
  obtain ⟨ns, i, r, c, x⟩ := h
  exact ne_of ha x.hR fun z => by cases z
theorem Row.ne_none {K : PySem.W.Frag} {H : Hp} {R S a : Addr} (h : Row K H R S) (ha : H a = none) : R ≠ a := by
  obtain ⟨ns, i, r, c, x⟩ := h
  exact ne_of_none x.hR ha
theorem But.tup {K : PySem.W.Frag} {H H' : Hp} {R S : Addr} (b : But R H H') (h : Row K H R S) : TS H H' := fun a xs e => b a _ (h.ne_tup e) e
/-- what is new at D may be written while the row turns -/
theorem Row.upd {K : PySem.W.Frag} {H H' : Hp} {R S D : Addr} {o : HO} (h0 : Row K H R S) (h : Row K H' R S) (nD : H D = none) : Row K (upd H' D o) R S := by
  have hRD := h0.ne_none nD
  obtain ⟨ns, i, r, c, x⟩ := h
  obtain ⟨ns0, i0, r0, c0, x0⟩ := h0
  rcases x0.hS with ⟨z1, z2⟩ | z
  · have hSD : S ≠ D := by
      rcases z2 with z2 | ⟨ob, z2⟩ <;> exact ne_of_none z2 nD
    refine ⟨ns, i, r, c, by rw [upd_ne hRD]; exact x.hR, x.hS.elim (fun y => .inl ⟨y.1, ?_⟩) .inr, x.n63, x.i0, x.r0, x.r1⟩
    rcases y.2 with y | ⟨ob, y⟩
    · exact .inl (by rw [upd_ne hSD]; exact y)
    · exact .inr ⟨ob, by rw [upd_ne hSD]; exact y⟩
  · exact ⟨ns0, i, r, c, by rw [upd_ne hRD]; exact x.hR, .inr z, x0.n63, x.i0, x.r0, x.r1⟩
theorem But.upd2 {R : Addr} {H0 H : Hp} {D : Addr} {o : HO} (h : But R H0 H) (hD : H0 D = none) : But R H0 (L2.upd H D o) := fun b x n e => by
  rw [upd_ne (ne_of_none e hD)]
  exact h b x n e
section
variable {P : Program} {w : World} {K : PySem.W.Frag} {mg : Str → Option Value} {base : Heap}
def spTaken (K : PySem.W.Frag) : Sp := fun vs H Q _ => ∃ (R S : Addr) (m : Int), vs = [.ref R, .int m] ∧ Row K H R S ∧ 0 < m ∧ m < 1073741824 ∧ ∀ H' t, But R H H' → Row K H' R S → 0 ≤ t → t < m → Q (.int t) H'
theorem ok_law_taken {f : Addr} {fd : FuncData} (D : At K mg "_law_taken" s_law_taken ["_law_row", "_law_many"] f fd) (T : Bi mg) : Cal P w K mg base 1 "_law_taken" (spTaken K) := by
  refine D.cal sc_law_taken (fun vs H Q E h => ?_) (fun cdv A outer s H vs Q E hr h => ?_)
  · obtain ⟨R, _, m, rfl, _⟩ := h
    rfl
  · obtain ⟨R, S, m, rfl, ⟨ns, i, r, c, W⟩, m0, m1, q⟩ := h
    have fin : ∀ (H' : Hp) (t i' r' c' : Int), But R H H' → H' R = some (.lst (rowL S i' r' c')) → 0 ≤ i' → 0 ≤ r' → r' < 2147483647 → Q (.int (t % m)) H' := fun H' t i' r' c' b hR i0 r0 r1 =>
      q H' _ b ⟨ns, i', r', c', W.but b hR i0 r0 r1⟩ (Int.emod_nonneg _ (by omega)) (Int.emod_lt_of_pos _ m0)
    have i0 := W.i0
    have r0 := W.r0
    have r1 := W.r1
    refine ⟨_, (pss_cons (ps_if (pt_cmpR op_gt (pe_ix (ixL K rfl) (pv 0) pe_int (fun _ _ => rfl)) pe_int (nomark _))
      (pss_cons (ps_set (i := 2) sc_law_taken.nd rfl (by first | exact Or.inl rfl | exact Or.inr rfl) (pe_op op_mod (pe_callTy call_int1 (by rfl) T.b_int (by decide +kernel) (pa_cons (pe_ix (ixL K rfl) (pv 0) pe_int (fun _ _ => rfl)) pa_nil)) (pv 1)))
      (pss_cons (ps_asg (pe_op op_fdiv (pe_ix (ixL K rfl) (pv 0) pe_int (fun _ _ => rfl)) (pv 1)) (pg_sub (pv 0) pe_int set_list))
      (pss_one (ps_ret (pv 2))))) pss_nil)
    (pss_cons (ps_asg (pe_op op_add (pe_ix (ixL K rfl) (pv 0) pe_int (fun _ _ => rfl)) pe_int) (pg_sub (pv 0) pe_int set_list))
    (pss_cons (ps_if (pt_cmpR op_gt (pe_ix (ixL K rfl) (pv 0) pe_int (fun _ _ => rfl)) (pe_callB (lenS K rfl) (by rfl) T.b_len PySem.boot_len (pa_cons (pe_ix (ixL K rfl) (pv 0) pe_int (fun _ _ => rfl)) pa_nil)) (nomark _))
      (pss_cons (ps_asg (pe_op op_mod (pe_callTy call_int1 (by rfl) T.b_int (by decide +kernel) (pa_cons (pe_op op_add (pe_op op_mulW (pe_ix (ixL K rfl) (pv 0) pe_int (fun _ _ => rfl)) pe_int) pe_int) pa_nil)) pe_int) (pg_sub (pv 0) pe_int set_list))
      (pss_one (ps_ret (pe_op op_mod (pe_callTy call_int1 (by rfl) T.b_int (by decide +kernel) (pa_cons (pe_op op_fdiv (pe_ix (ixL K rfl) (pv 0) pe_int (fun _ _ => rfl)) pe_int) pa_nil)) (pv 1))))) pss_nil)
    (pss_cons (ps_set (i := 3) sc_law_taken.nd rfl (by first | exact Or.inl rfl | exact Or.inr rfl) (pe_ix (ixL K rfl) (pe_ix (ixL K rfl) (pv 0) pe_int (fun _ _ => rfl)) (pe_op op_sub (pe_ix (ixL K rfl) (pv 0) pe_int (fun _ _ => rfl)) pe_int) (fun _ _ => rfl)))
    (pss_cons (ps_asg (pe_op op_mod (pe_callTy call_int1 (by rfl) T.b_int (by decide +kernel) (pa_cons (pe_op op_add (pe_op op_add (pe_op op_mulW (pe_ix (ixL K rfl) (pv 0) pe_int (fun _ _ => rfl)) pe_int) (pv 3)) pe_int) pa_nil)) pe_int) (pg_sub (pv 0) pe_int set_list))
    (pss_cons (ps_if (pt_cmpR op_ge (pv 3) (pe_op op_pow pe_int pe_int) (nomark _))
      (pss_one (ps_asg (pe_op op_fdiv (pv 3) (pv 1)) (pg_sub (pv 0) pe_int set_list))) pss_nil)
    (pss_one (ps_ret (pe_op op_mod (pe_callTy call_int1 (by rfl) T.b_int (by decide +kernel) (pa_cons (pv 3) pa_nil)) (pv 1)))))))))), ?_⟩
    have h0 := W.hR
    refine ⟨_, rfl, R, _, 3, .int c, rfl, rfl, SqL.of h0, atI_nat (j := 3) rfl, _, _, rfl, rfl, _, rfl, ite2 (fun _ => ?_) (fun _ => ?_)⟩
    · refine ⟨_, rfl, R, _, 3, .int c, rfl, rfl, SqL.of h0, atI_nat (j := 3) rfl, .inl ⟨c, rfl, _, rfl, _, _, rfl, rfl, m0, ?_⟩⟩
      refine ⟨_, rfl, R, _, 3, .int c, rfl, rfl, SqL.of h0, atI_nat (j := 3) rfl, _, rfl, _, _, rfl, rfl, ⟨m0, m1⟩, ?_⟩
      refine ⟨_, rfl, R, _, 3, 3, rfl, rfl, h0, rfl, ?_⟩
      refine ⟨_, rfl, fin _ c i r _ But.upd upd_same i0 r0 r1⟩
    · -- one cell on
      refine ⟨_, rfl, R, _, 1, .int i, rfl, rfl, SqL.of h0, atI_nat (j := 1) rfl, _, _, rfl, rfl, ?_⟩
      refine ⟨_, rfl, R, _, 1, 1, rfl, rfl, h0, rfl, ?_⟩
      have b1 : But R H (upd H R (.lst (rowL S (i + 1) r c))) := But.upd
      have h1 : (upd H R (.lst (rowL S (i + 1) r c))) R = some (.lst (rowL S (i + 1) r c)) := upd_same
      have W1 := W.but b1 h1 (by omega) r0 r1
      show tSeq _ _ _ _ (upd H R (.lst (rowL S (i + 1) r c)))
      generalize upd H R (.lst (rowL S (i + 1) r c)) = H1 at b1 h1 W1
      refine ⟨_, rfl, R, _, 1, .int (i + 1), rfl, rfl, SqL.of h1, atI_nat (j := 1) rfl, _, rfl, R, _, 0, .ref S, rfl, rfl, SqL.of h1, atI_nat (j := 0) rfl, S, _, rfl, .inl W1.sq, _, _, rfl, rfl, _, rfl, ite2 (fun _ => ?_) (fun hle => ?_)⟩
      · -- the script is at its end
        refine ⟨_, rfl, R, _, 2, .int r, rfl, rfl, SqL.of h1, atI_nat (j := 2) rfl, _, _, rfl, rfl, wide_mul (a := 31) (b := 16) (by omega) (by decide) (by decide) (by decide) (by decide), _, _, rfl, rfl, .inl ⟨_, rfl, _, _, rfl, rfl, (by show (0 : Int) < 2147483647; decide), ?_⟩⟩
        refine ⟨_, rfl, R, _, 2, 2, rfl, rfl, h1, rfl, ?_⟩
        have x0 : (0 : Int) ≤ (r * 48271 + 11) % 2147483647 := Int.emod_nonneg _ (by decide)
        have x1 : (r * 48271 + 11) % 2147483647 < 2147483647 := Int.emod_lt_of_pos _ (by decide)
        refine ⟨_, rfl, R, _, 2, .int ((r * 48271 + 11) % 2147483647), rfl, rfl, SqL.of upd_same, atI_nat (j := 2) rfl, _, _, rfl, rfl, ⟨by decide, by decide⟩, .inl ⟨_, rfl, _, rfl, _, _, rfl, rfl, m0, ?_⟩⟩
        exact fin _ _ (i + 1) _ c (b1.trans But.upd) upd_same (by omega) x0 x1
      · have hlen : i + 1 ≤ ((ns.map V.int).length : Int) := by
          have hle' : ¬ (((ns.map V.int).length : Nat) : Int) < i + 1 := fun z => hle (decide_eq_true z)
          omega
        rw [List.length_map] at hlen
        have hi : i.toNat < ns.length := by omega
        have g : (ns.map V.int)[i.toNat]? = some (.int (ns[i.toNat]'hi)) := by
          rw [List.getElem?_map, List.getElem?_eq_getElem hi]
          rfl
        refine ⟨_, rfl, R, _, 0, .ref S, rfl, rfl, SqL.of h1, atI_nat (j := 0) rfl, _, rfl, R, _, 1, .int (i + 1), rfl, rfl, SqL.of h1, atI_nat (j := 1) rfl, _, _, rfl, rfl, S, _, _, _, rfl, rfl, W1.sq, at_of (by omega) g, ?_⟩
        generalize ns[i.toNat]'hi = z
        -- the mixed number
        refine ⟨_, rfl, R, _, 2, .int r, rfl, rfl, SqL.of h1, atI_nat (j := 2) rfl, _, _, rfl, rfl, wide_mul (a := 31) (b := 16) (by omega) (by decide) (by decide) (by decide) (by decide), _, rfl, _, _, rfl, rfl, _, _, rfl, rfl, .inl ⟨_, rfl, _, _, rfl, rfl, (by show (0 : Int) < 2147483647; decide), ?_⟩⟩
        refine ⟨_, rfl, R, _, 2, 2, rfl, rfl, h1, rfl, ?_⟩
        have x0 : (0 : Int) ≤ (r * 48271 + z + 11) % 2147483647 := Int.emod_nonneg _ (by decide)
        have x1 : (r * 48271 + z + 11) % 2147483647 < 2147483647 := Int.emod_lt_of_pos _ (by decide)
        have b2 := b1.trans (But.upd (R := R) (H := H1) (o := .lst (rowL S (i + 1) ((r * 48271 + z + 11) % 2147483647) c)))
        have h2 : (upd H1 R (.lst (rowL S (i + 1) ((r * 48271 + z + 11) % 2147483647) c))) R = some (.lst (rowL S (i + 1) ((r * 48271 + z + 11) % 2147483647) c)) := upd_same
        show tSeq _ _ _ _ (upd H1 R (.lst (rowL S (i + 1) ((r * 48271 + z + 11) % 2147483647) c)))
        generalize upd H1 R (.lst (rowL S (i + 1) ((r * 48271 + z + 11) % 2147483647) c)) = H2 at b2 h2
        refine ⟨_, rfl, _, _, rfl, rfl, ⟨by decide, by decide, by decide⟩, _, _, rfl, rfl, _, rfl, ite2 (fun _ => ?_) (fun _ => ?_)⟩
        · refine ⟨_, rfl, _, rfl, _, _, rfl, rfl, ⟨m0, m1⟩, _, rfl, R, _, 3, 3, rfl, rfl, h2, rfl, ?_⟩
          exact ⟨_, rfl, .inl ⟨_, rfl, _, rfl, _, _, rfl, rfl, m0, fin _ _ (i + 1) _ _ (b2.trans But.upd) upd_same (by omega) x0 x1⟩⟩
        · exact ⟨_, rfl, .inl ⟨_, rfl, _, rfl, _, _, rfl, rfl, m0, fin _ _ (i + 1) _ c b2 h2 (by omega) x0 x1⟩⟩
end
end Tw8
set_option Elab.async false
set_option linter.all false
set_option maxRecDepth 100000
set_option maxHeartbeats 4000000
namespace Tw8
open PySem PySem.Spec PyProof.Rows L2 Tw
theorem yesT {σ : L2.St} {H : Hp} {A B : Hp → Prop} (h : A H) : tYes σ H (fun b H3 => if b = true then A H3 else B H3) := by
  show (if true = true then A H else B H)
  rw [if_pos rfl]
  exact h
theorem lim1 : Lim [2, 3, 5] := ⟨by decide, by decide, fun p hp => by simp at hp; unfold Pr; omega, by decide⟩
theorem lim2 : Lim [2, 3] := ⟨by decide, by decide, fun p hp => by simp at hp; unfold Pr; omega, by decide⟩
theorem lim3 : Lim [2, 3, 5, 7] := ⟨by decide, by decide, fun p hp => by simp at hp; unfold Pr; omega, by decide⟩
theorem lim4 : Lim [2, 3, 7] := ⟨by decide, by decide, fun p hp => by simp at hp; unfold Pr; omega, by decide⟩
theorem lim5 : Lim [3, 5, 7] := ⟨by decide, by decide, fun p hp => by simp at hp; unfold Pr; omega, by decide⟩
theorem lim6 : Lim [2, 5] := ⟨by decide, by decide, fun p hp => by simp at hp; unfold Pr; omega, by decide⟩
theorem lim7 : Lim [2, 3, 5, 7, 11] := ⟨by decide, by decide, fun p hp => by simp at hp; unfold Pr; omega, by decide⟩
theorem lim8 : Lim [2, 7, 11, 13] := ⟨by decide, by decide, fun p hp => by simp at hp; unfold Pr; omega, by decide⟩
section
variable {P : Program} {w : World} {K : PySem.W.Frag} {mg : Str → Option Value} {base : Heap}
def spPick (K : PySem.W.Frag) : Sp := fun vs H Q _ => ∃ (R S l : Addr) (ys : List V), vs = [.ref R, .ref l] ∧ Row K H R S ∧ H l = some (.lst ys) ∧ l ≠ R ∧ 0 < ys.length ∧ ys.length ≤ 1000 ∧ ∀ H' (j : Nat) v, But R H H' → Row K H' R S → ys[j]? = some v → Q v H'
theorem ok_law_pick {f : Addr} {fd : FuncData} (D : At K mg "_law_pick" s_law_pick ["_law_row", "_law_things"] f fd) (T : Bi mg) (c_law_taken : Cal P w K mg base 1 "_law_taken" (spTaken K)) : Cal P w K mg base 2 "_law_pick" (spPick K) := by
  refine D.cal sc_law_pick (fun vs H Q E h => ?_) (fun cdv A outer s H vs Q E hr h => ?_)
  · obtain ⟨R, _, l, _, rfl, _⟩ := h
    rfl
  · obtain ⟨R, S, l, ys, rfl, W, hl, ne, y0, y1, q⟩ := h
    refine ⟨_, (pss_one (ps_ret (pe_ix (ixL K rfl) (pv 1) (C8.pe_c c_law_taken hr (by decide) (by rfl) (pa_cons (pv 0) (pa_cons (pe_callB (lenS K rfl) (by rfl) T.b_len PySem.boot_len (pa_cons (pv 1) pa_nil)) pa_nil))) (fun _ _ => rfl)))), ?_⟩
    refine ⟨_, rfl, _, rfl, _, rfl, l, ys, rfl, .inl (SqL.of hl), R, S, _, rfl, W, by omega, by omega, fun H1 t b1 W1 t0 t1 => ?_⟩
    have ht : t.toNat < ys.length := by omega
    exact ⟨l, ys, _, _, rfl, rfl, SqL.of (b1 _ _ ne hl), at_of (j := t.toNat) (by omega) (List.getElem?_eq_getElem ht), q H1 t.toNat _ b1 W1 (List.getElem?_eq_getElem ht)⟩
def spLimit (K : PySem.W.Frag) : Sp := fun vs H Q _ => ∃ (R S : Addr), vs = [.ref R] ∧ Row K H R S ∧ ∀ H' p ps, But R H H' → Row K H' R S → H' p = some (.tup (lv ps)) → Lim ps → Q (.ref p) H'
theorem ok_law_limit {f : Addr} {fd : FuncData} (D : At K mg "_law_limit" s_law_limit ["_law_row"] f fd) (T : Bi mg) (c_law_pick : Cal P w K mg base 2 "_law_pick" (spPick K)) : Cal P w K mg base 3 "_law_limit" (spLimit K) := by
  refine D.cal sc_law_limit (fun vs H Q E h => ?_) (fun cdv A outer s H vs Q E hr h => ?_)
  · obtain ⟨R, _, rfl, _⟩ := h
    rfl
  · obtain ⟨R, S, rfl, W, q⟩ := h
    refine ⟨_, (pss_one (ps_ret (C8.pe_c c_law_pick hr (by decide) (by rfl) (pa_cons (pv 0) (pa_cons (pe_lst (pa_cons (pe_tup (pa_cons pe_int (pa_cons pe_int (pa_cons pe_int pa_nil)))) (pa_cons (pe_tup (pa_cons pe_int (pa_cons pe_int pa_nil))) (pa_cons (pe_tup (pa_cons pe_int (pa_cons pe_int (pa_cons pe_int (pa_cons pe_int pa_nil))))) (pa_cons (pe_tup (pa_cons pe_int (pa_cons pe_int (pa_cons pe_int pa_nil)))) (pa_cons (pe_tup (pa_cons pe_int (pa_cons pe_int (pa_cons pe_int pa_nil)))) (pa_cons (pe_tup (pa_cons pe_int (pa_cons pe_int pa_nil))) (pa_cons (pe_tup (pa_cons pe_int (pa_cons pe_int (pa_cons pe_int (pa_cons pe_int (pa_cons pe_int pa_nil)))))) (pa_cons (pe_tup (pa_cons pe_int (pa_cons pe_int (pa_cons pe_int (pa_cons pe_int pa_nil))))) pa_nil))))))))) pa_nil))))), ?_⟩
    have new : ∀ (H : Hp) (p : Addr) (ps : List Nat), H p = none → Same H (upd H p (.tup (lv ps))) ∧ (upd H p (.tup (lv ps))) p = some (.tup (lv ps)) := fun H p ps h => ⟨same_upd h, upd_same⟩
    refine ⟨_, rfl, small6 (by decide), fun p1 n1 => ?_⟩
    obtain ⟨s1, h1⟩ := new _ p1 [2, 3, 5] n1
    refine ⟨small6 (by decide), fun p2 n2 => ?_⟩
    obtain ⟨s2, h2⟩ := new _ p2 [2, 3] n2
    refine ⟨small6 (by decide), fun p3 n3 => ?_⟩
    obtain ⟨s3, h3⟩ := new _ p3 [2, 3, 5, 7] n3
    refine ⟨small6 (by decide), fun p4 n4 => ?_⟩
    obtain ⟨s4, h4⟩ := new _ p4 [2, 3, 7] n4
    refine ⟨small6 (by decide), fun p5 n5 => ?_⟩
    obtain ⟨s5, h5⟩ := new _ p5 [3, 5, 7] n5
    refine ⟨small6 (by decide), fun p6 n6 => ?_⟩
    obtain ⟨s6, h6⟩ := new _ p6 [2, 5] n6
    refine ⟨small6 (by decide), fun p7 n7 => ?_⟩
    obtain ⟨s7, h7⟩ := new _ p7 [2, 3, 5, 7, 11] n7
    refine ⟨small6 (by decide), fun p8 n8 => ?_⟩
    obtain ⟨s8, h8⟩ := new _ p8 [2, 7, 11, 13] n8
    refine ⟨small6 (by show 8 ≤ 100; decide), fun l nl => ?_⟩
    have s9 : Same _ (upd _ l (.lst [.ref p1, .ref p2, .ref p3, .ref p4, .ref p5, .ref p6, .ref p7, .ref p8])) := same_upd nl
    have t8 := s8.trans s9
    have t7 := s7.trans t8
    have t6 := s6.trans t7
    have t5 := s5.trans t6
    have t4 := s4.trans t5
    have t3 := s3.trans t4
    have t2 := s2.trans t3
    have t1 := s1.trans t2
    have W1 := W.same t1
    have g1 := t2 _ _ h1
    have g2 := t3 _ _ h2
    have g3 := t4 _ _ h3
    have g4 := t5 _ _ h4
    have g5 := t6 _ _ h5
    have g6 := t7 _ _ h6
    have g7 := t8 _ _ h7
    have g8 := s9 _ _ h8
    have neR : l ≠ R := ((W.same ((((((((s1.trans s2).trans s3).trans s4).trans s5).trans s6).trans s7).trans s8))).ne_none nl).symm
    refine ⟨R, S, l, _, rfl, W1, upd_same, neR, by show 0 < 8; decide, by show 8 ≤ 1000; decide, fun H1 j v b1 W2 hv => ?_⟩
    have ts := b1.tup W1
    have bb := (But.of t1).trans b1
    match j, hv with
    | 0, hv => cases hv; exact q H1 p1 _ bb W2 (ts _ _ g1) lim1
    | 1, hv => cases hv; exact q H1 p2 _ bb W2 (ts _ _ g2) lim2
    | 2, hv => cases hv; exact q H1 p3 _ bb W2 (ts _ _ g3) lim3
    | 3, hv => cases hv; exact q H1 p4 _ bb W2 (ts _ _ g4) lim4
    | 4, hv => cases hv; exact q H1 p5 _ bb W2 (ts _ _ g5) lim5
    | 5, hv => cases hv; exact q H1 p6 _ bb W2 (ts _ _ g6) lim6
    | 6, hv => cases hv; exact q H1 p7 _ bb W2 (ts _ _ g7) lim7
    | 7, hv => cases hv; exact q H1 p8 _ bb W2 (ts _ _ g8) lim8
    | j + 8, hv => simp at hv
def spLawInterval (K : PySem.W.Frag) : Sp := fun vs H Q _ => ∃ (R S a : Addr) (ps : List Nat) (m : Int), vs = [.ref R, .ref a, .int m] ∧ Row K H R S ∧ H a = some (.tup (lv ps)) ∧ ps.length ≤ 100 ∧ 0 ≤ m ∧ m ≤ 1000 ∧
  ∀ H' p e, But R H H' → Row K H' R S → H' p = some (.tup (iv e)) → e.length = ps.length → Bd m e → Q (.ref p) H'
theorem ok_law_interval {f : Addr} {fd : FuncData} (D : At K mg "_law_interval" s_law_interval ["_law_row", "_law_limit_here", "_law_most"] f fd) (T : Bi mg) (c_law_taken : Cal P w K mg base 1 "_law_taken" (spTaken K)) : Cal P w K mg base 2 "_law_interval" (spLawInterval K) := by
  refine D.cal sc_law_interval (fun vs H Q E h => ?_) (fun cdv A outer s H vs Q E hr h => ?_)
  · obtain ⟨R, _, a, _, _, rfl, _⟩ := h
    rfl
  · obtain ⟨R, S, a, ps, m, rfl, W, ha, l6, m0, m1, q⟩ := h
    refine ⟨_, (pss_one (ps_ret (pe_callTy (tupOf K rfl) (by rfl) T.b_tuple (by decide +kernel) (pa_cons (pe_lc (own := [("_law_prime", 3)]) rfl sc_law_interval.nd (piT K rfl (pv 1)) (blkOk_by (own := [("_law_prime", 3)]) (N := N_law_interval) (sc := defScope s_law_interval) (by decide +kernel)) (fun _ _ _ _ _ => (pg_name (i := 3) sc_law_interval.nd rfl (by first | exact Or.inl rfl | exact Or.inr rfl))) (fun _ _ _ _ _ => pts_nil) (fun _ _ _ _ _ => (pe_op op_sub (C8.pe_c c_law_taken hr (by decide) (by rfl) (pa_cons (pv 0) (pa_cons (pe_op op_add (pe_op op_mulW pe_int (pv 2)) pe_int) pa_nil))) (pv 2)))) pa_nil)))), ?_⟩
    have neA := W.ne_tup ha
    refine ⟨_, rfl, a, rfl, ⟨_, SqT.of ha⟩, fun D nD => ?_⟩
    refine lc_it (walk_tup (xs := lv ps)) (fun i H' => But R H H' ∧ Row K H' R S ∧ ∃ es : List Int, H' D = some (.lst (iv es)) ∧ es.length = i ∧ Bd m es) ⟨But.of (same_upd nD), W.same (same_upd nD), [], upd_same, rfl, Bd.nil⟩ (fun i H' _ h => SqT.of (h.1 _ _ neA ha)) (fun i x H1 H2 hi hP hy => ?_) (fun H1 hP => ?_)
    · obtain ⟨rfl, hx⟩ := hy
      obtain ⟨b1, W1, es, hD, hl, hB⟩ := hP
      have neD : D ≠ R := (W.ne_none nD).symm
      refine ⟨rfl, yesT ?_⟩
      refine ⟨_, rfl, _, rfl, _, _, rfl, rfl, wide_mul (a := 10) (b := 11) (by decide) (by have : (2 : Nat) ^ 11 = 2048 := rfl; omega) (by decide) (by decide) (by decide), _, _, rfl, rfl, R, S, _, rfl, W1, by omega, by omega, fun H3 t b3 W3 t0 t1 => ?_⟩
      have hD3 := b3 _ _ neD hD
      refine ⟨_, rfl, _, _, rfl, rfl, iv es, hD3, small1000 (by rw [iv_len]; rw [lv_len] at hi; omega), (b1.trans b3).upd2 nD, Row.upd W W3 nD, es ++ [t - m], ?_, ?_, ?_⟩
      · rw [upd_same]
        show some (HO.lst (es.map V.int ++ [V.int (t - m)])) = some (HO.lst ((es ++ [t - m]).map V.int))
        rw [List.map_append]
        rfl
      · rw [List.length_append, hl]
        rfl
      · intro z hz
        rcases List.mem_append.mp hz with hz | hz
        · exact hB z hz
        · rw [List.mem_singleton.mp hz]
          omega
    · obtain ⟨b1, W1, es, hD, hl, hB⟩ := hP
      rw [lv_len] at hl
      exact ⟨D, iv es, rfl, .inl ⟨SqL.of hD, fun l nl => q _ l es (b1.trans (But.of (same_upd nl))) (W1.same (same_upd nl)) upd_same hl hB⟩⟩
end
end Tw8
set_option Elab.async false
set_option linter.all false
set_option maxRecDepth 100000
set_option maxHeartbeats 4000000
namespace Tw8
open PySem PySem.Spec PyProof.Rows L2 Tw
section
variable {P : Program} {w : World} {K : PySem.W.Frag} {mg : Str → Option Value} {base : Heap}
def spWithin : Sp := fun vs H Q _ => ∃ (a b : Addr) (p : Nat) (ps : List Nat) (a0 : Int) (t : List Int), vs = [.ref a, .ref b] ∧ H a = some (.tup (lv (p :: ps))) ∧ H b = some (.tup (iv (a0 :: t))) ∧ Lim (p :: ps) ∧ (-50 ≤ a0 ∧ a0 ≤ 50) ∧ Bd 2 t ∧ t.length = ps.length ∧
  ∀ H' q a1, Same H H' → H' q = some (.tup (iv (a1 :: t))) → -1000 ≤ a1 → In1 (p :: ps) (a1 :: t) → Q (.ref q) H'
theorem pow_step {U p m : Nat} : U * p ^ m * p = U * p ^ (m + 1) := by rw [Nat.pow_succ, Nat.mul_assoc]
theorem wide_p {A p : Nat} (hA : A < 2 ^ 50010) (hp : p ≤ 13) : CMulW (A : Int) (p : Int) :=
  wide_mul (a := 50010) (b := 4) (by rw [Int.natAbs_natCast]; exact hA) (by rw [Int.natAbs_natCast]; have : (2 : Nat) ^ 4 = 16 := rfl; omega) (by omega) (by omega) (by omega)
theorem ok_law_within {f : Addr} {fd : FuncData} (D : At K mg "_law_within" s_law_within ["_law_limit_here", "_law_interval_here"] f fd) (T : Bi mg) (c_law_quotient : Cal P w K mg base 2 "_law_quotient" spRatioOf) : Cal P w K mg base 3 "_law_within" spWithin := by
  refine D.cal sc_law_within (fun vs H Q E h => ?_) (fun cdv A outer s H vs Q E hr h => ?_)
  · obtain ⟨a, b, _, _, _, _, rfl, _⟩ := h
    rfl
  · obtain ⟨a, b, p, ps, a0, t, rfl, ha, hb, L, ha0, ht, hl, q⟩ := h
    have hp := L.mem p List.mem_cons_self
    have p2 := hp.two
    have p13 := hp.le
    have hB : Bd 2000 (a0 :: t) := Bd.cons (by omega) (ht.mono (by decide))
    refine ⟨_, (pss_cons (ps_asg (C8.pe_c c_law_quotient hr (by decide) (by rfl) (pa_cons (pv 0) (pa_cons (pv 1) pa_nil))) (tupG (n := 2) K rfl rfl (pgs_cons (pg_name (i := 2) sc_law_within.nd rfl (by first | exact Or.inl rfl | exact Or.inr rfl)) (pgs_cons (pg_name (i := 3) sc_law_within.nd rfl (by first | exact Or.inl rfl | exact Or.inr rfl)) pgs_nil))))
    (pss_cons (ps_set (i := 4) sc_law_within.nd rfl (by first | exact Or.inl rfl | exact Or.inr rfl) pe_int)
    (pss_cons (ps_while PassesOwn.never (pt_cmpR op_lt (pv 2) (pv 3) (nomark _))
      (pss_one (ps_par (i := 2) (j := 4) (by rfl) sc_law_within.nd rfl rfl (by decide) rfl rfl (pa_cons (pe_op op_mulW (pv 2) (pe_ix (ixT K rfl) (pv 0) pe_int (fun _ _ => rfl))) (pa_cons (pe_op op_add (pv 4) pe_int) pa_nil)) (by rfl))))
    (pss_cons (ps_while PassesOwn.never (pt_cmpR op_ge (pv 2) (pe_op op_mulW (pv 3) (pe_ix (ixT K rfl) (pv 0) pe_int (fun _ _ => rfl))) (nomark _))
      (pss_one (ps_par (i := 3) (j := 4) (by rfl) sc_law_within.nd rfl rfl (by decide) rfl rfl (pa_cons (pe_op op_mulW (pv 3) (pe_ix (ixT K rfl) (pv 0) pe_int (fun _ _ => rfl))) (pa_cons (pe_op op_sub (pv 4) pe_int) pa_nil)) (by rfl))))
    (pss_one (ps_ret (pe_op (catT K rfl) (pe_tup (pa_cons (pe_op op_add (pe_ix (ixT K rfl) (pv 1) pe_int (fun _ _ => rfl)) (pv 4)) pa_nil)) (pe_slice (slT K rfl) (pv 1) (po_some pe_int) po_none)))))))), ?_⟩
    refine ⟨_, rfl, _, rfl, a, b, p :: ps, a0 :: t, rfl, ha, hb, L, by rw [List.length_cons, List.length_cons, hl], hB, fun H1 q1 s1 h1 => ?_⟩
    refine ⟨q1, _, rfl, SqT.of h1, rfl, _, _, rfl, _, _, rfl, rfl, ?_⟩
    obtain ⟨bU, bD⟩ := up_bits L hB
    have uPos : 0 < up (p :: ps) (a0 :: t) := up_pos L.mem
    have dPos : 0 < dn (p :: ps) (a0 :: t) := dn_pos L.mem
    have fin := fun (m k : Nat) => within_ok (m := m) (k := k) L ha0 ht hl
    have hl2 : t.length ≠ 0 := by
      have := L.l2
      rw [List.length_cons] at this
      omega
    generalize hUe : up (p :: ps) (a0 :: t) = U at *
    generalize hDe : dn (p :: ps) (a0 :: t) = Dn at *
    have ha1 := s1 _ _ ha
    have hb1 := s1 _ _ hb
    have big : ∀ m : Nat, (m = 0 ∨ U * p ^ m < Dn * p) → U * p ^ m < 2 ^ 50010 := fun m hm => by
      rcases hm with z | z
      · subst z
        rw [Nat.pow_zero, Nat.mul_one]
        exact Nat.lt_trans bU (Nat.pow_lt_pow_right (by decide) (by decide))
      · refine Nat.lt_trans z ?_
        calc Dn * p ≤ Dn * 2 ^ 4 := Nat.mul_le_mul_left _ (by omega)
          _ < 2 ^ 50001 * 2 ^ 4 := Nat.mul_lt_mul_of_pos_right bD (by decide)
          _ = 2 ^ 50005 := (Nat.pow_add ..).symm
          _ ≤ 2 ^ 50010 := Nat.pow_le_pow_right (by decide) (by decide)
    -- upward
    refine ⟨fun n σ H' => H' = H1 ∧ ∃ m : Nat, σ = [some (.ref a), some (.ref b), some (.int ((U * p ^ m : Nat) : Int)), some (.int (Dn : Int)), some (.int (m : Int))] ∧ (m = 0 ∨ U * p ^ m < Dn * p) ∧ n = Dn - U * p ^ m, ⟨_, rfl, 0, by rw [Nat.pow_zero, Nat.mul_one]; rfl, .inl rfl, rfl⟩, fun n σ H' h => ?_⟩
    obtain ⟨rfl, m, rfl, hm, rfl⟩ := h
    refine ⟨_, rfl, _, rfl, _, _, rfl, rfl, _, rfl, ite2 (fun hc => ?_) (fun hc => ?_)⟩
    · have hlt : ((U * p ^ m : Nat) : Int) < (Dn : Int) := of_decide_eq_true hc
      have hltN : U * p ^ m < Dn := by omega
      refine ⟨fun σ' H'' => H'' = H' ∧ σ' = [some (.ref a), some (.ref b), some (.int ((U * p ^ (m + 1) : Nat) : Int)), some (.int (Dn : Int)), some (.int ((m + 1 : Nat) : Int))], fun σ' H'' h => ⟨Dn - U * p ^ (m + 1), ?_, h.1, m + 1, h.2, .inr ?_, rfl⟩, ?_⟩
      · have g1 : U * p ^ m * 2 ≤ U * p ^ m * p := Nat.mul_le_mul_left _ p2
        have g2 : 0 < U * p ^ m := Nat.mul_pos uPos (Nat.pow_pos (by omega))
        rw [← pow_step]
        omega
      · rw [← pow_step]
        exact Nat.mul_lt_mul_of_pos_right hltN (by omega)
      · refine ⟨_, rfl, _, rfl, a, lv (p :: ps), 0, _, rfl, rfl, SqT.of ha1, atI_nat (j := 0) rfl, _, _, rfl, rfl, wide_p (big m hm) p13, _, rfl, _, _, rfl, rfl, _, _, rfl, rfl, ?_⟩
        rw [← pow_step]
        rfl
    · have hge : Dn ≤ U * p ^ m := by
        have : ¬ ((U * p ^ m : Nat) : Int) < (Dn : Int) := fun z => hc (decide_eq_true z)
        omega
      -- downward
      refine ⟨fun n σ H'' => H'' = H' ∧ ∃ k : Nat, σ = [some (.ref a), some (.ref b), some (.int ((U * p ^ m : Nat) : Int)), some (.int ((Dn * p ^ k : Nat) : Int)), some (.int ((m : Int) - (k : Int)))] ∧ Dn * p ^ k ≤ U * p ^ m ∧ n = U * p ^ m - Dn * p ^ k, ⟨_, rfl, 0, by rw [Nat.pow_zero, Nat.mul_one, show (m : Int) - ((0 : Nat) : Int) = (m : Int) by omega], by rw [Nat.pow_zero, Nat.mul_one]; exact hge, rfl⟩, fun n σ H'' h => ?_⟩
      obtain ⟨rfl, k, rfl, hk, rfl⟩ := h
      have bk : Dn * p ^ k < 2 ^ 50010 := Nat.lt_of_le_of_lt hk (big m hm)
      refine ⟨_, rfl, _, rfl, _, rfl, a, lv (p :: ps), 0, _, rfl, rfl, SqT.of ha1, atI_nat (j := 0) rfl, _, _, rfl, rfl, wide_p bk p13, _, _, rfl, rfl, _, rfl, ite2 (fun hc2 => ?_) (fun hc2 => ?_)⟩
      · have hle : ((Dn * p ^ k : Nat) : Int) * (p : Int) ≤ ((U * p ^ m : Nat) : Int) := of_decide_eq_true hc2
        have hleN : Dn * p ^ k * p ≤ U * p ^ m := by
          rw [← Int.natCast_mul] at hle
          omega
        refine ⟨fun σ' H3 => H3 = H'' ∧ σ' = [some (.ref a), some (.ref b), some (.int ((U * p ^ m : Nat) : Int)), some (.int ((Dn * p ^ (k + 1) : Nat) : Int)), some (.int ((m : Int) - ((k + 1 : Nat) : Int)))], fun σ' H3 h => ⟨U * p ^ m - Dn * p ^ (k + 1), ?_, h.1, k + 1, h.2, ?_, rfl⟩, ?_⟩
        · have g1 : Dn * p ^ k * 2 ≤ Dn * p ^ k * p := Nat.mul_le_mul_left _ p2
          have g2 : 0 < Dn * p ^ k := Nat.mul_pos dPos (Nat.pow_pos (by omega))
          rw [← pow_step]
          omega
        · rw [← pow_step]
          exact hleN
        · refine ⟨_, rfl, _, rfl, a, lv (p :: ps), 0, _, rfl, rfl, SqT.of ha1, atI_nat (j := 0) rfl, _, _, rfl, rfl, wide_p bk p13, _, rfl, _, _, rfl, rfl, _, _, rfl, rfl, ?_⟩
          rw [← pow_step, show (m : Int) - ((k + 1 : Nat) : Int) = (m : Int) - (k : Int) - 1 by omega]
          rfl
      · have hgt : U * p ^ m < Dn * p ^ k * p := by
          have : ¬ ((Dn * p ^ k : Nat) : Int) * (p : Int) ≤ ((U * p ^ m : Nat) : Int) := fun z => hc2 (decide_eq_true z)
          rw [← Int.natCast_mul] at this
          omega
        obtain ⟨f1, _, f3⟩ := fin m k hk hgt hm
        -- the answer
        refine ⟨_, rfl, b, _, 0, _, rfl, rfl, SqT.of hb1, atI_nat (j := 0) rfl, _, rfl, _, _, rfl, rfl, small6 (by show 1 ≤ 100; decide), fun r1 nr1 => ?_⟩
        have s2 : Same H'' (upd H'' r1 (.tup [.int (a0 + ((m : Int) - (k : Int)))])) := same_upd nr1
        refine ⟨_, rfl, 1, rfl, b, _, rfl, SqT.of (s2 _ _ hb1), fun z => ?_, fun r2 nr2 => ?_⟩
        · have z1 : HT.sIx (iv (a0 :: t)).length 0 (some ((1 : Nat) : Int)) = 0 := z.1
          rw [HT.sIx_nat] at z1
          rw [iv_len, List.length_cons] at z1
          omega
        rw [cut1] at *
        have s3 := s2.trans (same_upd (o := .tup ((iv (a0 :: t)).drop 1)) nr2)
        refine ⟨r1, r2, _, _, rfl, rfl, SqT.of (same_upd nr2 _ _ upd_same), SqT.of upd_same, by simp, small6 (by have := L.l5; show 1 + (iv t).length ≤ 100; rw [iv_len, hl]; rw [List.length_cons] at this; omega), fun z => ?_, fun _ r3 nr3 => ?_⟩
        · exfalso
          have z2 : t = [] := List.map_eq_nil_iff.mp z
          rw [z2] at hl2
          exact hl2 rfl
        · refine q _ r3 (a0 + m - k) ((s1.trans s3).trans (same_upd nr3)) ?_ f1 f3
          rw [upd_same, show a0 + (m : Int) - (k : Int) = a0 + ((m : Int) - (k : Int)) by omega]
          rfl
end
end Tw8
set_option linter.all false
/-! Sorting by size; the drawn scale; the scale upside down. -/
namespace Tw
def Srt (ps : List Nat) (fs : List (List Int)) : Prop := fs.Pairwise fun e f => sz ps e ≤ sz ps f
theorem ins_perm {x : List Int} {fs : List (List Int)} (k : Nat) : (fs.take k ++ [x] ++ fs.drop k).Perm (fs ++ [x]) := by
  have h1 : (fs.take k ++ [x] ++ fs.drop k).Perm (x :: (fs.take k ++ fs.drop k)) := by
    rw [List.append_assoc]
    exact List.perm_middle
  rw [List.take_append_drop] at h1
  exact h1.trans (List.perm_append_singleton x fs).symm
theorem ins_srt {ps : List Nat} {x : List Int} {fs : List (List Int)} {k : Nat} (s : Srt ps fs) (hk : k ≤ fs.length) (hhi : ∀ j, k ≤ j → j < fs.length → sz ps x < sz ps (fs.getD j [])) (hlo : k = 0 ∨ sz ps (fs.getD (k - 1) []) ≤ sz ps x) :
    Srt ps (fs.take k ++ [x] ++ fs.drop k) := by
  unfold Srt at *
  have hx : ∀ a ∈ fs.take k, sz ps a ≤ sz ps x := fun a ha => by
    obtain ⟨i, hi, rfl⟩ := List.mem_iff_getElem.mp ha
    rw [List.length_take] at hi
    rw [List.getElem_take]
    rcases hlo with z | z
    · omega
    · have h1 : k - 1 < fs.length := by omega
      rw [getD_eq h1] at z
      by_cases e : i = k - 1
      · subst e
        exact z
      · exact Nat.le_trans (List.pairwise_iff_getElem.mp s i (k - 1) (by omega) h1 (by omega)) z
  have hy : ∀ b ∈ fs.drop k, sz ps x ≤ sz ps b := fun b hb => by
    obtain ⟨i, hi, rfl⟩ := List.mem_iff_getElem.mp hb
    rw [List.length_drop] at hi
    rw [List.getElem_drop]
    have := hhi (k + i) (by omega) (by omega)
    rw [getD_eq (by omega)] at this
    omega
  rw [List.pairwise_append]
  refine ⟨?_, s.sublist (List.drop_sublist k fs), fun a ha b hb => ?_⟩
  · rw [List.pairwise_append]
    refine ⟨s.sublist (List.take_sublist k fs), List.pairwise_singleton _ _, fun a ha b hb => ?_⟩
    rw [List.mem_singleton.mp hb]
    exact hx a ha
  · rcases List.mem_append.mp ha with ha | ha
    · exact Nat.le_trans (hx a ha) (hy b hb)
    · rw [List.mem_singleton.mp ha]
      exact hy b hb
/-- what the draws leave -/
structure Drawn (ps : List Nat) (fs : List (List Int)) : Prop where
  ok : ∀ e ∈ fs, e.length = ps.length ∧ Bd 40 e ∧ In1 ps e
  hz : zer ps.length ∈ fs
  nd : fs.Nodup
theorem In1.zer {ps : List Nat} (L : Lim ps) : In1 ps (zer ps.length) := by
  refine ⟨Nat.le_refl _, ?_⟩
  cases ps with
  | nil => have := L.l2; simp at this
  | cons p ps =>
    rw [oct_zer]
    have h := sz_pos (ps := p :: ps) (e := Tw.zer (p :: ps).length) L.mem
    have h2 := (L.mem p List.mem_cons_self).two
    have := Nat.mul_le_mul_right (sz (p :: ps) (Tw.zer (p :: ps).length)) h2
    omega
theorem zer_len {n : Nat} : (zer n).length = n := List.length_replicate
theorem Drawn.one {ps : List Nat} (L : Lim ps) : Drawn ps [zer ps.length] :=
  ⟨fun e he => by
    rw [List.mem_singleton.mp he]
    exact ⟨zer_len, zer_bd (by decide), In1.zer L⟩, List.mem_singleton.mpr rfl, by simp⟩
theorem Drawn.add {ps : List Nat} {fs : List (List Int)} {e : List Int} (d : Drawn ps fs) (h : e.length = ps.length ∧ Bd 40 e ∧ In1 ps e) (n : e ∉ fs) : Drawn ps (fs ++ [e]) :=
  ⟨fun f hf => by
    rcases List.mem_append.mp hf with hf | hf
    · exact d.ok f hf
    · rw [List.mem_singleton.mp hf]
      exact h, List.mem_append_left _ d.hz, by
    unfold List.Nodup
    rw [List.pairwise_append]
    refine ⟨d.nd, List.pairwise_singleton _ _, fun a ha b hb => ?_⟩
    rw [List.mem_singleton.mp hb]
    intro z
    rw [z] at ha
    exact n ha⟩
theorem scale_of {ps : List Nat} {fs gs : List (List Int)} (L : Lim ps) (d : Drawn ps fs) (h24 : fs.length ≤ 24) (p : gs.Perm fs) (s : Srt ps gs) : Sc 40 ps gs := by
  have hm : ∀ e ∈ gs, e.length = ps.length ∧ Bd 40 e ∧ In1 ps e := fun e he => d.ok e (p.mem_iff.mp he)
  have nd : gs.Nodup := p.nodup_iff.mpr d.nd
  have inc : gs.Pairwise (fun e f => sz ps e < sz ps f) := by
    have both := List.Pairwise.and s nd
    refine List.Pairwise.imp_of_mem (fun {e f} he hf h => ?_) both
    obtain ⟨h1, h2⟩ := h
    rcases Nat.lt_or_ge (sz ps e) (sz ps f) with z | z
    · exact z
    · obtain ⟨l1, b1, _⟩ := hm e he
      obtain ⟨l2, b2, _⟩ := hm f hf
      exact absurd (inj L.mem L.asc (b1.mono (by decide)) (b2.mono (by decide)) l1 l2 (by omega)) h2
  have hz : zer ps.length ∈ gs := p.mem_iff.mpr d.hz
  refine ⟨List.length_pos_of_mem hz, by rw [p.length_eq]; exact h24, fun e he => ⟨(hm e he).1, (hm e he).2.1⟩, ?_, inc, fun e he => (hm e he).2.2.2⟩
  cases gs with
  | nil => cases hz
  | cons g t =>
    rcases List.mem_cons.mp hz with z | z
    · rw [z]
      rfl
    · have h1 := (List.pairwise_cons.mp inc).1 _ z
      have h2 := (hm g List.mem_cons_self).2.2.1
      omega
/-! ### upside down -/
theorem oct_swap : ∀ {ps : List Nat} {o e : List Int}, Bd 500 o → Bd 500 e → o.length = ps.length → e.length = ps.length → sz ps (sub o e) * sz ps e = sz ps o * sz ps (zer ps.length)
  | [], o, e, _, _, h1, h2 => by
    rw [List.eq_nil_of_length_eq_zero h1, List.eq_nil_of_length_eq_zero h2]
    rfl
  | p :: ps, [], e, _, _, h1, _ => by simp at h1
  | p :: ps, a :: o, [], _, _, _, h2 => by simp at h2
  | p :: ps, a :: o, b :: e, b1, b2, h1, h2 => by
    have ih := oct_swap b1.tail b2.tail (Nat.succ.inj h1) (Nat.succ.inj h2)
    have ha := b1.head
    have hb := b2.head
    show p ^ (a - b + 1000).toNat * sz ps (sub o e) * (p ^ (b + 1000).toNat * sz ps e) = p ^ (a + 1000).toNat * sz ps o * (p ^ 1000 * sz ps (zer ps.length))
    rw [Nat.mul_mul_mul_comm (p ^ (a - b + 1000).toNat), ih, Nat.mul_mul_mul_comm (p ^ (a + 1000).toNat), ← Nat.pow_add, ← Nat.pow_add]
    have e3 : (a - b + 1000).toNat + (b + 1000).toNat = (a + 1000).toNat + 1000 := by omega
    rw [e3]
section
variable {ps : List Nat} {e f : List Int}
/-- greater notes go below smaller ones -/
theorem oct_lt (L : Lim ps) (b1 : Bd 500 e) (b2 : Bd 500 f) (h1 : e.length = ps.length) (h2 : f.length = ps.length) (h : sz ps e < sz ps f) : sz ps (sub (oct ps.length) f) < sz ps (sub (oct ps.length) e) := by
  have lo : (oct ps.length).length = ps.length := oct_len (by have := L.l2; omega)
  have k1 := oct_swap (o := oct ps.length) (oct_bd (by decide)) b1 lo h1
  have k2 := oct_swap (o := oct ps.length) (oct_bd (by decide)) b2 lo h2
  rw [← k2] at k1
  have hE : 0 < sz ps (sub (oct ps.length) e) := sz_pos L.mem
  refine Nat.not_le.mp fun z => ?_
  have c1 : sz ps (sub (oct ps.length) e) * sz ps e < sz ps (sub (oct ps.length) e) * sz ps f := Nat.mul_lt_mul_of_pos_left h hE
  have c2 : sz ps (sub (oct ps.length) e) * sz ps f ≤ sz ps (sub (oct ps.length) f) * sz ps f := Nat.mul_le_mul_right _ z
  omega
theorem sub_self : ∀ (e : List Int), sub e e = zer e.length
  | [] => rfl
  | a :: e => by
    show (a - a) :: sub e e = 0 :: zer e.length
    rw [sub_self e, Int.sub_self]
theorem sub_sub : ∀ {o e : List Int}, o.length = e.length → sub o (sub o e) = e
  | [], [], _ => rfl
  | a :: x, [], h => by simp at h
  | [], b :: e, h => by simp at h
  | a :: x, b :: e, h => by
    show (a - (a - b)) :: sub x (sub x e) = b :: e
    rw [sub_sub (Nat.succ.inj h), show a - (a - b) = b by omega]
theorem sub_sub_sub : ∀ {o e f : List Int}, o.length = e.length → o.length = f.length → sub (sub o e) (sub o f) = sub f e
  | [], [], [], _, _ => rfl
  | [], _ :: _, _, h, _ => by simp at h
  | [], [], _ :: _, _, h => by simp at h
  | _ :: _, [], _, h, _ => by simp at h
  | _ :: _, _ :: _, [], _, h => by simp at h
  | a :: o, b :: e, c :: f, h1, h2 => by
    show (a - b - (a - c)) :: sub (sub o e) (sub o f) = (c - b) :: sub f e
    rw [sub_sub_sub (Nat.succ.inj h1) (Nat.succ.inj h2), show a - b - (a - c) = c - b by omega]
end
theorem updn_head {n : Nat} {sc : List (List Int)} : updn n sc = sc.getD 0 [] :: (sc.drop 1).reverse.map (sub (oct n)) := rfl
theorem updn_len {n : Nat} {sc : List (List Int)} (h : 0 < sc.length) : (updn n sc).length = sc.length := by
  rw [updn_head, List.length_cons, List.length_map, List.length_reverse, List.length_drop]
  omega
/-- the notes of the scale upside down, and the first prime behind them: those of the scale from behind, taken from the first prime -/
theorem ext_updn {B : Int} {ps : List Nat} {sc : List (List Int)} (S : Sc B ps sc) (L : Lim ps) {i : Nat} (h : i ≤ sc.length) :
    (updn ps.length sc ++ [oct ps.length]).getD i [] = sub (oct ps.length) ((sc ++ [oct ps.length]).getD (sc.length - i) []) := by
  have lo : (oct ps.length).length = ps.length := oct_len (by have := L.l2; omega)
  have hne := S.ne
  have ul := updn_len (n := ps.length) S.ne
  by_cases h0 : i = 0
  · subst h0
    have e2 : (sc ++ [oct ps.length]).getD (sc.length - 0) [] = oct ps.length := by
      rw [Nat.sub_zero, List.getD_eq_getElem?_getD, List.getElem?_append_right (Nat.le_refl _), Nat.sub_self]
      rfl
    rw [e2, updn_head]
    show sc.getD 0 [] = sub (oct ps.length) (oct ps.length)
    rw [S.at0, sub_self, lo]
  · by_cases hn : i < sc.length
    · have hj : sc.length - i < sc.length := by omega
      rw [List.getD_eq_getElem?_getD, List.getElem?_append_left (by omega), updn_head]
      obtain ⟨j, rfl⟩ : ∃ j, i = j + 1 := ⟨i - 1, by omega⟩
      have hd : j < (sc.drop 1).length := by rw [List.length_drop]; omega
      rw [List.getElem?_cons_succ, List.getElem?_map, List.getElem?_reverse hd, List.length_drop, List.getElem?_drop, show 1 + (sc.length - 1 - 1 - j) = sc.length - (j + 1) by omega, get_some hj,
        List.getD_eq_getElem?_getD (l := sc ++ [oct ps.length]), List.getElem?_append_left hj, get_some hj]
      rfl
    · have e : i = sc.length := by omega
      subst e
      rw [List.getD_eq_getElem?_getD, List.getElem?_append_right (by omega), ul, Nat.sub_self, List.getD_eq_getElem?_getD, List.getElem?_append_left hne, get_some hne]
      show oct ps.length = sub (oct ps.length) (sc.getD 0 [])
      rw [S.at0]
      have := sub_zer (oct ps.length)
      rw [lo] at this
      exact this.symm
/-- steps by the notes -/
theorem note_ext {B : Int} {ps : List Nat} {sc : List (List Int)} (S : Sc B ps sc) (L : Lim ps) {i : Nat} (h : i ≤ sc.length) : noteAt sc i = (sc ++ [oct ps.length]).getD i [] := by
  by_cases hi : i < sc.length
  · rw [noteAt_lt hi, List.getD_eq_getElem?_getD (l := sc ++ [oct ps.length]), List.getElem?_append_left hi, get_some hi]
    rfl
  · have e : i = sc.length := by omega
    subst e
    rw [S.noteAt_n L, List.getD_eq_getElem?_getD, List.getElem?_append_right (Nat.le_refl _), Nat.sub_self]
    rfl
theorem spans_ext {B : Int} {ps : List Nat} {sc : List (List Int)} (S : Sc B ps sc) (L : Lim ps) {i : Nat} (h : i < sc.length) : (spansL sc 1)[i]? = some (sub ((sc ++ [oct ps.length]).getD (i + 1) []) ((sc ++ [oct ps.length]).getD i [])) := by
  rw [spans_get h, ← note_ext S L (i := i + 1) (by omega), ← note_ext S L (i := i) (by omega), noteAt_lt h]
/-- the scale upside down is a scale -/
theorem updn_sc {B : Int} {ps : List Nat} {sc : List (List Int)} (S : Sc B ps sc) (L : Lim ps) (hB : 1 ≤ B) (hB2 : B ≤ 100) : Sc (B + 1) ps (updn ps.length sc) := by
  have lo : (oct ps.length).length = ps.length := oct_len (by have := L.l2; omega)
  have hmem : ∀ e ∈ (sc.drop 1).reverse.map (sub (oct ps.length)), ∃ f ∈ sc.drop 1, e = sub (oct ps.length) f := fun e he => by
    obtain ⟨f, hf, rfl⟩ := List.mem_map.mp he
    exact ⟨f, List.mem_reverse.mp hf, rfl⟩
  have hsc : sc = sc.getD 0 [] :: sc.drop 1 := by
    have hne := S.ne
    cases sc with
    | nil => simp at hne
    | cons a t => rfl
  have pw : (sc.getD 0 [] :: sc.drop 1).Pairwise (fun e f => sz ps e < sz ps f) := by
    rw [← hsc]
    exact S.inc
  obtain ⟨p1, p2⟩ := List.pairwise_cons.mp pw
  have b500 : ∀ e ∈ sc, Bd 500 e := fun e he => (S.ok e he).2.mono (by omega)
  have zz : sub (oct ps.length) (oct ps.length) = zer ps.length := by rw [sub_self, lo]
  have lz := sub_zer (oct ps.length)
  rw [lo] at lz
  have above : ∀ f ∈ sc.drop 1, sz ps (zer ps.length) < sz ps (sub (oct ps.length) f) := fun f hf => by
    have hm := List.mem_of_mem_drop hf
    have := oct_lt L (b500 f hm) (oct_bd (by decide)) (S.ok f hm).1 lo (S.top f hm)
    rw [zz] at this
    exact this
  refine ⟨by rw [updn_len S.ne]; exact S.ne, by rw [updn_len S.ne]; exact S.le, fun e he => ?_, ?_, ?_, fun e he => ?_⟩
  · rw [updn_head] at he
    rcases List.mem_cons.mp he with rfl | he
    · exact ⟨S.len S.ne, (S.bd S.ne).mono (by omega)⟩
    · obtain ⟨f, hf, rfl⟩ := hmem e he
      have hm := List.mem_of_mem_drop hf
      obtain ⟨l1, b1⟩ := S.ok f hm
      exact ⟨by rw [sub_len (by rw [lo, l1]), lo], (sub_bd (oct_bd (n := ps.length) (B := 1) (by decide)) b1).mono (by omega)⟩
  · rw [updn_head]
    show some (sc.getD 0 []) = _
    rw [S.at0]
  · rw [updn_head]
    refine List.pairwise_cons.mpr ⟨fun e he => ?_, ?_⟩
    · obtain ⟨f, hf, rfl⟩ := hmem e he
      rw [S.at0]
      exact above f hf
    · rw [List.pairwise_map, List.pairwise_reverse]
      refine List.Pairwise.imp_of_mem (fun {e f} he hf h => ?_) p2
      have m1 := List.mem_of_mem_drop he
      have m2 := List.mem_of_mem_drop hf
      exact oct_lt L (b500 _ m1) (b500 _ m2) (S.ok _ m1).1 (S.ok _ m2).1 h
  · rw [updn_head] at he
    rcases List.mem_cons.mp he with rfl | he
    · exact S.top _ (getD_mem S.ne)
    · obtain ⟨f, hf, rfl⟩ := hmem e he
      have hm := List.mem_of_mem_drop hf
      have h0 := p1 f hf
      rw [S.at0] at h0
      have := oct_lt L (zer_bd (by decide)) (b500 f hm) zer_len (S.ok f hm).1 h0
      rw [lz] at this
      exact this
theorem updn_updn {B : Int} {ps : List Nat} {sc : List (List Int)} (S : Sc B ps sc) (L : Lim ps) : updn ps.length (updn ps.length sc) = sc := by
  have lo : (oct ps.length).length = ps.length := oct_len (by have := L.l2; omega)
  rw [updn_head (sc := updn ps.length sc)]
  rw [updn_head]
  show sc.getD 0 [] :: ((sc.drop 1).reverse.map (sub (oct ps.length))).reverse.map (sub (oct ps.length)) = sc
  rw [← List.map_reverse, List.reverse_reverse, List.map_map]
  have e : (sc.drop 1).map (sub (oct ps.length) ∘ sub (oct ps.length)) = sc.drop 1 := by
    have : ∀ f ∈ sc.drop 1, (sub (oct ps.length) ∘ sub (oct ps.length)) f = f := fun f hf => by
      show sub (oct ps.length) (sub (oct ps.length) f) = f
      exact sub_sub (by rw [lo, (S.ok f (List.mem_of_mem_drop hf)).1])
    calc (sc.drop 1).map (sub (oct ps.length) ∘ sub (oct ps.length)) = (sc.drop 1).map id := List.map_congr_left this
      _ = sc.drop 1 := List.map_id _
  rw [e]
  have hne := S.ne
  cases sc with
  | nil => simp at hne
  | cons a t => rfl
theorem spans_updn {B : Int} {ps : List Nat} {sc : List (List Int)} (S : Sc B ps sc) (L : Lim ps) (hB : 1 ≤ B) (hB2 : B ≤ 100) : spansL (updn ps.length sc) 1 = (spansL sc 1).reverse := by
  have lo : (oct ps.length).length = ps.length := oct_len (by have := L.l2; omega)
  have S2 := updn_sc S L hB hB2
  have ul := updn_len (n := ps.length) S.ne
  refine List.ext_getElem? fun j => ?_
  by_cases hj : j < sc.length
  · rw [spans_ext S2 L (by omega), ext_updn S L (by omega), ext_updn S L (by omega), List.getElem?_reverse (by rw [spans_len]; exact hj), spans_len, spans_ext S L (by omega)]
    have l1 := S.ext_len L (i := sc.length - (j + 1)) (by omega)
    have l2 := S.ext_len L (i := sc.length - j) (by omega)
    rw [sub_sub_sub (by rw [lo, l1]) (by rw [lo, l2]), show sc.length - 1 - j + 1 = sc.length - j by omega, show sc.length - 1 - j = sc.length - (j + 1) by omega]
  · rw [List.getElem?_eq_none (by rw [spans_len]; omega), List.getElem?_eq_none (by rw [List.length_reverse, spans_len]; omega)]
/-- each note taken from the first prime, the first one itself -/
def wneg (ps : List Nat) (e : List Int) : List Int := if e = zer ps.length then e else sub (oct ps.length) e
theorem updn_perm {B : Int} {ps : List Nat} {sc : List (List Int)} (S : Sc B ps sc) : (updn ps.length sc).Perm (sc.map (wneg ps)) := by
  have hsc : sc = sc.getD 0 [] :: sc.drop 1 := by
    have hne := S.ne
    cases sc with
    | nil => simp at hne
    | cons a t => rfl
  have pw : (sc.getD 0 [] :: sc.drop 1).Pairwise (fun e f => sz ps e < sz ps f) := by
    rw [← hsc]
    exact S.inc
  have p1 := (List.pairwise_cons.mp pw).1
  have e : sc.map (wneg ps) = sc.getD 0 [] :: (sc.drop 1).map (sub (oct ps.length)) := by
    conv => lhs; rw [hsc]
    rw [List.map_cons]
    have e0 : wneg ps (sc.getD 0 []) = sc.getD 0 [] := by
      unfold wneg
      rw [if_pos S.at0]
    rw [e0]
    congr 1
    refine List.map_congr_left fun f hf => ?_
    unfold wneg
    rw [if_neg]
    intro z
    have := p1 f hf
    rw [z, S.at0] at this
    omega
  rw [e, updn_head]
  exact List.Perm.cons _ ((List.reverse_perm _).map _)
/-- two sorted arrangements of one scale's notes are one -/
theorem sort_uniq {B : Int} {ps : List Nat} {sc gs : List (List Int)} (S : Sc B ps sc) (L : Lim ps) (hB : B ≤ 100) (p : gs.Perm sc) (s : Srt ps gs) : gs = sc := by
  refine List.Perm.eq_of_pairwise (le := fun e f => sz ps e ≤ sz ps f) (fun e f he hf h1 h2 => ?_) s (List.Pairwise.imp (fun h => Nat.le_of_lt h) S.inc) p
  obtain ⟨l1, b1⟩ := S.ok e (p.mem_iff.mp he)
  obtain ⟨l2, b2⟩ := S.ok f hf
  exact inj L.mem L.asc (b1.mono (by omega)) (b2.mono (by omega)) l1 l2 (by omega)
/-- within of a note's opposite -/
theorem wneg_ok {B : Int} {p : Nat} {ps : List Nat} {a a1 : Int} {t : List Int} (L : Lim (p :: ps)) (hB : Bd B (a :: t)) (b100 : B ≤ 100) (hl : t.length = ps.length) (h : In1 (p :: ps) (a :: t)) (ha1 : -1000 ≤ a1) (h1 : In1 (p :: ps) (a1 :: neg t)) : a1 :: neg t = wneg (p :: ps) (a :: t) := by
  have hp := L.mem p List.mem_cons_self
  have lo : (oct (p :: ps).length).length = (p :: ps).length := oct_len (by have := L.l2; omega)
  have hh := hB.head
  have nz : neg (zer ps.length) = zer ps.length := by
    unfold neg zer
    rw [List.map_replicate]
    rfl
  have key : ∀ (t : List Int), List.zipWith (fun a b => a - b) (List.replicate t.length (0 : Int)) t = neg t := fun t => by
    induction t with
    | nil => rfl
    | cons b t ih =>
      show (0 - b) :: List.zipWith (fun a b => a - b) (List.replicate t.length (0 : Int)) t = (0 - b) :: neg t
      rw [ih]
  unfold wneg
  by_cases hz : a :: t = zer (p :: ps).length
  · rw [if_pos hz, hz]
    have e2 : zer (p :: ps).length = 0 :: zer ps.length := rfl
    rw [e2] at hz ⊢
    have ht : t = zer ps.length := (List.cons.inj hz).2
    rw [ht, nz] at h1 ⊢
    have hzz : In1 (p :: ps) (0 :: zer ps.length) := In1.zer L
    rw [uniq hp ha1 (by decide) h1 hzz]
  · rw [if_neg hz]
    have es : sub (oct (p :: ps).length) (a :: t) = (1 - a) :: neg t := by
      show (1 - a) :: List.zipWith (fun a b => a - b) (List.replicate ps.length (0 : Int)) t = _
      rw [← hl, key]
    rw [es]
    have hlen : (a :: t).length = (p :: ps).length := by rw [List.length_cons, List.length_cons, hl]
    have b500 : Bd 500 (a :: t) := hB.mono (by omega)
    have hin : In1 (p :: ps) ((1 - a) :: neg t) := by
      rw [← es]
      constructor
      · have := oct_lt L b500 (oct_bd (by decide)) hlen lo h.2
        rw [sub_self, lo] at this
        omega
      · have hne : sz (p :: ps) (zer (p :: ps).length) < sz (p :: ps) (a :: t) := by
          rcases Nat.lt_or_ge (sz (p :: ps) (zer (p :: ps).length)) (sz (p :: ps) (a :: t)) with z | z
          · exact z
          · exact absurd (inj L.mem L.asc (b500.mono (by decide)) (zer_bd (by decide)) hlen zer_len (Nat.le_antisymm z h.1)) hz
        have := oct_lt L (zer_bd (by decide)) b500 zer_len hlen hne
        have lz := sub_zer (oct (p :: ps).length)
        rw [lo] at lz
        rw [lz] at this
        exact this
    rw [uniq hp ha1 (by omega) h1 hin]
end Tw
set_option Elab.async false
set_option linter.all false
set_option maxRecDepth 100000
set_option maxHeartbeats 4000000
namespace Tw8
open PySem PySem.Spec PyProof.Rows L2 Tw
/-! ### _law_alike -/
/-- alike at depth k: ints; tuples or lists of things alike at depth k - 1 -/
def Alk (H : Hp) : Nat → V → V → Prop
  | 0, x, y => ∃ i, x = .int i ∧ y = .int i
  | k + 1, x, y => ∃ a b xs ys, x = .ref a ∧ y = .ref b ∧ ((H a = some (.tup xs) ∧ H b = some (.tup ys)) ∨ (H a = some (.lst xs) ∧ H b = some (.lst ys))) ∧ xs.length = ys.length ∧ ys.length ≤ 1000 ∧
    ∀ (i : Nat) (u v : V), xs[i]? = some u → ys[i]? = some v → Alk H k u v
theorem Alk.mono {H H' : Hp} (s : Same H H') : ∀ {k : Nat} {x y : V}, Alk H k x y → Alk H' k x y
  | 0, x, y, h => h
  | k + 1, x, y, h => by
    obtain ⟨a, b, xs, ys, h1, h2, h3, h4, h5, h6⟩ := h
    refine ⟨a, b, xs, ys, h1, h2, ?_, h4, h5, fun i u v e1 e2 => (h6 i u v e1 e2).mono s⟩
    rcases h3 with ⟨h3, h3'⟩ | ⟨h3, h3'⟩
    · exact .inl ⟨s _ _ h3, s _ _ h3'⟩
    · exact .inr ⟨s _ _ h3, s _ _ h3'⟩
theorem alk_iv {H : Hp} {a b : Addr} {e : List Int} (h1 : H a = some (.tup (iv e))) (h2 : H b = some (.tup (iv e))) (hl : e.length ≤ 1000) : Alk H 1 (.ref a) (.ref b) :=
  ⟨a, b, _, _, rfl, rfl, .inl ⟨h1, h2⟩, rfl, by rw [List.length_map]; exact hl, fun i u v e1 e2 => by
    rw [e1] at e2
    cases e2
    obtain ⟨hi, rfl⟩ := map_get e1
    exact ⟨_, rfl, rfl⟩⟩
theorem alk_ivs {H : Hp} {a b : Addr} {xs ys : List V} {es : List (List Int)} (h : (H a = some (.tup xs) ∧ H b = some (.tup ys)) ∨ (H a = some (.lst xs) ∧ H b = some (.lst ys))) (h1 : Ivs H xs es) (h2 : Ivs H ys es) (hl : es.length ≤ 1000) (hn : ∀ e ∈ es, e.length ≤ 1000) : Alk H 2 (.ref a) (.ref b) :=
  ⟨a, b, xs, ys, rfl, rfl, h, by rw [h1.len, h2.len], by rw [h2.len]; exact hl, fun i u v e1 e2 => by
    obtain ⟨e, he, p, rfl, hp⟩ := h1.of_get e1
    obtain ⟨e', he', p', rfl, hp'⟩ := h2.of_get e2
    rw [he] at he'
    cases he'
    exact alk_iv hp hp' (hn e (List.mem_of_getElem? he))⟩
section
variable {P : Program} {w : World} {K : PySem.W.Frag} {mg : Str → Option Value} {base : Heap}
def spAlike (k : Nat) : Sp := fun vs H Q _ => ∃ x y, vs = [x, y] ∧ Alk H k x y ∧ ∀ H', Same H H' → Q (.bl true) H'
theorem kit_tl {K : PySem.W.Frag} {n : String} {b1 b2 : Bool} (h1 : PySem.W.kitOne K (.type n) (.type "tuple") = some b1) (h2 : PySem.W.kitOne K (.type n) (.type "list") = some b2) : PySem.W.kitAny K (.type n) [.type "tuple", .type "list"] = some (b1 || b2) := by
  cases b1 with
  | true => exact kitAny_cons h1 (fun z => nomatch z) (fun _ => rfl)
  | false => exact kitAny_cons h1 (fun _ => kitAny_cons (b := b2) h2 (fun z => by rw [z]; exact kitAny_nil) (fun z => by rw [z]; rfl)) (fun z => nomatch z)
theorem cls_tl : Paired ClsV [.ty "tuple", .ty "list"] [.type "tuple", .type "list"] := .cons (.ty _) (.cons (.ty _) .nil)
theorem ok_law_alike0 {f : Addr} {fd : FuncData} (D : At K mg "_law_alike" s_law_alike ["_law_found", "_law_due"] f fd) (T : Bi mg) : Cal P w K mg base 1 "_law_alike" (spAlike 0) := by
  refine D.cal sc_law_alike (fun vs H Q E h => ?_) (fun cdv A outer s H vs Q E hr h => ?_)
  · obtain ⟨x, y, rfl, _⟩ := h
    rfl
  · obtain ⟨x, y, rfl, ⟨i, rfl, rfl⟩, q⟩ := h
    refine ⟨_, (pss_cons (ps_if (pt_val (pe_callB (isiT K rfl) (by rfl) T.b_isinstance (by decide +kernel) (pa_cons (pv 1) (pa_cons (pe_tup (pa_cons (pe_bltn (v := .ty "tuple") (by rfl) T.b_tuple (by decide +kernel) rfl) (pa_cons (pe_bltn (v := .ty "list") (by rfl) T.b_list (by decide +kernel) rfl) pa_nil))) pa_nil)))) pss_never pss_nil)
    (pss_cons (ps_if (PW.pt (pw_or (pt_cmpR op_isN (pv 1) pe_non (nomark _)) (pw_or1 (pt_val (pe_callB (isi K rfl) (by rfl) T.b_isinstance (by decide +kernel) (pa_cons (pv 1) (pa_cons (pe_bltn (v := .ty "str") (by rfl) T.b_str (by decide +kernel) rfl) pa_nil)))))))
      (pss_one (ps_ret (pe_and (pe_cmpR op_eq (pv 0) (pv 1) (nomark _)) (pe_one (pe_cmpR op_eq (pe_callB (isi K rfl) (by rfl) T.b_isinstance (by decide +kernel) (pa_cons (pv 0) (pa_cons (pe_bltn (v := .ty "str") (by rfl) T.b_str (by decide +kernel) rfl) pa_nil))) (pe_callB (isi K rfl) (by rfl) T.b_isinstance (by decide +kernel) (pa_cons (pv 1) (pa_cons (pe_bltn (v := .ty "str") (by rfl) T.b_str (by decide +kernel) rfl) pa_nil))) (nomark _)))))) pss_nil)
    (pss_one (ps_ret (pe_and (pe_callB (isi K rfl) (by rfl) T.b_isinstance (by decide +kernel) (pa_cons (pv 0) (pa_cons (pe_bltn (v := .ty "int") (by rfl) T.b_int (by decide +kernel) rfl) pa_nil))) (pe_and (pe_cmpR op_eq (pe_callB (isi K rfl) (by rfl) T.b_isinstance (by decide +kernel) (pa_cons (pv 0) (pa_cons (pe_bltn (v := .ty "bool") (by rfl) T.b_bool (by decide +kernel) rfl) pa_nil))) (pe_callB (isi K rfl) (by rfl) T.b_isinstance (by decide +kernel) (pa_cons (pv 1) (pa_cons (pe_bltn (v := .ty "bool") (by rfl) T.b_bool (by decide +kernel) rfl) pa_nil))) (nomark _)) (pe_one (pe_cmpR op_eq (pv 0) (pv 1) (nomark _))))))))), ?_⟩
    refine ⟨_, rfl, small6 (by decide), fun p np => ?_⟩
    have s1 : Same H (upd H p (.tup [.ty "tuple", .ty "list"])) := same_upd np
    refine ⟨.int i, p, _, _, _, false, rfl, upd_same, cls_tl, .base (.int i), kit_tl (n := "int") (b1 := false) (b2 := false) (kit_ty (by decide +kernel)) (kit_ty (by decide +kernel)), false, rfl, iteF ?_⟩
    refine ⟨_, rfl, rfl, _, rfl, iteF ?_⟩
    refine ⟨_, rfl, .int i, .ty "str", _, _, false, rfl, .ty _, .base (.int i), kit_ty (by decide +kernel), false, rfl, iteF ?_⟩
    refine ⟨_, rfl, .int i, .ty "int", _, _, true, rfl, .ty _, .base (.int i), kit_ty (by decide +kernel), true, rfl, iteT ?_⟩
    refine ⟨_, rfl, .int i, .ty "bool", _, _, false, rfl, .ty _, .base (.int i), kit_ty (by decide +kernel), _, rfl, .int i, .ty "bool", _, _, false, rfl, .ty _, .base (.int i), kit_ty (by decide +kernel), rfl, true, rfl, iteT ?_⟩
    refine ⟨_, rfl, _, rfl, rfl, ?_⟩
    show Q (.bl (decide (V.int i = V.int i))) _
    rw [decide_eq_true rfl]
    exact q _ s1
theorem ok_law_alikeS {k : Nat} {f : Addr} {fd : FuncData} (D : At K mg "_law_alike" s_law_alike ["_law_found", "_law_due"] f fd) (T : Bi mg) (c_law_alike : Cal P w K mg base (k + 1) "_law_alike" (spAlike k)) : Cal P w K mg base (k + 2) "_law_alike" (spAlike (k + 1)) := by
  refine D.cal sc_law_alike (fun vs H Q E h => ?_) (fun cdv A outer s H vs Q E hr h => ?_)
  · obtain ⟨x, y, rfl, _⟩ := h
    rfl
  · obtain ⟨x, y, rfl, hA, q⟩ := h
    refine ⟨_, (pss_cons (ps_if (pt_val (pe_callB (isiT K rfl) (by rfl) T.b_isinstance (by decide +kernel) (pa_cons (pv 1) (pa_cons (pe_tup (pa_cons (pe_bltn (v := .ty "tuple") (by rfl) T.b_tuple (by decide +kernel) rfl) (pa_cons (pe_bltn (v := .ty "list") (by rfl) T.b_list (by decide +kernel) rfl) pa_nil))) pa_nil))))
      (pss_cons (ps_if (PW.pt (pw_or (pt_not (pt_val (pe_callB (isiT K rfl) (by rfl) T.b_isinstance (by decide +kernel) (pa_cons (pv 0) (pa_cons (pe_tup (pa_cons (pe_bltn (v := .ty "tuple") (by rfl) T.b_tuple (by decide +kernel) rfl) (pa_cons (pe_bltn (v := .ty "list") (by rfl) T.b_list (by decide +kernel) rfl) pa_nil))) pa_nil))))) (pw_or1 (pt_cmpR op_ne (pe_callB (isi K rfl) (by rfl) T.b_isinstance (by decide +kernel) (pa_cons (pv 0) (pa_cons (pe_bltn (v := .ty "list") (by rfl) T.b_list (by decide +kernel) rfl) pa_nil))) (pe_callB (isi K rfl) (by rfl) T.b_isinstance (by decide +kernel) (pa_cons (pv 1) (pa_cons (pe_bltn (v := .ty "list") (by rfl) T.b_list (by decide +kernel) rfl) pa_nil))) (nomark _)))))
        (pss_one (ps_ret pe_bl)) pss_nil)
      (pss_cons (ps_if (pt_cmpR op_ne (pe_callB (lenS K rfl) (by rfl) T.b_len PySem.boot_len (pa_cons (pv 0) pa_nil)) (pe_callB (lenS K rfl) (by rfl) T.b_len PySem.boot_len (pa_cons (pv 1) pa_nil)) (nomark _))
        (pss_one (ps_ret pe_bl)) pss_nil)
      (pss_one (ps_ret (pe_cmpR (eqD K rfl (hu64 hr)) (pe_lc (own := [("_law_k", 2)]) rfl sc_law_alike.nd (pi_range1 (by rfl) T.b_range (pa_cons (pe_callB (lenS K rfl) (by rfl) T.b_len PySem.boot_len (pa_cons (pv 1) pa_nil)) pa_nil)) (blkOk_by (own := [("_law_k", 2)]) (N := N_law_alike) (sc := defScope s_law_alike) (by decide +kernel)) (fun _ _ _ _ _ => (pg_name (i := 2) sc_law_alike.nd rfl (by first | exact Or.inl rfl | exact Or.inr rfl))) (fun _ _ _ _ _ => (pts_one (pt_not (pt_val (C8.pe_c c_law_alike hr (Nat.le_refl _) (by rfl) (pa_cons (pe_ix (ixS K rfl) (pv 0) (pv 2) (fun _ _ => rfl)) (pa_cons (pe_ix (ixS K rfl) (pv 1) (pv 2) (fun _ _ => rfl)) pa_nil))))))) (fun _ _ _ _ _ => (pv 2))) (pe_lst pa_nil) (nomark _)))))) pss_nil)
    (pss_cons (ps_if (PW.pt (pw_or (pt_cmpR op_isN (pv 1) pe_non (nomark _)) (pw_or1 (pt_val (pe_callB (isi K rfl) (by rfl) T.b_isinstance (by decide +kernel) (pa_cons (pv 1) (pa_cons (pe_bltn (v := .ty "str") (by rfl) T.b_str (by decide +kernel) rfl) pa_nil)))))))
      (pss_one (ps_ret (pe_and (pe_cmpR op_eq (pv 0) (pv 1) (nomark _)) (pe_one (pe_cmpR op_eq (pe_callB (isi K rfl) (by rfl) T.b_isinstance (by decide +kernel) (pa_cons (pv 0) (pa_cons (pe_bltn (v := .ty "str") (by rfl) T.b_str (by decide +kernel) rfl) pa_nil))) (pe_callB (isi K rfl) (by rfl) T.b_isinstance (by decide +kernel) (pa_cons (pv 1) (pa_cons (pe_bltn (v := .ty "str") (by rfl) T.b_str (by decide +kernel) rfl) pa_nil))) (nomark _)))))) pss_nil)
    (pss_one (ps_ret (pe_and (pe_callB (isi K rfl) (by rfl) T.b_isinstance (by decide +kernel) (pa_cons (pv 0) (pa_cons (pe_bltn (v := .ty "int") (by rfl) T.b_int (by decide +kernel) rfl) pa_nil))) (pe_and (pe_cmpR op_eq (pe_callB (isi K rfl) (by rfl) T.b_isinstance (by decide +kernel) (pa_cons (pv 0) (pa_cons (pe_bltn (v := .ty "bool") (by rfl) T.b_bool (by decide +kernel) rfl) pa_nil))) (pe_callB (isi K rfl) (by rfl) T.b_isinstance (by decide +kernel) (pa_cons (pv 1) (pa_cons (pe_bltn (v := .ty "bool") (by rfl) T.b_bool (by decide +kernel) rfl) pa_nil))) (nomark _)) (pe_one (pe_cmpR op_eq (pv 0) (pv 1) (nomark _))))))))), ?_⟩
    obtain ⟨a, b, xs, ys, rfl, rfl, hab, hl, hn, hk⟩ := id hA
    -- what stands at both is of one kind
    obtain ⟨nm, tl, ta, tb, kt, kl, sqa, sqb⟩ : ∃ (nm : String) (tl : Bool), (∀ H', Same H H' → TyX K H' (.ref a) (.type nm)) ∧ (∀ H', Same H H' → TyX K H' (.ref b) (.type nm)) ∧ PySem.W.kitAny K (.type nm) [.type "tuple", .type "list"] = some true ∧ PySem.W.kitOne K (.type nm) (.type "list") = some tl ∧
        (∀ H', Same H H' → SqL K H' a xs ∨ SqT K H' a xs) ∧ (∀ H', Same H H' → SqL K H' b ys ∨ SqT K H' b ys) := by
      rcases hab with ⟨ha, hb⟩ | ⟨ha, hb⟩
      · exact ⟨"tuple", false, fun H' s => .base (.tup (s _ _ ha)), fun H' s => .base (.tup (s _ _ hb)), kit_tl (b1 := true) (b2 := false) (kit_ty (by decide +kernel)) (kit_ty (by decide +kernel)), kit_ty (by decide +kernel), fun H' s => .inr (SqT.of (s _ _ ha)), fun H' s => .inr (SqT.of (s _ _ hb))⟩
      · exact ⟨"list", true, fun H' s => .base (.lst (s _ _ ha)), fun H' s => .base (.lst (s _ _ hb)), kit_tl (b1 := false) (b2 := true) (kit_ty (by decide +kernel)) (kit_ty (by decide +kernel)), kit_ty (by decide +kernel), fun H' s => .inl (SqL.of (s _ _ ha)), fun H' s => .inl (SqL.of (s _ _ hb))⟩
    refine ⟨_, rfl, small6 (by decide), fun p np => ?_⟩
    have s1 : Same H (upd H p (.tup [.ty "tuple", .ty "list"])) := same_upd np
    refine ⟨.ref b, p, _, _, _, true, rfl, upd_same, cls_tl, tb _ s1, kt, true, rfl, iteT ?_⟩
    refine ⟨_, rfl, small6 (by decide), fun p2 np2 => ?_⟩
    have s2 := s1.trans (same_upd (o := .tup [.ty "tuple", .ty "list"]) np2)
    refine ⟨.ref a, p2, _, _, _, true, rfl, upd_same, cls_tl, ta _ s2, kt, true, rfl, iteF ?_⟩
    refine ⟨_, rfl, .ref a, .ty "list", _, _, tl, rfl, .ty _, ta _ s2, kl, _, rfl, .ref b, .ty "list", _, _, tl, rfl, .ty _, tb _ s2, kl, (by cases tl <;> rfl), _, rfl, ?_⟩
    rw [decide_eq_true rfl]
    refine iteF ?_
    refine ⟨_, rfl, a, xs, rfl, sqa _ s2, _, rfl, b, ys, rfl, sqb _ s2, rfl, _, rfl, ?_⟩
    rw [hl, decide_eq_true rfl]
    refine iteF ?_
    generalize upd (upd H p (.tup [.ty "tuple", .ty "list"])) p2 (.tup [.ty "tuple", .ty "list"]) = H2 at s2
    refine ⟨_, rfl, b, ys, rfl, sqb _ s2, ys.length, rfl, by omega, by omega, fun D nD => ?_⟩
    refine lc_range (n := ((ys.length : Int)).toNat) (fun i H' => Same H2 H' ∧ H' D = some (.lst [])) ⟨same_upd nD, upd_same⟩ (fun i H3 hi hP => ?_) (fun H3 hP => ?_)
    · obtain ⟨s3, hD⟩ := hP
      have hi1 : i < ys.length := by omega
      have g1 : xs[i]? = some (xs[i]'(by omega)) := List.getElem?_eq_getElem (by omega)
      have g2 : ys[i]? = some (ys[i]'hi1) := List.getElem?_eq_getElem hi1
      have item : ∀ (c : Addr) (zs : List V) (z : V) (Q' : V → Hp → Prop), (SqL K H3 c zs ∨ SqT K H3 c zs) → zs[i]? = some z → Q' z H3 → rIx K (.ref c) (.int (0 + (i : Int))) H3 Q' := fun c zs z Q' hc hz hq => by
        rcases hc with hc | hc
        · exact .inl ⟨c, zs, _, z, rfl, rfl, hc, at_of (by omega) hz, hq⟩
        · exact .inr (.inl ⟨c, zs, _, z, rfl, rfl, hc, at_of (by omega) hz, hq⟩)
      refine ⟨rfl, ?_⟩
      refine ⟨_, rfl, _, rfl, item a xs _ _ (sqa _ (s2.trans s3)) g1 ?_⟩
      refine ⟨_, rfl, _, rfl, item b ys _ _ (sqb _ (s2.trans s3)) g2 ?_⟩
      exact ⟨_, _, rfl, (hk i _ _ g1 g2).mono (s2.trans s3), fun H4 s4 => ⟨true, rfl, iteF ⟨s3.trans s4, s4 _ _ hD⟩⟩⟩
    · obtain ⟨s3, hD⟩ := hP
      refine ⟨Nat.zero_le _, fun l nl => ?_⟩
      refine ⟨.list [], .list [], .lst (SqL.of (same_upd nl _ _ hD)) .nil, .lst (SqL.of upd_same) .nil, by decide, by decide, ?_⟩
      exact q _ ((s2.trans s3).trans (same_upd nl))
theorem ok_law_alike2 {f : Addr} {fd : FuncData} (D : At K mg "_law_alike" s_law_alike ["_law_found", "_law_due"] f fd) (T : Bi mg) : Cal P w K mg base 3 "_law_alike" (spAlike 2) :=
  ok_law_alikeS D T (ok_law_alikeS D T (ok_law_alike0 D T))
end
end Tw8
set_option Elab.async false
set_option linter.all false
set_option maxRecDepth 100000
set_option maxHeartbeats 4000000
namespace Tw8
open PySem PySem.Spec PyProof.Rows L2 Tw
theorem cutTo (xs : List V) (k : Nat) (h : k ≤ xs.length) : cutV xs none (some (k : Int)) = xs.take k := by
  unfold cutV
  rw [HT.sIx_none, HT.sIx_nat, List.drop_zero, Nat.min_eq_left h, Nat.sub_zero]
theorem cutFrom (xs : List V) (k : Nat) (h : k ≤ xs.length) : cutV xs (some (k : Int)) none = xs.drop k := by
  unfold cutV
  rw [HT.sIx_none, HT.sIx_nat, Nat.min_eq_left h]
  refine List.take_of_length_le ?_
  rw [List.length_drop]
  exact Nat.le_refl _
section
variable {P : Program} {w : World} {K : PySem.W.Frag} {mg : Str → Option Value} {base : Heap}
/-- a list with one thing put in at a place -/
theorem glue {K : PySem.W.Frag} {D : Ends} {H : Hp} {a l l2 : Addr} {x : V} {ys : List V} {k : Nat} (hl : H l2 = some (.lst ys)) (hk : k ≤ ys.length) (hs : ys.length ≤ 90)
    (h : ∀ H' p, Same H H' → H' p = some (.lst (ys.take k ++ [x] ++ ys.drop k)) → D.nx [some (.ref a), some (.ref l), some (.ref p), some x, some (.int (k : Int))] H') :
    tAsg (tOp rCat (tOp rCat (tSl (rSlL K) (tVar 2) tNoPart (tPart (tVar 4))) (tLst (tCons (tVar 3) tNil))) (tSl (rSlL K) (tVar 2) (tPart (tVar 4)) tNoPart)) (gName 2) D [some (.ref a), some (.ref l), some (.ref l2), some x, some (.int (k : Int))] H := by
  refine ⟨_, rfl, _, rfl, _, rfl, l2, ys, rfl, SqL.of hl, fun p1 n1 => ?_⟩
  have s1 : Same H (upd H p1 (.lst (cutV ys none (some (k : Int))))) := same_upd n1
  refine ⟨_, rfl, small6 (by show 1 ≤ 100; decide), fun p2 n2 => ?_⟩
  have s2 := s1.trans (same_upd (o := .lst [x]) n2)
  refine ⟨p1, p2, _, _, rfl, rfl, same_upd n2 _ _ upd_same, upd_same, small6 ?_, fun p3 n3 => ?_⟩
  · rw [cutTo ys k hk, List.length_take]
    show min k ys.length + 1 ≤ 100
    omega
  have s3 := s2.trans (same_upd (o := .lst (cutV ys none (some (k : Int)) ++ [x])) n3)
  refine ⟨_, rfl, _, rfl, _, rfl, l2, ys, rfl, SqL.of (s3 _ _ hl), fun p4 n4 => ?_⟩
  have s4 := s3.trans (same_upd (o := .lst (cutV ys (some (k : Int)) none)) n4)
  refine ⟨p3, p4, _, _, rfl, rfl, same_upd n4 _ _ upd_same, upd_same, small6 ?_, fun p5 n5 => ?_⟩
  · rw [cutTo ys k hk, cutFrom ys k hk, List.length_append, List.length_take, List.length_drop]
    show min k ys.length + 1 + (ys.length - k) ≤ 100
    omega
  refine h _ p5 (s4.trans (same_upd n5)) ?_
  rw [upd_same, cutTo ys k hk, cutFrom ys k hk]
def spBySize : Sp := fun vs H Q _ => ∃ (a l : Addr) (ps : List Nat) (xs : List V) (es : List (List Int)), vs = [.ref a, .ref l] ∧ H a = some (.tup (lv ps)) ∧ Lim ps ∧ H l = some (.lst xs) ∧ Ivs H xs es ∧ (∀ e ∈ es, e.length = ps.length ∧ Bd 100 e) ∧ es.length ≤ 80 ∧
  ∀ H' p ys fs, Same H H' → H' p = some (.lst ys) → Ivs H' ys fs → fs.Perm es → Srt ps fs → Q (.ref p) H'
theorem ok_law_by_size {f : Addr} {fd : FuncData} (D : At K mg "_law_by_size" s_law_by_size ["_law_limit_here", "_law_intervals"] f fd) (T : Bi mg) (c_law_minus : Cal P w K mg base 1 "_law_minus" spMinus) (c_law_sign : Cal P w K mg base 3 "_law_sign" spSignOf) : Cal P w K mg base 4 "_law_by_size" spBySize := by
  refine D.cal sc_law_by_size (fun vs H Q E h => ?_) (fun cdv A outer s H vs Q E hr h => ?_)
  · obtain ⟨a, l, _, _, _, rfl, _⟩ := h
    rfl
  · obtain ⟨a, l, ps, xs, es, rfl, ha, L, hl, hI, ok, h80, q⟩ := h
    have hx : xs.length = es.length := hI.len
    refine ⟨_, (pss_cons (ps_set (i := 2) sc_law_by_size.nd rfl (by first | exact Or.inl rfl | exact Or.inr rfl) (pe_lst pa_nil))
    (pss_cons (ps_for PassesOwn.never rfl (piL K rfl (pv 1)) (pg_name (i := 3) sc_law_by_size.nd rfl (by first | exact Or.inl rfl | exact Or.inr rfl))
      (pss_cons (ps_set (i := 4) sc_law_by_size.nd rfl (by first | exact Or.inl rfl | exact Or.inr rfl) (pe_callB (lenS K rfl) (by rfl) T.b_len PySem.boot_len (pa_cons (pv 2) pa_nil)))
      (pss_cons (ps_while PassesOwn.never (PW.pt (pw_and (pt_cmpR op_gt (pv 4) pe_int (nomark _)) (pw_and1 (pt_cmpR op_lt (C8.pe_c c_law_sign hr (by decide) (by rfl) (pa_cons (pv 0) (pa_cons (C8.pe_c c_law_minus hr (by decide) (by rfl) (pa_cons (pv 3) (pa_cons (pe_ix (ixL K rfl) (pv 2) (pe_op op_sub (pv 4) pe_int) (fun _ _ => rfl)) pa_nil))) pa_nil))) pe_int (nomark _)))))
        (pss_one (ps_set (i := 4) sc_law_by_size.nd rfl (by first | exact Or.inl rfl | exact Or.inr rfl) (pe_op op_sub (pv 4) pe_int))))
      (pss_one (ps_set (i := 2) sc_law_by_size.nd rfl (by first | exact Or.inl rfl | exact Or.inr rfl) (pe_op op_cat (pe_op op_cat (pe_slice (slL K rfl) (pv 2) po_none (po_some (pv 4))) (pe_lst (pa_cons (pv 3) pa_nil))) (pe_slice (slL K rfl) (pv 2) (po_some (pv 4)) po_none)))))))
    (pss_one (ps_ret (pv 2))))), ?_⟩
    refine ⟨Nat.zero_le _, fun l0 nl0 => ?_⟩
    have s0 : Same H (upd H l0 (.lst [])) := same_upd nl0
    refine ⟨_, rfl, l, rfl, ⟨_, SqL.of (s0 _ _ hl)⟩, ?_⟩
    refine for_list (xs := xs) (fun i σ H' => Same H H' ∧ ∃ (l2 : Addr) (ys : List V) (fs : List (List Int)) (y3 y4 : Option V), σ = [some (.ref a), some (.ref l), some (.ref l2), y3, y4] ∧ H' l2 = some (.lst ys) ∧ Ivs H' ys fs ∧ fs.Perm (es.take i) ∧ Srt ps fs)
      ⟨s0, l0, [], [], none, none, rfl, upd_same, Ivs.nil, List.Perm.nil, List.Pairwise.nil⟩ (fun i σ H' _ h => SqL.of (h.1 _ _ hl)) (fun i x σ H1 hx1 h => ?_) (fun σ H1 h => ?_)
    · obtain ⟨s1, l2, ys, fs, y3, y4, rfl, h2, hys, hp, hsr⟩ := h
      obtain ⟨e, he, q1, rfl, hq1⟩ := (hI.mono (TS.of s1)).of_get hx1
      have hmem : e ∈ es := List.mem_of_getElem? he
      obtain ⟨el, eb⟩ := ok e hmem
      have hi : i < es.length := (List.getElem?_eq_some_iff.mp he).1
      have fl : fs.length = i := by
        rw [hp.length_eq, List.length_take]
        omega
      have yl : ys.length = fs.length := hys.len
      have fok : ∀ f ∈ fs, f.length = ps.length ∧ Bd 100 f := fun f hf => ok f (List.mem_of_mem_take (hp.mem_iff.mp hf))
      -- from the end on
      refine ⟨_, rfl, l2, ys, rfl, .inl (SqL.of h2), ?_⟩
      refine ⟨fun n σ H' => Same H1 H' ∧ ∃ k : Nat, σ = [some (.ref a), some (.ref l), some (.ref l2), some (.ref q1), some (.int (k : Int))] ∧ k ≤ fs.length ∧ (∀ j, k ≤ j → j < fs.length → sz ps e < sz ps (fs.getD j [])) ∧ n = k,
        ⟨_, Same.refl _, fs.length, by rw [← yl]; rfl, Nat.le_refl _, fun j h1 h2 => by omega, rfl⟩, fun n σ H2 h => ?_⟩
      obtain ⟨s2, k, rfl, hk, hhi, rfl⟩ := h
      have fin : ∀ H3, Same H2 H3 → (n = 0 ∨ sz ps (fs.getD (n - 1) []) ≤ sz ps e) → ∀ D' : Ends, (∀ σ' H', (Same H H' ∧ ∃ (l2 : Addr) (ys : List V) (fs : List (List Int)) (y3 y4 : Option V), σ' = [some (.ref a), some (.ref l), some (.ref l2), y3, y4] ∧ H' l2 = some (.lst ys) ∧ Ivs H' ys fs ∧ fs.Perm (es.take (i + 1)) ∧ Srt ps fs) → D'.nx σ' H') →
          tAsg (tOp rCat (tOp rCat (tSl (rSlL K) (tVar 2) tNoPart (tPart (tVar 4))) (tLst (tCons (tVar 3) tNil))) (tSl (rSlL K) (tVar 2) (tPart (tVar 4)) tNoPart)) (gName 2) D' [some (.ref a), some (.ref l), some (.ref l2), some (.ref q1), some (.int (n : Int))] H3 := fun H3 s3 hlo D' hD' => by
        refine glue ((s2.trans s3) _ _ h2) (by omega) (by omega) fun H4 p s4 h4 => hD' _ _ ⟨((s1.trans s2).trans s3).trans s4, p, _, fs.take n ++ [e] ++ fs.drop n, _, _, rfl, h4, ?_, ?_, ins_srt hsr hk hhi hlo⟩
        · have t4 := TS.of ((s2.trans s3).trans s4)
          have h5 := hys.mono t4
          exact ((h5.take n).snoc ⟨q1, rfl, t4 _ _ hq1⟩).append (h5.drop n)
        · refine (ins_perm n).trans ?_
          rw [List.take_add_one, he]
          exact hp.append_right [e]
      refine ⟨_, rfl, _, _, rfl, rfl, _, rfl, ite2 (fun hc => ?_) (fun hc => ?_)⟩
      · have hpos : 0 < n := by
          have : (0 : Int) < (n : Int) := of_decide_eq_true hc
          omega
        have hn1 : n - 1 < fs.length := by omega
        obtain ⟨z, gz, hz⟩ := (hys.mono (TS.of s2)).get (get_some hn1)
        obtain ⟨zl, zb⟩ := fok _ (getD_mem hn1)
        refine ⟨_, rfl, _, rfl, _, rfl, _, rfl, _, _, rfl, rfl, l2, ys, _, _, rfl, rfl, SqL.of (s2 _ _ h2), at_of (by omega) gz, q1, z, _, _, rfl, s2 _ _ hq1, hz, by rw [el, zl], by have := L.l5; omega, fun H3 m s3 hm => ?_⟩
        refine ⟨a, m, ps, _, rfl, s3 _ _ (s2 _ _ (s1 _ _ ha)), hm, L, by rw [sub_len (by rw [el, zl]), el], (sub_bd eb zb).mono (by decide), fun H4 s4 => ?_⟩
        have s34 := s3.trans s4
        refine ⟨_, _, rfl, rfl, _, rfl, ite2 (fun hc2 => ?_) (fun hc2 => ?_)⟩
        · have hneg : sgn ps (sub e (fs.getD (n - 1) [])) < 0 := of_decide_eq_true hc2
          have hlt := (sgn_neg L.mem (eb.mono (by decide)) (zb.mono (by decide)) el zl).mp hneg
          refine ⟨fun σ' H' => Same H1 H' ∧ σ' = [some (.ref a), some (.ref l), some (.ref l2), some (.ref q1), some (.int ((n - 1 : Nat) : Int))], fun σ' H' h => ⟨n - 1, by omega, h.1, n - 1, h.2, by omega, fun j h1 h2 => ?_, rfl⟩, ?_⟩
          · by_cases ej : j = n - 1
            · rw [ej]
              exact hlt
            · exact hhi j (by omega) h2
          · refine ⟨_, rfl, _, _, rfl, rfl, s2.trans s34, ?_⟩
            rw [show ((n - 1 : Nat) : Int) = (n : Int) - 1 by omega]
            rfl
        · refine fin _ s34 (.inr ?_) _ (fun σ' H' h => h)
          have hnn : ¬ sgn ps (sub e (fs.getD (n - 1) [])) < 0 := fun z => hc2 (decide_eq_true z)
          exact Nat.not_lt.mp fun z => hnn ((sgn_neg L.mem (eb.mono (by decide)) (zb.mono (by decide)) el zl).mpr z)
      · have hn0 : n = 0 := by
          have : ¬ (0 : Int) < (n : Int) := fun z => hc (decide_eq_true z)
          omega
        exact iteF (fin _ (Same.refl _) (.inl hn0) _ (fun σ' H' h => h))
    · obtain ⟨s1, l2, ys, fs, y3, y4, rfl, h2, hys, hp, hsr⟩ := h
      rw [hx, List.take_length] at hp
      exact ⟨_, rfl, q _ l2 ys fs s1 h2 hys hp hsr⟩
def spScale (K : PySem.W.Frag) : Sp := fun vs H Q _ => ∃ (R S a : Addr) (ps : List Nat), vs = [.ref R, .ref a] ∧ Row K H R S ∧ H a = some (.tup (lv ps)) ∧ Lim ps ∧
  ∀ H' p ys sc, But R H H' → Row K H' R S → H' p = some (.tup ys) → Ivs H' ys sc → Sc 40 ps sc → (∀ e ∈ sc, In1 ps e ∧ Bd 2 (e.drop 1)) → sc.length ≤ 7 → Q (.ref p) H'
theorem zer_tail {n : Nat} : Bd 2 ((zer n).drop 1) := fun x hx => by
  have := List.eq_of_mem_replicate (List.mem_of_mem_drop hx)
  omega
theorem ok_law_scale {f : Addr} {fd : FuncData} (D : At K mg "_law_scale" s_law_scale ["_law_row", "_law_limit_here"] f fd) (T : Bi mg) (c_law_taken : Cal P w K mg base 1 "_law_taken" (spTaken K)) (c_law_within : Cal P w K mg base 3 "_law_within" spWithin)
    (c_law_interval : Cal P w K mg base 2 "_law_interval" (spLawInterval K)) (c_law_by_size : Cal P w K mg base 4 "_law_by_size" spBySize) : Cal P w K mg base 5 "_law_scale" (spScale K) := by
  refine D.cal sc_law_scale (fun vs H Q E h => ?_) (fun cdv A outer s H vs Q E hr h => ?_)
  · obtain ⟨R, _, a, _, rfl, _⟩ := h
    rfl
  · obtain ⟨R, S, a, ps, rfl, W, ha, L, q⟩ := h
    have l2 := L.l2
    have l5 := L.l5
    refine ⟨_, (pss_cons (ps_set (i := 2) sc_law_scale.nd rfl (by first | exact Or.inl rfl | exact Or.inr rfl) (pe_lst (pa_cons (pe_op (op_repA K rfl) (pe_tup (pa_cons pe_int pa_nil)) (pe_callB (lenS K rfl) (by rfl) T.b_len PySem.boot_len (pa_cons (pv 1) pa_nil))) pa_nil)))
    (pss_cons (ps_for PassesOwn.never rfl (pi_range1 (by rfl) T.b_range (pa_cons (C8.pe_c c_law_taken hr (by decide) (by rfl) (pa_cons (pv 0) (pa_cons pe_int pa_nil))) pa_nil)) (pg_name (i := 3) sc_law_scale.nd rfl (by first | exact Or.inl rfl | exact Or.inr rfl))
      (pss_cons (ps_set (i := 4) sc_law_scale.nd rfl (by first | exact Or.inl rfl | exact Or.inr rfl) (C8.pe_c c_law_within hr (by decide) (by rfl) (pa_cons (pv 1) (pa_cons (C8.pe_c c_law_interval hr (by decide) (by rfl) (pa_cons (pv 0) (pa_cons (pv 1) (pa_cons pe_int pa_nil)))) pa_nil))))
      (pss_one (ps_if (pt_cmpR (notInD K rfl (hu65 hr)) (pv 4) (pv 2) (by with_unfolding_all rfl))
        (pss_one (ps_expr (pe_bm PySem.F.plainAttrs_list PySem.F.slot_list_append PySem.F.type_list_append mt_append (pv 2) (pa_cons (pv 4) pa_nil)))) pss_nil))))
    (pss_one (ps_ret (pe_callTy (tupOf K rfl) (by rfl) T.b_tuple (by decide +kernel) (pa_cons (C8.pe_c c_law_by_size hr (by decide) (by rfl) (pa_cons (pv 1) (pa_cons (pv 2) pa_nil))) pa_nil)))))), ?_⟩
    refine ⟨small6 (by decide), fun p1 n1 => ?_⟩
    have s1 : Same H (upd H p1 (.tup [.int 0])) := same_upd n1
    refine ⟨_, rfl, a, lv ps, rfl, .inr (SqT.of (s1 _ _ ha)), p1, _, [.int 0], rfl, rfl, SqT.of upd_same, by simp, by rw [lv_len]; omega, by rw [lv_len]; omega, by decide, fun hk => ?_, fun hk p2 n2 => ?_⟩
    · exfalso
      rw [lv_len] at hk
      omega
    have s2 := s1.trans (same_upd (o := .tup (List.replicate (((lv ps).length : Int)).toNat [V.int 0]).flatten) n2)
    have hz : (upd (upd H p1 (.tup [.int 0])) p2 (.tup (List.replicate (((lv ps).length : Int)).toNat [V.int 0]).flatten)) p2 = some (.tup (iv (zer ps.length))) := by
      rw [upd_same, rep_flat, Int.toNat_natCast, lv_len]
      rfl
    generalize upd (upd H p1 (.tup [.int 0])) p2 (.tup (List.replicate (((lv ps).length : Int)).toNat [V.int 0]).flatten) = H2 at hz s2
    refine ⟨small6 (by show 1 ≤ 100; decide), fun l nl => ?_⟩
    have W2 := W.same s2
    have s3 : Same H2 (upd H2 l (.lst [.ref p2])) := same_upd nl
    have W3 := W2.same s3
    have neL : l ≠ R := (W2.ne_none nl).symm
    have neA : a ≠ R := W.ne_tup ha
    refine ⟨_, rfl, R, S, 7, rfl, W3, by decide, by decide, fun H3 t b3 W4 t0 t1 => ?_⟩
    refine ⟨t, rfl, by omega, by omega, ?_⟩
    refine for_range (n := t.toNat) (fun i σ H' => But R H2 H' ∧ Row K H' R S ∧ ∃ (ys : List V) (fs : List (List Int)) (y3 y4 : Option V), σ = [some (.ref R), some (.ref a), some (.ref l), y3, y4] ∧ H' l = some (.lst ys) ∧ Ivs H' ys fs ∧ Drawn ps fs ∧ (∀ e ∈ fs, Bd 2 (e.drop 1)) ∧ fs.length ≤ i + 1)
      ⟨(But.of s3).trans b3, W4, [.ref p2], [zer ps.length], none, none, rfl, b3 _ _ neL upd_same, Ivs.one ⟨p2, rfl, b3 _ _ (W3.ne_tup (s3 _ _ hz)) (s3 _ _ hz)⟩, Drawn.one L, fun e he => by rw [List.mem_singleton.mp he]; exact zer_tail, Nat.le_refl _⟩ (fun i σ H4 hi h => ?_) (fun σ H4 h => ?_)
    · obtain ⟨b4, W5, ys, fs, y3, y4, rfl, hl, hys, hd, h2t, hfl⟩ := h
      have ha4 : H4 a = some (.tup (lv ps)) := b4 _ _ neA (s2 _ _ ha)
      refine ⟨_, rfl, _, rfl, _, rfl, R, S, a, ps, 2, rfl, W5, ha4, by omega, by decide, by decide, fun H5 p e b5 W6 hp hel heb => ?_⟩
      have t5 := b5.tup W5
      obtain ⟨p0, ps', eps⟩ : ∃ p0 ps', ps = p0 :: ps' := by
        cases ps with
        | nil => simp at l2
        | cons p0 ps' => exact ⟨p0, ps', rfl⟩
      obtain ⟨a0, t', ee⟩ : ∃ a0 t', e = a0 :: t' := by
        cases e with
        | nil => rw [← hel] at l2; simp at l2
        | cons a0 t' => exact ⟨a0, t', rfl⟩
      have ha5 := t5 _ _ ha4
      rw [eps] at ha5
      rw [ee] at hp hel heb
      have ht' : t'.length = ps'.length := by
        rw [eps, List.length_cons, List.length_cons] at hel
        omega
      have h0 := heb.head
      refine ⟨a, p, p0, ps', a0, t', rfl, ha5, hp, by rw [← eps]; exact L, by omega, heb.tail, ht', fun H6 r a1 s6 hr6 ha1 hin => ?_⟩
      have hh := head_bd (by rw [← eps]; exact L) heb.tail ht' ha1 hin
      have newok : (a1 :: t').length = ps.length ∧ Bd 40 (a1 :: t') ∧ In1 ps (a1 :: t') := by
        rw [eps]
        exact ⟨by rw [List.length_cons, List.length_cons, ht'], Bd.cons hh (heb.tail.mono (by decide)), hin⟩
      have b6 := (b4.trans b5).trans (But.of s6)
      have W7 := W6.same s6
      have hl6 : H6 l = some (.lst ys) := s6 _ _ (b5 _ _ neL hl)
      have hys6 := (hys.mono t5).mono (TS.of s6)
      have yl : ys.length = fs.length := hys.len
      refine ⟨_, rfl, _, rfl, dI (a1 :: t'), fs.map dI, dp_iv hr6, .lst (SqL.of hl6) hys6.dp, shaped_ints _, shaped_lst _, _, rfl, ite2 (fun hc => ?_) (fun hc => ?_)⟩
      · have hnot : (a1 :: t') ∉ fs := fun hm => by
          rw [Bool.not_eq_true'] at hc
          have := (List.any_eq_false.mp hc) (dI (a1 :: t')) (List.mem_map.mpr ⟨_, hm, rfl⟩)
          exact this (eqv_self (shaped_ints _))
        refine ⟨_, rfl, .inl ⟨rfl, _, SqL.of hl6⟩, _, rfl, l, ys, _, rfl, rfl, hl6, small1000 (by omega), ?_⟩
        refine ⟨b6.upd2 nl, Row.upd W2 W7 nl, ys ++ [.ref r], fs ++ [a1 :: t'], _, _, rfl, upd_same, ?_, hd.add newok hnot, fun e he => ?_, by rw [List.length_append]; show fs.length + 1 ≤ i + 1 + 1; omega⟩
        · exact (hys6.snoc ⟨r, rfl, hr6⟩).mono (TS.lst hl6)
        · rcases List.mem_append.mp he with he | he
          · exact h2t e he
          · rw [List.mem_singleton.mp he]
            exact heb.tail
      · exact ⟨b6, W7, ys, fs, _, _, rfl, hl6, hys6, hd, h2t, by omega⟩
    · obtain ⟨b4, W5, ys, fs, y3, y4, rfl, hl, hys, hd, h2t, hfl⟩ := h
      have ha4 : H4 a = some (.tup (lv ps)) := b4 _ _ neA (s2 _ _ ha)
      refine ⟨_, rfl, _, rfl, a, l, ps, ys, fs, rfl, ha4, L, hl, hys, fun e he => ⟨(hd.ok e he).1, (hd.ok e he).2.1.mono (by decide)⟩, by omega, fun H5 p zs gs s5 hp hz5 perm srt => ?_⟩
      have bb := ((But.of s2).trans b4).trans (But.of s5)
      refine ⟨p, zs, rfl, .inl ⟨SqL.of hp, fun u nu => q _ u zs gs (bb.trans (But.of (same_upd nu))) ((W5.same s5).same (same_upd nu)) upd_same (hz5.mono (TS.of (same_upd nu))) (scale_of L hd (by omega) perm srt) (fun e he => ?_) ?_⟩⟩
      · have hm := perm.mem_iff.mp he
        exact ⟨(hd.ok e hm).2.2, h2t e hm⟩
      · rw [perm.length_eq]
        omega
end
end Tw8
set_option Elab.async false
set_option linter.all false
set_option maxRecDepth 100000
set_option maxHeartbeats 8000000
namespace Tw8
open PySem PySem.Spec PyProof.Rows L2 Tw
theorem mode_zero {B : Int} {ps : List Nat} {sc : List (List Int)} (S : Sc B ps sc) : modeL sc 0 = sc := by
  unfold modeL
  refine List.ext_getElem? fun j => ?_
  by_cases hj : j < sc.length
  · rw [List.getElem?_map, List.getElem?_range hj, get_some hj]
    show some (sub (noteAt sc (0 + j)) (sc.getD 0 [])) = _
    rw [Nat.zero_add, noteAt_lt hj, S.at0]
    have := sub_zer (sc.getD j [])
    rw [S.len hj] at this
    rw [this]
  · rw [List.getElem?_eq_none (by rw [List.length_map, List.length_range]; omega), List.getElem?_eq_none (by omega)]
theorem neg_range (e : List Int) : (List.range e.length).map (fun i => 0 - e.getD i 0) = neg e := by
  unfold neg
  refine List.ext_getElem? fun j => ?_
  by_cases hj : j < e.length
  · rw [List.getElem?_map, List.getElem?_range hj, List.getElem?_map, List.getElem?_eq_getElem hj]
    show some (0 - e.getD j 0) = some (0 - e[j])
    rw [getD_at hj]
  · rw [List.getElem?_eq_none (by rw [List.length_map, List.length_range]; omega), List.getElem?_eq_none (by rw [List.length_map]; omega)]
theorem neg_bd {B : Int} {e : List Int} (h : Bd B e) : Bd B (neg e) := fun x hx => by
  obtain ⟨y, hy, rfl⟩ := List.mem_map.mp hx
  have := h y hy
  omega
theorem neg_len (e : List Int) : (neg e).length = e.length := List.length_map ..
section
variable {P : Program} {w : World} {K : PySem.W.Frag} {mg : Str → Option Value} {base : Heap}
/-- the first prime as an interval -/
theorem oct_read {K : PySem.W.Frag} {σ : L2.St} {H : Hp} {Q : VK} {j : Nat} {a : Addr} {ps : List Nat} (hσ : σ[j]? = some (some (.ref a))) (ha : H a = some (.tup (lv ps))) (h2 : 2 ≤ ps.length) (h6 : ps.length ≤ 100) (q : ∀ H' p, Same H H' → H' p = some (.tup (iv (oct ps.length))) → Q (.ref p) H') :
    tOp (rCatT K) (tTup (tCons (tC (.int 1)) tNil)) (tOp (rRepA K) (tTup (tCons (tC (.int 0)) tNil)) (tOp (rI0 fun i j => .int (i - j)) (tCB (fun xs H Q => ∃ p ys, xs = [.ref p] ∧ (SqL K H p ys ∨ SqT K H p ys) ∧ Q (.int ys.length) H) (tCons (tVar j) tNil)) (tC (.int 1)))) σ H Q := by
  refine ⟨small6 (by decide), fun p1 n1 => ⟨small6 (by decide), fun p2 n2 => ?_⟩⟩
  have s1 : Same H (upd H p1 (.tup [.int 1])) := same_upd n1
  have s2 : Same (upd H p1 (.tup [.int 1])) (upd (upd H p1 (.tup [.int 1])) p2 (.tup [.int 0])) := same_upd n2
  have h1 : (upd (upd H p1 (.tup [.int 1])) p2 (.tup [.int 0])) p1 = some (.tup [.int 1]) := s2 _ _ upd_same
  have fin : ∀ (H3 : Hp) (l : Addr), Same (upd (upd H p1 (.tup [.int 1])) p2 (.tup [.int 0])) H3 → H3 l = some (.tup (iv (List.replicate (ps.length - 1) 0))) →
      rCatT K (.ref p1) (.ref l) H3 Q := fun H3 l s3 hl => by
    refine ⟨p1, l, [.int 1], _, rfl, rfl, SqT.of (s3 _ _ h1), SqT.of hl, by simp, small6 (by rw [List.length_map, List.length_replicate]; show 1 + (ps.length - 1) ≤ 100; omega), fun z => ?_, fun _ p np => ?_⟩
    · exfalso
      have := congrArg List.length z
      rw [List.length_map, List.length_replicate] at this
      simp at this
      omega
    · refine q _ p (((s1.trans s2).trans s3).trans (same_upd np)) ?_
      rw [upd_same]
      rfl
  refine ⟨.ref a, hσ, a, lv ps, rfl, .inr (SqT.of (s2 _ _ (s1 _ _ ha))), _, _, rfl, rfl, p2, _, [.int 0], rfl, rfl, SqT.of upd_same, by simp, by rw [List.length_map]; omega, by rw [List.length_map]; omega, by decide, fun hk => ?_, fun hk p np => ?_⟩
  · refine fin _ p2 (Same.refl _) ?_
    rw [List.length_map] at hk
    rw [upd_same, show ps.length - 1 = 1 by omega]
    rfl
  · refine fin _ p (same_upd np) ?_
    rw [upd_same, rep_flat]
    rw [List.length_map, show (((ps.length : Nat) : Int) - 1).toNat = ps.length - 1 by omega]
def spLaw (K : PySem.W.Frag) : Sp := fun vs H Q _ => ∃ (S : Addr) (ns : List Int), vs = [.ref S] ∧ SqL K H S (ns.map V.int) ∧ ns.length ≤ 63 ∧ ∀ H', Q (.bl true) H'
abbrev st15 (S R a b : Addr) (n : Int) (o : Addr) (y6 y7 y8 y9 y10 y11 y12 : Option V) : L2.St :=
  [some (.ref S), some (.ref R), some (.ref a), some (.ref b), some (.int n), some (.ref o), y6, y7, y8, y9, y10, y11, y12, none, none]
theorem ok_law {f : Addr} {fd : FuncData} (D : At K mg "law" s_law ["_law_script"] f fd) (T : Bi mg) (c_law_limit : Cal P w K mg base 3 "_law_limit" (spLimit K)) (c_law_scale : Cal P w K mg base 5 "_law_scale" (spScale K)) (c_law_plus : Cal P w K mg base 1 "_law_plus" spPlus) (c_law_minus : Cal P w K mg base 1 "_law_minus" spMinus)
    (c_law_alike : Cal P w K mg base 3 "_law_alike" (spAlike 2)) (c_spans : Cal P w K mg base 5 "spans" spSpans) (c_steps_of_scale : Cal P w K mg base 5 "steps_of_scale" spSteps) (c_from_steps : Cal P w K mg base 5 "from_steps" spFromSteps) (c_law_taken : Cal P w K mg base 1 "_law_taken" (spTaken K))
    (c_mode : Cal P w K mg base 5 "mode" spMode) (c_upside_down : Cal P w K mg base 5 "upside_down" spUpside) (c_law_by_size : Cal P w K mg base 4 "_law_by_size" spBySize) (c_law_within : Cal P w K mg base 3 "_law_within" spWithin) : FnOk P w K mg base CX0 6 f fd ["_law_script"] (spLaw K) := by
  refine D.F.ok sc_law (fun vs H Q E h => ?_) (fun cdv A outer s H vs Q E hr h => ?_)
  · obtain ⟨S, ns, rfl, _⟩ := h
    rfl
  · obtain ⟨S, ns, rfl, hS, h63, q⟩ := h
    refine ⟨_, (pss_cons (ps_set (i := 1) sc_law.nd rfl (by first | exact Or.inl rfl | exact Or.inr rfl) (pe_lst (pa_cons (pv 0) (pa_cons pe_int (pa_cons pe_int (pa_cons pe_int pa_nil))))))
    (pss_cons (ps_set (i := 2) sc_law.nd rfl (by first | exact Or.inl rfl | exact Or.inr rfl) (C8.pe_c c_law_limit hr (by decide) (by rfl) (pa_cons (pv 1) pa_nil)))
    (pss_cons (ps_set (i := 3) sc_law.nd rfl (by first | exact Or.inl rfl | exact Or.inr rfl) (C8.pe_c c_law_scale hr (by decide) (by rfl) (pa_cons (pv 1) (pa_cons (pv 2) pa_nil))))
    (pss_cons (ps_par (i := 4) (j := 5) (by rfl) sc_law.nd rfl rfl (by decide) rfl rfl (pa_cons (pe_callB (lenS K rfl) (by rfl) T.b_len PySem.boot_len (pa_cons (pv 3) pa_nil)) (pa_cons (pe_op (catT K rfl) (pe_tup (pa_cons pe_int pa_nil)) (pe_op (op_repA K rfl) (pe_tup (pa_cons pe_int pa_nil)) (pe_op op_sub (pe_callB (lenS K rfl) (by rfl) T.b_len PySem.boot_len (pa_cons (pv 2) pa_nil)) pe_int))) pa_nil)) (by rfl))
    (pss_cons (ps_for PassesOwn.never rfl (pi_range2 (by rfl) T.b_range (pa_cons pe_int (pa_cons (pe_op op_add (pe_op op_mulW pe_int (pv 4)) pe_int) pa_nil))) (pg_name (i := 6) sc_law.nd rfl (by first | exact Or.inl rfl | exact Or.inr rfl))
      (pss_cons (ps_set (i := 7) sc_law.nd rfl (by first | exact Or.inl rfl | exact Or.inr rfl) (pe_lst pa_nil))
      (pss_cons (ps_for PassesOwn.never rfl (pi_range1 (by rfl) T.b_range (pa_cons (pv 4) pa_nil)) (pg_name (i := 8) sc_law.nd rfl (by first | exact Or.inl rfl | exact Or.inr rfl))
        (pss_cons (ps_set (i := 9) sc_law.nd rfl (by first | exact Or.inl rfl | exact Or.inr rfl) (pe_ix (ixT K rfl) (pv 3) (pe_op op_mod (pe_op op_add (pv 8) (pv 6)) (pv 4)) (fun _ _ => rfl)))
        (pss_cons (ps_for PassesOwn.never rfl (pi_range1 (by rfl) T.b_range (pa_cons (pe_op op_fdiv (pe_op op_add (pv 8) (pv 6)) (pv 4)) pa_nil)) (pg_name (i := 10) sc_law.nd rfl (by first | exact Or.inl rfl | exact Or.inr rfl))
          (pss_one (ps_set (i := 9) sc_law.nd rfl (by first | exact Or.inl rfl | exact Or.inr rfl) (C8.pe_c c_law_plus hr (by decide) (by rfl) (pa_cons (pv 9) (pa_cons (pv 5) pa_nil))))))
        (pss_one (ps_expr (pe_bm PySem.F.plainAttrs_list PySem.F.slot_list_append PySem.F.type_list_append mt_append (pv 7) (pa_cons (C8.pe_c c_law_minus hr (by decide) (by rfl) (pa_cons (pv 9) (pa_cons (pe_ix (ixT K rfl) (pv 3) (pv 8) (fun _ _ => rfl)) pa_nil))) pa_nil)))))))
      (pss_one (ps_if (pt_not (pt_val (C8.pe_c c_law_alike hr (by decide) (by rfl) (pa_cons (C8.pe_c c_spans hr (by decide) (by rfl) (pa_cons (pv 2) (pa_cons (pv 3) (pa_cons (pv 6) pa_nil)))) (pa_cons (pv 7) pa_nil)))))
        (pss_one (ps_ret pe_bl)) pss_nil)))))
    (pss_cons (ps_set (i := 11) sc_law.nd rfl (by first | exact Or.inl rfl | exact Or.inr rfl) (C8.pe_c c_steps_of_scale hr (by decide) (by rfl) (pa_cons (pv 2) (pa_cons (pv 3) pa_nil))))
    (pss_cons (ps_if (PW.pt (pw_or (pt_not (pt_val (C8.pe_c c_law_alike hr (by decide) (by rfl) (pa_cons (pv 11) (pa_cons (pe_callTy (tupOf K rfl) (by rfl) T.b_tuple (by decide +kernel) (pa_cons (C8.pe_c c_spans hr (by decide) (by rfl) (pa_cons (pv 2) (pa_cons (pv 3) (pa_cons pe_int pa_nil)))) pa_nil)) pa_nil))))) (pw_or1 (pt_not (pt_val (C8.pe_c c_law_alike hr (by decide) (by rfl) (pa_cons (C8.pe_c c_from_steps hr (by decide) (by rfl) (pa_cons (pv 2) (pa_cons (pv 11) pa_nil))) (pa_cons (pv 3) pa_nil))))))))
      (pss_one (ps_ret pe_bl)) pss_nil)
    (pss_cons (ps_set (i := 8) sc_law.nd rfl (by first | exact Or.inl rfl | exact Or.inr rfl) (C8.pe_c c_law_taken hr (by decide) (by rfl) (pa_cons (pv 1) (pa_cons (pv 4) pa_nil))))
    (pss_cons (ps_set (i := 7) sc_law.nd rfl (by first | exact Or.inl rfl | exact Or.inr rfl) (pe_callTy (tupOf K rfl) (by rfl) T.b_tuple (by decide +kernel) (pa_cons (pe_lc (own := [("_law_many", 6)]) rfl sc_law.nd (pi_range1 (by rfl) T.b_range (pa_cons (pv 4) pa_nil)) (blkOk_by (own := [("_law_many", 6)]) (N := N_law) (sc := defScope s_law) (by decide +kernel)) (fun _ _ _ _ _ => (pg_name (i := 6) sc_law.nd rfl (by first | exact Or.inl rfl | exact Or.inr rfl))) (fun _ _ _ _ _ => pts_nil) (fun _ _ _ _ _ => (pe_ix (ixL K rfl) (C8.pe_c c_spans hr (by decide) (by rfl) (pa_cons (pv 2) (pa_cons (pv 3) (pa_cons (pv 6) pa_nil)))) (pv 8) (fun _ _ => rfl)))) pa_nil)))
    (pss_cons (ps_if (PW.pt (pw_or (pt_not (pt_val (C8.pe_c c_law_alike hr (by decide) (by rfl) (pa_cons (C8.pe_c c_mode hr (by decide) (by rfl) (pa_cons (pv 2) (pa_cons (pv 3) (pa_cons (pv 8) pa_nil)))) (pa_cons (pv 7) pa_nil))))) (pw_or1 (pt_cmpR (neD K rfl (hu64 hr)) (C8.pe_c c_mode hr (by decide) (by rfl) (pa_cons (pv 2) (pa_cons (pv 3) (pa_cons pe_int pa_nil)))) (pv 3) (nomark _)))))
      (pss_one (ps_ret pe_bl)) pss_nil)
    (pss_cons (ps_set (i := 12) sc_law.nd rfl (by first | exact Or.inl rfl | exact Or.inr rfl) (C8.pe_c c_upside_down hr (by decide) (by rfl) (pa_cons (pv 2) (pa_cons (pv 3) pa_nil))))
    (pss_cons (ps_if (pt_not (pt_val (C8.pe_c c_law_alike hr (by decide) (by rfl) (pa_cons (pv 12) (pa_cons (pe_callTy (tupOf K rfl) (by rfl) T.b_tuple (by decide +kernel) (pa_cons (C8.pe_c c_law_by_size hr (by decide) (by rfl) (pa_cons (pv 2) (pa_cons (pe_lc (own := [("_law_note", 13)]) rfl sc_law.nd (piT K rfl (pv 3)) (blkOk_by (own := [("_law_note", 13)]) (N := N_law) (sc := defScope s_law) (by decide +kernel)) (fun _ _ _ _ _ => (pg_name (i := 13) sc_law.nd rfl (by first | exact Or.inl rfl | exact Or.inr rfl))) (fun _ _ _ _ _ => pts_nil) (fun _ _ _ _ _ => (C8.pe_c c_law_within hr (by decide) (by rfl) (pa_cons (pv 2) (pa_cons (pe_callTy (tupOf K rfl) (by rfl) T.b_tuple (by decide +kernel) (pa_cons (pe_lc (own := [("_law_entry", 14)]) rfl sc_law.nd (piT K rfl (pv 13)) (by show BlkOk N_law (relS _ (defScope s_law)) _ _; exact blkOk_by (own := [("_law_entry", 14)]) (by decide +kernel)) (fun _ _ _ _ _ => (pg_name (i := 14) sc_law.nd rfl (by first | exact Or.inl rfl | exact Or.inr rfl))) (fun _ _ _ _ _ => pts_nil) (fun _ _ _ _ _ => (pe_op op_sub pe_int (pv 14)))) pa_nil)) pa_nil))))) pa_nil))) pa_nil)) pa_nil)))))
      (pss_one (ps_ret pe_bl)) pss_nil)
    (pss_one (ps_ret (pe_and (pe_cmpR (eqD K rfl (hu64 hr)) (C8.pe_c c_upside_down hr (by decide) (by rfl) (pa_cons (pv 2) (pa_cons (pv 12) pa_nil))) (pv 3) (nomark _)) (pe_one (pe_cmpR (eqD K rfl (hu64 hr)) (C8.pe_c c_steps_of_scale hr (by decide) (by rfl) (pa_cons (pv 2) (pa_cons (pv 12) pa_nil))) (pe_revT K rfl (pv 11)) (nomark _)))))))))))))))))), ?_⟩
    -- the row
    refine ⟨_, rfl, small6 (by show 4 ≤ 100; decide), fun R nR => ?_⟩
    have W0 : Row K (upd H R (.lst [.ref S, .int 0, .int 4270, .int 0])) R S := by
      refine ⟨ns, 0, 4270, 0, upd_same, ?_, h63, by decide, by decide, by decide⟩
      rcases hS with hS | hS
      · have hne : S ≠ R := by
          rcases hS with z | ⟨ob, z⟩ <;> exact ne_of_none z nR
        refine .inl ⟨hne, ?_⟩
        rcases hS with z | ⟨ob, z⟩
        · exact .inl (by rw [upd_ne hne]; exact z)
        · exact .inr ⟨ob, by rw [upd_ne hne]; exact z⟩
      · exact .inr hS
    generalize upd H R (.lst [.ref S, .int 0, .int 4270, .int 0]) = H0 at W0
    -- limit, scale
    refine ⟨_, rfl, R, S, rfl, W0, fun H1 a ps b1 W1 ha1 L => ?_⟩
    refine ⟨_, rfl, _, rfl, R, S, a, ps, rfl, W1, ha1, L, fun H2 b xs sc b2 W2 hb hI S40 hIn h7 => ?_⟩
    have l2 := L.l2
    have l5 := L.l5
    have hne := S40.ne
    have C2 : ScAt H2 a b ps xs sc 40 := ⟨b2.tup W1 _ _ ha1, hb, L, hI, S40, by decide, by decide⟩
    have hx : xs.length = sc.length := hI.len
    -- size, octave
    refine ⟨_, rfl, b, xs, rfl, .inr (SqT.of hb), oct_read rfl C2.ha l2 (by omega) fun H3 o s3 ho => ⟨_, _, rfl, ?_⟩⟩
    have C3 := C2.mono (TS.of s3)
    have W3 := W2.same s3
    -- for many
    refine ⟨_, rfl, _, _, rfl, rfl, wide_mul (a := 10) (b := 10) (by decide) (by have : (2 : Nat) ^ 10 = 1024 := rfl; omega) (by decide) (by decide) (by decide), _, _, rfl, rfl, 0, _, rfl, ⟨by decide, by decide, by omega, by omega⟩, ?_⟩
    refine for_range (fun i σ H' => Same H3 H' ∧ ∃ y6 y7 y8 y9 y10 : Option V, σ = st15 S R a b xs.length o y6 y7 y8 y9 y10 none none) ⟨Same.refl _, none, none, none, none, none, rfl⟩ (fun i σ H4 hi h => ?_) (fun σ H4 h => ?_)
    · obtain ⟨s4, y6, y7, y8, y9, y10, rfl⟩ := h
      have hi16 : i ≤ 15 := by omega
      have C4 := C3.mono (TS.of s4)
      refine ⟨Nat.zero_le _, fun d nd => ?_⟩
      have s5 : Same H4 (upd H4 d (.lst [])) := same_upd nd
      refine ⟨_, rfl, (xs.length : Int), rfl, by omega, by omega, ?_⟩
      refine for_range (fun j σ H' => Same H4 H' ∧ ∃ (y8 y9 y10 : Option V) (ys : List V), σ = st15 S R a b xs.length o (some (.int (0 + (i : Int)))) (some (.ref d)) y8 y9 y10 none none ∧ H' d = some (.lst ys) ∧ Ivs H' ys ((List.range j).map fun t => sub (noteAt sc (t + i)) (sc.getD t [])))
        ⟨s5, y8, y9, y10, [], rfl, upd_same, Ivs.nil⟩ (fun j σ H5 hj h => ?_) (fun σ H5 h => ?_)
      · obtain ⟨s6, y8, y9, y10, ys, rfl, hd, hys⟩ := h
        have hj1 : j < sc.length := by omega
        have C5 := C4.mono (TS.of s6)
        have hm : (j + i) % sc.length < sc.length := Nat.mod_lt _ hne
        obtain ⟨z0, g0, hz0⟩ := C5.iv.get (get_some hm)
        have e1 : (0 + (j : Int) + (0 + (i : Int))) % (xs.length : Int) = (((j + i) % sc.length : Nat) : Int) := by
          rw [hx, Int.zero_add, Int.zero_add, ← Int.natCast_add, ← Int.natCast_emod]
        have e2 : (0 + (j : Int) + (0 + (i : Int))) / (xs.length : Int) = (((j + i) / sc.length : Nat) : Int) := by
          rw [hx, Int.zero_add, Int.zero_add, ← Int.natCast_add, ← Int.natCast_ediv]
        have ln := S40.len hm
        have dle : (j + i) / sc.length ≤ j + i := Nat.div_le_self _ _
        refine ⟨_, rfl, _, rfl, _, rfl, _, _, rfl, rfl, _, rfl, _, _, rfl, rfl, (by show (0 : Int) < _; omega), b, xs, _, _, rfl, rfl, SqT.of C5.hb, at_of e1 g0, ?_⟩
        refine ⟨_, rfl, _, rfl, _, _, rfl, rfl, _, rfl, _, _, rfl, rfl, ⟨by omega, by omega⟩, _, rfl, ?_, ?_, ?_⟩
        · show -(2 ^ 62) ≤ (0 + (j : Int) + (0 + (i : Int))) / (xs.length : Int)
          rw [e2]
          exact Int.le_trans (by decide) (Int.natCast_nonneg _)
        · show (0 + (j : Int) + (0 + (i : Int))) / (xs.length : Int) < 2 ^ 62
          rw [e2]
          exact Int.lt_of_le_of_lt (Int.ofNat_le.mpr dle) (by omega)
        refine for_range (fun t σ H' => Same H5 H' ∧ ∃ (y10 : Option V) (z : Addr), σ = st15 S R a b xs.length o (some (.int (0 + (i : Int)))) (some (.ref d)) (some (.int (0 + (j : Int)))) (some (.ref z)) y10 none none ∧ H' z = some (.tup (iv (addO (t : Int) (sc.getD ((j + i) % sc.length) [])))))
          ⟨Same.refl _, y10, z0, rfl, by rw [show ((0 : Nat) : Int) = 0 from rfl, addO_zero]; exact hz0⟩ (fun t σ H6 ht h => ?_) (fun σ H6 h => ?_)
        · obtain ⟨s7, y10, z, rfl, hz⟩ := h
          refine ⟨_, rfl, _, rfl, z, o, _, _, rfl, hz, (((s4.trans s6).trans s7) _ _ ho), by rw [addO_len, ln, oct_len (by omega)], by rw [addO_len, ln]; omega, fun H7 p s8 hp => ⟨s7.trans s8, _, p, rfl, ?_⟩⟩
          rw [hp, add_oct (by rw [addO_len, ln]) (by omega), addO_add]
          rfl
        · obtain ⟨s7, y10, z, rfl, hz⟩ := h
          rw [e2, Int.toNat_natCast] at hz
          have hz' : H6 z = some (.tup (iv (noteAt sc (j + i)))) := hz
          have C6 := C5.mono (TS.of s7)
          obtain ⟨q1, g1, hq1⟩ := C6.iv.get (get_some hj1)
          have hd6 := s7 _ _ hd
          refine ⟨_, rfl, .inl ⟨rfl, _, SqL.of hd6⟩, _, rfl, _, rfl, _, rfl, b, xs, _, _, rfl, rfl, SqT.of C6.hb, at_of (by omega) g1, z, q1, _, _, rfl, hz', hq1, by rw [S40.noteAt_len, S40.len hj1], by rw [S40.noteAt_len]; omega, fun H7 p s8 hp => ?_⟩
          have hd7 := s8 _ _ hd6
          have yl : ys.length = j := by rw [hys.len, List.length_map, List.length_range]
          have h24 := S40.le
          refine ⟨d, ys, _, rfl, rfl, hd7, small1000 (by omega), Same.upd2 ((s6.trans s7).trans s8) nd, _, _, _, ys ++ [.ref p], rfl, upd_same, ?_⟩
          rw [List.range_succ, List.map_append]
          have tsl : TS H7 (upd H7 d (.lst (ys ++ [.ref p]))) := TS.lst hd7
          exact (hys.mono ((TS.of (s7.trans s8)).trans tsl)).snoc ⟨p, rfl, tsl _ _ hp⟩
      · obtain ⟨s6, y8, y9, y10, ys, rfl, hd, hys⟩ := h
        rw [show ((xs.length : Int)).toNat = sc.length by omega] at hys
        have C5 := C4.mono (TS.of s6)
        refine ⟨_, rfl, _, rfl, _, rfl, a, b, ps, xs, sc, 40, i, by show [V.ref a, V.ref b, V.int (0 + (i : Int))] = _; rw [Int.zero_add], C5, by omega, fun H6 p zs s7 hp hzs => ?_⟩
        have h24 := S40.le
        refine ⟨_, rfl, _, _, rfl, alk_ivs (es := spansL sc i) (.inr ⟨hp, s7 _ _ hd⟩) hzs (hys.mono (TS.of s7)) (by rw [spans_len]; omega) (fun e he => ?_), fun H7 s8 => ⟨true, rfl, iteF ⟨((s4.trans s6).trans s7).trans s8, _, _, _, _, _, rfl⟩⟩⟩
        obtain ⟨t, ht, rfl⟩ := List.mem_map.mp he
        have ht2 := List.mem_range.mp ht
        rw [sub_len (by rw [S40.noteAt_len, S40.len ht2]), S40.noteAt_len]
        omega
    · obtain ⟨s4, y6, y7, y8, y9, y10, rfl⟩ := h
      have C4 := C3.mono (TS.of s4)
      have W4 := W3.same s4
      have h24 := S40.le
      have n1000 : ∀ e ∈ sc, e.length ≤ 1000 := fun e he => by rw [(S40.ok e he).1]; omega
      have st1000 : ∀ k, ∀ e ∈ spansL sc k, e.length ≤ 1000 := fun k e he => by
        obtain ⟨t, ht, rfl⟩ := List.mem_map.mp he
        have ht2 := List.mem_range.mp ht
        rw [sub_len (by rw [S40.noteAt_len, S40.len ht2]), S40.noteAt_len]
        omega
      -- steps
      refine ⟨_, rfl, _, rfl, a, b, ps, xs, sc, 40, rfl, C4, fun H5 st sts s5 hst hsts => ?_⟩
      have C5 := C4.mono (TS.of s5)
      have W5 := W4.same s5
      -- the steps are the spans of one
      refine ⟨_, rfl, _, rfl, _, rfl, a, b, ps, xs, sc, 40, 1, rfl, C5, by decide, fun H6 p zs s6 hp hzs => ⟨p, zs, rfl, .inl ⟨SqL.of hp, fun u nu => ?_⟩⟩⟩
      have su : Same H6 (upd H6 u (.tup zs)) := same_upd nu
      have s7 := s6.trans su
      refine ⟨_, _, rfl, alk_ivs (es := spansL sc 1) (.inl ⟨s7 _ _ hst, upd_same⟩) (hsts.mono (TS.of s7)) (hzs.mono (TS.of su)) (by rw [spans_len]; omega) (st1000 1), fun H7 s8 => ⟨true, rfl, iteF ?_⟩⟩
      have s9 := s7.trans s8
      have C7 := C5.mono (TS.of s9)
      -- and lead to the scale
      refine ⟨_, rfl, _, rfl, a, st, ps, sts, sc, 40, rfl, C7.ha, s9 _ _ hst, hsts.mono (TS.of s9), L, S40, by decide, by decide, fun H8 p8 zs8 s10 hp8 hzs8 => ?_⟩
      have C8 := C7.mono (TS.of s10)
      refine ⟨_, rfl, _, _, rfl, alk_ivs (es := sc) (.inl ⟨hp8, C8.hb⟩) hzs8 C8.iv (by omega) n1000, fun H9 s11 => ⟨true, rfl, iteF ?_⟩⟩
      have s12 := (s9.trans s10).trans s11
      have C9 := C5.mono (TS.of s12)
      have W9 := W5.same s12
      have hst9 := s12 _ _ hst
      have hsts9 := hsts.mono (TS.of s12)
      -- at
      refine ⟨_, rfl, _, rfl, R, S, _, rfl, W9, by omega, by omega, fun H10 t b10 W10 t0 t1 => ?_⟩
      have ts10 := b10.tup W9
      have C10 := C9.mono ts10
      have hst10 := ts10 _ _ hst9
      have hsts10 := hsts9.mono ts10
      obtain ⟨k, rfl⟩ : ∃ k : Nat, t = (k : Int) := ⟨t.toNat, by omega⟩
      have hk : k < sc.length := by omega
      -- due
      refine ⟨_, rfl, (xs.length : Int), rfl, by omega, by omega, fun D1 nD1 => ?_⟩
      refine lc_R walk_range (RIv fun i => sub (noteAt sc (k + i)) (sc.getD k [])) nD1 (by omega) RIv.mono (fun _ _ => True.intro) (fun i x H11 H12 Q' hi sm hy hq => ?_) (fun H11 acc s13 hD1 hl1 hR => ?_)
      · obtain ⟨rfl, rfl⟩ := hy
        have hi1 : i < sc.length := by omega
        have C11 := C10.mono (TS.of sm)
        refine ⟨rfl, _, rfl, _, rfl, _, rfl, a, b, ps, xs, sc, 40, i, by show [V.ref a, V.ref b, V.int (0 + (i : Int))] = _; rw [Int.zero_add], C11, by omega, fun H13 p zs s14 hp hzs => ?_⟩
        obtain ⟨q1, g1, hq1⟩ := hzs.get (spans_get hk)
        exact ⟨_, rfl, p, zs, _, _, rfl, rfl, SqL.of hp, at_of rfl g1, hq _ _ s14 ⟨q1, rfl, hq1⟩⟩
      rw [show ((xs.length : Int)).toNat = sc.length by omega] at hl1
      have hacc : Ivs H11 acc (modeL sc k) := RIv.all hl1 hR
      refine ⟨D1, acc, rfl, .inl ⟨SqL.of hD1, fun du ndu => ?_⟩⟩
      have s14 := s13.trans (same_upd (o := .tup acc) ndu)
      have hdu : (upd H11 du (.tup acc)) du = some (.tup acc) := upd_same
      have hdui : Ivs (upd H11 du (.tup acc)) acc (modeL sc k) := hacc.mono (TS.of (same_upd ndu))
      generalize upd H11 du (.tup acc) = H12 at s14 hdu hdui
      have C12 := C10.mono (TS.of s14)
      have ml : ∀ k, (modeL sc k).length = sc.length := fun k => by unfold modeL; rw [List.length_map, List.length_range]
      -- mode
      refine ⟨_, rfl, _, rfl, _, rfl, a, b, ps, xs, sc, 40, k, rfl, C12, hk, fun H13 p zs s15 hp hzs => ?_⟩
      refine ⟨_, rfl, _, _, rfl, alk_ivs (es := modeL sc k) (.inl ⟨hp, s15 _ _ hdu⟩) hzs (hdui.mono (TS.of s15)) (by rw [ml]; omega) (fun e he => ?_), fun H14 s16 => ⟨true, rfl, iteF ?_⟩⟩
      · obtain ⟨t, ht, rfl⟩ := List.mem_map.mp he
        rw [sub_len (by rw [S40.noteAt_len, S40.len hk]), S40.noteAt_len]
        omega
      have s17 := (s14.trans s15).trans s16
      have C14 := C10.mono (TS.of s17)
      refine ⟨_, rfl, _, rfl, a, b, ps, xs, sc, 40, 0, rfl, C14, hne, fun H15 p15 zs15 s18 hp15 hzs15 => ?_⟩
      rw [mode_zero S40] at hzs15
      have C15 := C14.mono (TS.of s18)
      refine ⟨_, rfl, _, _, .tup (SqT.of hp15) hzs15.dp, .tup (SqT.of C15.hb) C15.iv.dp, shaped_tup _, shaped_tup _, _, rfl, ?_⟩
      rw [eqv_self (shaped_tup _)]
      refine iteF ?_
      -- back
      refine ⟨_, rfl, _, rfl, a, b, ps, xs, sc, 40, rfl, C15, fun H16 bk bks s19 hbk hbks => ?_⟩
      have s20 := (s17.trans s18).trans s19
      have C16 := C10.mono (TS.of s20)
      have hst16 := s20 _ _ hst10
      have hsts16 := hsts10.mono (TS.of s20)
      have S41 : Sc 41 ps (updn ps.length sc) := updn_sc S40 L (by decide) (by decide)
      have ul := updn_len (n := ps.length) hne
      have B16 : ScAt H16 a bk ps bks (updn ps.length sc) 41 := ⟨C16.ha, hbk, L, hbks, S41, by decide, by decide⟩
      -- the opposites, each within the first prime, by size
      refine ⟨_, rfl, _, rfl, _, rfl, b, rfl, ⟨_, SqT.of C16.hb⟩, fun D2 nD2 => ?_⟩
      refine lc_R (walk_tup (xs := xs)) (RIv fun i => wneg ps (sc.getD i [])) nD2 (by omega) RIv.mono (fun H' sm => SqT.of (sm _ _ C16.hb)) (fun i x H17 H18 Q' hi sm hy hq => ?_) (fun H17 acc2 s21 hD2 hl2 hR2 => ?_)
      · obtain ⟨rfl, hx1⟩ := hy
        have C17 := C16.mono (TS.of sm)
        obtain ⟨e, he, q1, rfl, hq1⟩ := C17.iv.of_get hx1
        have hmem : e ∈ sc := List.mem_of_getElem? he
        obtain ⟨el, eb⟩ := S40.ok e hmem
        obtain ⟨hin, hbt⟩ := hIn e hmem
        have ed : sc.getD i [] = e := by rw [List.getD_eq_getElem?_getD, he]; rfl
        refine ⟨rfl, _, rfl, _, rfl, q1, rfl, ⟨_, SqT.of hq1⟩, fun D3 nD3 => ?_⟩
        refine lc_R (walk_tup (xs := iv e)) (RInt fun i => 0 - e.getD i 0) nD3 (by rw [iv_len, el]; omega) (fun _ _ _ _ _ h => h) (fun H' sm => SqT.of (sm _ _ hq1)) (fun i2 x2 H19 H20 Q2 hi2 sm2 hy2 hq2 => ?_) (fun H19 acc3 s22 hD3 hl3 hR3 => ?_)
        · obtain ⟨rfl, hx2⟩ := hy2
          obtain ⟨hi3, rfl⟩ := map_get hx2
          refine ⟨rfl, _, rfl, _, _, rfl, rfl, hq2 _ _ (Same.refl _) ?_⟩
          show V.int _ = V.int (0 - e.getD i2 0)
          rw [getD_at hi3]
        · rw [iv_len] at hl3
          have ea := RInt.all hl3 hR3
          rw [neg_range] at ea
          refine ⟨D3, acc3, rfl, .inl ⟨SqL.of hD3, fun u nu => ?_⟩⟩
          have su : Same H19 (upd H19 u (.tup acc3)) := same_upd nu
          have hu : (upd H19 u (.tup acc3)) u = some (.tup (iv (neg e))) := by rw [upd_same, ea]
          have s23 := s22.trans su
          generalize upd H19 u (.tup acc3) = H20 at s23 hu
          have haa := s23 _ _ C17.ha
          obtain ⟨p0, ps', eps⟩ : ∃ p0 ps', ps = p0 :: ps' := by
            cases ps with
            | nil => simp at l2
            | cons p0 ps' => exact ⟨p0, ps', rfl⟩
          obtain ⟨a0, t', ee⟩ : ∃ a0 t', e = a0 :: t' := by
            cases e with
            | nil => rw [← el] at l2; simp at l2
            | cons a0 t' => exact ⟨a0, t', rfl⟩
          subst ee
          have ht' : t'.length = ps'.length := by
            rw [eps, List.length_cons, List.length_cons] at el
            omega
          have hh := eb.head
          have Lp : Lim (p0 :: ps') := by rw [← eps]; exact L
          rw [eps] at haa hin
          refine ⟨a, u, p0, ps', 0 - a0, neg t', rfl, haa, hu, Lp, by omega, neg_bd hbt, by rw [neg_len, ht'], fun H21 r a1 s24 hr1 ha1 hin1 => hq _ _ (s23.trans s24) ⟨r, rfl, ?_⟩⟩
          have key := wneg_ok Lp eb (by decide) ht' hin ha1 hin1
          rw [key] at hr1
          show H21 r = some (.tup (iv (wneg ps (sc.getD i []))))
          rw [ed, eps]
          exact hr1
      have hw := RIv.all hl2 hR2
      rw [hx, range_getD] at hw
      have C17 := C16.mono (TS.of s21)
      have pm := updn_perm S40
      refine ⟨a, D2, ps, acc2, sc.map (wneg ps), rfl, C17.ha, L, hD2, hw, fun e he => ?_, by rw [List.length_map]; omega, fun H18 p18 zs18 gs s25 hp18 hzs18 perm srt => ?_⟩
      · obtain ⟨x1, x2⟩ := S41.ok e (pm.mem_iff.mpr he)
        exact ⟨x1, x2.mono (by decide)⟩
      have eg : gs = updn ps.length sc := sort_uniq S41 L (by decide) (perm.trans pm.symm) srt
      subst eg
      refine ⟨p18, zs18, rfl, .inl ⟨SqL.of hp18, fun u nu => ?_⟩⟩
      have s26 := (s21.trans s25).trans (same_upd (o := .tup zs18) nu)
      have hu : (upd H18 u (.tup zs18)) u = some (.tup zs18) := upd_same
      have hui := hzs18.mono (TS.of (same_upd (o := .tup zs18) nu))
      generalize upd H18 u (.tup zs18) = H19 at s26 hu hui
      have B19 := B16.mono (TS.of s26)
      have u1000 : ∀ e ∈ updn ps.length sc, e.length ≤ 1000 := fun e he => by rw [(S41.ok e he).1]; omega
      refine ⟨_, _, rfl, alk_ivs (es := updn ps.length sc) (.inl ⟨B19.hb, hu⟩) B19.iv hui (by omega) u1000, fun H20 s27 => ⟨true, rfl, iteF ?_⟩⟩
      have s28 := s26.trans s27
      have B20 := B16.mono (TS.of s28)
      -- the end
      refine ⟨_, rfl, _, rfl, a, bk, ps, bks, _, 41, rfl, B20, fun H21 p21 zs21 s29 hp21 hzs21 => ?_⟩
      rw [updn_updn S40 L] at hzs21
      have s30 := s28.trans s29
      have C21 := C16.mono (TS.of s30)
      refine ⟨_, rfl, _, _, .tup (SqT.of hp21) hzs21.dp, .tup (SqT.of C21.hb) C21.iv.dp, shaped_tup _, shaped_tup _, _, rfl, ?_⟩
      rw [eqv_self (shaped_tup _)]
      refine iteT ?_
      refine ⟨_, rfl, _, rfl, a, bk, ps, bks, _, 41, rfl, B16.mono (TS.of s30), fun H22 p22 zs22 s31 hp22 hzs22 => ?_⟩
      rw [spans_updn S40 L (by decide) (by decide)] at hzs22
      have s32 := s30.trans s31
      refine ⟨_, rfl, rfl, st, sts, rfl, SqT.of (s32 _ _ hst16), True.intro, fun v nv => ?_⟩
      have sv : Same H22 (upd H22 v (.tup sts.reverse)) := same_upd nv
      refine ⟨_, _, .tup (SqT.of (sv _ _ hp22)) (hzs22.mono (TS.of sv)).dp, .tup (SqT.of upd_same) ((hsts16.mono (TS.of (s32.trans sv))).reverse).dp, shaped_tup _, shaped_tup _, ?_⟩
      rw [eqv_self (shaped_tup _)]
      exact q _
end
end Tw8
set_option Elab.async false
set_option linter.all false
set_option maxRecDepth 100000
set_option maxHeartbeats 8000000
namespace Tw8
open PySem PySem.Spec PyProof.Rows L2 Tw
theorem at_mk {K : PySem.W.Frag} {h : Heap} {mg : Str → Option Value} {x : Str} {st : Stmt} {ps : List Str} {f : Addr} {oc : Value} {od an : Option Addr} {sl : Array (Option Value)} {kV dc pm cd ct : Value} (X : K.In h) (G : h.Ns mainGlobals mg)
    (a : PySem.W.nsIn K mainGlobals x = some (some (.ref f))) (l : K.lookup f = some ⟨oc, od, .func (PySem.W.fnOf x x (defArgs st) (defBody st) (defScope st) .none kV dc pm an cd ct), sl⟩) (c : PySem.W.codeIn K cd x = true) (k : PySem.W.keepIn K (.ref f) = true)
    (b : ∀ (kV doc pm : Value) (an : Option Addr) (cdv ct : Value) (us : List Value), us.length = ps.length → bindArgs (PySem.W.fnOf x x (defArgs st) (defBody st) (defScope st) .none kV doc pm an cdv ct) ⟨us, []⟩ = pure (ps.zip us)) :
    At K mg x st ps f (PySem.W.fnOf x x (defArgs st) (defBody st) (defScope st) .none kV dc pm an cd ct) :=
  ⟨fun_mk l c k, PySem.W.mg_of X G a, (fun_mk l c k).binds b⟩
theorem all_mk {l : PySem.W.OpenLaw} {w : World} {K : PySem.W.Frag} {h : Heap} {mg : Str → Option Value} {fa : Addr} (X : K.In h) (G : h.Ns mainGlobals mg) (hfa : mg "law" = some (.ref fa))
    {f0 : Addr} {od0 an0 : Option Addr} {sl0 : Array (Option Value)} {oc0 kV0 dc0 pm0 cd0 ct0 : Value} (a0 : PySem.W.nsIn K mainGlobals "is_int" = some (some (.ref f0))) (l0 : K.lookup f0 = some ⟨oc0, od0, .func (PySem.W.fnOf "is_int" "is_int" (defArgs s_is_int) (defBody s_is_int) (defScope s_is_int) .none kV0 dc0 pm0 an0 cd0 ct0), sl0⟩) (c0 : PySem.W.codeIn K cd0 "is_int" = true) (k0 : PySem.W.keepIn K (.ref f0) = true)
    {f1 : Addr} {od1 an1 : Option Addr} {sl1 : Array (Option Value)} {oc1 kV1 dc1 pm1 cd1 ct1 : Value} (a1 : PySem.W.nsIn K mainGlobals "is_in" = some (some (.ref f1))) (l1 : K.lookup f1 = some ⟨oc1, od1, .func (PySem.W.fnOf "is_in" "is_in" (defArgs s_is_in) (defBody s_is_in) (defScope s_is_in) .none kV1 dc1 pm1 an1 cd1 ct1), sl1⟩) (c1 : PySem.W.codeIn K cd1 "is_in" = true) (k1 : PySem.W.keepIn K (.ref f1) = true)
    {f2 : Addr} {od2 an2 : Option Addr} {sl2 : Array (Option Value)} {oc2 kV2 dc2 pm2 cd2 ct2 : Value} (a2 : PySem.W.nsIn K mainGlobals "power" = some (some (.ref f2))) (l2 : K.lookup f2 = some ⟨oc2, od2, .func (PySem.W.fnOf "power" "power" (defArgs s_power) (defBody s_power) (defScope s_power) .none kV2 dc2 pm2 an2 cd2 ct2), sl2⟩) (c2 : PySem.W.codeIn K cd2 "power" = true) (k2 : PySem.W.keepIn K (.ref f2) = true)
    {f3 : Addr} {od3 an3 : Option Addr} {sl3 : Array (Option Value)} {oc3 kV3 dc3 pm3 cd3 ct3 : Value} (a3 : PySem.W.nsIn K mainGlobals "is_prime" = some (some (.ref f3))) (l3 : K.lookup f3 = some ⟨oc3, od3, .func (PySem.W.fnOf "is_prime" "is_prime" (defArgs s_is_prime) (defBody s_is_prime) (defScope s_is_prime) .none kV3 dc3 pm3 an3 cd3 ct3), sl3⟩) (c3 : PySem.W.codeIn K cd3 "is_prime" = true) (k3 : PySem.W.keepIn K (.ref f3) = true)
    {f4 : Addr} {od4 an4 : Option Addr} {sl4 : Array (Option Value)} {oc4 kV4 dc4 pm4 cd4 ct4 : Value} (a4 : PySem.W.nsIn K mainGlobals "need_limit" = some (some (.ref f4))) (l4 : K.lookup f4 = some ⟨oc4, od4, .func (PySem.W.fnOf "need_limit" "need_limit" (defArgs s_need_limit) (defBody s_need_limit) (defScope s_need_limit) .none kV4 dc4 pm4 an4 cd4 ct4), sl4⟩) (c4 : PySem.W.codeIn K cd4 "need_limit" = true) (k4 : PySem.W.keepIn K (.ref f4) = true)
    {f5 : Addr} {od5 an5 : Option Addr} {sl5 : Array (Option Value)} {oc5 kV5 dc5 pm5 cd5 ct5 : Value} (a5 : PySem.W.nsIn K mainGlobals "is_interval" = some (some (.ref f5))) (l5 : K.lookup f5 = some ⟨oc5, od5, .func (PySem.W.fnOf "is_interval" "is_interval" (defArgs s_is_interval) (defBody s_is_interval) (defScope s_is_interval) .none kV5 dc5 pm5 an5 cd5 ct5), sl5⟩) (c5 : PySem.W.codeIn K cd5 "is_interval" = true) (k5 : PySem.W.keepIn K (.ref f5) = true)
    {f6 : Addr} {od6 an6 : Option Addr} {sl6 : Array (Option Value)} {oc6 kV6 dc6 pm6 cd6 ct6 : Value} (a6 : PySem.W.nsIn K mainGlobals "need_interval" = some (some (.ref f6))) (l6 : K.lookup f6 = some ⟨oc6, od6, .func (PySem.W.fnOf "need_interval" "need_interval" (defArgs s_need_interval) (defBody s_need_interval) (defScope s_need_interval) .none kV6 dc6 pm6 an6 cd6 ct6), sl6⟩) (c6 : PySem.W.codeIn K cd6 "need_interval" = true) (k6 : PySem.W.keepIn K (.ref f6) = true)
    {f7 : Addr} {od7 an7 : Option Addr} {sl7 : Array (Option Value)} {oc7 kV7 dc7 pm7 cd7 ct7 : Value} (a7 : PySem.W.nsIn K mainGlobals "ratio_of" = some (some (.ref f7))) (l7 : K.lookup f7 = some ⟨oc7, od7, .func (PySem.W.fnOf "ratio_of" "ratio_of" (defArgs s_ratio_of) (defBody s_ratio_of) (defScope s_ratio_of) .none kV7 dc7 pm7 an7 cd7 ct7), sl7⟩) (c7 : PySem.W.codeIn K cd7 "ratio_of" = true) (k7 : PySem.W.keepIn K (.ref f7) = true)
    {f8 : Addr} {od8 an8 : Option Addr} {sl8 : Array (Option Value)} {oc8 kV8 dc8 pm8 cd8 ct8 : Value} (a8 : PySem.W.nsIn K mainGlobals "sign_of" = some (some (.ref f8))) (l8 : K.lookup f8 = some ⟨oc8, od8, .func (PySem.W.fnOf "sign_of" "sign_of" (defArgs s_sign_of) (defBody s_sign_of) (defScope s_sign_of) .none kV8 dc8 pm8 an8 cd8 ct8), sl8⟩) (c8 : PySem.W.codeIn K cd8 "sign_of" = true) (k8 : PySem.W.keepIn K (.ref f8) = true)
    {f9 : Addr} {od9 an9 : Option Addr} {sl9 : Array (Option Value)} {oc9 kV9 dc9 pm9 cd9 ct9 : Value} (a9 : PySem.W.nsIn K mainGlobals "minus" = some (some (.ref f9))) (l9 : K.lookup f9 = some ⟨oc9, od9, .func (PySem.W.fnOf "minus" "minus" (defArgs s_minus) (defBody s_minus) (defScope s_minus) .none kV9 dc9 pm9 an9 cd9 ct9), sl9⟩) (c9 : PySem.W.codeIn K cd9 "minus" = true) (k9 : PySem.W.keepIn K (.ref f9) = true)
    {f10 : Addr} {od10 an10 : Option Addr} {sl10 : Array (Option Value)} {oc10 kV10 dc10 pm10 cd10 ct10 : Value} (a10 : PySem.W.nsIn K mainGlobals "plus" = some (some (.ref f10))) (l10 : K.lookup f10 = some ⟨oc10, od10, .func (PySem.W.fnOf "plus" "plus" (defArgs s_plus) (defBody s_plus) (defScope s_plus) .none kV10 dc10 pm10 an10 cd10 ct10), sl10⟩) (c10 : PySem.W.codeIn K cd10 "plus" = true) (k10 : PySem.W.keepIn K (.ref f10) = true)
    {f11 : Addr} {od11 an11 : Option Addr} {sl11 : Array (Option Value)} {oc11 kV11 dc11 pm11 cd11 ct11 : Value} (a11 : PySem.W.nsIn K mainGlobals "need_scale" = some (some (.ref f11))) (l11 : K.lookup f11 = some ⟨oc11, od11, .func (PySem.W.fnOf "need_scale" "need_scale" (defArgs s_need_scale) (defBody s_need_scale) (defScope s_need_scale) .none kV11 dc11 pm11 an11 cd11 ct11), sl11⟩) (c11 : PySem.W.codeIn K cd11 "need_scale" = true) (k11 : PySem.W.keepIn K (.ref f11) = true)
    {f12 : Addr} {od12 an12 : Option Addr} {sl12 : Array (Option Value)} {oc12 kV12 dc12 pm12 cd12 ct12 : Value} (a12 : PySem.W.nsIn K mainGlobals "first_of" = some (some (.ref f12))) (l12 : K.lookup f12 = some ⟨oc12, od12, .func (PySem.W.fnOf "first_of" "first_of" (defArgs s_first_of) (defBody s_first_of) (defScope s_first_of) .none kV12 dc12 pm12 an12 cd12 ct12), sl12⟩) (c12 : PySem.W.codeIn K cd12 "first_of" = true) (k12 : PySem.W.keepIn K (.ref f12) = true)
    {f13 : Addr} {od13 an13 : Option Addr} {sl13 : Array (Option Value)} {oc13 kV13 dc13 pm13 cd13 ct13 : Value} (a13 : PySem.W.nsIn K mainGlobals "note_at" = some (some (.ref f13))) (l13 : K.lookup f13 = some ⟨oc13, od13, .func (PySem.W.fnOf "note_at" "note_at" (defArgs s_note_at) (defBody s_note_at) (defScope s_note_at) .none kV13 dc13 pm13 an13 cd13 ct13), sl13⟩) (c13 : PySem.W.codeIn K cd13 "note_at" = true) (k13 : PySem.W.keepIn K (.ref f13) = true)
    {f14 : Addr} {od14 an14 : Option Addr} {sl14 : Array (Option Value)} {oc14 kV14 dc14 pm14 cd14 ct14 : Value} (a14 : PySem.W.nsIn K mainGlobals "spans_of" = some (some (.ref f14))) (l14 : K.lookup f14 = some ⟨oc14, od14, .func (PySem.W.fnOf "spans_of" "spans_of" (defArgs s_spans_of) (defBody s_spans_of) (defScope s_spans_of) .none kV14 dc14 pm14 an14 cd14 ct14), sl14⟩) (c14 : PySem.W.codeIn K cd14 "spans_of" = true) (k14 : PySem.W.keepIn K (.ref f14) = true)
    {f15 : Addr} {od15 an15 : Option Addr} {sl15 : Array (Option Value)} {oc15 kV15 dc15 pm15 cd15 ct15 : Value} (a15 : PySem.W.nsIn K mainGlobals "spans" = some (some (.ref f15))) (l15 : K.lookup f15 = some ⟨oc15, od15, .func (PySem.W.fnOf "spans" "spans" (defArgs s_spans) (defBody s_spans) (defScope s_spans) .none kV15 dc15 pm15 an15 cd15 ct15), sl15⟩) (c15 : PySem.W.codeIn K cd15 "spans" = true) (k15 : PySem.W.keepIn K (.ref f15) = true)
    {f16 : Addr} {od16 an16 : Option Addr} {sl16 : Array (Option Value)} {oc16 kV16 dc16 pm16 cd16 ct16 : Value} (a16 : PySem.W.nsIn K mainGlobals "mode" = some (some (.ref f16))) (l16 : K.lookup f16 = some ⟨oc16, od16, .func (PySem.W.fnOf "mode" "mode" (defArgs s_mode) (defBody s_mode) (defScope s_mode) .none kV16 dc16 pm16 an16 cd16 ct16), sl16⟩) (c16 : PySem.W.codeIn K cd16 "mode" = true) (k16 : PySem.W.keepIn K (.ref f16) = true)
    {f17 : Addr} {od17 an17 : Option Addr} {sl17 : Array (Option Value)} {oc17 kV17 dc17 pm17 cd17 ct17 : Value} (a17 : PySem.W.nsIn K mainGlobals "upside_down" = some (some (.ref f17))) (l17 : K.lookup f17 = some ⟨oc17, od17, .func (PySem.W.fnOf "upside_down" "upside_down" (defArgs s_upside_down) (defBody s_upside_down) (defScope s_upside_down) .none kV17 dc17 pm17 an17 cd17 ct17), sl17⟩) (c17 : PySem.W.codeIn K cd17 "upside_down" = true) (k17 : PySem.W.keepIn K (.ref f17) = true)
    {f18 : Addr} {od18 an18 : Option Addr} {sl18 : Array (Option Value)} {oc18 kV18 dc18 pm18 cd18 ct18 : Value} (a18 : PySem.W.nsIn K mainGlobals "from_steps" = some (some (.ref f18))) (l18 : K.lookup f18 = some ⟨oc18, od18, .func (PySem.W.fnOf "from_steps" "from_steps" (defArgs s_from_steps) (defBody s_from_steps) (defScope s_from_steps) .none kV18 dc18 pm18 an18 cd18 ct18), sl18⟩) (c18 : PySem.W.codeIn K cd18 "from_steps" = true) (k18 : PySem.W.keepIn K (.ref f18) = true)
    {f19 : Addr} {od19 an19 : Option Addr} {sl19 : Array (Option Value)} {oc19 kV19 dc19 pm19 cd19 ct19 : Value} (a19 : PySem.W.nsIn K mainGlobals "steps_of_scale" = some (some (.ref f19))) (l19 : K.lookup f19 = some ⟨oc19, od19, .func (PySem.W.fnOf "steps_of_scale" "steps_of_scale" (defArgs s_steps_of_scale) (defBody s_steps_of_scale) (defScope s_steps_of_scale) .none kV19 dc19 pm19 an19 cd19 ct19), sl19⟩) (c19 : PySem.W.codeIn K cd19 "steps_of_scale" = true) (k19 : PySem.W.keepIn K (.ref f19) = true)
    {f20 : Addr} {od20 an20 : Option Addr} {sl20 : Array (Option Value)} {oc20 kV20 dc20 pm20 cd20 ct20 : Value} (a20 : PySem.W.nsIn K mainGlobals "_law_taken" = some (some (.ref f20))) (l20 : K.lookup f20 = some ⟨oc20, od20, .func (PySem.W.fnOf "_law_taken" "_law_taken" (defArgs s_law_taken) (defBody s_law_taken) (defScope s_law_taken) .none kV20 dc20 pm20 an20 cd20 ct20), sl20⟩) (c20 : PySem.W.codeIn K cd20 "_law_taken" = true) (k20 : PySem.W.keepIn K (.ref f20) = true)
    {f21 : Addr} {od21 an21 : Option Addr} {sl21 : Array (Option Value)} {oc21 kV21 dc21 pm21 cd21 ct21 : Value} (a21 : PySem.W.nsIn K mainGlobals "_law_pick" = some (some (.ref f21))) (l21 : K.lookup f21 = some ⟨oc21, od21, .func (PySem.W.fnOf "_law_pick" "_law_pick" (defArgs s_law_pick) (defBody s_law_pick) (defScope s_law_pick) .none kV21 dc21 pm21 an21 cd21 ct21), sl21⟩) (c21 : PySem.W.codeIn K cd21 "_law_pick" = true) (k21 : PySem.W.keepIn K (.ref f21) = true)
    {f22 : Addr} {od22 an22 : Option Addr} {sl22 : Array (Option Value)} {oc22 kV22 dc22 pm22 cd22 ct22 : Value} (a22 : PySem.W.nsIn K mainGlobals "_law_alike" = some (some (.ref f22))) (l22 : K.lookup f22 = some ⟨oc22, od22, .func (PySem.W.fnOf "_law_alike" "_law_alike" (defArgs s_law_alike) (defBody s_law_alike) (defScope s_law_alike) .none kV22 dc22 pm22 an22 cd22 ct22), sl22⟩) (c22 : PySem.W.codeIn K cd22 "_law_alike" = true) (k22 : PySem.W.keepIn K (.ref f22) = true)
    {f23 : Addr} {od23 an23 : Option Addr} {sl23 : Array (Option Value)} {oc23 kV23 dc23 pm23 cd23 ct23 : Value} (a23 : PySem.W.nsIn K mainGlobals "_law_limit" = some (some (.ref f23))) (l23 : K.lookup f23 = some ⟨oc23, od23, .func (PySem.W.fnOf "_law_limit" "_law_limit" (defArgs s_law_limit) (defBody s_law_limit) (defScope s_law_limit) .none kV23 dc23 pm23 an23 cd23 ct23), sl23⟩) (c23 : PySem.W.codeIn K cd23 "_law_limit" = true) (k23 : PySem.W.keepIn K (.ref f23) = true)
    {f24 : Addr} {od24 an24 : Option Addr} {sl24 : Array (Option Value)} {oc24 kV24 dc24 pm24 cd24 ct24 : Value} (a24 : PySem.W.nsIn K mainGlobals "_law_interval" = some (some (.ref f24))) (l24 : K.lookup f24 = some ⟨oc24, od24, .func (PySem.W.fnOf "_law_interval" "_law_interval" (defArgs s_law_interval) (defBody s_law_interval) (defScope s_law_interval) .none kV24 dc24 pm24 an24 cd24 ct24), sl24⟩) (c24 : PySem.W.codeIn K cd24 "_law_interval" = true) (k24 : PySem.W.keepIn K (.ref f24) = true)
    {f25 : Addr} {od25 an25 : Option Addr} {sl25 : Array (Option Value)} {oc25 kV25 dc25 pm25 cd25 ct25 : Value} (a25 : PySem.W.nsIn K mainGlobals "_law_power" = some (some (.ref f25))) (l25 : K.lookup f25 = some ⟨oc25, od25, .func (PySem.W.fnOf "_law_power" "_law_power" (defArgs s_law_power) (defBody s_law_power) (defScope s_law_power) .none kV25 dc25 pm25 an25 cd25 ct25), sl25⟩) (c25 : PySem.W.codeIn K cd25 "_law_power" = true) (k25 : PySem.W.keepIn K (.ref f25) = true)
    {f26 : Addr} {od26 an26 : Option Addr} {sl26 : Array (Option Value)} {oc26 kV26 dc26 pm26 cd26 ct26 : Value} (a26 : PySem.W.nsIn K mainGlobals "_law_quotient" = some (some (.ref f26))) (l26 : K.lookup f26 = some ⟨oc26, od26, .func (PySem.W.fnOf "_law_quotient" "_law_quotient" (defArgs s_law_quotient) (defBody s_law_quotient) (defScope s_law_quotient) .none kV26 dc26 pm26 an26 cd26 ct26), sl26⟩) (c26 : PySem.W.codeIn K cd26 "_law_quotient" = true) (k26 : PySem.W.keepIn K (.ref f26) = true)
    {f27 : Addr} {od27 an27 : Option Addr} {sl27 : Array (Option Value)} {oc27 kV27 dc27 pm27 cd27 ct27 : Value} (a27 : PySem.W.nsIn K mainGlobals "_law_minus" = some (some (.ref f27))) (l27 : K.lookup f27 = some ⟨oc27, od27, .func (PySem.W.fnOf "_law_minus" "_law_minus" (defArgs s_law_minus) (defBody s_law_minus) (defScope s_law_minus) .none kV27 dc27 pm27 an27 cd27 ct27), sl27⟩) (c27 : PySem.W.codeIn K cd27 "_law_minus" = true) (k27 : PySem.W.keepIn K (.ref f27) = true)
    {f28 : Addr} {od28 an28 : Option Addr} {sl28 : Array (Option Value)} {oc28 kV28 dc28 pm28 cd28 ct28 : Value} (a28 : PySem.W.nsIn K mainGlobals "_law_plus" = some (some (.ref f28))) (l28 : K.lookup f28 = some ⟨oc28, od28, .func (PySem.W.fnOf "_law_plus" "_law_plus" (defArgs s_law_plus) (defBody s_law_plus) (defScope s_law_plus) .none kV28 dc28 pm28 an28 cd28 ct28), sl28⟩) (c28 : PySem.W.codeIn K cd28 "_law_plus" = true) (k28 : PySem.W.keepIn K (.ref f28) = true)
    {f29 : Addr} {od29 an29 : Option Addr} {sl29 : Array (Option Value)} {oc29 kV29 dc29 pm29 cd29 ct29 : Value} (a29 : PySem.W.nsIn K mainGlobals "_law_sign" = some (some (.ref f29))) (l29 : K.lookup f29 = some ⟨oc29, od29, .func (PySem.W.fnOf "_law_sign" "_law_sign" (defArgs s_law_sign) (defBody s_law_sign) (defScope s_law_sign) .none kV29 dc29 pm29 an29 cd29 ct29), sl29⟩) (c29 : PySem.W.codeIn K cd29 "_law_sign" = true) (k29 : PySem.W.keepIn K (.ref f29) = true)
    {f30 : Addr} {od30 an30 : Option Addr} {sl30 : Array (Option Value)} {oc30 kV30 dc30 pm30 cd30 ct30 : Value} (a30 : PySem.W.nsIn K mainGlobals "_law_within" = some (some (.ref f30))) (l30 : K.lookup f30 = some ⟨oc30, od30, .func (PySem.W.fnOf "_law_within" "_law_within" (defArgs s_law_within) (defBody s_law_within) (defScope s_law_within) .none kV30 dc30 pm30 an30 cd30 ct30), sl30⟩) (c30 : PySem.W.codeIn K cd30 "_law_within" = true) (k30 : PySem.W.keepIn K (.ref f30) = true)
    {f31 : Addr} {od31 an31 : Option Addr} {sl31 : Array (Option Value)} {oc31 kV31 dc31 pm31 cd31 ct31 : Value} (a31 : PySem.W.nsIn K mainGlobals "_law_by_size" = some (some (.ref f31))) (l31 : K.lookup f31 = some ⟨oc31, od31, .func (PySem.W.fnOf "_law_by_size" "_law_by_size" (defArgs s_law_by_size) (defBody s_law_by_size) (defScope s_law_by_size) .none kV31 dc31 pm31 an31 cd31 ct31), sl31⟩) (c31 : PySem.W.codeIn K cd31 "_law_by_size" = true) (k31 : PySem.W.keepIn K (.ref f31) = true)
    {f32 : Addr} {od32 an32 : Option Addr} {sl32 : Array (Option Value)} {oc32 kV32 dc32 pm32 cd32 ct32 : Value} (a32 : PySem.W.nsIn K mainGlobals "_law_scale" = some (some (.ref f32))) (l32 : K.lookup f32 = some ⟨oc32, od32, .func (PySem.W.fnOf "_law_scale" "_law_scale" (defArgs s_law_scale) (defBody s_law_scale) (defScope s_law_scale) .none kV32 dc32 pm32 an32 cd32 ct32), sl32⟩) (c32 : PySem.W.codeIn K cd32 "_law_scale" = true) (k32 : PySem.W.keepIn K (.ref f32) = true)
    {f33 : Addr} {od33 an33 : Option Addr} {sl33 : Array (Option Value)} {oc33 kV33 dc33 pm33 cd33 ct33 : Value} (a33 : PySem.W.nsIn K mainGlobals "law" = some (some (.ref f33))) (l33 : K.lookup f33 = some ⟨oc33, od33, .func (PySem.W.fnOf "law" "law" (defArgs s_law) (defBody s_law) (defScope s_law) .none kV33 dc33 pm33 an33 cd33 ct33), sl33⟩) (c33 : PySem.W.codeIn K cd33 "law" = true) (k33 : PySem.W.keepIn K (.ref f33) = true)
    (z_isinstance : PySem.W.nsIn K mainGlobals "isinstance" = some none)
    (z_len : PySem.W.nsIn K mainGlobals "len" = some none)
    (z_any : PySem.W.nsIn K mainGlobals "any" = some none)
    (z_all : PySem.W.nsIn K mainGlobals "all" = some none)
    (z_tuple : PySem.W.nsIn K mainGlobals "tuple" = some none)
    (z_list : PySem.W.nsIn K mainGlobals "list" = some none)
    (z_int : PySem.W.nsIn K mainGlobals "int" = some none)
    (z_bool : PySem.W.nsIn K mainGlobals "bool" = some none)
    (z_str : PySem.W.nsIn K mainGlobals "str" = some none)
    (z_range : PySem.W.nsIn K mainGlobals "range" = some none)
    (z_zip : PySem.W.nsIn K mainGlobals "zip" = some none)
    {t_MOST_PRIME : Tok} (z_MOST_PRIME : PySem.W.nsIn K mainGlobals "MOST_PRIME" = some (some (.int 43 t_MOST_PRIME)))
    {t_MOST_PRIMES : Tok} (z_MOST_PRIMES : PySem.W.nsIn K mainGlobals "MOST_PRIMES" = some (some (.int 6 t_MOST_PRIMES)))
    {t_MOST_ENTRY : Tok} (z_MOST_ENTRY : PySem.W.nsIn K mainGlobals "MOST_ENTRY" = some (some (.int 99 t_MOST_ENTRY)))
    {t_MOST_NOTES : Tok} (z_MOST_NOTES : PySem.W.nsIn K mainGlobals "MOST_NOTES" = some (some (.int 24 t_MOST_NOTES)))
    : ∃ fd : FuncData, (∀ (s : Shared) (v : Value), BindsTo s fd ⟨[v], []⟩ [("_law_script", v)]) ∧ ∀ base : Heap, K.In base → base.Ns mainGlobals mg → FnOk l.prog w K mg base CX0 6 fa fd ["_law_script"] (spLaw K) := by
  have e := hfa.symm.trans (PySem.W.mg_of X G a33)
  cases e
  have T : Bi mg := ⟨PySem.W.mg_none_of X G z_isinstance, PySem.W.mg_none_of X G z_len, PySem.W.mg_none_of X G z_any, PySem.W.mg_none_of X G z_all, PySem.W.mg_none_of X G z_tuple, PySem.W.mg_none_of X G z_list, PySem.W.mg_none_of X G z_int, PySem.W.mg_none_of X G z_bool, PySem.W.mg_none_of X G z_str, PySem.W.mg_none_of X G z_range, PySem.W.mg_none_of X G z_zip, ⟨_, PySem.W.mg_of X G z_MOST_PRIME⟩, ⟨_, PySem.W.mg_of X G z_MOST_PRIMES⟩, ⟨_, PySem.W.mg_of X G z_MOST_ENTRY⟩, ⟨_, PySem.W.mg_of X G z_MOST_NOTES⟩⟩
  have D0 := at_mk (st := s_is_int) (ps := ["value"]) X G a0 l0 c0 k0 fun _ _ _ _ _ _ us hl => match us, hl with | [_], _ => rfl
  have D1 := at_mk (st := s_is_in) (ps := ["value", "least", "most"]) X G a1 l1 c1 k1 fun _ _ _ _ _ _ us hl => match us, hl with | [_, _, _], _ => rfl
  have D2 := at_mk (st := s_power) (ps := ["base", "exponent"]) X G a2 l2 c2 k2 fun _ _ _ _ _ _ us hl => match us, hl with | [_, _], _ => rfl
  have D3 := at_mk (st := s_is_prime) (ps := ["number"]) X G a3 l3 c3 k3 fun _ _ _ _ _ _ us hl => match us, hl with | [_], _ => rfl
  have D4 := at_mk (st := s_need_limit) (ps := ["value"]) X G a4 l4 c4 k4 fun _ _ _ _ _ _ us hl => match us, hl with | [_], _ => rfl
  have D5 := at_mk (st := s_is_interval) (ps := ["limit", "value"]) X G a5 l5 c5 k5 fun _ _ _ _ _ _ us hl => match us, hl with | [_, _], _ => rfl
  have D6 := at_mk (st := s_need_interval) (ps := ["limit", "value"]) X G a6 l6 c6 k6 fun _ _ _ _ _ _ us hl => match us, hl with | [_, _], _ => rfl
  have D7 := at_mk (st := s_ratio_of) (ps := ["limit", "interval"]) X G a7 l7 c7 k7 fun _ _ _ _ _ _ us hl => match us, hl with | [_, _], _ => rfl
  have D8 := at_mk (st := s_sign_of) (ps := ["limit", "interval"]) X G a8 l8 c8 k8 fun _ _ _ _ _ _ us hl => match us, hl with | [_, _], _ => rfl
  have D9 := at_mk (st := s_minus) (ps := ["one", "other"]) X G a9 l9 c9 k9 fun _ _ _ _ _ _ us hl => match us, hl with | [_, _], _ => rfl
  have D10 := at_mk (st := s_plus) (ps := ["one", "other"]) X G a10 l10 c10 k10 fun _ _ _ _ _ _ us hl => match us, hl with | [_, _], _ => rfl
  have D11 := at_mk (st := s_need_scale) (ps := ["limit", "value"]) X G a11 l11 c11 k11 fun _ _ _ _ _ _ us hl => match us, hl with | [_, _], _ => rfl
  have D12 := at_mk (st := s_first_of) (ps := ["limit"]) X G a12 l12 c12 k12 fun _ _ _ _ _ _ us hl => match us, hl with | [_], _ => rfl
  have D13 := at_mk (st := s_note_at) (ps := ["limit", "scale", "at"]) X G a13 l13 c13 k13 fun _ _ _ _ _ _ us hl => match us, hl with | [_, _, _], _ => rfl
  have D14 := at_mk (st := s_spans_of) (ps := ["limit", "scale", "size"]) X G a14 l14 c14 k14 fun _ _ _ _ _ _ us hl => match us, hl with | [_, _, _], _ => rfl
  have D15 := at_mk (st := s_spans) (ps := ["limit", "scale", "size"]) X G a15 l15 c15 k15 fun _ _ _ _ _ _ us hl => match us, hl with | [_, _, _], _ => rfl
  have D16 := at_mk (st := s_mode) (ps := ["limit", "scale", "at"]) X G a16 l16 c16 k16 fun _ _ _ _ _ _ us hl => match us, hl with | [_, _, _], _ => rfl
  have D17 := at_mk (st := s_upside_down) (ps := ["limit", "scale"]) X G a17 l17 c17 k17 fun _ _ _ _ _ _ us hl => match us, hl with | [_, _], _ => rfl
  have D18 := at_mk (st := s_from_steps) (ps := ["limit", "steps"]) X G a18 l18 c18 k18 fun _ _ _ _ _ _ us hl => match us, hl with | [_, _], _ => rfl
  have D19 := at_mk (st := s_steps_of_scale) (ps := ["limit", "scale"]) X G a19 l19 c19 k19 fun _ _ _ _ _ _ us hl => match us, hl with | [_, _], _ => rfl
  have D20 := at_mk (st := s_law_taken) (ps := ["_law_row", "_law_many"]) X G a20 l20 c20 k20 fun _ _ _ _ _ _ us hl => match us, hl with | [_, _], _ => rfl
  have D21 := at_mk (st := s_law_pick) (ps := ["_law_row", "_law_things"]) X G a21 l21 c21 k21 fun _ _ _ _ _ _ us hl => match us, hl with | [_, _], _ => rfl
  have D22 := at_mk (st := s_law_alike) (ps := ["_law_found", "_law_due"]) X G a22 l22 c22 k22 fun _ _ _ _ _ _ us hl => match us, hl with | [_, _], _ => rfl
  have D23 := at_mk (st := s_law_limit) (ps := ["_law_row"]) X G a23 l23 c23 k23 fun _ _ _ _ _ _ us hl => match us, hl with | [_], _ => rfl
  have D24 := at_mk (st := s_law_interval) (ps := ["_law_row", "_law_limit_here", "_law_most"]) X G a24 l24 c24 k24 fun _ _ _ _ _ _ us hl => match us, hl with | [_, _, _], _ => rfl
  have D25 := at_mk (st := s_law_power) (ps := ["_law_base", "_law_exponent"]) X G a25 l25 c25 k25 fun _ _ _ _ _ _ us hl => match us, hl with | [_, _], _ => rfl
  have D26 := at_mk (st := s_law_quotient) (ps := ["_law_limit_here", "_law_interval_here"]) X G a26 l26 c26 k26 fun _ _ _ _ _ _ us hl => match us, hl with | [_, _], _ => rfl
  have D27 := at_mk (st := s_law_minus) (ps := ["_law_one", "_law_other"]) X G a27 l27 c27 k27 fun _ _ _ _ _ _ us hl => match us, hl with | [_, _], _ => rfl
  have D28 := at_mk (st := s_law_plus) (ps := ["_law_one", "_law_other"]) X G a28 l28 c28 k28 fun _ _ _ _ _ _ us hl => match us, hl with | [_, _], _ => rfl
  have D29 := at_mk (st := s_law_sign) (ps := ["_law_limit_here", "_law_interval_here"]) X G a29 l29 c29 k29 fun _ _ _ _ _ _ us hl => match us, hl with | [_, _], _ => rfl
  have D30 := at_mk (st := s_law_within) (ps := ["_law_limit_here", "_law_interval_here"]) X G a30 l30 c30 k30 fun _ _ _ _ _ _ us hl => match us, hl with | [_, _], _ => rfl
  have D31 := at_mk (st := s_law_by_size) (ps := ["_law_limit_here", "_law_intervals"]) X G a31 l31 c31 k31 fun _ _ _ _ _ _ us hl => match us, hl with | [_, _], _ => rfl
  have D32 := at_mk (st := s_law_scale) (ps := ["_law_row", "_law_limit_here"]) X G a32 l32 c32 k32 fun _ _ _ _ _ _ us hl => match us, hl with | [_, _], _ => rfl
  have D33 := at_mk (st := s_law) (ps := ["_law_script"]) X G a33 l33 c33 k33 fun _ _ _ _ _ _ us hl => match us, hl with | [_], _ => rfl
  refine ⟨PySem.W.fnOf "law" "law" (defArgs s_law) (defBody s_law) (defScope s_law) .none kV33 dc33 pm33 an33 cd33 ct33, fun s v => .of_eq rfl, fun base _ _ => ?_⟩
  have c_is_int := ok_is_int (P := l.prog) (w := w) (base := base) D0 T
  have c_is_in := ok_is_in (P := l.prog) (w := w) (base := base) D1 T c_is_int
  have c_power := ok_power (P := l.prog) (w := w) (base := base) D2 T
  have c_is_prime := ok_is_prime (P := l.prog) (w := w) (base := base) D3 T
  have c_need_limit := ok_need_limit (P := l.prog) (w := w) (base := base) D4 T c_is_in c_is_prime
  have c_is_interval := ok_is_interval (P := l.prog) (w := w) (base := base) D5 T c_is_in
  have c_need_interval := ok_need_interval (P := l.prog) (w := w) (base := base) D6 T c_is_interval
  have c_ratio_of := ok_ratio_of (P := l.prog) (w := w) (base := base) D7 T c_power
  have c_sign_of := ok_sign_of (P := l.prog) (w := w) (base := base) D8 T c_ratio_of
  have c_minus := ok_minus (P := l.prog) (w := w) (base := base) D9 T
  have c_plus := ok_plus (P := l.prog) (w := w) (base := base) D10 T
  have c_first_of := ok_first_of (P := l.prog) (w := w) (base := base) D12 T
  have c_need_scale := ok_need_scale (P := l.prog) (w := w) (base := base) D11 T c_need_limit c_is_interval c_first_of c_minus c_sign_of
  have c_note_at := ok_note_at (P := l.prog) (w := w) (base := base) D13 T
  have c_spans_of := ok_spans_of (P := l.prog) (w := w) (base := base) D14 T c_minus c_note_at
  have c_spans := ok_spans (P := l.prog) (w := w) (base := base) D15 T c_need_scale c_is_in c_spans_of
  have c_steps_of_scale := ok_steps_of_scale (P := l.prog) (w := w) (base := base) D19 T c_need_scale c_spans_of
  have c_mode := ok_mode (P := l.prog) (w := w) (base := base) D16 T c_need_scale c_is_in c_minus c_note_at
  have c_upside_down := ok_upside_down (P := l.prog) (w := w) (base := base) D17 T c_need_scale c_minus c_first_of
  have c_from_steps := ok_from_steps (P := l.prog) (w := w) (base := base) D18 T c_need_limit c_need_interval c_need_scale c_plus c_first_of
  have c_law_taken := ok_law_taken (P := l.prog) (w := w) (base := base) D20 T
  have c_law_pick := ok_law_pick (P := l.prog) (w := w) (base := base) D21 T c_law_taken
  have c_law_limit := ok_law_limit (P := l.prog) (w := w) (base := base) D23 T c_law_pick
  have c_law_interval := ok_law_interval (P := l.prog) (w := w) (base := base) D24 T c_law_taken
  have c_law_power := ok_law_power (P := l.prog) (w := w) (base := base) D25 T
  have c_law_quotient := ok_law_quotient (P := l.prog) (w := w) (base := base) D26 T c_law_power
  have c_law_minus := ok_law_minus (P := l.prog) (w := w) (base := base) D27 T
  have c_law_plus := ok_law_plus (P := l.prog) (w := w) (base := base) D28 T
  have c_law_sign := ok_law_sign (P := l.prog) (w := w) (base := base) D29 T c_law_quotient
  have c_law_within := ok_law_within (P := l.prog) (w := w) (base := base) D30 T c_law_quotient
  have c_law_by_size := ok_law_by_size (P := l.prog) (w := w) (base := base) D31 T c_law_minus c_law_sign
  have c_law_scale := ok_law_scale (P := l.prog) (w := w) (base := base) D32 T c_law_taken c_law_within c_law_interval c_law_by_size
  have c_law_alike := ok_law_alike2 (P := l.prog) (w := w) (base := base) D22 T
  exact ok_law D33 T c_law_limit c_law_scale c_law_plus c_law_minus c_law_alike c_spans c_steps_of_scale c_from_steps c_law_taken c_mode c_upside_down c_law_by_size c_law_within
end Tw8
open PySem PySem.W PyProof.Rows
set_option maxHeartbeats 0 in
theorem PySem.Challenge.cw_temperworks_k70_whole_scales_holds : PySem.Challenge.rw_temperworks_k70_whole_scales.Holds := by
  w_on; o_law; k_head; (case hw => w_witness2)
  k_fill
  refine L2.walk_of (l := PySem.Challenge.rw_temperworks_k70_whole_scales) (n := 63) (k := 6) (x := "_law_script") (CX := fun _ => L2.CX0) (sp := fun w => Tw8.spLaw _) rfl (by decide) rfl ⟨rfl, by decide, by decide⟩ (fun w h Y => PySem.W.kIn_of Y) ?F (fun _ _ a ns hl _ hS => ⟨a, ns, rfl, hS, hl, fun _ => rfl⟩) (fun _ _ _ _ _ h => h)
  case F =>
    intro w mg fa h KX G hmg
    refine' Tw8.all_mk KX G hmg ?a0 ?l0 ?c0 ?k0 ?a1 ?l1 ?c1 ?k1 ?a2 ?l2 ?c2 ?k2 ?a3 ?l3 ?c3 ?k3 ?a4 ?l4 ?c4 ?k4 ?a5 ?l5 ?c5 ?k5 ?a6 ?l6 ?c6 ?k6 ?a7 ?l7 ?c7 ?k7 ?a8 ?l8 ?c8 ?k8 ?a9 ?l9 ?c9 ?k9 ?a10 ?l10 ?c10 ?k10 ?a11 ?l11 ?c11 ?k11 ?a12 ?l12 ?c12 ?k12 ?a13 ?l13 ?c13 ?k13 ?a14 ?l14 ?c14 ?k14 ?a15 ?l15 ?c15 ?k15 ?a16 ?l16 ?c16 ?k16 ?a17 ?l17 ?c17 ?k17 ?a18 ?l18 ?c18 ?k18 ?a19 ?l19 ?c19 ?k19 ?a20 ?l20 ?c20 ?k20 ?a21 ?l21 ?c21 ?k21 ?a22 ?l22 ?c22 ?k22 ?a23 ?l23 ?c23 ?k23 ?a24 ?l24 ?c24 ?k24 ?a25 ?l25 ?c25 ?k25 ?a26 ?l26 ?c26 ?k26 ?a27 ?l27 ?c27 ?k27 ?a28 ?l28 ?c28 ?k28 ?a29 ?l29 ?c29 ?k29 ?a30 ?l30 ?c30 ?k30 ?a31 ?l31 ?c31 ?k31 ?a32 ?l32 ?c32 ?k32 ?a33 ?l33 ?c33 ?k33 ?z_isinstance ?z_len ?z_any ?z_all ?z_tuple ?z_list ?z_int ?z_bool ?z_str ?z_range ?z_zip ?z_MOST_PRIME ?z_MOST_PRIMES ?z_MOST_ENTRY ?z_MOST_NOTES
    (case a0 => k_is)
    (case l0 => k_is)
    (case c0 => k_is)
    (case k0 => k_is)
    (case a1 => k_is)
    (case l1 => k_is)
    (case c1 => k_is)
    (case k1 => k_is)
    (case a2 => k_is)
    (case l2 => k_is)
    (case c2 => k_is)
    (case k2 => k_is)
    (case a3 => k_is)
    (case l3 => k_is)
    (case c3 => k_is)
    (case k3 => k_is)
    (case a4 => k_is)
    (case l4 => k_is)
    (case c4 => k_is)
    (case k4 => k_is)
    (case a5 => k_is)
    (case l5 => k_is)
    (case c5 => k_is)
    (case k5 => k_is)
    (case a6 => k_is)
    (case l6 => k_is)
    (case c6 => k_is)
    (case k6 => k_is)
    (case a7 => k_is)
    (case l7 => k_is)
    (case c7 => k_is)
    (case k7 => k_is)
    (case a8 => k_is)
    (case l8 => k_is)
    (case c8 => k_is)
    (case k8 => k_is)
    (case a9 => k_is)
    (case l9 => k_is)
    (case c9 => k_is)
    (case k9 => k_is)
    (case a10 => k_is)
    (case l10 => k_is)
    (case c10 => k_is)
    (case k10 => k_is)
    (case a11 => k_is)
    (case l11 => k_is)
    (case c11 => k_is)
    (case k11 => k_is)
    (case a12 => k_is)
    (case l12 => k_is)
    (case c12 => k_is)
    (case k12 => k_is)
    (case a13 => k_is)
    (case l13 => k_is)
    (case c13 => k_is)
    (case k13 => k_is)
    (case a14 => k_is)
    (case l14 => k_is)
    (case c14 => k_is)
    (case k14 => k_is)
    (case a15 => k_is)
    (case l15 => k_is)
    (case c15 => k_is)
    (case k15 => k_is)
    (case a16 => k_is)
    (case l16 => k_is)
    (case c16 => k_is)
    (case k16 => k_is)
    (case a17 => k_is)
    (case l17 => k_is)
    (case c17 => k_is)
    (case k17 => k_is)
    (case a18 => k_is)
    (case l18 => k_is)
    (case c18 => k_is)
    (case k18 => k_is)
    (case a19 => k_is)
    (case l19 => k_is)
    (case c19 => k_is)
    (case k19 => k_is)
    (case a20 => k_is)
    (case l20 => k_is)
    (case c20 => k_is)
    (case k20 => k_is)
    (case a21 => k_is)
    (case l21 => k_is)
    (case c21 => k_is)
    (case k21 => k_is)
    (case a22 => k_is)
    (case l22 => k_is)
    (case c22 => k_is)
    (case k22 => k_is)
    (case a23 => k_is)
    (case l23 => k_is)
    (case c23 => k_is)
    (case k23 => k_is)
    (case a24 => k_is)
    (case l24 => k_is)
    (case c24 => k_is)
    (case k24 => k_is)
    (case a25 => k_is)
    (case l25 => k_is)
    (case c25 => k_is)
    (case k25 => k_is)
    (case a26 => k_is)
    (case l26 => k_is)
    (case c26 => k_is)
    (case k26 => k_is)
    (case a27 => k_is)
    (case l27 => k_is)
    (case c27 => k_is)
    (case k27 => k_is)
    (case a28 => k_is)
    (case l28 => k_is)
    (case c28 => k_is)
    (case k28 => k_is)
    (case a29 => k_is)
    (case l29 => k_is)
    (case c29 => k_is)
    (case k29 => k_is)
    (case a30 => k_is)
    (case l30 => k_is)
    (case c30 => k_is)
    (case k30 => k_is)
    (case a31 => k_is)
    (case l31 => k_is)
    (case c31 => k_is)
    (case k31 => k_is)
    (case a32 => k_is)
    (case l32 => k_is)
    (case c32 => k_is)
    (case k32 => k_is)
    (case a33 => k_is)
    (case l33 => k_is)
    (case c33 => k_is)
    (case k33 => k_is)
    (case z_isinstance => k_is)
    (case z_len => k_is)
    (case z_any => k_is)
    (case z_all => k_is)
    (case z_tuple => k_is)
    (case z_list => k_is)
    (case z_int => k_is)
    (case z_bool => k_is)
    (case z_str => k_is)
    (case z_range => k_is)
    (case z_zip => k_is)
    (case z_MOST_PRIME => k_is)
    (case z_MOST_PRIMES => k_is)
    (case z_MOST_ENTRY => k_is)
    (case z_MOST_NOTES => k_is)
